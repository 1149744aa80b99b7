import PyProof.Rows.All
import Wide.All
import OpenK.AllK
import Wide.FinOn
import PyProof.EqAt
import PyProof.EqKinds
import PyProof.TupleCall
import KE.GoesMore
import HandS.Base
import HandS.Call
import HandS.List
import HandS.Comp
import HandS.Ends
import HandS.Iter
import HandS.Walk
import HandS.TupMul
import HandS.ForMost
import HandS.Wide
import HandS.Gcd
import HandS.IsInst
import HandS.TupAny
import HandS.Deep
import HandS.Conv
import PySem.Challenge.RW_stakehulls_k87_whole_bold_stakes_beat_th
import HandS.Codes
set_option Elab.async false
set_option linter.all false
/-! the mathematics of bold stakes, with no program in sight -/
namespace Bk
/-- bold stakes' chance within k plays, times (u + d) ^ k -/
def bW (g u d : Int) : Nat → Int → Int
  | 0, x => if x = g then 1 else 0
  | k + 1, x => if 2 * x ≤ g then u * bW g u d k (2 * x) else u * (u + d) ^ k + d * bW g u d k (2 * x - g)

theorem sp_pos {u d : Int} (hu : 0 < u) (hd : 0 < d) (k : Nat) : 0 < (u + d) ^ k := Int.pow_pos (by omega)

theorem bW_zero {g u d : Int} (hg : 0 < g) : ∀ k, bW g u d k 0 = 0
  | 0 => by simp only [bW]; rw [if_neg (by omega)]
  | k + 1 => by simp only [bW]; rw [if_pos (by omega), Int.mul_zero, bW_zero hg k, Int.mul_zero]
theorem bW_goal {g u d : Int} (hg : 0 < g) : ∀ k, bW g u d k g = (u + d) ^ k
  | 0 => by simp [bW]
  | k + 1 => by
    simp only [bW]
    rw [if_neg (by omega), show 2 * g - g = g by omega, bW_goal hg k, Int.pow_succ]
    grind
theorem bW_nonneg {g u d : Int} (hu : 0 < u) (hd : 0 < d) : ∀ k x, 0 ≤ bW g u d k x
  | 0, x => by simp only [bW]; split <;> omega
  | k + 1, x => by
    simp only [bW]
    have h1 := bW_nonneg (g := g) hu hd k
    have h2 := sp_pos hu hd k
    split
    · exact Int.mul_nonneg (by omega) (h1 _)
    · exact Int.add_nonneg (Int.mul_nonneg (by omega) (by omega)) (Int.mul_nonneg (by omega) (h1 _))
theorem bW_le {g u d : Int} (hu : 0 < u) (hd : 0 < d) : ∀ k x, bW g u d k x ≤ (u + d) ^ k
  | 0, x => by simp only [bW, Int.pow_zero]; split <;> omega
  | k + 1, x => by
    simp only [bW]
    have h1 := bW_le (g := g) hu hd k
    have h2 := sp_pos hu hd k
    rw [Int.pow_succ]
    split
    · have a := Int.mul_le_mul_of_nonneg_left (h1 (2 * x)) (Int.le_of_lt hu)
      have b := Int.mul_nonneg (Int.le_of_lt h2) (Int.le_of_lt hd)
      have e : (u + d) ^ k * (u + d) = u * (u + d) ^ k + (u + d) ^ k * d := by grind
      omega
    · have a := Int.mul_le_mul_of_nonneg_left (h1 (2 * x - g)) (Int.le_of_lt hd)
      have e : (u + d) ^ k * (u + d) = u * (u + d) ^ k + d * (u + d) ^ k := by grind
      omega
theorem bW_twice {g u d : Int} : ∀ k x, bW (2 * g) u d k (2 * x) = bW g u d k x
  | 0, x => by
    simp only [bW]
    by_cases h : x = g
    · rw [if_pos h, if_pos (by omega)]
    · rw [if_neg h, if_neg (by omega)]
  | k + 1, x => by
    simp only [bW]
    by_cases h : 2 * x ≤ g
    · rw [if_pos h, if_pos (by omega), bW_twice]
    · rw [if_neg h, if_neg (by omega), show 2 * (2 * x) - 2 * g = 2 * (2 * x - g) by omega, bW_twice]

theorem mono_l {a b c : Int} (ha : 0 < a) (h : a * b ≤ a * c) : b ≤ c := by
  by_cases q : b ≤ c
  · exact q
  · have z := Int.mul_lt_mul_of_pos_left (show c < b by omega) ha
    omega
/-- two in the middle, whichever is the greater -/
theorem mid3 {u d B T R : Int} (hu : 0 < u) (hud : u ≤ d) (hT : 0 ≤ T) (hR : 0 ≤ R) (h : u * T + d * R ≤ u * B ∨ u * R + d * T ≤ u * B) : T + R ≤ B := by
  refine mono_l hu ?_
  have a := Int.mul_le_mul_of_nonneg_right hud hT
  have b := Int.mul_le_mul_of_nonneg_right hud hR
  rw [Int.mul_add]
  omega
theorem mid4 {u d B T R S : Int} (hd : 0 < d) (hud : u ≤ d) (hT : T ≤ S) (hR : R ≤ S) (h : u * T + d * R ≤ u * S + d * B ∨ u * R + d * T ≤ u * S + d * B) : T + R ≤ S + B := by
  refine mono_l hd ?_
  have a := Int.mul_le_mul_of_nonneg_left hT (show 0 ≤ d - u by omega)
  have b := Int.mul_le_mul_of_nonneg_left hR (show 0 ≤ d - u by omega)
  rw [Int.sub_mul, Int.sub_mul] at a b
  rw [Int.mul_add, Int.mul_add]
  omega

/-- no stake does better than bold stakes: the goal 2 * h, from r and t, their middle a -/
theorem bold_mid {h u d : Int} (hh : 0 < h) (hu : 0 < u) (hud : u ≤ d) : ∀ k r t a, 0 ≤ r → r ≤ t → t ≤ 2 * h → r + t = 2 * a → u * bW (2 * h) u d k t + d * bW (2 * h) u d k r ≤ bW (2 * h) u d (k + 1) a
  | 0, r, t, a, h0, h1, h2, h3 => by
    simp only [bW, Int.pow_zero, Int.mul_one]
    by_cases ht : t = 2 * h
    · rw [if_pos ht]
      by_cases hr : r = 2 * h
      · rw [if_pos hr, if_neg (by omega), if_pos (by omega)]
        omega
      · rw [if_neg hr]
        by_cases ha : 2 * a ≤ 2 * h
        · rw [if_pos ha, if_pos (by omega)]
          omega
        · rw [if_neg ha]
          split <;> omega
    · rw [if_neg ht, if_neg (show ¬ r = 2 * h by omega)]
      split
      · split <;> omega
      · split <;> omega
  | k + 1, r, t, a, h0, h1, h2, h3 => by
    have hd : 0 < d := by omega
    have nn := bW_nonneg (g := 2 * h) hu hd k
    have le := bW_le (g := 2 * h) hu hd k
    have sk := sp_pos hu hd k
    have u0 : 0 ≤ u := by omega
    have d0 : 0 ≤ d := by omega
    have ud0 : 0 ≤ u * d := Int.mul_nonneg u0 d0
    by_cases ct : 2 * t ≤ 2 * h
    · -- both below the middle
      have e1 : bW (2 * h) u d (k + 1) t = u * bW (2 * h) u d k (2 * t) := by simp only [bW]; rw [if_pos ct]
      have e2 : bW (2 * h) u d (k + 1) r = u * bW (2 * h) u d k (2 * r) := by simp only [bW]; rw [if_pos (by omega)]
      have e3 : bW (2 * h) u d (k + 1 + 1) a = u * bW (2 * h) u d (k + 1) (2 * a) := by rw [bW, if_pos (by omega)]
      have ih := bold_mid hh hu hud k (2 * r) (2 * t) (2 * a) (by omega) (by omega) (by omega) (by omega)
      have m := Int.mul_le_mul_of_nonneg_left ih u0
      rw [e1, e2, e3]
      grind
    · by_cases cr : 2 * r ≤ 2 * h
      · have e1 : bW (2 * h) u d (k + 1) t = u * (u + d) ^ k + d * bW (2 * h) u d k (2 * t - 2 * h) := by rw [bW, if_neg ct]
        have e2 : bW (2 * h) u d (k + 1) r = u * bW (2 * h) u d k (2 * r) := by rw [bW, if_pos cr]
        have ihs : u * bW (2 * h) u d k (2 * t - 2 * h) + d * bW (2 * h) u d k (2 * r) ≤ bW (2 * h) u d (k + 1) (2 * a - h) ∨ u * bW (2 * h) u d k (2 * r) + d * bW (2 * h) u d k (2 * t - 2 * h) ≤ bW (2 * h) u d (k + 1) (2 * a - h) := by
          by_cases o : 2 * r ≤ 2 * t - 2 * h
          · exact .inl (bold_mid hh hu hud k (2 * r) (2 * t - 2 * h) (2 * a - h) (by omega) (by omega) (by omega) (by omega))
          · exact .inr (bold_mid hh hu hud k (2 * t - 2 * h) (2 * r) (2 * a - h) (by omega) (by omega) (by omega) (by omega))
        by_cases ca : 2 * a ≤ 2 * h
        · have e3 : bW (2 * h) u d (k + 1 + 1) a = u * (u * (u + d) ^ k + d * bW (2 * h) u d k (4 * a - 2 * h)) := by
            rw [bW, if_pos ca, bW, if_neg (by omega), show 2 * (2 * a) - 2 * h = 4 * a - 2 * h by omega]
          have e4 : bW (2 * h) u d (k + 1) (2 * a - h) = u * bW (2 * h) u d k (4 * a - 2 * h) := by
            rw [bW, if_pos (by omega), show 2 * (2 * a - h) = 4 * a - 2 * h by omega]
          rw [e4] at ihs
          have m := mid3 hu hud (nn _) (nn _) ihs
          have m2 := Int.mul_le_mul_of_nonneg_left m ud0
          rw [e1, e2, e3]
          grind
        · have e3 : bW (2 * h) u d (k + 1 + 1) a = u * (u + d) ^ (k + 1) + d * (u * bW (2 * h) u d k (4 * a - 4 * h)) := by
            rw [bW, if_neg ca, bW, if_pos (by omega), show 2 * (2 * a - 2 * h) = 4 * a - 4 * h by omega]
          have e4 : bW (2 * h) u d (k + 1) (2 * a - h) = u * (u + d) ^ k + d * bW (2 * h) u d k (4 * a - 4 * h) := by
            rw [bW, if_neg (by omega), show 2 * (2 * a - h) - 2 * h = 4 * a - 4 * h by omega]
          rw [e4] at ihs
          have m := mid4 hd hud (le _) (le _) ihs
          have m2 := Int.mul_le_mul_of_nonneg_left m ud0
          rw [e1, e2, e3, Int.pow_succ]
          grind
      · -- both above the middle
        have e1 : bW (2 * h) u d (k + 1) t = u * (u + d) ^ k + d * bW (2 * h) u d k (2 * t - 2 * h) := by rw [bW, if_neg ct]
        have e2 : bW (2 * h) u d (k + 1) r = u * (u + d) ^ k + d * bW (2 * h) u d k (2 * r - 2 * h) := by rw [bW, if_neg cr]
        have e3 : bW (2 * h) u d (k + 1 + 1) a = u * (u + d) ^ (k + 1) + d * bW (2 * h) u d (k + 1) (2 * a - 2 * h) := by rw [bW, if_neg (by omega)]
        have ih := bold_mid hh hu hud k (2 * r - 2 * h) (2 * t - 2 * h) (2 * a - 2 * h) (by omega) (by omega) (by omega) (by omega)
        have m := Int.mul_le_mul_of_nonneg_left ih d0
        rw [e1, e2, e3, Int.pow_succ]
        grind
/-- no stake does better -/
theorem bold_best {g u d : Int} (hg : 0 < g) (hu : 0 < u) (hud : u ≤ d) (k : Nat) (x s : Int) (h0 : 0 ≤ s) (h1 : s ≤ x) (h2 : s ≤ g - x) : u * bW g u d k (x + s) + d * bW g u d k (x - s) ≤ bW g u d (k + 1) x := by
  have m := bold_mid hg hu hud k (2 * (x - s)) (2 * (x + s)) (2 * x) (by omega) (by omega) (by omega) (by omega)
  rw [bW_twice, bW_twice, bW_twice] at m
  exact m
/-- bold stakes do as well -/
theorem bold_is {g u d : Int} (hg : 0 < g) (k : Nat) (x : Int) : (2 * x ≤ g → u * bW g u d k (x + x) + d * bW g u d k (x - x) = bW g u d (k + 1) x) ∧ (¬ 2 * x ≤ g → u * bW g u d k (x + (g - x)) + d * bW g u d k (x - (g - x)) = bW g u d (k + 1) x) := by
  refine ⟨fun h => ?_, fun h => ?_⟩
  · rw [bW, if_pos h, show x - x = 0 by omega, bW_zero hg, show x + x = 2 * x by omega]
    omega
  · rw [bW, if_neg h, show x + (g - x) = g by omega, bW_goal hg, show x - (g - x) = 2 * x - g by omega]
end Bk
namespace Bk
/-- the fraction in lowest terms, as the program makes it -/
def gc (n m : Int) : Int := ((Nat.gcd n.natAbs m.natAbs : Nat) : Int)
def rt (n m : Int) : Int × Int := (n / gc n m, m / gc n m)
theorem gc_pos {n m : Int} (hm : 0 < m) : 0 < gc n m := by
  have h : 0 < Nat.gcd n.natAbs m.natAbs := Nat.gcd_pos_of_pos_right _ (by omega)
  unfold gc
  omega
theorem gc_le {n m : Int} (hm : 0 < m) : gc n m ≤ m := by
  have h : Nat.gcd n.natAbs m.natAbs ≤ m.natAbs := Nat.gcd_le_right _ (by omega)
  unfold gc
  omega
theorem gc_dl (n m : Int) : gc n m ∣ n := Int.ofNat_dvd_left.mpr (Nat.gcd_dvd_left _ _)
theorem gc_dr (n m : Int) : gc n m ∣ m := Int.ofNat_dvd_left.mpr (Nat.gcd_dvd_right _ _)
theorem rt_fst (n m : Int) : (rt n m).1 * gc n m = n := Int.ediv_mul_cancel (gc_dl n m)
theorem rt_snd (n m : Int) : (rt n m).2 * gc n m = m := Int.ediv_mul_cancel (gc_dr n m)
theorem rt_pos {n m : Int} (hm : 0 < m) : 0 < (rt n m).2 := by
  have h := rt_snd n m
  have g := gc_pos (n := n) hm
  by_cases q : 0 < (rt n m).2
  · exact q
  · have z := Int.mul_le_mul_of_nonneg_right (show (rt n m).2 ≤ 0 by omega) (show 0 ≤ gc n m by omega)
    omega
theorem rt_le {n m : Int} (hm : 0 < m) : (rt n m).2 ≤ m := by
  have h := rt_snd n m
  have g := gc_pos (n := n) hm
  have p := rt_pos (n := n) hm
  have z := Int.mul_le_mul_of_nonneg_left (show 1 ≤ gc n m by omega) (show 0 ≤ (rt n m).2 by omega)
  omega
/-- it stands for the same fraction -/
theorem rt_cross (n m : Int) : (rt n m).1 * m = n * (rt n m).2 := by
  have a := rt_fst n m
  have b := rt_snd n m
  have e : (rt n m).1 * ((rt n m).2 * gc n m) = ((rt n m).1 * gc n m) * (rt n m).2 := by grind
  rw [b, a] at e
  exact e
theorem rt_coprime {n m : Int} (hm : 0 < m) : Nat.gcd (rt n m).1.natAbs (rt n m).2.natAbs = 1 := by
  have g : 0 < Nat.gcd n.natAbs m.natAbs := Nat.gcd_pos_of_pos_right _ (by omega)
  have e1 : (rt n m).1.natAbs = n.natAbs / Nat.gcd n.natAbs m.natAbs := by
    have h := congrArg Int.natAbs (rt_fst n m)
    rw [Int.natAbs_mul] at h
    have h2 : (gc n m).natAbs = Nat.gcd n.natAbs m.natAbs := rfl
    rw [h2] at h
    exact (Nat.div_eq_of_eq_mul_left g h.symm).symm
  have e2 : (rt n m).2.natAbs = m.natAbs / Nat.gcd n.natAbs m.natAbs := by
    have h := congrArg Int.natAbs (rt_snd n m)
    rw [Int.natAbs_mul] at h
    have h2 : (gc n m).natAbs = Nat.gcd n.natAbs m.natAbs := rfl
    rw [h2] at h
    exact (Nat.div_eq_of_eq_mul_left g h.symm).symm
  rw [e1, e2]
  exact Nat.coprime_div_gcd_div_gcd g
/-- lowest terms are one -/
theorem low_one {a b a' b' : Int} (hb : 0 < b) (hb' : 0 < b') (c : Nat.gcd a.natAbs b.natAbs = 1) (c' : Nat.gcd a'.natAbs b'.natAbs = 1) (h : a * b' = a' * b) : a = a' ∧ b = b' := by
  have hn : a.natAbs * b'.natAbs = a'.natAbs * b.natAbs := by rw [← Int.natAbs_mul, ← Int.natAbs_mul, h]
  have d1 : b.natAbs ∣ b'.natAbs := by
    have : b.natAbs ∣ a.natAbs * b'.natAbs := by rw [hn]; exact Nat.dvd_mul_left _ _
    exact (Nat.Coprime.symm c).dvd_of_dvd_mul_left this
  have d2 : b'.natAbs ∣ b.natAbs := by
    have : b'.natAbs ∣ a'.natAbs * b.natAbs := by rw [← hn]; exact Nat.dvd_mul_left _ _
    exact (Nat.Coprime.symm c').dvd_of_dvd_mul_left this
  have e : b.natAbs = b'.natAbs := Nat.dvd_antisymm d1 d2
  have eb : b = b' := by omega
  subst eb
  exact ⟨Int.eq_of_mul_eq_mul_right (by omega) h, rfl⟩
theorem rt_eq {n m n' m' : Int} (hm : 0 < m) (hm' : 0 < m') (h : n * m' = n' * m) : rt n m = rt n' m' := by
  have p := rt_pos (n := n) hm
  have p' := rt_pos (n := n') hm'
  have x := rt_cross n m
  have x' := rt_cross n' m'
  have hx : (rt n m).1 * (rt n' m').2 = (rt n' m').1 * (rt n m).2 := by
    have hmm : m * m' ≠ 0 := by
      have := Int.mul_pos hm hm'
      omega
    apply Int.eq_of_mul_eq_mul_right hmm
    have e1 : (rt n m).1 * (rt n' m').2 * (m * m') = ((rt n m).1 * m) * ((rt n' m').2 * m') := by grind
    have e2 : (rt n' m').1 * (rt n m).2 * (m * m') = ((rt n' m').1 * m') * ((rt n m).2 * m) := by grind
    rw [e1, e2, x, x']
    have e3 : n * (rt n m).2 * ((rt n' m').2 * m') = (n * m') * ((rt n m).2 * (rt n' m').2) := by grind
    have e4 : n' * (rt n' m').2 * ((rt n m).2 * m) = (n' * m) * ((rt n m).2 * (rt n' m').2) := by grind
    rw [e3, e4, h]
  obtain ⟨e1, e2⟩ := low_one p p' (rt_coprime hm) (rt_coprime hm') hx
  exact Prod.ext e1 e2
theorem rt_zero {m : Int} (hm : 0 < m) : rt 0 m = (0, 1) := by
  rw [rt_eq (n' := 0) (m' := 1) hm (by omega) (by omega)]
  rfl
theorem rt_one {m : Int} (hm : 0 < m) : rt m m = (1, 1) := by
  rw [rt_eq (n' := 1) (m' := 1) hm (by omega) (by omega)]
  rfl
theorem rt_inj {n n' m : Int} (hm : 0 < m) (h : rt n m = rt n' m) : n = n' := by
  have x := rt_cross n m
  have x' := rt_cross n' m
  have p := rt_pos (n := n') hm
  rw [h] at x
  rw [x] at x'
  exact Int.eq_of_mul_eq_mul_right (by omega) x'
theorem rt_lt {n n' m : Int} (hm : 0 < m) : (rt n m).1 * (rt n' m).2 < (rt n' m).1 * (rt n m).2 ↔ n < n' := by
  have x := rt_cross n m
  have x' := rt_cross n' m
  have p := rt_pos (n := n) hm
  have p' := rt_pos (n := n') hm
  have pp : 0 < (rt n m).2 * (rt n' m).2 := Int.mul_pos p p'
  have e1 : (rt n m).1 * (rt n' m).2 * m = n * ((rt n m).2 * (rt n' m).2) := by
    have : (rt n m).1 * (rt n' m).2 * m = ((rt n m).1 * m) * (rt n' m).2 := by grind
    rw [this, x]
    grind
  have e2 : (rt n' m).1 * (rt n m).2 * m = n' * ((rt n m).2 * (rt n' m).2) := by
    have : (rt n' m).1 * (rt n m).2 * m = ((rt n' m).1 * m) * (rt n m).2 := by grind
    rw [this, x']
    grind
  constructor
  · intro h
    have z := Int.mul_lt_mul_of_pos_right h hm
    rw [e1, e2] at z
    exact Int.lt_of_mul_lt_mul_right z (by omega)
  · intro h
    have z := Int.mul_lt_mul_of_pos_right h pp
    rw [← e1, ← e2] at z
    exact Int.lt_of_mul_lt_mul_right z (by omega)
theorem rt_fst_nonneg {n m : Int} (hn : 0 ≤ n) (hm : 0 < m) : 0 ≤ (rt n m).1 := by
  have x := rt_cross n m
  have p := rt_pos (n := n) hm
  have z := Int.mul_nonneg hn (show 0 ≤ (rt n m).2 by omega)
  by_cases q : 0 ≤ (rt n m).1
  · exact q
  · have y := Int.mul_lt_mul_of_pos_right (show (rt n m).1 < 0 by omega) hm
    omega
theorem rt_fst_le {n m : Int} (hn : n ≤ m) (hm : 0 < m) : (rt n m).1 ≤ (rt n m).2 := by
  have x := rt_cross n m
  have p := rt_pos (n := n) hm
  have z := Int.mul_le_mul_of_nonneg_right hn (show 0 ≤ (rt n m).2 by omega)
  rw [← x, Int.mul_comm m] at z
  exact Int.le_of_mul_le_mul_right z hm
/-- the average over two outcomes -/
theorem rt_avg {n n' m w w' : Int} (hm : 0 < m) (hw : 0 < w + w') :
    rt (w * (rt n m).1 * (rt n' m).2 + w' * (rt n' m).1 * (rt n m).2) ((rt n m).2 * (rt n' m).2 * (w + w')) = rt (w * n + w' * n') (m * (w + w')) := by
  have x := rt_cross n m
  have x' := rt_cross n' m
  have p := rt_pos (n := n) hm
  have p' := rt_pos (n := n') hm
  refine rt_eq (Int.mul_pos (Int.mul_pos p p') hw) (Int.mul_pos hm hw) ?_
  have e1 : (w * (rt n m).1 * (rt n' m).2 + w' * (rt n' m).1 * (rt n m).2) * (m * (w + w')) = (w * ((rt n m).1 * m) * (rt n' m).2 + w' * ((rt n' m).1 * m) * (rt n m).2) * (w + w') := by grind
  rw [e1, x, x']
  grind
end Bk
set_option Elab.async false
set_option linter.all false
set_option maxRecDepth 100000
set_option maxHeartbeats 4000000
/-! rules that the layer lacks: f(k = v, ..) with nothing by position; tuple * 1; enumerate(tuple) -/
namespace Xr
open PySem PySem.Spec PyProof.Rows L2
open Sem (wp)
open AutoSeq1 (wpAny_loadPart')

/-! ### f(k = v, ..): a call by names alone -/
def tKw (sp : Sp) (gV : List V → List V → List V) (E : XK) (tk : TA) : TE := fun σ H Q => tk σ H fun zs H1 => sp (gV [] zs) H1 Q E
theorem pe_callK0 {X : Cx} {CX : CXT} {k : Nat} {f : Addr} {fd : FuncData} {ps ks : List Str} {g : List Value → List Value → List Value} {gV : List V → List V → List V} {sp : Sp} {E : XK} {x : Str} {np cp : Pos} {kws : List Keyword} {tk : TA}
    (F : FnOk X.prog X.w X.K X.mg X.base CX k f fd ps sp) (room : Room k X.A) (gl : Gl X x) (at_ : X.mg x = some (.ref f)) (kp : PySem.W.keepIn X.K (.ref f) = true) (bind : KBinds X.K fd ps ks g gV) (out : Passes CX X E) (args : PK X kws tk)
    (named : (backToKw cp (keywordEach kws X.env)).all (·.1.isSome) = true := by rfl) (names : (backToKw cp (keywordEach kws X.env)).filterMap (·.1) = ks := by rfl) (plainName : (x == ("__debug__" : Str)) = false := by decide)
    (noStar : ((backTo cp (starEach [] X.env)).any (·.1) || (backToKw cp (keywordEach kws X.env)).any (·.1.isNone)) = false := by rfl) : PE X (.Call (.Name x np) [] kws cp) (tKw sp gV E tk) where
  run := fun pins s σ H Q I h => by
    have after := thn (args.run cp pins s σ H _ I h) fun ws s' ⟨zs, H', I', rel, q⟩ => And.intro I'.kIn (run_fnk (us := []) (vs := []) F room bind out I' Paired.nil rel q)
    rw [← names] at after
    exact wpAny_Call_Name_kw (ld_glob I gl at_ (PySem.W.callWith_KW0 (h₀ := X.base) I.ok.mod.kin kp named after noStar) plainName)

/-! ### tuple * 1 is the tuple itself -/
theorem tuple_once (t : Addr) (xs : Array Value) (n : Nat) (od : Option Addr) (sl : Array (Option Value)) (u : Tok) :
    Meets (Builtin.«tuple.__mul__» ⟨[.ref t, .int 1 u], []⟩) (fun _ R s => s.heap.get? t = some { cls := .type "tuple", dict := od, data := .seq xs n, slots := sl } ∧ R (.ok (.ret (Value.ref t))) s) :=
  .of_wp fun prog w A R ⟨hp, gens, dr, tk, os⟩ ⟨at_, h⟩ => by
    have ix := AutoSeq1.idx_int
    wp_walk using wpAny_loadPart' at_
    exact ⟨_, rfl, h⟩
def rRep1 (K : PySem.W.Frag) : R2 := fun x y H Q => ∃ t xs, x = .ref t ∧ y = .int 1 ∧ SqT K H t xs ∧ Q (.ref t) H
theorem op_rep1 {X : Cx} : OpR X (binaryOp .Mult) (rRep1 X.K) := fun pins s σ H x y v u Q I rx ry ⟨t, xs, ex, ey, hT, q⟩ => by
  subst ex ey
  cases rx
  obtain ⟨tok, rfl⟩ := ry
  obtain ⟨vs, rel, ⟨⟨c, od, dt, sl⟩, at_, ec, n, ed⟩, _⟩ := I.tuple hT
  simp only at ec ed
  subst ec ed
  have isT : s.TypeIs (.ref t) "tuple" := ⟨_, at_, rfl⟩
  have back := call_meets F.slot_tuple_mul isT F.entry_tuple_mul (F.args_tuple_mul_2 _ _) (tuple_once t vs.toArray n od sl tok) (prog := X.prog) (w := X.w) (A := X.A) (E := X.xe) (Q := EP X pins σ Q) ⟨at_, ⟨.ref t, H, I, rfl, q⟩⟩
  exact wpAny_binaryOp_repeat_ref (T := "tuple") (U := "int") (by decide) isT (fun s' => typeIs_int s' 1 tok) noFill_tuple_mul F.fills_int_mul F.slot_int_rmul repeat_tuple F.slot_int_index.lookup
    (call_meets F.slot_int_rmul (typeIs_int s 1 tok) F.entry_int_rmul (F.args_int_rmul_2 _ _) (int_rmul_tuple 1 tok t vs.toArray n od sl) ⟨at_, rfl, isT, back⟩)

/-! ### enumerate(tuple): the iterator and its records are the two newest objects -/
/-- what enumerate(t) has laid over h: an iterator over t at the old size, the enumerate object behind it -/
structure Born (h h' : Heap) (t : Addr) : Prop where
  en : IsEnum h' (h.objs.size + 1) h.objs.size 0 .none
  it : h'.IsTupleIter h.objs.size t 0
  old : ∀ b o, h.get? b = some o → h'.get? b = some o
def tupIt (t : Addr) : Obj := { cls := .type "tuple_iterator", data := .fields #[.ref t, .int 0 0] }
def enumOf (i : Addr) : Obj := { cls := .type "enumerate", data := .fields #[.none, .bool false, .ref i, rawInt 0, .none, .none] }
theorem born (h : Heap) (t : Addr) : Born h ((h.push (tupIt t)).push (enumOf h.objs.size)) t := by
  have sz : (h.push (tupIt t)).objs.size = h.objs.size + 1 := Heap.size_push ..
  refine ⟨?_, ⟨tupIt t, Heap.get?_push_of_some _ (Heap.get?_push_size _ rfl), rfl, rfl⟩, fun b o e => Heap.get?_push_of_some _ (Heap.get?_push_of_some _ e)⟩
  have top := Heap.get?_push_size (h.push (tupIt t)) (o := enumOf h.objs.size) rfl
  rw [sz] at top
  exact top
theorem enum_new (t : Addr) (xs : Array Value) (n : Nat) (od : Option Addr) (sl : Array (Option Value)) :
    Meets (Builtin.«enumerate.__new__» ⟨[.type "enumerate", .ref t], []⟩) (fun _ R s => s.heap.get? t = some { cls := .type "tuple", dict := od, data := .seq xs n, slots := sl } ∧
      R (.ok (.ret (.ref (s.heap.push (tupIt t)).objs.size))) { s with heap := (s.heap.push (tupIt t)).push (enumOf s.heap.objs.size) }) :=
  .of_wp fun prog w A R ⟨hp, gens, dr, tk, os⟩ ⟨at_, h⟩ => by
    have sub := sub_enumerate
    have tup : Heap.IsTuple (Shared.heap ⟨hp, gens, dr, tk, os⟩) t xs := ⟨_, at_, rfl, n, rfl⟩
    have done : ∃ v, Fin.done (.ret (.ref (hp.push (tupIt t)).objs.size)) = Fin.done (.ret v) ∧ R (.ok (.ret v)) ⟨(hp.push (tupIt t)).push (enumOf hp.objs.size), gens, dr, tk, os⟩ := ⟨_, rfl, h⟩
    wp_walk using wpAny_loadPart' at_
    refine wpAny_stack_any fun frames => wpAny_pure ?_
    split
    next c _ _ _ _ _ =>
      cases (c == Value.type "enumerate") <;>
      · wp_walk using wpAny_loadPart' at_, wpAny_pyIter_tuple tup
        exact done
    next =>
      wp_walk using wpAny_loadPart' at_, wpAny_pyIter_tuple tup
      exact done
theorem call_enumT {prog : Program} {w : World} {A : Around} {E : Value → Shared → Prop} {s : Shared} {t : Addr} {xs : Array Value} {Q : Value → Shared → Prop} (tup : s.heap.IsTuple t xs)
    (h : ∀ h', Born s.heap h' t → Q (.ref (s.heap.objs.size + 1)) { s with heap := h' }) : wpAny (model prog w) A (call (.type "enumerate") [.ref t]) Q E s := by
  obtain ⟨⟨c, od, dt, sl⟩, at_, ec, n, ed⟩ := tup
  simp only at ec ed
  subst ec ed
  have B := born s.heap t
  have sz : (s.heap.push (tupIt t)).objs.size = s.heap.objs.size + 1 := Heap.size_push ..
  refine callType_new F.called_enumerate (by decide) (F.typeCall_enumerate_1 _) (F.newCall_enumerate_1 _) (fun obj => F.args_object_init_2 obj _)
    F.entry_enumerate_new (enum_new t xs n od sl) ⟨at_, (?_ : _ ∧ _)⟩
  rw [sz]
  exact ⟨⟨_, B.en, rfl⟩, h _ B⟩
/-- the walk of the pairs (i, i-th item of the tuple at a), each a new tuple -/
def IteT (K : PySem.W.Frag) (a : Addr) : It where
  go := fun i H => ∃ xs, SqT K H a xs ∧ i < xs.length
  yld := fun i H v H' => ∃ t x, v = .ref t ∧ H t = none ∧ H' = upd H t (.tup [.int (i : Nat), x]) ∧ ∀ xs, SqT K H a xs → xs[i]? = some x
  stop := fun i H => ∃ xs, SqT K H a xs ∧ xs.length = i
/-- the enumerate object e over the iterator j of the tuple at a, i items drawn -/
structure EnT (a e j : Addr) (i : Nat) (h : Heap) : Prop where
  en : ∃ last, IsEnum h e j ((i : Nat) : Int) last
  it : h.IsTupleIter j a i
  ej : e ≠ j
  ea : e ≠ a
  aj : a ≠ j
theorem two {a b c : Addr} (h : c ∈ [a, b]) : c = a ∨ c = b := by simpa using h
theorem EnT.there {a e j : Addr} {i : Nat} {h : Heap} (x : EnT a e j i h) : ∀ b ∈ [e, j], ∃ o, h.get? b = some o ∧ ∀ v, o.data ≠ .cell v := fun b hb => by
  obtain ⟨last, en⟩ := x.en
  obtain ⟨o, at_, _, ed⟩ := x.it
  rcases two hb with rfl | rfl
  · exact ⟨_, en, fun v z => by cases z⟩
  · exact ⟨o, at_, fun v z => by rw [ed] at z; cases z⟩
theorem EnT.stay {a e j : Addr} {i : Nat} {h h' : Heap} (x : EnT a e j i h) (k : ∀ b ∈ [e, j], ∀ o, h.get? b = some o → h'.get? b = some o) : EnT a e j i h' :=
  ⟨let ⟨last, en⟩ := x.en; ⟨last, k e (by simp) _ en⟩, x.it.at (k j (by simp)), x.ej, x.ea, x.aj⟩
theorem turn_enumT {P : Program} {w : World} {K : PySem.W.Frag} {elts : List Expr} {kk : Nat} {tpos : Pos} (a e j : Addr) : Turn P w K (.Tuple elts kk tpos) (IteT K a) [e, j] e (EnT a e j) := by
  refine ⟨List.mem_cons_self, fun i h => EnT.there, fun i h h' => EnT.stay, ?_, ?_, fun A i s Q E x q => let ⟨_, en⟩ := x.en; wpAny_pyIter_enum en q⟩
  · rintro X rfl rfl rfl calm i pins s σ H E I fp x ⟨xs, hT, hi⟩
    obtain ⟨last, en⟩ := x.en
    obtain ⟨vs, rel, tup, _⟩ := I.tuple hT
    have hi' : i < vs.toArray.size := by
      have := rel.length
      rw [List.size_toArray]
      omega
    refine wpAny_pyNext_enum_itemD (Draws.tuple (show X.A.in1.handled = none from I.ok.hd calm) j a x.aj vs.toArray) en ⟨x.it, tup⟩ hi' x.ej (fun z => (two z).elim x.ej x.ea) fun u h1 tk hu out st new _ kept => ?_
    obtain ⟨v, hv, rv⟩ := rel.get (List.getElem?_eq_getElem hi)
    have uv : u = v := Option.some.inj (hu.symm.trans (by simpa using hv))
    subst uv
    refine ⟨_, rfl, wpAny_letOwnedTupleGo_enum (s := { s with heap := h1, toks := tk + 1 }) out fun h2 en2 but => ?_⟩
    have small : ∀ b ∈ [e, j], b < s.heap.objs.size := fun b hb => let ⟨_, z, _⟩ := x.there b hb; Heap.lt_size z
    have far : ∀ b ∈ [e, j], b ≠ s.heap.objs.size := fun b hb => Nat.ne_of_lt (small b hb)
    have pair : ObjOk X.prog X.w (upd H s.heap.objs.size (.tup [.int (i : Nat), xs[i]])) h2 s.heap.objs.size (.tup [.int (i : Nat), xs[i]]) :=
      ⟨(by show 2 ≤ sizeLine; decide), [.int i tk, u], .cons ⟨_, rfl⟩ (.cons rv .nil), _, (but.2 _ (far e (by simp)).symm).trans new, rfl, _, rfl⟩
    have all : ∀ b o, b ∉ [e, j] → s.heap.get? b = some o → h2.get? b = some o := fun b o nb z => by
      have n1 : b ≠ e := fun q => nb (by simp [q])
      have n2 : b ≠ j := fun q => nb (by simp [q])
      exact (but.2 b n1).trans (kept b o n1 n2 z)
    have I2 := I.turnedNew (ch := [e, j]) (t' := tk + 1) all fp (Nat.le_refl _) pair
    refine ⟨.ref s.heap.objs.size, _, I2, rfl, ⟨_, xs[i], rfl, I.hok.fresh (Nat.le_refl _), rfl, fun ys hy => ?_⟩, ⟨⟨u, ?_⟩, st.1.at fun o z => (but.2 j x.ej.symm).trans z, x.ej, x.ea, x.aj⟩, fun b hb => ?_⟩
    · rw [I.tuple_inj hy hT]
      exact List.getElem?_eq_getElem hi
    · rw [Int.natCast_add]
      exact en2
    · rw [upd_ne (far b hb)]
      exact (fp b hb).1
  · rintro X rfl rfl rfl calm i pins s σ H E I fp x ⟨xs, hT, rfl⟩
    obtain ⟨last, en⟩ := x.en
    obtain ⟨vs, rel, tup, _⟩ := I.tuple hT
    have full : vs.toArray.size = xs.length := by rw [List.size_toArray]; exact rel.length.symm
    have it := x.it
    rw [← full] at en it
    obtain ⟨n0, n1, _, n3, n4, n5⟩ := fp j (by simp)
    exact wpAny_pyNext_enum_endD (Draws.tuple (show X.A.in1.handled = none from I.ok.hd calm) j a x.aj vs.toArray) en ⟨it, tup⟩ fun h1 kept => ⟨rfl, I.turned (t' := s.toks) (fun b o nb z => kept b o nb z) n0 n1 n3 n4 n5⟩
def iEnumT (K : PySem.W.Frag) (ta : TA) : TI := fun σ H R => ta σ H fun vs H1 => ∃ a xs, vs = [.ref a] ∧ SqT K H1 a xs ∧ R (IteT K a) H1
theorem pi_enumT {X : Cx} {e : Expr} {ta : TA} {np cp tpos : Pos} {elts : List Expr} {kk : Nat} (gl : Gl X "enumerate") (free : X.mg "enumerate" = none) (arg : PA X [e] ta) (noStar : starEach [e] X.env = [(false, eval e X.env)] := by rfl) :
    PI X (.Tuple elts kk tpos) (.Call (.Name "enumerate" np) [e] [] cp) (iEnumT X.K ta) where
  run := fun pins s σ H R I h => by
    refine Call_ (ld_blt I gl free boot_enumerate (callWith_type1 (thn (arg.run cp pins s σ H _ I h) ?_) noStar rfl))
    rintro us s1 ⟨vs, H1, I1, rel, a, xs, rfl, hT, q⟩
    obtain ⟨u, rfl, ru⟩ : ∃ u, us = [u] ∧ RelV (.ref a) u := by
      cases rel with
      | cons r rs => cases rs; exact ⟨_, rfl, r⟩
    obtain rfl : u = .ref a := ru
    obtain ⟨its, _, tup, _⟩ := I1.tuple hT
    have low : a < s1.heap.objs.size := let ⟨_, z, _⟩ := id tup; Heap.lt_size z
    refine call_enumT (show s1.heap.IsTuple a its.toArray from tup) fun h' B => wpAny_pyIter_enum B.en ?_
    have fresh : ∀ b ∈ [s1.heap.objs.size + 1, s1.heap.objs.size], s1.heap.objs.size ≤ b := fun b hb => by
      rcases two hb with rfl | rfl
      · exact Nat.le_succ _
      · exact Nat.le_refl _
    exact ⟨_, _, _, _, H1, rfl, I1.kept (t' := s1.toks) B.old, turn_enumT a _ _, ⟨⟨_, B.en⟩, B.it, Nat.succ_ne_self _, Nat.ne_of_gt (Nat.lt_succ_of_lt low), Nat.ne_of_lt low⟩, fun b hb => I1.fpOk (fresh b hb) (I1.hok.fresh (fresh b hb)), q⟩
theorem walk_enumT {K : PySem.W.Frag} {a : Addr} {xs : List V} : Walk (IteT K a) xs.length (fun H => SqT K H a xs) (YPair (fun i => some (.int (i : Nat))) (fun i => xs[i]?)) where
  goes := fun _ _ hi hT => ⟨xs, hT, hi⟩
  stops := fun _ hT => ⟨xs, hT, rfl⟩
  yields := fun _ _ _ _ _ hT ⟨t, x, ev, nt, eH, at_⟩ => ⟨t, _, x, ev, nt, eH, rfl, at_ xs hT⟩

/-! ### the law's end, where a loose name of the top is asked -/
theorem law_end {l : PySem.W.OpenLaw} {q : Program} {loose : List Str} {XP : (Str → Option Value) → Heap → Prop} {YP : World → Heap → Prop} {d : DefRec} {Kp : Params → PySem.W.Frag} {CX : CXT} {k : Nat} {x : Str} {sp : PySem.W.Frag → Sp} (most : l.most = some 63) (df : d.params.defaults = []) (room : Room k callerA)
    (written : ∀ (w : World) (h : Heap), YP w h → (Kp w.params).In h) (quiet : ∀ (H : Hp) (s : Shared) (e : Value) (s' : Shared), CX [] H s (fun _ _ _ => False) e s' → False)
    (asks : ∀ (K : PySem.W.Frag) (H : Hp) (a : Addr) (ns : List Int), SqL K H a (ns.map V.int) → sp K [.ref a] H (fun v _ => v = .bl true) fun _ _ _ => False)
    (law : ∀ (w : World) (mg : Str → Option Value) (fa : Addr) (h : Heap), (Kp w.params).In h → h.Ns mainGlobals mg → XP mg h → mg d.name = some (.ref fa) →
      ∃ fd : FuncData, (∀ (s : Shared) (v : Value), BindsTo s fd ⟨[v], []⟩ [(x, v)]) ∧ ∀ base : Heap, (Kp w.params).In base → base.Ns mainGlobals mg → FnOk l.prog w (Kp w.params) mg base CX k fa fd [x] (sp (Kp w.params))) :
    PySem.W.WalkO q loose XP YP l.row.toRowW d [] fun f vs => PySem.call f vs := by
  apply Att.attach_call most df
  intro w s0 s1 mg mb fa o pm cd doc a vs ns G Y at_ od cdr named lst nums len gens
  have K1 := written w _ Y
  obtain ⟨fd, bind, F⟩ := law w mg fa _ K1 G.T.g G.X named
  have short : ns.length ≤ sizeLine := Nat.le_trans len (by decide)
  exact law_call K1 G.T.g G.T.b G.T.builtins G.T.nolimit gens lst nums short room F bind (fun H _ hS => asks _ H a ns hS) fun H e s' => quiet H s1 e s'
end Xr
set_option Elab.async false
set_option linter.all false
set_option maxRecDepth 100000
set_option maxHeartbeats 4000000
/-! the text by places, what stands in the heap, bounds -/
namespace Sk
open PySem PySem.Spec PyProof.Rows L2 Bk Xr

def topS (i : Nat) : Stmt := PySem.Challenge.pw_stakehulls_k87_whole_bold_stakes_beat_th.main.body.getD i (.Pass ⟨0, 0, 0, 0⟩)

/-! ### bounds -/
structure Par (g : Nat) (u d : Int) : Prop where
  g1 : 1 ≤ g
  g24 : g ≤ 24
  u1 : 1 ≤ u
  ud : u ≤ d
  d99 : d ≤ 99
theorem Par.up {g : Nat} {u d : Int} (P : Par g u d) : 0 < u := by have := P.u1; omega
theorem Par.dp {g : Nat} {u d : Int} (P : Par g u d) : 0 < d := by have := P.u1; have := P.ud; omega
theorem Par.gp {g : Nat} {u d : Int} (P : Par g u d) : (0 : Int) < g := by have := P.g1; omega
theorem pow_mono_l {a b : Int} (h0 : 0 ≤ a) (h : a ≤ b) : ∀ k : Nat, a ^ k ≤ b ^ k
  | 0 => by rw [Int.pow_zero, Int.pow_zero]; exact Int.le_refl _
  | k + 1 => by
    rw [Int.pow_succ, Int.pow_succ]
    have i := pow_mono_l h0 h k
    have z : 0 ≤ b ^ k := Int.pow_nonneg (by omega)
    exact Int.le_trans (Int.mul_le_mul_of_nonneg_right i h0) (Int.mul_le_mul_of_nonneg_left h z)
theorem pow_mono_r {a : Int} (h : 1 ≤ a) {k n : Nat} (hk : k ≤ n) : a ^ k ≤ a ^ n := by
  induction hk with
  | refl => exact Int.le_refl _
  | @step m hm ih =>
    rw [Int.pow_succ]
    have z : 0 ≤ a ^ m := Int.pow_nonneg (by omega)
    have y := Int.mul_le_mul_of_nonneg_left h z
    omega
theorem Par.sp {g : Nat} {u d : Int} (P : Par g u d) (k : Nat) : 0 < (u + d) ^ k := sp_pos P.up P.dp k
theorem Par.sz {g : Nat} {u d : Int} (P : Par g u d) {k : Nat} (hk : k ≤ 13) : (u + d) ^ k < 2 ^ 100 := by
  have h1 := P.u1
  have h2 := P.ud
  have h3 := P.d99
  have a := pow_mono_l (a := u + d) (b := 198) (by omega) (by omega) k
  have b := pow_mono_r (a := 198) (by omega) hk
  have c : (198 : Int) ^ 13 < 2 ^ 100 := by decide
  omega
/-- a number of at most 100 binary figures -/
def Sm (i : Int) : Prop := i.natAbs < 2 ^ 100
theorem Sm.of {i : Int} (h0 : 0 ≤ i) (h : i < 2 ^ 100) : Sm i := by
  unfold Sm
  have e : ((2 ^ 100 : Nat) : Int) = 2 ^ 100 := by decide
  omega
theorem Sm.le {i j : Int} (h0 : 0 ≤ i) (h : i ≤ j) (hj : Sm j) : Sm i := by
  unfold Sm at *
  omega
theorem Sm.lt {i : Int} (h : Sm i) : i.natAbs < 2 ^ 100 := h
theorem rt_sm {n m : Int} (hn : 0 ≤ n) (hnm : n ≤ m) (hm : 0 < m) (hs : m < 2 ^ 100) : Sm (rt n m).1 ∧ Sm (rt n m).2 := by
  have a := rt_fst_nonneg hn hm
  have b := rt_fst_le hnm hm
  have c := rt_pos (n := n) hm
  have d := rt_le (n := n) hm
  exact ⟨.of a (by omega), .of (by omega) (by omega)⟩
/-- products of such numbers -/
theorem mulW {i j : Int} {a b : Nat} (ha : i.natAbs < 2 ^ a) (hb : j.natAbs < 2 ^ b) (h0 : 0 < a := by decide) (h1 : 0 < b := by decide) (h : a + b ≤ 1000000 := by decide) : CMulW i j := wide_mul ha hb h0 h1 h
theorem mulB {i j : Int} {a b : Nat} (ha : i.natAbs < 2 ^ a) (hb : j.natAbs < 2 ^ b) : (i * j).natAbs < 2 ^ (a + b) := wide_lt ha hb
theorem addB {i j : Int} {a : Nat} (ha : i.natAbs < 2 ^ a) (hb : j.natAbs < 2 ^ a) : (i + j).natAbs < 2 ^ (a + 1) := by
  rw [Nat.pow_succ]
  omega
theorem upB {i : Int} {a b : Nat} (ha : i.natAbs < 2 ^ a) (h : a ≤ b) : i.natAbs < 2 ^ b := Nat.lt_of_lt_of_le ha (Nat.pow_le_pow_right (by decide) h)
theorem smallB {i : Int} (h : i.natAbs < 256) : i.natAbs < 2 ^ 8 := h

/-! ### rows of things -/
def All2 {α : Type} (P : V → α → Prop) (vs : List V) (rs : List α) : Prop := vs.length = rs.length ∧ ∀ (i : Nat) (v : V) (r : α), vs[i]? = some v → rs[i]? = some r → P v r
section
variable {α : Type} {P P' : V → α → Prop} {vs : List V} {rs : List α}
theorem All2.nil : All2 P [] ([] : List α) := ⟨rfl, fun i v r h => by simp at h⟩
theorem All2.mono (h : All2 P vs rs) (k : ∀ v r, P v r → P' v r) : All2 P' vs rs := ⟨h.1, fun i v r a b => k v r (h.2 i v r a b)⟩
theorem All2.snoc {v : V} {r : α} (h : All2 P vs rs) (q : P v r) : All2 P (vs ++ [v]) (rs ++ [r]) := by
  refine ⟨by simp [h.1], fun i x y a b => ?_⟩
  by_cases hi : i < vs.length
  · rw [List.getElem?_append_left hi] at a
    rw [List.getElem?_append_left (by have := h.1; omega)] at b
    exact h.2 i x y a b
  · have hi2 : ¬ i < rs.length := by have := h.1; omega
    rw [List.getElem?_append_right (by omega)] at a b
    by_cases e : i - vs.length = 0
    · have e2 : i - rs.length = 0 := by have := h.1; omega
      rw [e] at a
      rw [e2] at b
      cases Option.some.inj (show some v = some x from a)
      cases Option.some.inj (show some r = some y from b)
      exact q
    · obtain ⟨m, hm⟩ : ∃ m, i - vs.length = m + 1 := ⟨i - vs.length - 1, by omega⟩
      rw [hm] at a
      simp at a
theorem All2.cons {v : V} {r : α} (q : P v r) (h : All2 P vs rs) : All2 P (v :: vs) (r :: rs) := by
  refine ⟨by simp [h.1], fun i x y a b => ?_⟩
  cases i with
  | zero =>
    cases Option.some.inj (show some v = some x from a)
    cases Option.some.inj (show some r = some y from b)
    exact q
  | succ i => exact h.2 i x y a b
theorem All2.get {i : Nat} {r : α} (h : All2 P vs rs) (e : rs[i]? = some r) : ∃ v, vs[i]? = some v ∧ P v r := by
  obtain ⟨hi, _⟩ := List.getElem?_eq_some_iff.mp e
  have hv : i < vs.length := by have := h.1; omega
  exact ⟨vs[i], List.getElem?_eq_getElem hv, h.2 i _ r (List.getElem?_eq_getElem hv) e⟩
theorem All2.at {i : Nat} {v : V} (h : All2 P vs rs) (e : vs[i]? = some v) : ∃ r, rs[i]? = some r ∧ P v r := by
  obtain ⟨hi, _⟩ := List.getElem?_eq_some_iff.mp e
  have hv : i < rs.length := by have := h.1; omega
  exact ⟨rs[i], List.getElem?_eq_getElem hv, h.2 i v _ e (List.getElem?_eq_getElem hv)⟩
end

/-! ### what is kept: all but the lists -/
def Kp (H H' : Hp) : Prop := ∀ b o, H b = some o → (∀ xs, o ≠ .lst xs) → H' b = some o
section
variable {H H' H2 : Hp}
theorem Kp.refl : Kp H H := fun _ _ h _ => h
theorem Kp.of (s : Same H H') : Kp H H' := fun b o h _ => s b o h
theorem Kp.trans (a : Kp H H') (b : Kp H' H2) : Kp H H2 := fun c o h n => b c o (a c o h n) n
theorem Kp.new {p : Addr} {o : HO} (h : H p = none) : Kp H (upd H p o) := fun b x e _ => by
  rw [upd_ne (ne_of_none e h)]
  exact e
theorem Kp.lst {l : Addr} {xs : List V} {o : HO} (h : H l = some (.lst xs)) : Kp H (upd H l o) := fun b x e n => by
  rw [upd_ne (fun q => by subst q; rw [h] at e; exact n xs (Option.some.inj e).symm)]
  exact e
theorem Same.new {p : Addr} {o : HO} (h : H p = none) : Same H (upd H p o) := fun b x e => by
  rw [upd_ne (ne_of_none e h)]
  exact e
/-- a store to what was new since H -/
theorem Same.on {p : Addr} {o : HO} (s : Same H H') (h : H p = none) : Same H (upd H' p o) := fun b x e => by
  rw [upd_ne (ne_of_none e h)]
  exact s b x e
end

/-! ### ratios, functions, boards in the heap -/
abbrev Rat2 := Int × Int
def RatAt (H : Hp) (v : V) (r : Rat2) : Prop := ∃ q, v = .ref q ∧ H q = some (.tup [.int r.1, .int r.2])
def FunAt (H : Hp) (p : Addr) (rs : List Rat2) : Prop := ∃ vs, H p = some (.tup vs) ∧ All2 (RatAt H) vs rs
/-- the stake s at the purse x -/
def LotAt (u d : Int) (x : Int) (H : Hp) (v : V) (s : Int) : Prop := ∃ l a b, v = .ref l ∧ H l = some (.tup [.ref a, .ref b]) ∧ H a = some (.tup [.int (x - s), .int d]) ∧ H b = some (.tup [.int (x + s), .int u])
/-- the stakes at the purse x -/
def stakes (g x : Nat) : List Int := (List.range (min x (g - x))).map fun i : Nat => ((1 + i : Nat) : Int)
def RowAt (g : Nat) (u d : Int) (H : Hp) (v : V) (x : Nat) : Prop := ∃ l vs, v = .ref l ∧ H l = some (.tup vs) ∧ All2 (LotAt u d x H) vs (stakes g x)
def PlaysAt (g : Nat) (u d : Int) (H : Hp) (p : Addr) : Prop := ∃ vs, H p = some (.tup vs) ∧ All2 (RowAt g u d H) vs (List.range (g + 1))
/-- the chances within k plays -/
def cf (g : Nat) (u d : Int) (k : Nat) : List Int := (List.range (g + 1)).map fun x : Nat => bW g u d k x
def rts (D : Int) (cs : List Int) : List Rat2 := cs.map fun c => rt c D
def vf (g : Nat) (u d : Int) (k : Nat) : List Rat2 := rts ((u + d) ^ k) (cf g u d k)
def bf (g : Nat) (pp lp : Addr) : List (Str × V) := putF "plays" (.ref lp) (putF "pays" (.ref pp) (putF "size" (.int ((g + 1 : Nat) : Int)) []))
def BoardAt (C : Addr) (g : Nat) (u d : Int) (H : Hp) (b : Addr) : Prop := ∃ dx pp lp, H b = some (.ins C dx (bf g pp lp)) ∧ FunAt H pp (vf g u d 0) ∧ PlaysAt g u d H lp
section
variable {H H' : Hp} {v : V} {p : Addr} {g : Nat} {u d x s : Int} {C : Addr}
theorem Kp.tup {xs : List V} (k : Kp H H') (h : H p = some (.tup xs)) : H' p = some (.tup xs) := k p _ h fun _ z => nomatch z
theorem Kp.ins {D dx : Addr} {fs : List (Str × V)} (k : Kp H H') (h : H p = some (.ins D dx fs)) : H' p = some (.ins D dx fs) := k p _ h fun _ z => nomatch z
theorem RatAt.kp {r : Rat2} (k : Kp H H') : RatAt H v r → RatAt H' v r := fun ⟨q, e, h⟩ => ⟨q, e, k.tup h⟩
theorem FunAt.kp {rs : List Rat2} (k : Kp H H') : FunAt H p rs → FunAt H' p rs := fun ⟨vs, h, a⟩ => ⟨vs, k.tup h, a.mono fun _ _ => RatAt.kp k⟩
theorem LotAt.kp (k : Kp H H') : LotAt u d x H v s → LotAt u d x H' v s := fun ⟨l, a, b, e, h1, h2, h3⟩ => ⟨l, a, b, e, k.tup h1, k.tup h2, k.tup h3⟩
theorem RowAt.kp {x : Nat} (k : Kp H H') : RowAt g u d H v x → RowAt g u d H' v x := fun ⟨l, vs, e, h, a⟩ => ⟨l, vs, e, k.tup h, a.mono fun _ _ => LotAt.kp k⟩
theorem PlaysAt.kp (k : Kp H H') : PlaysAt g u d H p → PlaysAt g u d H' p := fun ⟨vs, h, a⟩ => ⟨vs, k.tup h, a.mono fun _ _ => RowAt.kp k⟩
theorem BoardAt.kp (k : Kp H H') : BoardAt C g u d H p → BoardAt C g u d H' p := fun ⟨dx, pp, lp, h, f, l⟩ => ⟨dx, pp, lp, k.ins h, f.kp k, l.kp k⟩
end
theorem cf_get {g : Nat} {u d : Int} {k x : Nat} (h : x ≤ g) : (cf g u d k)[x]? = some (bW g u d k x) := by
  unfold cf
  rw [List.getElem?_map, List.getElem?_range (by omega)]
  rfl
theorem cf_len {g : Nat} {u d : Int} {k : Nat} : (cf g u d k).length = g + 1 := by simp [cf]
theorem rts_get {D : Int} {cs : List Int} {i : Nat} {c : Int} (h : cs[i]? = some c) : (rts D cs)[i]? = some (rt c D) := by
  unfold rts
  rw [List.getElem?_map, h]
  rfl
theorem rts_len {D : Int} {cs : List Int} : (rts D cs).length = cs.length := by simp [rts]
theorem vf_get {g : Nat} {u d : Int} {k x : Nat} (h : x ≤ g) : (vf g u d k)[x]? = some (rt (bW g u d k x) ((u + d) ^ k)) := rts_get (cf_get h)
theorem vf_len {g : Nat} {u d : Int} {k : Nat} : (vf g u d k).length = g + 1 := rts_len.trans cf_len
theorem FunAt.get {H : Hp} {p : Addr} {g : Nat} {u d : Int} {k x : Nat} (F : FunAt H p (vf g u d k)) (h : x ≤ g) : ∃ vs v, H p = some (.tup vs) ∧ vs[x]? = some v ∧ RatAt H v (rt (bW g u d k x) ((u + d) ^ k)) := by
  obtain ⟨vs, h1, a⟩ := F
  obtain ⟨v, h2, r⟩ := a.get (vf_get h)
  exact ⟨vs, v, h1, h2, r⟩
theorem stakes_len (g x : Nat) : (stakes g x).length = min x (g - x) := by simp [stakes]
theorem stakes_get {g x i : Nat} {s : Int} (h : (stakes g x)[i]? = some s) : i < min x (g - x) ∧ s = ((1 + i : Nat) : Int) := by
  unfold stakes at h
  rw [List.getElem?_map] at h
  by_cases hi : i < min x (g - x)
  · rw [List.getElem?_range hi] at h
    exact ⟨hi, (Option.some.inj h).symm⟩
  · rw [List.getElem?_eq_none (by simp; omega)] at h
    cases h
theorem stakes_at {g x i : Nat} (hi : i < min x (g - x)) : (stakes g x)[i]? = some ((1 + i : Nat) : Int) := by
  unfold stakes
  rw [List.getElem?_map, List.getElem?_range hi]
  rfl
theorem sp_size : Str.ofString "plays" ≠ Str.ofString "size" := by decide +kernel
theorem bf_eq (g : Nat) (pp lp : Addr) : bf g pp lp = ([("size", V.int ((g + 1 : Nat) : Int)), ("pays", V.ref pp), ("plays", V.ref lp)] : List (Str × V)) := by
  unfold bf
  have e1 : putF "pays" (.ref pp) (putF "size" (.int ((g + 1 : Nat) : Int)) []) = ([("size", V.int ((g + 1 : Nat) : Int)), ("pays", V.ref pp)] : List (Str × V)) := by
    show (if ("size" : Str) = "pays" then _ else (("size" : Str), V.int ((g + 1 : Nat) : Int)) :: putF "pays" (V.ref pp) []) = _
    rw [if_neg (by decide +kernel)]
    rfl
  rw [e1]
  show (if ("size" : Str) = "plays" then _ else (("size" : Str), V.int ((g + 1 : Nat) : Int)) :: (if ("pays" : Str) = "plays" then _ else (("pays" : Str), V.ref pp) :: putF "plays" (V.ref lp) [])) = _
  rw [if_neg (by decide +kernel), if_neg (by decide +kernel)]
  rfl
theorem bf_size (g : Nat) (pp lp : Addr) : (bf g pp lp).lookup ("size" : Str) = some (.int ((g + 1 : Nat) : Int)) := by
  unfold bf
  rw [lookup_putF, if_neg (by decide +kernel), lookup_putF, if_neg (by decide +kernel), lookup_putF, if_pos rfl]
theorem bf_pays (g : Nat) (pp lp : Addr) : (bf g pp lp).lookup ("pays" : Str) = some (.ref pp) := by
  unfold bf
  rw [lookup_putF, if_neg (by decide +kernel), lookup_putF, if_pos rfl]
theorem bf_plays (g : Nat) (pp lp : Addr) : (bf g pp lp).lookup ("plays" : Str) = some (.ref lp) := by
  unfold bf
  rw [lookup_putF, if_pos rfl]
end Sk
set_option Elab.async false
set_option linter.all false
set_option maxRecDepth 100000
set_option maxHeartbeats 4000000
namespace Sk
open PySem PySem.Spec PyProof.Rows L2 Bk Xr

/-- what the top leaves under names: no def of its own hides the built-ins; the constants -/
structure Tx (K : PySem.W.Frag) (mg : Str → Option Value) : Prop where
  gcd : mg "gcd" = some (.builtin "math.gcd")
  isi : mg "isinstance" = none
  int : mg "int" = none
  bool : mg "bool" = none
  tuple : mg "tuple" = none
  len : mg "len" = none
  sum : mg "sum" = none
  range : mg "range" = none
  enum : mg "enumerate" = none
  min : mg "min" = none
  max : mg "max" = none
  within20 : ∃ t, mg "MOST_PLAYS_within" = some (.int 20 t)
  goal200 : ∃ t, mg "MOST_GOAL" = some (.int 200 t)
  weight99 : ∃ t, mg "MOST_WEIGHT_plainchecks" = some (.int 99 t)
  bold200 : ∃ t, mg "MOST_PLAYS_boldwithin" = some (.int 200 t)
  places40 : ∃ t, mg "MOST_PLACES" = some (.int 40 t)
  plays12 : ∃ t, mg "MOST_PLAYS_boards" = some (.int 12 t)
  pairs8 : ∃ t, mg "MOST_PAIRS" = some (.int 8 t)
  weights : ∃ t, mg "MOST_WEIGHT_boards" = some (.int 99999 t)
  stop : ∃ t, mg "STOP" = some (.int (-1) t)
  laid24 : ∃ t, mg "MOST_LAID" = some (.int 24 t)
  limit : ∃ t i, mg "PAY_LIMIT" = some (.int i t) ∧ 2 ≤ i

section
variable {P : Program} {w : World} {K : PySem.W.Frag} {mg : Str → Option Value} {base : Heap}
/-! ### ratio -/
abbrev sRatio : Stmt := topS 12
theorem scRatio : FnScope ["n", "d", "common"] ["n", "d"] (C8.fnScope sRatio) := ⟨rfl, rfl, rfl, by decide +kernel, rfl, by decide +kernel, by decide +kernel⟩
def spRatio : Sp := fun vs H Q _ => ∃ n d : Int, vs = [.int n, .int d] ∧ 0 < d ∧ d.natAbs < 2 ^ 250 ∧ ∀ H' v, Same H H' → RatAt H' v (rt n d) → Q v H'
theorem c_ratio {f : Addr} {fd : FuncData} (F : C8.Def K mg "ratio" sRatio f fd) (b : Binds K fd ["n", "d"] []) (T : Tx K mg) : C8.Cal P w K mg base 1 "ratio" spRatio [] := by
  refine C8.cal0 F b .nil scRatio (fun vs H Q E h => ?_) (fun cdv A outer s H vs Q E hr h => ?_)
  · obtain ⟨n, d, rfl, _⟩ := h
    rfl
  · obtain ⟨n, d, rfl, hd, hb, q⟩ := h
    refine ⟨_, pss_cons (ps_if (pt_cmpR op_eq (pv 1) pe_int (nomark _)) (pss_one ps_never) pss_nil)
      (pss_cons (ps_set (i := 2) scRatio.nd rfl (.inl rfl) (pe_callBfun cr_gcd (by rfl) T.gcd (pa_cons (pv 0) (pa_cons (pv 1) pa_nil))))
      (pss_cons (ps_if (pt_cmpR op_lt (pv 1) pe_int (nomark _)) (pss_one ps_never) pss_nil)
      (pss_one (ps_ret (pe_tup (pa_cons (pe_op op_fdivW (pv 0) (pv 2)) (pa_cons (pe_op op_fdivW (pv 1) (pv 2)) pa_nil))))))), ?_⟩
    refine ⟨.int d, rfl, rfl, _, rfl, ite2 (fun e => ?_) (fun _ => ?_)⟩
    · have z : d = 0 := V.int.inj (of_decide_eq_true e)
      omega
    refine ⟨.int n, rfl, .int d, rfl, n, d, rfl, ?_⟩
    refine ⟨.int d, rfl, d, 0, rfl, rfl, _, rfl, ite2 (fun e => ?_) (fun _ => ?_)⟩
    · have z : d < 0 := of_decide_eq_true e
      omega
    have g0 := gc_pos (n := n) hd
    have g1 := gc_le (n := n) hd
    have gB : CDivW n (gc n d) := wide_div g0 (b := 250) (wide_le (by omega) g1 hb) (by decide) (by decide)
    have gB2 : CDivW d (gc n d) := wide_div g0 (b := 250) (wide_le (by omega) g1 hb) (by decide) (by decide)
    refine ⟨.int n, rfl, .int (gc n d), rfl, n, gc n d, rfl, rfl, gB, .int d, rfl, .int (gc n d), rfl, d, gc n d, rfl, rfl, gB2, (by show 2 ≤ sizeLine; decide), fun p hp => ?_⟩
    exact q _ _ (Same.new hp) ⟨p, rfl, upd_same⟩

/-! ### less -/
abbrev sLess : Stmt := topS 13
theorem scLess : FnScope ["a", "b"] ["a", "b"] (C8.fnScope sLess) := ⟨rfl, rfl, rfl, by decide +kernel, rfl, by decide +kernel, by decide +kernel⟩
def spLess : Sp := fun vs H Q _ => ∃ (a b : V) (r s : Rat2), vs = [a, b] ∧ RatAt H a r ∧ RatAt H b s ∧ (Sm r.1 ∧ Sm r.2) ∧ (Sm s.1 ∧ Sm s.2) ∧ Q (.bl (decide (r.1 * s.2 < s.1 * r.2))) H
theorem c_less {f : Addr} {fd : FuncData} (F : C8.Def K mg "less" sLess f fd) (b : Binds K fd ["a", "b"] []) : C8.Cal P w K mg base 1 "less" spLess [] := by
  refine C8.cal0 F b .nil scLess (fun vs H Q E h => ?_) (fun cdv A outer s H vs Q E hr h => ?_)
  · obtain ⟨a, b, r, s, rfl, _⟩ := h
    rfl
  · obtain ⟨_, _, r, s, rfl, ⟨a, rfl, ha⟩, ⟨b, rfl, hb⟩, ⟨r1, r2⟩, ⟨s1, s2⟩, q⟩ := h
    refine ⟨_, pss_one (ps_ret (pe_cmpR op_lt (pe_op op_mulW (pe_ix ix_tup (pv 0) pe_int (fun _ _ => rfl)) (pe_ix ix_tup (pv 1) pe_int (fun _ _ => rfl)))
      (pe_op op_mulW (pe_ix ix_tup (pv 1) pe_int (fun _ _ => rfl)) (pe_ix ix_tup (pv 0) pe_int (fun _ _ => rfl))) (nomark _))), ?_⟩
    refine ⟨_, rfl, a, _, 0, .int r.1, rfl, rfl, SqT.of ha, atI_nat (j := 0) rfl, _, rfl, b, _, 1, .int s.2, rfl, rfl, SqT.of hb, atI_nat (j := 1) rfl, r.1, s.2, rfl, rfl, mulW r1 s2,
      _, rfl, b, _, 0, .int s.1, rfl, rfl, SqT.of hb, atI_nat (j := 0) rfl, _, rfl, a, _, 1, .int r.2, rfl, rfl, SqT.of ha, atI_nat (j := 1) rfl, s.1, r.2, rfl, rfl, mulW s1 r2, _, _, rfl, rfl, q⟩

/-! ### greatest -/
abbrev sGreatest : Stmt := topS 14
theorem scGreatest : FnScope ["row", "found", "part"] ["row"] (C8.fnScope sGreatest) := ⟨rfl, rfl, rfl, by decide +kernel, rfl, by decide +kernel, by decide +kernel⟩
/-- m is the greatest of cs; all with the denominator D -/
def spGreatest : Sp := fun vs H Q _ => ∃ (p : Addr) (cs : List Int) (D m : Int), vs = [.ref p] ∧ FunAt H p (rts D cs) ∧ 0 < D ∧ D < 2 ^ 100 ∧ (∀ c ∈ cs, 0 ≤ c ∧ c ≤ D) ∧ m ∈ cs ∧ (∀ c ∈ cs, c ≤ m) ∧ ∀ v, RatAt H v (rt m D) → Q v H
theorem c_greatest {f : Addr} {fd : FuncData} (F : C8.Def K mg "greatest" sGreatest f fd) (b : Binds K fd ["row"] []) (cL : C8.Cal P w K mg base 1 "less" spLess []) : C8.Cal P w K mg base 2 "greatest" spGreatest [] := by
  refine C8.cal0 F b .nil scGreatest (fun vs H Q E h => ?_) (fun cdv A outer s H vs Q E hr h => ?_)
  · obtain ⟨p, cs, D, m, rfl, _⟩ := h
    rfl
  · obtain ⟨p, cs, D, m, rfl, ⟨ws, hp, hA⟩, hD, hD2, hc, hm, hmx, q⟩ := h
    have sm : ∀ c ∈ cs, Sm (rt c D).1 ∧ Sm (rt c D).2 := fun c h => rt_sm (hc c h).1 (hc c h).2 hD hD2
    obtain ⟨c0, e0⟩ : ∃ c0, cs[0]? = some c0 := by
      cases cs with
      | nil => cases hm
      | cons c r => exact ⟨c, rfl⟩
    obtain ⟨v0, h0, r0⟩ := hA.get (rts_get (D := D) e0)
    have wl : ws.length = cs.length := hA.1.trans rts_len
    refine ⟨_, pss_cons (ps_set (i := 1) scGreatest.nd rfl (.inl rfl) (pe_ix ix_tup (pv 0) pe_int (fun _ _ => rfl)))
      (pss_cons (ps_for PassesOwn.never rfl (pi_tup (pv 0)) (pg_name (i := 2) scGreatest.nd rfl (.inl rfl))
        (pss_one (ps_if (pt_val (C8.pe_c cL hr (by decide) (by rfl) (pa_cons (pv 1) (pa_cons (pv 2) pa_nil)))) (pss_one (ps_set (i := 1) scGreatest.nd rfl (.inl rfl) (pv 2))) pss_nil)))
      (pss_one (ps_ret (pv 1)))), ?_⟩
    refine ⟨_, rfl, p, _, 0, v0, rfl, rfl, SqT.of hp, atI_nat (j := 0) h0, ?_⟩
    refine ⟨_, rfl, p, rfl, ⟨_, SqT.of hp⟩, for_it (walk_tup (xs := ws)) (fun i σ H' => H' = H ∧ ∃ y v c, σ = [some (.ref p), some v, y] ∧ c ∈ cs ∧ RatAt H v (rt c D) ∧ ∀ j c', j < i → cs[j]? = some c' → c' ≤ c)
      ⟨rfl, none, v0, c0, rfl, List.mem_of_getElem? e0, r0, fun j c' hj => absurd hj (Nat.not_lt_zero _)⟩ (fun i σ H' _ h => by rw [h.1]; exact SqT.of hp) ?_ ?_⟩
    · rintro i x σ H1 H2 hi ⟨rfl, y, v, c, rfl, hcc, hr1, hle⟩ ⟨rfl, hx⟩
      obtain ⟨ci, hci⟩ : ∃ ci, cs[i]? = some ci := ⟨cs[i]'(by omega), List.getElem?_eq_getElem (by omega)⟩
      have hr2 : RatAt H2 x (rt ci D) := hA.2 i x _ hx (rts_get hci)
      have hcim : ci ∈ cs := List.mem_of_getElem? hci
      refine ⟨v, rfl, x, rfl, v, x, rt c D, rt ci D, rfl, hr1, hr2, sm c hcc, sm ci hcim, _, rfl, ite2 (fun e => ?_) (fun e => ?_)⟩
      · have lt : c < ci := (rt_lt hD).mp (of_decide_eq_true e)
        refine ⟨x, rfl, rfl, some x, x, ci, rfl, hcim, hr2, fun j c' hj hc' => ?_⟩
        by_cases q : j < i
        · have := hle j c' q hc'
          omega
        · have e : j = i := by omega
          subst e
          have := Option.some.inj (hc'.symm.trans hci)
          omega
      · have nlt : ¬ c < ci := fun z => e (decide_eq_true ((rt_lt hD).mpr z))
        refine ⟨rfl, some x, v, c, rfl, hcc, hr1, fun j c' hj hc' => ?_⟩
        by_cases q : j < i
        · exact hle j c' q hc'
        · have e : j = i := by omega
          subst e
          have := Option.some.inj (hc'.symm.trans hci)
          omega
    · rintro σ H1 ⟨rfl, y, v, c, rfl, hcc, hr1, hle⟩
      have e : c = m := by
        have a := hmx c hcc
        obtain ⟨j, hj⟩ := List.mem_iff_getElem?.mp hm
        have b := hle j m (by
          obtain ⟨z, _⟩ := List.getElem?_eq_some_iff.mp hj
          omega) hj
        omega
      subst e
      exact ⟨v, rfl, q v hr1⟩
end
end Sk
set_option Elab.async false
set_option linter.all false
set_option maxRecDepth 100000
set_option maxHeartbeats 4000000
namespace Sk
open PySem PySem.Spec PyProof.Rows L2 Bk Xr
section
variable {P : Program} {w : World} {K : PySem.W.Frag} {mg : Str → Option Value} {base : Heap}
/-! ### weight_of -/
abbrev sWeight : Stmt := topS 18
theorem scWeight : FnScope ["lottery", "place", "weight"] ["lottery"] (C8.fnScope sWeight) := ⟨rfl, rfl, rfl, by decide +kernel, rfl, by decide +kernel, by decide +kernel⟩
def spWeight : Sp := fun vs H Q _ => ∃ (l : V) (u d x s : Int), vs = [l] ∧ LotAt u d x H l s ∧ ∀ H', Same H H' → Q (.int (d + u)) H'
theorem c_weight {f : Addr} {fd : FuncData} (F : C8.Def K mg "weight_of" sWeight f fd) (b : Binds K fd ["lottery"] []) (T : Tx K mg) : C8.Cal P w K mg base 1 "weight_of" spWeight [] := by
  refine C8.cal0 F b .nil scWeight (fun vs H Q E h => ?_) (fun cdv A outer s H vs Q E hr h => ?_)
  · obtain ⟨l, u, d, x, s, rfl, _⟩ := h
    rfl
  · obtain ⟨_, u, d, x, s, rfl, ⟨l, a, b, rfl, hl, ha, hb⟩, q⟩ := h
    refine ⟨_, pss_one (ps_ret (pe_callB (cr_sum rfl) (by rfl) T.sum (by decide +kernel) (pa_cons (pe_lc (own := [("place", 1), ("weight", 2)]) (g := gTup K 2 (gCons (gName 1) (gCons (gName 2) gNil))) (by rfl) scWeight.nd (pi_tup (pv 0))
      (blkOk_by (N := ["lottery", "place", "weight"]) (sc := C8.fnScope sWeight) (by decide +kernel))
      (fun _ _ _ _ _ => pg_tup rfl (pgs_cons (pg_name (i := 1) scWeight.nd rfl (Or.inl rfl)) (pgs_cons (pg_name (i := 2) scWeight.nd rfl (Or.inl rfl)) pgs_nil))) (fun _ _ _ _ _ => pts_nil) (fun _ _ _ _ _ => pv 2)) pa_nil))), ?_⟩
    refine ⟨_, rfl, l, rfl, ⟨_, SqT.of hl⟩, fun D hD => lc_it (walk_tup (xs := [V.ref a, V.ref b])) (fun i H' => Same H H' ∧ H' D = some (.lst (([.int d, .int u] : List V).take i)))
      ⟨Same.new hD, upd_same⟩ (fun i H' _ h => SqT.of (h.1 _ _ hl)) ?_ ?_⟩
    · rintro i y H1 H2 hi ⟨s1, eD⟩ ⟨rfl, hy⟩
      match i, hi with
      | 0, _ =>
        cases Option.some.inj (show some (V.ref a) = some y from hy)
        refine ⟨a, [.int (x - s), .int d], rfl, SqT.of (s1 _ _ ha), rfl, .int (x - s), [.int d], rfl, .int d, [], rfl, rfl, rfl, .int d, rfl, _, eD, (by show 0 < sizeLine; decide), Same.on s1 hD, upd_same⟩
      | 1, _ =>
        cases Option.some.inj (show some (V.ref b) = some y from hy)
        refine ⟨b, [.int (x + s), .int u], rfl, SqT.of (s1 _ _ hb), rfl, .int (x + s), [.int u], rfl, .int u, [], rfl, rfl, rfl, .int u, rfl, _, eD, (by show 1 < sizeLine; decide), Same.on s1 hD, upd_same⟩
    · rintro H1 ⟨s1, eD⟩
      refine ⟨D, [d, u], rfl, SqL.of eD, ?_⟩
      have e : ([d, u] : List Int).sum = d + u := by simp
      rw [e]
      exact q H1 s1

/-! ### average -/
abbrev sAverage : Stmt := topS 19
theorem scAverage : FnScope ["f", "lottery", "n", "d", "place", "weight", "part"] ["f", "lottery"] (C8.fnScope sAverage) := ⟨rfl, rfl, rfl, by decide +kernel, rfl, by decide +kernel, by decide +kernel⟩
def spAverage : Sp := fun vs H Q _ => ∃ (f : Addr) (l : V) (g : Nat) (u d : Int) (k x s : Nat), vs = [.ref f, l] ∧ Par g u d ∧ k ≤ 12 ∧ s ≤ x ∧ x + s ≤ g ∧ LotAt u d x H l s ∧ FunAt H f (vf g u d k) ∧
  ∀ H' v, Same H H' → RatAt H' v (rt (d * bW g u d k (x - s) + u * bW g u d k (x + s)) ((u + d) ^ (k + 1))) → Q v H'
def avN (d u a1 b1 a2 b2 : Int) : Nat → Int × Int
  | 0 => (0, 1)
  | 1 => (d * a1, b1)
  | _ => (d * a1 * b2 + u * a2 * b1, b1 * b2)
theorem c_average {f : Addr} {fd : FuncData} (F : C8.Def K mg "average" sAverage f fd) (b : Binds K fd ["f", "lottery"] []) (cR : C8.Cal P w K mg base 1 "ratio" spRatio []) (cW : C8.Cal P w K mg base 1 "weight_of" spWeight []) :
    C8.Cal P w K mg base 2 "average" spAverage [] := by
  refine C8.cal0 F b .nil scAverage (fun vs H Q E h => ?_) (fun cdv A outer s0 H vs Q E hr h => ?_)
  · obtain ⟨f, l, g, u, d, k, x, s, rfl, _⟩ := h
    rfl
  · obtain ⟨f, lv, g, u, d, k, x, s, rfl, hP, hk, hsx, hxs, hL, hF, q⟩ := h
    obtain ⟨l, a, b, rfl, hl, ha, hb⟩ := id hL
    obtain ⟨p1, hp1⟩ : ∃ p1 : Nat, (p1 : Int) = (x : Int) - s := ⟨x - s, by omega⟩
    obtain ⟨p2, hp2⟩ : ∃ p2 : Nat, (p2 : Int) = (x : Int) + s := ⟨x + s, by omega⟩
    obtain ⟨fs, v1, hf, hv1, q1, rfl, r1⟩ := hF.get (x := p1) (by omega)
    obtain ⟨fs', v2, hf', hv2, q2, rfl, r2⟩ := hF.get (x := p2) (by omega)
    cases Option.some.inj (hf.symm.trans hf')
    rw [hp1] at r1
    rw [hp2] at r2
    have hS := hP.sp k
    have hS2 := hP.sz (k := k) (by omega)
    have u0 := hP.up
    have d0 := hP.dp
    have nn := bW_nonneg (g := g) u0 d0 k
    have le := bW_le (g := g) u0 d0 k
    obtain ⟨A1, B1⟩ := rt_sm (nn (x - s)) (le _) hS hS2
    obtain ⟨A2, B2⟩ := rt_sm (nn (x + s)) (le _) hS hS2
    have P1 := rt_pos (n := bW g u d k (x - s)) hS
    have P2 := rt_pos (n := bW g u d k (x + s)) hS
    have hfin := rt_avg (n := bW g u d k (x - s)) (n' := bW g u d k (x + s)) (w := d) (w' := u) hS (by omega)
    generalize (rt (bW g u d k (x - s)) ((u + d) ^ k)).1 = a1 at A1 B1 P1 r1 hfin
    generalize (rt (bW g u d k (x - s)) ((u + d) ^ k)).2 = b1 at A1 B1 P1 r1 hfin
    generalize (rt (bW g u d k (x + s)) ((u + d) ^ k)).1 = a2 at A2 B2 P2 r2 hfin
    generalize (rt (bW g u d k (x + s)) ((u + d) ^ k)).2 = b2 at A2 B2 P2 r2 hfin
    have dB : d.natAbs < 2 ^ 8 := by have := hP.d99; show _ < 256; omega
    have uB : u.natAbs < 2 ^ 8 := by have := hP.d99; have := hP.ud; show _ < 256; omega
    have oB : (1 : Int).natAbs < 2 ^ 8 := by decide
    have zB : (0 : Int).natAbs < 2 ^ 8 := by decide
    refine ⟨_, pss_cons (ps_asg (pe_tup (pa_cons pe_int (pa_cons pe_int pa_nil))) (pg_tup rfl (pgs_cons (pg_name (i := 2) scAverage.nd rfl (.inl rfl)) (pgs_cons (pg_name (i := 3) scAverage.nd rfl (.inl rfl)) pgs_nil))))
      (pss_cons (ps_for PassesOwn.never rfl (pi_tup (pv 1)) (pg_tup rfl (pgs_cons (pg_name (i := 4) scAverage.nd rfl (.inl rfl)) (pgs_cons (pg_name (i := 5) scAverage.nd rfl (.inl rfl)) pgs_nil)))
        (pss_cons (ps_set (i := 6) scAverage.nd rfl (.inl rfl) (pe_ix ix_tup (pv 0) (pv 4) (fun _ _ => rfl)))
        (pss_one (ps_par (i := 2) (j := 3) (by rfl) scAverage.nd rfl rfl (by decide) rfl rfl (pa_cons
          (pe_op op_add (pe_op op_mulW (pv 2) (pe_ix ix_tup (pv 6) pe_int (fun _ _ => rfl))) (pe_op op_mulW (pe_op op_mulW (pv 5) (pe_ix ix_tup (pv 6) pe_int (fun _ _ => rfl))) (pv 3)))
          (pa_cons (pe_op op_mulW (pv 3) (pe_ix ix_tup (pv 6) pe_int (fun _ _ => rfl))) pa_nil)) (by rfl)))))
      (pss_one (ps_ret (C8.pe_c cR hr (by decide) (by rfl) (pa_cons (pv 2) (pa_cons (pe_op op_mulW (pv 3) (C8.pe_c cW hr (by decide) (by rfl) (pa_cons (pv 1) pa_nil))) pa_nil)))))), ?_⟩
    refine ⟨(by show 2 ≤ sizeLine; decide), fun t ht => ⟨t, _, rfl, SqT.of upd_same, rfl, .int 0, [.int 1], rfl, .int 1, [], rfl, rfl, ?_⟩⟩
    have sT : Same H (upd H t (.tup [.int 0, .int 1])) := Same.new ht
    generalize upd H t (.tup [.int 0, .int 1]) = Ht at sT
    refine ⟨_, rfl, l, rfl, ⟨_, SqT.of (sT _ _ hl)⟩, for_it (walk_tup (xs := [V.ref a, V.ref b])) (fun i σ H' => H' = Ht ∧ ∃ n' d' y4 y5 y6, σ = [some (.ref f), some (.ref l), some (.int n'), some (.int d'), y4, y5, y6] ∧ (n', d') = avN d u a1 b1 a2 b2 i)
      ⟨rfl, 0, 1, none, none, none, rfl, rfl⟩ (fun i σ H' _ h => by rw [h.1]; exact SqT.of (sT _ _ hl)) ?_ ?_⟩
    · rintro i y σ H1 H2 hi ⟨rfl, n', d', y4, y5, y6, rfl, hnd⟩ ⟨rfl, hy⟩
      match i, hi with
      | 0, _ =>
        cases Option.some.inj (show some (V.ref a) = some y from hy)
        obtain ⟨rfl, rfl⟩ := Prod.mk.inj (show (n', d') = (0, 1) from hnd)
        refine ⟨a, [.int (x - s), .int d], rfl, SqT.of (sT _ _ ha), rfl, .int (x - s), [.int d], rfl, .int d, [], rfl, rfl, ?_⟩
        refine ⟨_, rfl, _, rfl, f, _, _, .ref q1, rfl, rfl, SqT.of (sT _ _ hf), (by rw [← hp1]; exact atI_nat hv1), ?_⟩
        have hq1 : H2 q1 = some (.tup [.int a1, .int b1]) := sT _ _ r1
        refine ⟨.int 0, rfl, _, rfl, q1, _, 1, .int b1, rfl, rfl, SqT.of hq1, atI_nat (j := 1) rfl, 0, b1, rfl, rfl, mulW zB B1,
          .int d, rfl, _, rfl, q1, _, 0, .int a1, rfl, rfl, SqT.of hq1, atI_nat (j := 0) rfl, d, a1, rfl, rfl, mulW dB A1, .int 1, rfl, d * a1, 1, rfl, rfl, mulW (mulB dB A1) oB, _, _, rfl, rfl,
          .int 1, rfl, _, rfl, q1, _, 1, .int b1, rfl, rfl, SqT.of hq1, atI_nat (j := 1) rfl, 1, b1, rfl, rfl, mulW oB B1, _, _, rfl, ?_⟩
        exact ⟨rfl, 0 * b1 + d * a1 * 1, 1 * b1, _, _, _, rfl, by rw [Int.zero_mul, Int.zero_add, Int.mul_one, Int.one_mul]; rfl⟩
      | 1, _ =>
        cases Option.some.inj (show some (V.ref b) = some y from hy)
        obtain ⟨e1, e2⟩ := Prod.mk.inj (show (d * a1, b1) = (n', d') from hnd.symm)
        subst e1
        subst e2
        refine ⟨b, [.int (x + s), .int u], rfl, SqT.of (sT _ _ hb), rfl, .int (x + s), [.int u], rfl, .int u, [], rfl, rfl, ?_⟩
        refine ⟨_, rfl, _, rfl, f, _, _, .ref q2, rfl, rfl, SqT.of (sT _ _ hf), (by rw [← hp2]; exact atI_nat hv2), ?_⟩
        have hq2 : H2 q2 = some (.tup [.int a2, .int b2]) := sT _ _ r2
        refine ⟨.int (d * a1), rfl, _, rfl, q2, _, 1, .int b2, rfl, rfl, SqT.of hq2, atI_nat (j := 1) rfl, d * a1, b2, rfl, rfl, mulW (mulB dB A1) B2,
          .int u, rfl, _, rfl, q2, _, 0, .int a2, rfl, rfl, SqT.of hq2, atI_nat (j := 0) rfl, u, a2, rfl, rfl, mulW uB A2, .int b1, rfl, u * a2, b1, rfl, rfl, mulW (mulB uB A2) B1, _, _, rfl, rfl,
          .int b1, rfl, _, rfl, q2, _, 1, .int b2, rfl, rfl, SqT.of hq2, atI_nat (j := 1) rfl, b1, b2, rfl, rfl, mulW B1 B2, _, _, rfl, ?_⟩
        exact ⟨rfl, _, _, _, _, _, rfl, rfl⟩
    · rintro σ H1 ⟨rfl, n', d', y4, y5, y6, rfl, hnd⟩
      obtain ⟨e1, e2⟩ := Prod.mk.inj (show (d * a1 * b2 + u * a2 * b1, b1 * b2) = (n', d') from hnd.symm)
      subst e1
      subst e2
      refine ⟨.int _, rfl, .int _, rfl, .ref l, rfl, .ref l, u, d, x, s, rfl, hL.kp (.of sT), fun H2 s2 => ?_⟩
      have bb : 0 < b1 * b2 := Int.mul_pos P1 P2
      have duB : (d + u).natAbs < 2 ^ 8 := by have := hP.d99; have := hP.ud; show _ < 256; omega
      refine ⟨b1 * b2, d + u, rfl, rfl, mulW (mulB B1 B2) duB, d * a1 * b2 + u * a2 * b1, b1 * b2 * (d + u), rfl, Int.mul_pos bb (by omega), upB (mulB (mulB B1 B2) duB) (by decide), fun H3 v s3 hv => ?_⟩
      rw [hfin, show (u + d) ^ k * (d + u) = (u + d) ^ (k + 1) by rw [Int.pow_succ, Int.add_comm d u]] at hv
      exact q H3 v ((sT.trans s2).trans s3) hv
end
end Sk
set_option Elab.async false
set_option linter.all false
set_option maxRecDepth 100000
set_option maxHeartbeats 4000000
namespace Sk
open PySem PySem.Spec PyProof.Rows L2 Bk Xr
/-! ### the amounts of the choices at a purse, times (u + d) ^ (k + 1) -/
def am (g : Nat) (u d : Int) (k x : Nat) : List Int := (if x = g then (u + d) ^ (k + 1) else 0) :: (stakes g x).map fun s => d * bW g u d k (x - s) + u * bW g u d k (x + s)
theorem mem_stakes {g x : Nat} {s : Int} (hx : x ≤ g) (h : s ∈ stakes g x) : 1 ≤ s ∧ s ≤ x ∧ s ≤ g - x := by
  obtain ⟨i, hi⟩ := List.mem_iff_getElem?.mp h
  obtain ⟨a, rfl⟩ := stakes_get hi
  omega
theorem stakes_mem {g x : Nat} {s : Int} (hx : x ≤ g) (h0 : 1 ≤ s) (h1 : s ≤ x) (h2 : s ≤ g - x) : s ∈ stakes g x := by
  refine List.mem_of_getElem? (i := (s - 1).toNat) ?_
  rw [stakes_at (by omega)]
  exact congrArg some (by omega)
theorem am_max {g : Nat} {u d : Int} (P : Par g u d) (k : Nat) {x : Nat} (hx : x ≤ g) : ∀ c ∈ am g u d k x, 0 ≤ c ∧ c ≤ bW g u d (k + 1) x := by
  intro c hc
  have nn := bW_nonneg (g := g) P.up P.dp
  rcases List.mem_cons.mp hc with rfl | hc
  · split
    · rename_i e
      subst e
      rw [bW_goal P.gp]
      exact ⟨Int.le_of_lt (P.sp _), Int.le_refl _⟩
    · exact ⟨Int.le_refl _, nn _ _⟩
  · obtain ⟨s, hs, rfl⟩ := List.mem_map.mp hc
    obtain ⟨a, b, e⟩ := mem_stakes hx hs
    have h := bold_best (g := g) P.gp P.up P.ud k x s (by omega) b e
    refine ⟨?_, by omega⟩
    exact Int.add_nonneg (Int.mul_nonneg (Int.le_of_lt P.dp) (nn _ _)) (Int.mul_nonneg (Int.le_of_lt P.up) (nn _ _))
theorem am_mem {g : Nat} {u d : Int} (P : Par g u d) (k : Nat) {x : Nat} (hx : x ≤ g) : bW g u d (k + 1) x ∈ am g u d k x := by
  by_cases h0 : x = 0
  · subst h0
    have e : bW g u d (k + 1) ((0 : Nat) : Int) = 0 := bW_zero P.gp (k + 1)
    rw [e]
    unfold am
    rw [if_neg (by have := P.g1; omega)]
    exact List.mem_cons_self
  · by_cases h1 : x = g
    · subst h1
      rw [bW_goal P.gp]
      unfold am
      rw [if_pos rfl]
      exact List.mem_cons_self
    · refine List.mem_cons_of_mem _ (List.mem_map.mpr ?_)
      obtain ⟨a, b⟩ := bold_is (g := g) (u := u) (d := d) P.gp k x
      by_cases h : 2 * (x : Int) ≤ g
      · refine ⟨x, stakes_mem hx (by omega) (by omega) (by omega), ?_⟩
        have := a h
        omega
      · refine ⟨g - x, stakes_mem hx (by omega) (by omega) (by omega), ?_⟩
        have := b h
        omega
theorem am_pay {g : Nat} {u d : Int} (P : Par g u d) (k x : Nat) : rt (bW g u d 0 x) ((u + d) ^ 0) = rt (if x = g then (u + d) ^ (k + 1) else 0) ((u + d) ^ (k + 1)) := by
  simp only [bW]
  rw [Int.pow_zero]
  by_cases h : x = g
  · rw [if_pos h, if_pos (by omega), rt_one (P.sp _), rt_one (by omega)]
  · rw [if_neg h, if_neg (by omega), rt_zero (P.sp _), rt_zero (by omega)]
theorem am_len (g : Nat) (u d : Int) (k x : Nat) : (am g u d k x).length = min x (g - x) + 1 := by simp [am, stakes_len]
theorem atI_neg1 {xs : List V} {v : V} (h : xs[xs.length - 1]? = some v) : atI xs (-1) = some v := by
  obtain ⟨hl, e⟩ := List.getElem?_eq_some_iff.mp h
  have hne : xs ≠ [] := fun z => by rw [z] at hl; simp at hl
  have e2 : xs.dropLast ++ [v] = xs := by
    rw [← e, ← List.getLast_eq_getElem hne]
    exact List.dropLast_concat_getLast hne
  rw [← e2]
  exact atI_last _ _

/-- what the class of boards is asked for -/
structure Bx (K : PySem.W.Frag) (C : Addr) : Prop where
  cl : Cls K C
  nS : NoAttr K C "size"
  nP : NoAttr K C "pays"
  nL : NoAttr K C "plays"

section
variable {P : Program} {w : World} {K : PySem.W.Frag} {mg : Str → Option Value} {base : Heap}
/-! ### clock_amounts -/
abbrev sAmounts : Stmt := topS 22
theorem scAmounts : FnScope ["board", "f", "x", "lottery"] ["board", "f", "x"] (C8.fnScope sAmounts) := ⟨rfl, rfl, rfl, by decide +kernel, rfl, by decide +kernel, by decide +kernel⟩
def spAmounts (C : Addr) : Sp := fun vs H Q _ => ∃ (b f : Addr) (g : Nat) (u d : Int) (k x : Nat), vs = [.ref b, .ref f, .int x] ∧ Par g u d ∧ k ≤ 12 ∧ x ≤ g ∧ BoardAt C g u d H b ∧ FunAt H f (vf g u d k) ∧
  ∀ H' p ws, Same H H' → H p = none → H' p = some (.lst ws) → All2 (RatAt H') ws (rts ((u + d) ^ (k + 1)) (am g u d k x)) → Q (.ref p) H'
theorem c_amounts {f C : Addr} {fd : FuncData} (F : C8.Def K mg "clock_amounts" sAmounts f fd) (b : Binds K fd ["board", "f", "x"] []) (B : Bx K C) (cA : C8.Cal P w K mg base 2 "average" spAverage []) :
    C8.Cal P w K mg base 3 "clock_amounts" (spAmounts C) [] := by
  refine C8.cal0 F b .nil scAmounts (fun vs H Q E h => ?_) (fun cdv A outer s0 H vs Q E hr h => ?_)
  · obtain ⟨b, f, g, u, d, k, x, rfl, _⟩ := h
    rfl
  · obtain ⟨b, f, g, u, d, k, x, rfl, hP, hk, hx, hB, hF, q⟩ := h
    obtain ⟨dx, pp, lp, hb, hpays, ⟨rows, hlp, hrows⟩⟩ := id hB
    obtain ⟨ps, v0, hps, hv0, r0⟩ := hpays.get hx
    obtain ⟨rv, hrv, ⟨lx, lots, rfl, hlx, hlots⟩⟩ := hrows.get (i := x) (r := x) (by rw [List.getElem?_range (by omega)])
    have lotl : lots.length = min x (g - x) := hlots.1.trans (stakes_len g x)
    refine ⟨_, pss_one (ps_ret (pe_op op_cat (pe_lst (pa_cons (pe_ix ix_tup (pe_fld (pv 0) rfl) (pv 2) (fun _ _ => rfl)) pa_nil))
      (pe_lc (own := [("lottery", 3)]) (g := gName 3) (by rfl) scAmounts.nd (pi_tup (pe_ix ix_tup (pe_fld (pv 0) rfl) (pv 2) (fun _ _ => rfl)))
        (blkOk_by (own := [("lottery", 3)]) (N := ["board", "f", "x", "lottery"]) (sc := C8.fnScope sAmounts) (by decide +kernel))
        (fun _ _ _ _ _ => pg_name (i := 3) scAmounts.nd rfl (Or.inl rfl)) (fun _ _ _ _ _ => pts_nil)
        (fun _ _ _ _ _ => C8.pe_c cA hr (by decide) (by rfl) (pa_cons (pv 1) (pa_cons (pv 3) pa_nil)))))), ?_⟩
    refine ⟨_, rfl, b, C, dx, _, .ref pp, rfl, hb, B.cl, B.nP, bf_pays _ _ _, _, rfl, pp, _, x, v0, rfl, rfl, SqT.of hps, atI_nat hv0, (by show 1 ≤ sizeLine; decide), fun l1 h1 => ?_⟩
    have sA : Same H (upd H l1 (.lst [v0])) := Same.new h1
    have eA : (upd H l1 (.lst [v0])) l1 = some (.lst [v0]) := upd_same
    generalize upd H l1 (.lst [v0]) = H1 at sA eA
    refine ⟨_, rfl, b, C, dx, _, .ref lp, rfl, sA _ _ hb, B.cl, B.nL, bf_plays _ _ _, _, rfl, lp, _, x, .ref lx, rfl, rfl, SqT.of (sA _ _ hlp), atI_nat hrv, lx, rfl, ⟨_, SqT.of (sA _ _ hlx)⟩, fun D hD => ?_⟩
    refine lc_it (walk_tup (xs := lots)) (fun i H' => Same H1 H' ∧ ∃ acc, H' D = some (.lst acc) ∧ acc.length = i ∧ All2 (RatAt H') acc (rts ((u + d) ^ (k + 1)) (((stakes g x).map fun s => d * bW g u d k (x - s) + u * bW g u d k (x + s)).take i)))
      ⟨Same.new hD, [], upd_same, rfl, All2.nil⟩ (fun i H' _ h => SqT.of (h.1 _ _ (sA _ _ hlx))) ?_ ?_
    · rintro i y H2 H3 hi ⟨s1, acc, eD, hal, hacc⟩ ⟨rfl, hy⟩
      obtain ⟨si, hsi, hlot⟩ := hlots.at hy
      obtain ⟨hi2, esi⟩ := stakes_get hsi
      subst esi
      have s02 : Same H H3 := sA.trans s1
      refine ⟨rfl, .ref f, rfl, y, rfl, f, y, g, u, d, k, x, 1 + i, rfl, hP, hk, by omega, by omega, hlot.kp (.of s02), hF.kp (.of s02), fun H4 v s3 hv => ?_⟩
      refine ⟨acc, s3 _ _ eD, Nat.lt_of_lt_of_le (show acc.length < 1000 by have := hP.g24; omega) (by decide), Same.on (s1.trans s3) hD, acc ++ [v], upd_same, by simp [hal], ?_⟩
      have kk : Kp H4 (upd H4 D (.lst (acc ++ [v]))) := Kp.lst (s3 _ _ eD)
      rw [List.take_add_one]
      have e : ((stakes g x).map fun s => d * bW g u d k (x - s) + u * bW g u d k (x + s))[i]? = some (d * bW g u d k (x - ((1 + i : Nat) : Int)) + u * bW g u d k (x + ((1 + i : Nat) : Int))) := by
        rw [List.getElem?_map, hsi]
        rfl
      rw [e]
      have e2 : ∀ (D : Int) (cs : List Int) (c : Int), rts D (cs ++ (some c).toList) = rts D cs ++ [rt c D] := fun D cs c => by simp [rts]
      rw [e2]
      exact All2.snoc ((hacc.mono fun _ _ => RatAt.kp (.of s3)).mono fun _ _ => RatAt.kp kk) (hv.kp kk)
    · rintro H2 ⟨s1, acc, eD, hal, hacc⟩
      refine ⟨l1, D, [v0], acc, rfl, rfl, s1 _ _ eA, eD, Nat.le_of_lt (Nat.lt_of_lt_of_le (show 1 + acc.length < 1000 by have := hP.g24; omega) (by decide)), fun p hp => ?_⟩
      have s03 : Same H (upd H2 p (.lst ([v0] ++ acc))) := (sA.trans s1).trans (Same.new hp)
      refine q _ p ([v0] ++ acc) s03 ((sA.trans s1).free hp) upd_same ?_
      have kk : Kp H2 (upd H2 p (.lst ([v0] ++ acc))) := Kp.new hp
      rw [List.take_of_length_le (by rw [List.length_map, stakes_len]; omega)] at hacc
      refine All2.cons ?_ (hacc.mono fun _ _ => RatAt.kp kk)
      rw [am_pay hP k x] at r0
      exact r0.kp (.of s03)

/-! ### next_within -/
abbrev sNext : Stmt := topS 23
theorem scNext : FnScope ["board", "f", "x"] ["board", "f"] (C8.fnScope sNext) := ⟨rfl, rfl, rfl, by decide +kernel, rfl, by decide +kernel, by decide +kernel⟩
def spNext (C : Addr) : Sp := fun vs H Q _ => ∃ (b f : Addr) (g : Nat) (u d : Int) (k : Nat), vs = [.ref b, .ref f] ∧ Par g u d ∧ k ≤ 12 ∧ BoardAt C g u d H b ∧ FunAt H f (vf g u d k) ∧
  ∀ H' p, Same H H' → FunAt H' p (vf g u d (k + 1)) → Q (.ref p) H'
theorem c_next {f C : Addr} {fd : FuncData} (F : C8.Def K mg "next_within" sNext f fd) (b : Binds K fd ["board", "f"] []) (T : Tx K mg) (B : Bx K C) (cG : C8.Cal P w K mg base 2 "greatest" spGreatest []) (cA : C8.Cal P w K mg base 3 "clock_amounts" (spAmounts C) []) :
    C8.Cal P w K mg base 4 "next_within" (spNext C) [] := by
  refine C8.cal0 F b .nil scNext (fun vs H Q E h => ?_) (fun cdv A outer s0 H vs Q E hr h => ?_)
  · obtain ⟨b, f, g, u, d, k, rfl, _⟩ := h
    rfl
  · obtain ⟨b, f, g, u, d, k, rfl, hP, hk, hB, hF, q⟩ := h
    obtain ⟨dx, pp, lp, hb, _⟩ := id hB
    have hS := hP.sp (k + 1)
    have hS2 := hP.sz (k := k + 1) (by omega)
    refine ⟨_, pss_one (ps_ret (pe_callTy call_tuple_of (by rfl) T.tuple (by decide +kernel) (pa_cons
      (pe_lc (own := [("x", 2)]) (g := gName 2) (te := tCall spGreatest [] C8.E0 (tCons (tThen (tCall (spAmounts C) [] C8.E0 (tCons (tVar 0) (tCons (tVar 1) (tCons (tVar 2) tNil)))) (kTup K)) tNil)) (by rfl) scNext.nd (pi_range1 (by rfl) T.range (pa_cons (pe_fld (pv 0) rfl) pa_nil))
        (blkOk_by (own := [("x", 2)]) (N := ["board", "f", "x"]) (sc := C8.fnScope sNext) (by decide +kernel))
        (fun _ _ _ _ _ => pg_name (i := 2) scNext.nd rfl (Or.inl rfl)) (fun _ _ _ _ _ => pts_nil)
        (fun _ _ _ _ _ => C8.pe_c cG hr (by decide) (by rfl) (pa_cons (pe_tupleOf (by rfl) T.tuple
          (C8.pe_c cA hr (by decide) (by rfl) (pa_cons (pv 0) (pa_cons (pv 1) (pa_cons (pv 2) pa_nil))))) pa_nil))) pa_nil))), ?_⟩
    refine ⟨_, rfl, b, C, dx, _, _, rfl, hb, B.cl, B.nS, bf_size _ _ _, _, rfl, (by omega), (by have := hP.g24; omega), fun D hD => ?_⟩
    refine lc_it (walk_range (lo := 0) (n := g + 1)) (fun i H' => Same H H' ∧ ∃ acc, H' D = some (.lst acc) ∧ acc.length = i ∧ All2 (RatAt H') acc ((vf g u d (k + 1)).take i))
      ⟨Same.new hD, [], upd_same, rfl, All2.nil⟩ (fun i H' _ h => True.intro) ?_ ?_
    · rintro i y H1 H2 hi ⟨s1, acc, eD, hal, hacc⟩ ⟨rfl, hy⟩
      have ey : y = V.int ((i : Nat) : Int) := hy.trans (by show V.int (0 + (i : Int)) = _; rw [Int.zero_add])
      subst ey
      have hxg : i ≤ g := by omega
      refine ⟨rfl, .ref b, rfl, .ref f, rfl, .int i, rfl, b, f, g, u, d, k, i, rfl, hP, hk, hxg, hB.kp (.of s1), hF.kp (.of s1), fun H3 p ws s2 hp ep hws => ?_⟩
      refine .inl ⟨p, ws, rfl, SqL.of ep, fun t ht => ?_⟩
      have k3 : Kp H3 (upd H3 t (.tup ws)) := Kp.new ht
      refine ⟨t, am g u d k i, (u + d) ^ (k + 1), bW g u d (k + 1) i, rfl, ⟨ws, upd_same, hws.mono fun _ _ => RatAt.kp k3⟩, hS, hS2, fun c hc => ?_, am_mem hP k hxg, fun c hc => (am_max hP k hxg c hc).2, fun v hv => ?_⟩
      · have a := am_max hP k hxg c hc
        have b := bW_le (g := g) hP.up hP.dp (k + 1) i
        exact ⟨a.1, Int.le_trans a.2 b⟩
      · have s13 : Same H2 (upd H3 t (.tup ws)) := s2.trans (Same.new ht)
        refine ⟨acc, s13 _ _ eD, Nat.lt_of_lt_of_le (show acc.length < 1000 by have := hP.g24; omega) (by decide), Same.on (s1.trans s13) hD, acc ++ [v], upd_same, by simp [hal], ?_⟩
        have kk : Kp (upd H3 t (.tup ws)) (upd (upd H3 t (.tup ws)) D (.lst (acc ++ [v]))) := Kp.lst (s13 _ _ eD)
        rw [List.take_add_one, vf_get hxg]
        exact All2.snoc ((hacc.mono fun _ _ => RatAt.kp (.of s13)).mono fun _ _ => RatAt.kp kk) (hv.kp kk)
    · rintro H1 ⟨s1, acc, eD, hal, hacc⟩
      refine ⟨D, acc, rfl, .inl ⟨SqL.of eD, fun t ht => ?_⟩⟩
      rw [List.take_of_length_le (by rw [vf_len]; exact Nat.le_refl _)] at hacc
      exact q _ t (s1.trans (Same.new ht)) ⟨acc, upd_same, hacc.mono fun _ _ => RatAt.kp (.new ht)⟩

/-! ### within -/
def FnV (g : Nat) (u d : Int) (H : Hp) (v : V) (k : Nat) : Prop := ∃ q, v = .ref q ∧ FunAt H q (vf g u d k)
theorem FnV.kp {g : Nat} {u d : Int} {H H' : Hp} {v : V} {k : Nat} (z : Kp H H') : FnV g u d H v k → FnV g u d H' v k := fun ⟨q, e, f⟩ => ⟨q, e, f.kp z⟩
/-- the functions for 0 to n plays -/
def TabAt (H : Hp) (p : Addr) (g : Nat) (u d : Int) (n : Nat) : Prop := ∃ vs, H p = some (.tup vs) ∧ All2 (FnV g u d H) vs (List.range (n + 1))
theorem TabAt.kp {g : Nat} {u d : Int} {H H' : Hp} {p : Addr} {n : Nat} (z : Kp H H') : TabAt H p g u d n → TabAt H' p g u d n := fun ⟨vs, e, f⟩ => ⟨vs, z.tup e, f.mono fun _ _ => FnV.kp z⟩
abbrev sWithin : Stmt := topS 24
theorem scWithin : FnScope ["board", "n", "found", "turn"] ["board", "n"] (C8.fnScope sWithin) := ⟨rfl, rfl, rfl, by decide +kernel, rfl, by decide +kernel, by decide +kernel⟩
def spWithin (C : Addr) : Sp := fun vs H Q _ => ∃ (b : Addr) (g : Nat) (u d : Int) (n : Nat), vs = [.ref b, .int n] ∧ Par g u d ∧ n ≤ 12 ∧ BoardAt C g u d H b ∧ ∀ H' p, Same H H' → TabAt H' p g u d n → Q (.ref p) H'
theorem c_within {f C : Addr} {fd : FuncData} (F : C8.Def K mg "within" sWithin f fd) (b : Binds K fd ["board", "n"] []) (T : Tx K mg) (B : Bx K C) (cN : C8.Cal P w K mg base 4 "next_within" (spNext C) []) :
    C8.Cal P w K mg base 5 "within" (spWithin C) [] := by
  refine C8.cal0 F b .nil scWithin (fun vs H Q E h => ?_) (fun cdv A outer s0 H vs Q E hr h => ?_)
  · obtain ⟨b, g, u, d, n, rfl, _⟩ := h
    rfl
  · obtain ⟨b, g, u, d, n, rfl, hP, hn, hB, q⟩ := h
    obtain ⟨dx, pp, lp, hb, hpays, _⟩ := id hB
    obtain ⟨t20, h20⟩ := T.within20
    refine ⟨_, pss_cons (ps_if (pt_not (pt_chain op_le op_le pe_int (pv 1) (pe_glob (v := .int 20) (by rfl) h20 ⟨_, rfl⟩))) (pss_one ps_never) pss_nil)
      (pss_cons (ps_set (i := 2) scWithin.nd rfl (.inl rfl) (pe_lst (pa_cons (pe_fld (pv 0) rfl) pa_nil)))
      (pss_cons (ps_for PassesOwn.never rfl (pi_range1 (by rfl) T.range (pa_cons (pv 1) pa_nil)) (pg_name (i := 3) scWithin.nd rfl (.inl rfl))
        (pss_one (ps_expr (pe_bm PySem.F.plainAttrs_list PySem.F.slot_list_append PySem.F.type_list_append mt_append (pv 2)
          (pa_cons (C8.pe_c cN hr (by decide) (by rfl) (pa_cons (pv 0) (pa_cons (pe_ix ix_list (pv 2) (pe_un un_neg pe_int) (fun _ _ => rfl)) pa_nil))) pa_nil)))))
      (pss_one (ps_ret (pe_callTy call_tuple_of (by rfl) T.tuple (by decide +kernel) (pa_cons (pv 2) pa_nil)))))), ?_⟩
    refine ⟨.int n, rfl, 0, n, rfl, rfl, _, rfl, ?_⟩
    rw [decide_eq_true (show (0 : Int) ≤ n by omega)]
    refine ⟨n, 20, rfl, rfl, _, rfl, ?_⟩
    rw [decide_eq_true (show (n : Int) ≤ 20 by omega)]
    refine ⟨_, rfl, b, C, dx, _, .ref pp, rfl, hb, B.cl, B.nP, bf_pays _ _ _, (by show 1 ≤ sizeLine; decide), fun l hl => ?_⟩
    refine ⟨.int n, rfl, n, rfl, (by omega), (by omega), for_it (walk_range (lo := 0) (n := n)) (fun i σ H' => ∃ y vs, σ = [some (.ref b), some (.int n), some (.ref l), y] ∧ Same H H' ∧ H' l = some (.lst vs) ∧ All2 (FnV g u d H') vs (List.range (i + 1)))
      ⟨none, [.ref pp], rfl, Same.new hl, upd_same, All2.cons ⟨pp, rfl, hpays.kp (.new hl)⟩ All2.nil⟩ (fun i σ H' _ h => True.intro) ?_ ?_⟩
    · rintro i y σ H1 H2 hi ⟨y3, vs, rfl, s1, el, hvs⟩ ⟨rfl, hy⟩
      have vl : vs.length = i + 1 := hvs.1.trans List.length_range
      obtain ⟨v, hv, q1, rfl, hq1⟩ := hvs.get (i := i) (r := i) (by rw [List.getElem?_range (by omega)])
      refine ⟨.ref l, rfl, .inl ⟨rfl, _, SqL.of el⟩, .ref b, rfl, .ref l, rfl, 1, rfl, l, vs, -1, .ref q1, rfl, rfl, SqL.of el, atI_neg1 (by rw [vl]; exact hv), b, q1, g, u, d, i, rfl, hP, by omega, hB.kp (.of s1), hq1, fun H3 p s2 hp => ?_⟩
      refine ⟨l, vs, .ref p, rfl, rfl, s2 _ _ el, Nat.lt_of_lt_of_le (show vs.length < 1000 by omega) (by decide), ?_⟩
      have kk : Kp H3 (upd H3 l (.lst (vs ++ [.ref p]))) := Kp.lst (s2 _ _ el)
      refine ⟨some y, vs ++ [.ref p], rfl, Same.on (s1.trans s2) hl, upd_same, ?_⟩
      rw [List.range_succ]
      exact All2.snoc ((hvs.mono fun _ _ => FnV.kp (.of s2)).mono fun _ _ => FnV.kp kk) ⟨p, rfl, hp.kp kk⟩
    · rintro σ H1 ⟨y3, vs, rfl, s1, el, hvs⟩
      refine ⟨.ref l, rfl, l, vs, rfl, .inl ⟨SqL.of el, fun t ht => ?_⟩⟩
      exact q _ t (s1.trans (Same.new ht)) ⟨vs, upd_same, hvs.mono fun _ _ => FnV.kp (.new ht)⟩
end
end Sk
set_option Elab.async false
set_option linter.all false
set_option maxRecDepth 100000
set_option maxHeartbeats 4000000
namespace Sk
open PySem PySem.Spec PyProof.Rows L2 Bk Xr
/-- a for that may break: Ex holds where it is left -/
theorem for_brk {J : It} {n : Nat} {G : Hp → Prop} {Y : Nat → Hp → V → Hp → Prop} (w : Walk J n G Y) {g : TG} {tb : TS} {D : Ends} {σ : L2.St} {H : Hp} (Pv : Nat → L2.St → Hp → Prop) (Ex : L2.St → Hp → Prop) (h0 : Pv 0 σ H) (hG : ∀ i σ H, i ≤ n → Pv i σ H → G H)
    (hs : (∀ σ H, Ex σ H → D.nx σ H) → ∀ i x σ H H', i < n → Pv i σ H → Y i H x H' → g x σ H' fun σ2 H2 => tb { D with nx := Pv (i + 1), ct := Pv (i + 1), bk := D.nx } σ2 H2) (he : ∀ σ H, Pv n σ H → Ex σ H) (hx : ∀ σ H, Ex σ H → D.nx σ H) :
    ∃ W : Nat → Nat → L2.St → Hp → Prop, (∃ m, W 0 m σ H) ∧ ∀ i m σ H, W i m σ H →
      (J.stop i H ∧ D.nx σ H) ∨ (J.go i H ∧ ∃ N : L2.St → Hp → Prop, (∀ σ' H', N σ' H' → ∃ m', m' < m ∧ W (i + 1) m' σ' H') ∧ ∀ x H', J.yld i H x H' → g x σ H' fun σ2 H2 => tb { D with nx := N, ct := N, bk := D.nx } σ2 H2) :=
  for_it w Pv h0 hG (hs hx) fun σ H h => hx σ H (he σ H h)
section
variable {P : Program} {w : World} {K : PySem.W.Frag} {mg : Str → Option Value} {base : Heap}
/-! ### the checks of the plain house -/
abbrev sWGoal : Stmt := topS 28
theorem scWGoal : FnScope ["goal", "most"] ["goal", "most"] (C8.fnScope sWGoal) := ⟨rfl, rfl, rfl, by decide +kernel, rfl, by decide +kernel, by decide +kernel⟩
def spWGoal : Sp := fun vs H Q _ => ∃ g m : Int, vs = [.int g, .int m] ∧ 1 ≤ g ∧ g ≤ m ∧ Q .non H
theorem c_wgoal {f : Addr} {fd : FuncData} (F : C8.Def K mg "want_goal" sWGoal f fd) (b : Binds K fd ["goal", "most"] []) : C8.Cal P w K mg base 1 "want_goal" spWGoal [] := by
  refine C8.cal0 F b .nil scWGoal (fun vs H Q E h => ?_) (fun cdv A outer s0 H vs Q E hr h => ?_)
  · obtain ⟨g, m, rfl, _⟩ := h
    rfl
  · obtain ⟨g, m, rfl, h1, h2, q⟩ := h
    refine ⟨_, pss_one (ps_if (pt_not (pt_chain op_le op_le pe_int (pv 0) (pv 1))) (pss_one ps_never) pss_nil), ?_⟩
    refine ⟨.int g, rfl, 1, g, rfl, rfl, _, rfl, ?_⟩
    rw [decide_eq_true h1]
    refine ⟨.int m, rfl, g, m, rfl, rfl, _, rfl, ?_⟩
    rw [decide_eq_true h2]
    exact q
abbrev sWPurse : Stmt := topS 30
theorem scWPurse : FnScope ["goal", "x"] ["goal", "x"] (C8.fnScope sWPurse) := ⟨rfl, rfl, rfl, by decide +kernel, rfl, by decide +kernel, by decide +kernel⟩
def spWPurse : Sp := fun vs H Q _ => ∃ g x : Int, vs = [.int g, .int x] ∧ 0 ≤ x ∧ x ≤ g ∧ Q .non H
theorem c_wpurse {f : Addr} {fd : FuncData} (F : C8.Def K mg "want_purse" sWPurse f fd) (b : Binds K fd ["goal", "x"] []) : C8.Cal P w K mg base 1 "want_purse" spWPurse [] := by
  refine C8.cal0 F b .nil scWPurse (fun vs H Q E h => ?_) (fun cdv A outer s0 H vs Q E hr h => ?_)
  · obtain ⟨g, m, rfl, _⟩ := h
    rfl
  · obtain ⟨g, x, rfl, h1, h2, q⟩ := h
    refine ⟨_, pss_one (ps_if (pt_not (pt_chain op_le op_le pe_int (pv 1) (pv 0))) (pss_one ps_never) pss_nil), ?_⟩
    refine ⟨.int x, rfl, 0, x, rfl, rfl, _, rfl, ?_⟩
    rw [decide_eq_true h1]
    refine ⟨.int g, rfl, x, g, rfl, rfl, _, rfl, ?_⟩
    rw [decide_eq_true h2]
    exact q
abbrev sWWeights : Stmt := topS 29
theorem scWWeights : FnScope ["up", "down", "weight"] ["up", "down"] (C8.fnScope sWWeights) := ⟨rfl, rfl, rfl, by decide +kernel, rfl, by decide +kernel, by decide +kernel⟩
def spWWeights : Sp := fun vs H Q _ => ∃ u d : Int, vs = [.int u, .int d] ∧ 1 ≤ u ∧ u ≤ 99 ∧ 1 ≤ d ∧ d ≤ 99 ∧ ∀ H', Same H H' → Q .non H'
theorem c_wweights {f : Addr} {fd : FuncData} (F : C8.Def K mg "want_weights" sWWeights f fd) (b : Binds K fd ["up", "down"] []) (T : Tx K mg) : C8.Cal P w K mg base 1 "want_weights" spWWeights [] := by
  refine C8.cal0 F b .nil scWWeights (fun vs H Q E h => ?_) (fun cdv A outer s0 H vs Q E hr h => ?_)
  · obtain ⟨u, d, rfl, _⟩ := h
    rfl
  · obtain ⟨u, d, rfl, u1, u2, d1, d2, q⟩ := h
    obtain ⟨t99, h99⟩ := T.weight99
    refine ⟨_, pss_one (ps_for PassesOwn.never rfl (pi_tup (pe_tup (pa_cons (pv 0) (pa_cons (pv 1) pa_nil)))) (pg_name (i := 2) scWWeights.nd rfl (.inl rfl))
      (pss_one (ps_if (pt_not (pt_chain op_le op_le pe_int (pv 2) (pe_glob (v := .int 99) (by rfl) h99 ⟨_, rfl⟩))) (pss_one ps_never) pss_nil))), ?_⟩
    refine ⟨.int u, rfl, .int d, rfl, (by show 2 ≤ sizeLine; decide), fun t ht => ⟨t, rfl, ⟨_, SqT.of upd_same⟩, for_it (walk_tup (xs := [V.int u, V.int d])) (fun i σ H' => Same H H' ∧ H' t = some (.tup [.int u, .int d]) ∧ ∃ y, σ = [some (.int u), some (.int d), y])
      ⟨Same.new ht, upd_same, none, rfl⟩ (fun i σ H' _ h => SqT.of h.2.1) ?_ ?_⟩⟩
    · rintro i y σ H1 H2 hi ⟨s1, ht1, y2, rfl⟩ ⟨rfl, hy⟩
      obtain ⟨c, rfl, c1, c2⟩ : ∃ c, y = V.int c ∧ 1 ≤ c ∧ c ≤ 99 := by
        match i, hi with
        | 0, _ => exact ⟨u, (Option.some.inj hy).symm, u1, u2⟩
        | 1, _ => exact ⟨d, (Option.some.inj hy).symm, d1, d2⟩
      refine ⟨.int c, rfl, 1, c, rfl, rfl, _, rfl, ?_⟩
      rw [decide_eq_true c1]
      refine ⟨c, 99, rfl, rfl, _, rfl, ?_⟩
      rw [decide_eq_true c2]
      exact ⟨s1, ht1, some (.int c), rfl⟩
    · rintro σ H1 ⟨s1, _⟩
      exact q H1 s1
abbrev sWPlain : Stmt := topS 31
theorem scWPlain : FnScope ["goal", "up", "down", "x"] ["goal", "up", "down", "x"] (C8.fnScope sWPlain) := ⟨rfl, rfl, rfl, by decide +kernel, rfl, by decide +kernel, by decide +kernel⟩
def spWPlain : Sp := fun vs H Q _ => ∃ g u d x : Int, vs = [.int g, .int u, .int d, .int x] ∧ 1 ≤ g ∧ g ≤ 200 ∧ 1 ≤ u ∧ u ≤ 99 ∧ 1 ≤ d ∧ d ≤ 99 ∧ 0 ≤ x ∧ x ≤ g ∧ ∀ H', Same H H' → Q .non H'
theorem c_wplain {f : Addr} {fd : FuncData} (F : C8.Def K mg "want_plain" sWPlain f fd) (b : Binds K fd ["goal", "up", "down", "x"] []) (T : Tx K mg)
    (c1 : C8.Cal P w K mg base 1 "want_goal" spWGoal []) (c2 : C8.Cal P w K mg base 1 "want_weights" spWWeights []) (c3 : C8.Cal P w K mg base 1 "want_purse" spWPurse []) : C8.Cal P w K mg base 2 "want_plain" spWPlain [] := by
  refine C8.cal0 F b .nil scWPlain (fun vs H Q E h => ?_) (fun cdv A outer s0 H vs Q E hr h => ?_)
  · obtain ⟨g, u, d, x, rfl, _⟩ := h
    rfl
  · obtain ⟨g, u, d, x, rfl, g1, g2, u1, u2, d1, d2, x1, x2, q⟩ := h
    obtain ⟨tg, hg⟩ := T.goal200
    refine ⟨_, pss_cons (ps_expr (C8.pe_c c1 hr (by decide) (by rfl) (pa_cons (pv 0) (pa_cons (pe_glob (v := .int 200) (by rfl) hg ⟨_, rfl⟩) pa_nil))))
      (pss_cons (ps_expr (C8.pe_c c2 hr (by decide) (by rfl) (pa_cons (pv 1) (pa_cons (pv 2) pa_nil))))
      (pss_one (ps_expr (C8.pe_c c3 hr (by decide) (by rfl) (pa_cons (pv 0) (pa_cons (pv 3) pa_nil)))))), ?_⟩
    exact ⟨.int g, rfl, g, 200, rfl, g1, g2, .int u, rfl, .int d, rfl, u, d, rfl, u1, u2, d1, d2, fun H1 s1 => ⟨.int g, rfl, .int x, rfl, g, x, rfl, x1, x2, q H1 s1⟩⟩

/-! ### bold_turn -/
def bt (g u d a r s x : Int) : List V := if 2 * x ≤ g then [.int (a * (u + d)), .int (r * u), .int (s * (u + d)), .int (2 * x)] else [.int (a * (u + d) + r * u), .int (r * d), .int (s * (u + d)), .int (2 * x - g)]
abbrev sTurn : Stmt := topS 33
theorem scTurn : FnScope ["goal", "up", "down", "state", "won", "rest", "size", "purse", "whole"] ["goal", "up", "down", "state"] (C8.fnScope sTurn) := ⟨rfl, rfl, rfl, by decide +kernel, rfl, by decide +kernel, by decide +kernel⟩
def spTurn : Sp := fun vs H Q _ => ∃ (g u d : Int) (st : Addr) (a r s x : Int), vs = [.int g, .int u, .int d, .ref st] ∧ H st = some (.tup [.int a, .int r, .int s, .int x]) ∧ u.natAbs < 2 ^ 8 ∧ d.natAbs < 2 ^ 8 ∧ Sm a ∧ Sm r ∧ Sm s ∧ x.natAbs < 2 ^ 8 ∧
  ∀ H' p, Same H H' → H' p = some (.tup (bt g u d a r s x)) → Q (.ref p) H'
theorem c_turn {f : Addr} {fd : FuncData} (F : C8.Def K mg "bold_turn" sTurn f fd) (b : Binds K fd ["goal", "up", "down", "state"] []) : C8.Cal P w K mg base 1 "bold_turn" spTurn [] := by
  refine C8.cal0 F b .nil scTurn (fun vs H Q E h => ?_) (fun cdv A outer s0 H vs Q E hr h => ?_)
  · obtain ⟨g, u, d, st, a, r, s, x, rfl, _⟩ := h
    rfl
  · obtain ⟨g, u, d, st, a, r, s, x, rfl, hst, uB, dB, aB, rB, sB, xB, q⟩ := h
    have wB : (u + d).natAbs < 2 ^ 9 := addB uB dB
    have twB : (2 : Int).natAbs < 2 ^ 8 := by decide
    refine ⟨_, pss_cons (ps_asg (pv 3) (pg_tup rfl (pgs_cons (pg_name (i := 4) scTurn.nd rfl (.inl rfl)) (pgs_cons (pg_name (i := 5) scTurn.nd rfl (.inl rfl)) (pgs_cons (pg_name (i := 6) scTurn.nd rfl (.inl rfl)) (pgs_cons (pg_name (i := 7) scTurn.nd rfl (.inl rfl)) pgs_nil))))))
      (pss_cons (ps_set (i := 8) scTurn.nd rfl (.inl rfl) (pe_op op_add (pv 1) (pv 2)))
      (pss_cons (ps_if (pt_cmpR op_le (pe_op op_mulW pe_int (pv 7)) (pv 0) (nomark _))
        (pss_one (ps_ret (pe_tup (pa_cons (pe_op op_mulW (pv 4) (pv 8)) (pa_cons (pe_op op_mulW (pv 5) (pv 1)) (pa_cons (pe_op op_mulW (pv 6) (pv 8)) (pa_cons (pe_op op_mulW pe_int (pv 7)) pa_nil))))))) pss_nil)
      (pss_one (ps_ret (pe_tup (pa_cons (pe_op op_add (pe_op op_mulW (pv 4) (pv 8)) (pe_op op_mulW (pv 5) (pv 1))) (pa_cons (pe_op op_mulW (pv 5) (pv 2)) (pa_cons (pe_op op_mulW (pv 6) (pv 8)) (pa_cons (pe_op op_sub (pe_op op_mulW pe_int (pv 7)) (pv 0)) pa_nil))))))))), ?_⟩
    refine ⟨.ref st, rfl, st, _, rfl, SqT.of hst, rfl, .int a, _, rfl, .int r, _, rfl, .int s, _, rfl, .int x, [], rfl, rfl, ?_⟩
    refine ⟨.int u, rfl, .int d, rfl, u, d, rfl, rfl, ?_⟩
    refine ⟨.int x, rfl, 2, x, rfl, rfl, mulW twB xB, .int g, rfl, 2 * x, g, rfl, rfl, _, rfl, ite2 (fun e => ?_) (fun e => ?_)⟩
    · have c : 2 * x ≤ g := of_decide_eq_true e
      refine ⟨.int a, rfl, .int (u + d), rfl, a, u + d, rfl, rfl, mulW aB wB, .int r, rfl, .int u, rfl, r, u, rfl, rfl, mulW rB uB, .int s, rfl, .int (u + d), rfl, s, u + d, rfl, rfl, mulW sB wB, .int x, rfl, 2, x, rfl, rfl, mulW twB xB, (by show 4 ≤ sizeLine; decide), fun p hp => ?_⟩
      exact q _ p (Same.new hp) (by rw [upd_same]; unfold bt; rw [if_pos c])
    · have c : ¬ 2 * x ≤ g := fun z => e (decide_eq_true z)
      refine ⟨.int a, rfl, .int (u + d), rfl, a, u + d, rfl, rfl, mulW aB wB, .int r, rfl, .int u, rfl, r, u, rfl, rfl, mulW rB uB, _, _, rfl, rfl, .int r, rfl, .int d, rfl, r, d, rfl, rfl, mulW rB dB, .int s, rfl, .int (u + d), rfl, s, u + d, rfl, rfl, mulW sB wB,
        .int x, rfl, 2, x, rfl, rfl, mulW twB xB, .int g, rfl, _, _, rfl, rfl, (by show 4 ≤ sizeLine; decide), fun p hp => ?_⟩
      exact q _ p (Same.new hp) (by rw [upd_same]; unfold bt; rw [if_neg c])

/-! ### bold_within -/
/-- the state after i turns: won, rest, size, purse -/
structure BSt (g : Nat) (u d : Int) (n : Nat) (x : Int) (i : Nat) (a r s y : Int) : Prop where
  hi : i ≤ n
  a0 : 0 ≤ a
  r0 : 0 ≤ r
  le : a + r ≤ s
  sz : s = (u + d) ^ i
  y0 : 0 ≤ y
  yg : y ≤ g
  eq : a * (u + d) ^ (n - i) + r * bW g u d (n - i) y = bW g u d n x
theorem BSt.step {g : Nat} {u d : Int} {n : Nat} {x : Int} {i : Nat} {a r s y : Int} (P : Par g u d) (B : BSt g u d n x i a r s y) (hi : i < n) :
    ∃ a' r' s' y', bt g u d a r s y = [.int a', .int r', .int s', .int y'] ∧ BSt g u d n x (i + 1) a' r' s' y' := by
  obtain ⟨_, a0, r0, le, sz, y0, yg, eq⟩ := B
  have up := P.up
  have dp := P.dp
  obtain ⟨m, hm⟩ : ∃ m, n - i = m + 1 := ⟨n - i - 1, by omega⟩
  have hm2 : n - (i + 1) = m := by omega
  rw [hm] at eq
  have ru : 0 ≤ r * u := Int.mul_nonneg r0 (by omega)
  have rd : 0 ≤ r * d := Int.mul_nonneg r0 (by omega)
  have aS : 0 ≤ a * (u + d) := Int.mul_nonneg a0 (by omega)
  have leS := Int.mul_le_mul_of_nonneg_right le (show 0 ≤ u + d by omega)
  have e1 : (a + r) * (u + d) = a * (u + d) + r * u + r * d := by grind
  rw [e1] at leS
  have ss : s * (u + d) = (u + d) ^ (i + 1) := by rw [sz, Int.pow_succ]
  unfold bt
  by_cases c : 2 * y ≤ g
  · rw [if_pos c]
    refine ⟨_, _, _, _, rfl, by omega, aS, ru, by omega, ss, by omega, c, ?_⟩
    rw [hm2]
    simp only [bW] at eq
    rw [if_pos c, Int.pow_succ] at eq
    rw [← eq]
    grind
  · rw [if_neg c]
    refine ⟨_, _, _, _, rfl, by omega, by omega, rd, by omega, ss, by omega, by omega, ?_⟩
    rw [hm2]
    simp only [bW] at eq
    rw [if_neg c, Int.pow_succ] at eq
    rw [← eq]
    grind
theorem BSt.small {g : Nat} {u d : Int} {n : Nat} {x : Int} {i : Nat} {a r s y : Int} (P : Par g u d) (B : BSt g u d n x i a r s y) (hn : n ≤ 12) : Sm a ∧ Sm r ∧ Sm s ∧ y.natAbs < 2 ^ 8 := by
  have z := P.sz (k := i) (by have := B.hi; omega)
  have h1 := B.a0
  have h2 := B.r0
  have h3 := B.le
  have h4 := B.sz
  have h5 := B.y0
  have h6 := B.yg
  have h7 := P.g24
  exact ⟨.of (by omega) (by omega), .of (by omega) (by omega), .of (by omega) (by omega), by show _ < 256; omega⟩
theorem BSt.fin {g : Nat} {u d : Int} {n : Nat} {x : Int} {i : Nat} {a r s y : Int} (P : Par g u d) (B : BSt g u d n x i a r s y) (h : i = n ∨ ¬ (0 < y ∧ y < g)) : rt (if y = g then a + r else a) s = rt (bW g u d n x) ((u + d) ^ n) := by
  obtain ⟨hi, a0, r0, le, sz, y0, yg, eq⟩ := B
  have sp := P.sp (n - i)
  have e : (if y = g then a + r else a) * (u + d) ^ (n - i) = bW g u d n x := by
    rw [← eq]
    by_cases c : y = g
    · subst c
      rw [if_pos rfl, bW_goal P.gp]
      grind
    · rw [if_neg c]
      have z : bW g u d (n - i) y = 0 := by
        rcases h with h | h
        · subst h
          rw [Nat.sub_self]
          simp only [bW]
          rw [if_neg c]
        · have y00 : y = 0 := by omega
          rw [y00, bW_zero P.gp]
      rw [z]
      omega
  subst sz
  refine rt_eq (P.sp i) (P.sp n) ?_
  rw [← e]
  have e2 : (u + d) ^ n = (u + d) ^ (n - i) * (u + d) ^ i := by
    rw [← Int.pow_add]
    exact congrArg _ (by omega)
  rw [e2]
  grind
abbrev sBWithin : Stmt := topS 36
theorem scBWithin : FnScope ["goal", "up", "down", "x", "n", "state", "turn", "won", "rest", "size", "purse"] ["goal", "up", "down", "x", "n"] (C8.fnScope sBWithin) := ⟨rfl, rfl, rfl, by decide +kernel, rfl, by decide +kernel, by decide +kernel⟩
def spBWithin : Sp := fun vs H Q _ => ∃ (g : Nat) (u d : Int) (x n : Nat), vs = [.int g, .int u, .int d, .int x, .int n] ∧ Par g u d ∧ x ≤ g ∧ n ≤ 12 ∧ ∀ H' v, Same H H' → RatAt H' v (rt (bW g u d n x) ((u + d) ^ n)) → Q v H'
theorem f_bwithin {f : Addr} {fd : FuncData} (F : C8.Def K mg "bold_within" sBWithin f fd) (T : Tx K mg)
    (cP : C8.Cal P w K mg base 2 "want_plain" spWPlain []) (cT : C8.Cal P w K mg base 1 "bold_turn" spTurn []) (cR : C8.Cal P w K mg base 1 "ratio" spRatio []) : FnOk P w K mg base C8.CX0 3 f fd ["goal", "up", "down", "x", "n"] spBWithin := by
  refine C8.fn0 F.fn scBWithin (fun vs H Q E h => ?_) (fun cdv A outer s0 H vs Q E hr h => ?_)
  · obtain ⟨g, u, d, x, n, rfl, _⟩ := h
    rfl
  · obtain ⟨g, u, d, x, n, rfl, hP, hx, hn, q⟩ := h
    obtain ⟨tb, hb⟩ := T.bold200
    have g1 := hP.g1
    have g24 := hP.g24
    have u1 := hP.u1
    have ud := hP.ud
    have d99 := hP.d99
    refine ⟨_, pss_cons (ps_expr (C8.pe_c cP hr (by decide) (by rfl) (pa_cons (pv 0) (pa_cons (pv 1) (pa_cons (pv 2) (pa_cons (pv 3) pa_nil))))))
      (pss_cons (ps_if (pt_not (pt_chain op_le op_le pe_int (pv 4) (pe_glob (v := .int 200) (by rfl) hb ⟨_, rfl⟩))) (pss_one ps_never) pss_nil)
      (pss_cons (ps_set (i := 5) scBWithin.nd rfl (.inl rfl) (pe_tup (pa_cons pe_int (pa_cons pe_int (pa_cons pe_int (pa_cons (pv 3) pa_nil))))))
      (pss_cons (ps_for PassesOwn.never rfl (pi_range1 (by rfl) T.range (pa_cons (pv 4) pa_nil)) (pg_name (i := 6) scBWithin.nd rfl (.inl rfl))
        (pss_cons (ps_if (pt_not (pt_chain op_lt op_lt pe_int (pe_ix ix_tup (pv 5) pe_int (fun _ _ => rfl)) (pv 0))) (pss_one ps_break) pss_nil)
        (pss_one (ps_set (i := 5) scBWithin.nd rfl (.inl rfl) (C8.pe_c cT hr (by decide) (by rfl) (pa_cons (pv 0) (pa_cons (pv 1) (pa_cons (pv 2) (pa_cons (pv 5) pa_nil)))))))))
      (pss_cons (ps_asg (pv 5) (pg_tup rfl (pgs_cons (pg_name (i := 7) scBWithin.nd rfl (.inl rfl)) (pgs_cons (pg_name (i := 8) scBWithin.nd rfl (.inl rfl)) (pgs_cons (pg_name (i := 9) scBWithin.nd rfl (.inl rfl)) (pgs_cons (pg_name (i := 10) scBWithin.nd rfl (.inl rfl)) pgs_nil))))))
      (pss_one (ps_ret (C8.pe_c cR hr (by decide) (by rfl) (pa_cons (pe_ifExp (pt_cmpR op_eq (pv 10) (pv 0) (nomark _)) (pe_op op_add (pv 7) (pv 8)) (pv 7)) (pa_cons (pv 9) pa_nil))))))))), ?_⟩
    refine ⟨.int g, rfl, .int u, rfl, .int d, rfl, .int x, rfl, g, u, d, x, rfl, by omega, by omega, by omega, by omega, by omega, by omega, by omega, by omega, fun H0 z0 => ?_⟩
    refine ⟨.int n, rfl, 0, n, rfl, rfl, _, rfl, ?_⟩
    rw [decide_eq_true (show (0 : Int) ≤ n by omega)]
    refine ⟨n, 200, rfl, rfl, _, rfl, ?_⟩
    rw [decide_eq_true (show (n : Int) ≤ 200 by omega)]
    refine ⟨.int x, rfl, (by show 4 ≤ sizeLine; decide), fun t ht => ?_⟩
    refine ⟨.int n, rfl, n, rfl, (by omega), (by omega), ?_⟩
    refine for_brk (walk_range (lo := 0) (n := n)) (fun i σ H' => ∃ p y6 a r s y, σ = [some (.int g), some (.int u), some (.int d), some (.int x), some (.int n), some (.ref p), y6, none, none, none, none] ∧ Same H H' ∧ H' p = some (.tup [.int a, .int r, .int s, .int y]) ∧ BSt g u d n x i a r s y)
      (fun σ H' => ∃ i p y6 a r s y, σ = [some (.int g), some (.int u), some (.int d), some (.int x), some (.int n), some (.ref p), y6, none, none, none, none] ∧ Same H H' ∧ H' p = some (.tup [.int a, .int r, .int s, .int y]) ∧ BSt g u d n x i a r s y ∧ (i = n ∨ ¬ (0 < y ∧ y < g)))
      ⟨t, none, 0, 1, 1, x, rfl, z0.trans (Same.new ht), upd_same, by omega, by omega, by omega, by omega, by rw [Int.pow_zero], by omega, by omega, by rw [Int.zero_mul, Int.zero_add, Int.one_mul]; rfl⟩ (fun _ _ _ _ _ => True.intro) ?_ ?_ ?_
    · rintro hx i y σ H1 H2 hi ⟨p, y6, a, r, s, z, rfl, s1, hp, hB⟩ ⟨rfl, hy⟩
      obtain ⟨aB, rB, sB, zB⟩ := hB.small hP hn
      refine ⟨.ref p, rfl, p, _, 3, .int z, rfl, rfl, SqT.of hp, atI_nat (j := 3) rfl, 0, z, rfl, rfl, _, rfl, ?_⟩
      by_cases c0 : 0 < z
      · rw [decide_eq_true c0]
        refine ⟨.int g, rfl, z, g, rfl, rfl, _, rfl, ?_⟩
        by_cases c1 : z < g
        · rw [decide_eq_true c1]
          refine ⟨.int g, rfl, .int u, rfl, .int d, rfl, .ref p, rfl, g, u, d, p, a, r, s, z, rfl, hp, (by show _ < 256; omega), (by show _ < 256; omega), aB, rB, sB, zB, fun H3 p' s3 hp' => ?_⟩
          obtain ⟨a', r', s', z', e, hB'⟩ := hB.step hP hi
          rw [e] at hp'
          exact ⟨p', some y, a', r', s', z', rfl, s1.trans s3, hp', hB'⟩
        · rw [decide_eq_false c1]
          exact hx _ _ ⟨i, p, some y, a, r, s, z, rfl, s1, hp, hB, .inr (by omega)⟩
      · rw [decide_eq_false c0]
        exact ⟨_, rfl, hx _ _ ⟨i, p, some y, a, r, s, z, rfl, s1, hp, hB, .inr (by omega)⟩⟩
    · rintro σ H1 ⟨p, y6, a, r, s, z, rfl, s1, hp, hB⟩
      exact ⟨n, p, y6, a, r, s, z, rfl, s1, hp, hB, .inl rfl⟩
    · rintro σ H1 ⟨i, p, y6, a, r, s, z, rfl, s1, hp, hB, hex⟩
      have hf := hB.fin hP hex
      have hsz : 0 < s := by rw [hB.sz]; exact hP.sp i
      have sB : s.natAbs < 2 ^ 250 := upB (hB.small hP hn).2.2.1 (by decide)
      refine ⟨.ref p, rfl, p, _, rfl, SqT.of hp, rfl, .int a, _, rfl, .int r, _, rfl, .int s, _, rfl, .int z, [], rfl, rfl, ?_⟩
      refine ⟨.int z, rfl, .int g, rfl, rfl, _, rfl, ite2 (fun e => ?_) (fun e => ?_)⟩
      · have c : z = g := V.int.inj (of_decide_eq_true e)
        rw [if_pos c] at hf
        refine ⟨.int a, rfl, .int r, rfl, a, r, rfl, rfl, .int s, rfl, a + r, s, rfl, hsz, sB, fun H2 v s2 hv => ?_⟩
        rw [hf] at hv
        exact q H2 v (s1.trans s2) hv
      · have c : ¬ z = g := fun y => e (decide_eq_true (congrArg V.int y))
        rw [if_neg c] at hf
        refine ⟨.int a, rfl, .int s, rfl, a, s, rfl, hsz, sB, fun H2 v s2 hv => ?_⟩
        rw [hf] at hv
        exact q H2 v (s1.trans s2) hv
end
end Sk
set_option Elab.async false
set_option linter.all false
set_option maxRecDepth 100000
set_option maxHeartbeats 4000000
namespace Sk
open PySem PySem.Spec PyProof.Rows L2 Bk Xr
section
variable {P : Program} {w : World} {K : PySem.W.Frag} {mg : Str → Option Value} {base : Heap}
/-! ### is_number, is_ratio, is_pay -/
abbrev sIsNum : Stmt := topS 15
theorem scIsNum : FnScope ["thing"] ["thing"] (C8.fnScope sIsNum) := ⟨rfl, rfl, rfl, by decide +kernel, rfl, by decide +kernel, by decide +kernel⟩
def spIsNum : Sp := fun vs H Q _ => ∃ i : Int, vs = [.int i] ∧ Q (.bl true) H
theorem c_isnum {f : Addr} {fd : FuncData} (F : C8.Def K mg "is_number" sIsNum f fd) (b : Binds K fd ["thing"] []) (T : Tx K mg) : C8.Cal P w K mg base 1 "is_number" spIsNum [] := by
  refine C8.cal0 F b .nil scIsNum (fun vs H Q E h => ?_) (fun cdv A outer s0 H vs Q E hr h => ?_)
  · obtain ⟨i, rfl, _⟩ := h
    rfl
  · obtain ⟨i, rfl, q⟩ := h
    refine ⟨_, pss_one (ps_ret (pe_and (pe_callB call_isi (by rfl) T.isi (by decide +kernel) (pa_cons (pv 0) (pa_cons (pe_bltn (v := .ty "int") (by rfl) T.int boot_int rfl) pa_nil)))
      (pe_one (pe_not (pe_callB call_isi (by rfl) T.isi (by decide +kernel) (pa_cons (pv 0) (pa_cons (pe_bltn (v := .ty "bool") (u := .type "bool") (by rfl) T.bool (by decide +kernel) rfl) pa_nil))))))), ?_⟩
    exact ⟨.int i, rfl, .int i, .ty "int", .type "int", .type "int", true, rfl, .ty "int", .base (.int i), kit_ty (by decide +kernel), true, rfl, .int i, rfl, .int i, .ty "bool", .type "int", .type "bool", false, rfl, .ty "bool", .base (.int i), kit_ty (by decide +kernel), false, rfl, q⟩
abbrev sIsRatio : Stmt := topS 16
theorem scIsRatio : FnScope ["thing", "n", "d"] ["thing"] (C8.fnScope sIsRatio) := ⟨rfl, rfl, rfl, by decide +kernel, rfl, by decide +kernel, by decide +kernel⟩
def spIsRatio : Sp := fun vs H Q _ => ∃ (v : V) (n d : Int), vs = [v] ∧ RatAt H v (n, d) ∧ 1 ≤ d ∧ Nat.gcd n.natAbs d.natAbs = 1 ∧ Q (.bl true) H
theorem c_isratio {f : Addr} {fd : FuncData} (F : C8.Def K mg "is_ratio" sIsRatio f fd) (b : Binds K fd ["thing"] []) (T : Tx K mg) (cN : C8.Cal P w K mg base 1 "is_number" spIsNum []) : C8.Cal P w K mg base 2 "is_ratio" spIsRatio [] := by
  refine C8.cal0 F b .nil scIsRatio (fun vs H Q E h => ?_) (fun cdv A outer s0 H vs Q E hr h => ?_)
  · obtain ⟨v, n, d, rfl, _⟩ := h
    rfl
  · obtain ⟨_, n, d, rfl, ⟨p, rfl, hp⟩, hd, hg, q⟩ := h
    have hp : H p = some (.tup [.int n, .int d]) := hp
    refine ⟨_, pss_cons (ps_if (PW.pt (pw_or (pt_not (pt_val (pe_callB call_isi (by rfl) T.isi (by decide +kernel) (pa_cons (pv 0) (pa_cons (pe_bltn (v := .ty "tuple") (u := .type "tuple") (by rfl) T.tuple (by decide +kernel) rfl) pa_nil)))))
        (pw_or1 (pt_cmpR op_ne (pe_callB call_len_seq (by rfl) T.len PySem.boot_len (pa_cons (pv 0) pa_nil)) pe_int (nomark _))))) (pss_one (ps_ret pe_bl)) pss_nil)
      (pss_cons (ps_asg (pv 0) (pg_tup rfl (pgs_cons (pg_name (i := 1) scIsRatio.nd rfl (.inl rfl)) (pgs_cons (pg_name (i := 2) scIsRatio.nd rfl (.inl rfl)) pgs_nil))))
      (pss_one (ps_ret (pe_and (C8.pe_c cN hr (by decide) (by rfl) (pa_cons (pv 1) pa_nil)) (pe_and (C8.pe_c cN hr (by decide) (by rfl) (pa_cons (pv 2) pa_nil)) (pe_and (pe_cmpR op_ge (pv 2) pe_int (nomark _))
        (pe_one (pe_cmpR op_eq (pe_callBfun cr_gcd (by rfl) T.gcd (pa_cons (pv 1) (pa_cons (pv 2) pa_nil))) pe_int (nomark _))))))))), ?_⟩
    refine ⟨.ref p, rfl, .ref p, .ty "tuple", .type "tuple", .type "tuple", true, rfl, .ty "tuple", .base (.tup hp), kit_ty (by decide +kernel), true, rfl, .ref p, rfl, p, _, rfl, .inr (SqT.of hp), rfl, _, rfl, ?_⟩
    refine ⟨.ref p, rfl, p, _, rfl, SqT.of hp, rfl, .int n, _, rfl, .int d, [], rfl, rfl, ?_⟩
    refine ⟨.int n, rfl, n, rfl, true, rfl, .int d, rfl, d, rfl, true, rfl, .int d, rfl, d, 1, rfl, rfl, _, rfl, ?_⟩
    rw [decide_eq_true hd]
    refine ⟨.int n, rfl, .int d, rfl, n, d, rfl, rfl, ?_⟩
    rw [hg]
    exact q
abbrev sIsPay : Stmt := topS 44
theorem scIsPay : FnScope ["thing"] ["thing"] (C8.fnScope sIsPay) := ⟨rfl, rfl, rfl, by decide +kernel, rfl, by decide +kernel, by decide +kernel⟩
def spIsPay : Sp := fun vs H Q _ => ∃ (v : V) (n : Int), vs = [v] ∧ RatAt H v (n, 1) ∧ 0 ≤ n ∧ n ≤ 1 ∧ Q (.bl true) H
theorem c_ispay {f : Addr} {fd : FuncData} (F : C8.Def K mg "is_pay" sIsPay f fd) (b : Binds K fd ["thing"] []) (T : Tx K mg) (cR : C8.Cal P w K mg base 2 "is_ratio" spIsRatio []) : C8.Cal P w K mg base 3 "is_pay" spIsPay [] := by
  refine C8.cal0 F b .nil scIsPay (fun vs H Q E h => ?_) (fun cdv A outer s0 H vs Q E hr h => ?_)
  · obtain ⟨v, n, rfl, _⟩ := h
    rfl
  · obtain ⟨_, n, rfl, ⟨p, rfl, hp⟩, n0, n1, q⟩ := h
    have hp : H p = some (.tup [.int n, .int 1]) := hp
    obtain ⟨tl, lim, hl, l2⟩ := T.limit
    refine ⟨_, pss_one (ps_ret (pe_and (C8.pe_c cR hr (by decide) (by rfl) (pa_cons (pv 0) pa_nil))
      (pe_and (pe_chain op_le op_lt pe_int (pe_ix ix_tup (pv 0) pe_int (fun _ _ => rfl)) (pe_glob (v := .int lim) (by rfl) hl ⟨_, rfl⟩))
      (pe_one (pe_cmpR op_lt (pe_ix ix_tup (pv 0) pe_int (fun _ _ => rfl)) (pe_glob (v := .int lim) (by rfl) hl ⟨_, rfl⟩) (nomark _)))))), ?_⟩
    refine ⟨.ref p, rfl, .ref p, n, 1, rfl, ⟨p, rfl, hp⟩, by omega, Nat.gcd_one_right _, true, rfl, .ref p, rfl, p, _, 0, .int n, rfl, rfl, SqT.of hp, atI_nat (j := 0) rfl, 0, n, rfl, rfl, _, rfl, ?_⟩
    rw [decide_eq_true n0]
    refine ⟨n, lim, rfl, rfl, _, rfl, ?_⟩
    rw [decide_eq_true (show n < lim by omega)]
    refine ⟨.ref p, rfl, p, _, 1, .int 1, rfl, rfl, SqT.of hp, atI_nat (j := 1) rfl, 1, lim, rfl, rfl, ?_⟩
    show Q (.bl (decide ((1 : Int) < lim))) H
    rw [decide_eq_true (show (1 : Int) < lim by omega)]
    exact q

/-! ### is_lottery -/
abbrev sIsLot : Stmt := topS 45
theorem scIsLot : FnScope ["lottery", "size", "before", "place", "weight"] ["lottery", "size"] (C8.fnScope sIsLot) := ⟨rfl, rfl, rfl, by decide +kernel, rfl, by decide +kernel, by decide +kernel⟩
def spIsLot : Sp := fun vs H Q _ => ∃ (l : V) (u d x s size : Int), vs = [l, .int size] ∧ LotAt u d x H l s ∧ 0 ≤ x - s ∧ 1 ≤ s ∧ x + s < size ∧ 1 ≤ u ∧ u ≤ 99 ∧ 1 ≤ d ∧ d ≤ 99 ∧ Q (.bl true) H
theorem c_islot {f : Addr} {fd : FuncData} (F : C8.Def K mg "is_lottery" sIsLot f fd) (b : Binds K fd ["lottery", "size"] []) (T : Tx K mg) : C8.Cal P w K mg base 1 "is_lottery" spIsLot [] := by
  refine C8.cal0 F b .nil scIsLot (fun vs H Q E h => ?_) (fun cdv A outer s0 H vs Q E hr h => ?_)
  · obtain ⟨l, u, d, x, s, size, rfl, _⟩ := h
    rfl
  · obtain ⟨_, u, d, x, s, size, rfl, ⟨l, a, b, rfl, hl, ha, hb⟩, b1, b2, b3, u1, u2, d1, d2, q⟩ := h
    obtain ⟨t8, h8⟩ := T.pairs8
    obtain ⟨tw, hw⟩ := T.weights
    refine ⟨_, pss_cons (ps_if (pt_not (pt_chain op_le op_le pe_int (pe_callB call_len_seq (by rfl) T.len PySem.boot_len (pa_cons (pv 0) pa_nil)) (pe_glob (v := .int 8) (by rfl) h8 ⟨_, rfl⟩))) (pss_one (ps_ret pe_bl)) pss_nil)
      (pss_cons (ps_set (i := 2) scIsLot.nd rfl (.inl rfl) (pe_un un_neg pe_int))
      (pss_cons (ps_for PassesOwn.never rfl (pi_tup (pv 0)) (pg_tup rfl (pgs_cons (pg_name (i := 3) scIsLot.nd rfl (.inl rfl)) (pgs_cons (pg_name (i := 4) scIsLot.nd rfl (.inl rfl)) pgs_nil)))
        (pss_cons (ps_if (PW.pt (pw_or (pt_not (pt_chain op_lt op_lt (pv 2) (pv 3) (pv 1))) (pw_or1 (pt_not (pt_chain op_le op_le pe_int (pv 4) (pe_glob (v := .int 99999) (by rfl) hw ⟨_, rfl⟩)))))) (pss_one (ps_ret pe_bl)) pss_nil)
        (pss_one (ps_set (i := 2) scIsLot.nd rfl (.inl rfl) (pv 3)))))
      (pss_one (ps_ret pe_bl)))), ?_⟩
    refine ⟨.ref l, rfl, l, _, rfl, .inr (SqT.of hl), 1, 2, rfl, rfl, _, rfl, 2, 8, rfl, rfl, _, rfl, 1, rfl, .ref l, rfl, l, rfl, ⟨_, SqT.of hl⟩, ?_⟩
    refine for_it (walk_tup (xs := [V.ref a, V.ref b])) (fun i σ H' => H' = H ∧ ∃ c y3 y4, σ = [some (.ref l), some (.int size), some (.int c), y3, y4] ∧ (i = 0 → c = -1) ∧ (i = 1 → c = x - s))
      ⟨rfl, -1, none, none, rfl, fun _ => rfl, fun z => nomatch z⟩ (fun i σ H' _ h => by rw [h.1]; exact SqT.of hl) ?_ ?_
    · rintro i y σ H1 H2 hi ⟨rfl, c, y3, y4, rfl, c0, c1⟩ ⟨rfl, hy⟩
      obtain ⟨e, pl, wt, rfl, he, lt1, lt2, w1, w2, hn⟩ : ∃ (e : Addr) (pl wt : Int), y = V.ref e ∧ H2 e = some (.tup [.int pl, .int wt]) ∧ c < pl ∧ pl < size ∧ 1 ≤ wt ∧ wt ≤ 99999 ∧ (i + 1 = 1 → pl = x - s) := by
        match i, hi with
        | 0, _ =>
          have := c0 rfl
          exact ⟨a, x - s, d, (Option.some.inj hy).symm, ha, by omega, by omega, d1, by omega, fun _ => rfl⟩
        | 1, _ =>
          have := c1 rfl
          exact ⟨b, x + s, u, (Option.some.inj hy).symm, hb, by omega, by omega, u1, by omega, fun z => by omega⟩
      refine ⟨e, _, rfl, SqT.of he, rfl, .int pl, _, rfl, .int wt, [], rfl, rfl, ?_⟩
      refine ⟨.int c, rfl, .int pl, rfl, c, pl, rfl, rfl, _, rfl, ?_⟩
      rw [decide_eq_true lt1]
      refine ⟨.int size, rfl, pl, size, rfl, rfl, _, rfl, ?_⟩
      rw [decide_eq_true lt2]
      refine ⟨.int wt, rfl, 1, wt, rfl, rfl, _, rfl, ?_⟩
      rw [decide_eq_true w1]
      refine ⟨wt, 99999, rfl, rfl, _, rfl, ?_⟩
      rw [decide_eq_true w2]
      exact ⟨.int pl, rfl, rfl, pl, some (.int pl), some (.int wt), rfl, (fun z => by omega), hn⟩
    · rintro σ H1 ⟨rfl, c, y3, y4, rfl, _⟩
      exact q

/-! ### want_pays, want_plays -/
abbrev sWPays : Stmt := topS 46
theorem scWPays : FnScope ["pays", "size", "x", "pay"] ["pays", "size"] (C8.fnScope sWPays) := ⟨rfl, rfl, rfl, by decide +kernel, rfl, by decide +kernel, by decide +kernel⟩
def spWPays : Sp := fun vs H Q _ => ∃ (p : Addr) (rs : List Rat2), vs = [.ref p, .int rs.length] ∧ FunAt H p rs ∧ (∀ r ∈ rs, 0 ≤ r.1 ∧ r.1 ≤ 1 ∧ r.2 = 1) ∧ ∀ H', Same H H' → Q .non H'
theorem c_wpays {f : Addr} {fd : FuncData} (F : C8.Def K mg "want_pays" sWPays f fd) (b : Binds K fd ["pays", "size"] []) (T : Tx K mg) (cP : C8.Cal P w K mg base 3 "is_pay" spIsPay []) : C8.Cal P w K mg base 4 "want_pays" spWPays [] := by
  refine C8.cal0 F b .nil scWPays (fun vs H Q E h => ?_) (fun cdv A outer s0 H vs Q E hr h => ?_)
  · obtain ⟨p, rs, rfl, _⟩ := h
    rfl
  · obtain ⟨p, rs, rfl, ⟨ws, hp, hws⟩, hrs, q⟩ := h
    refine ⟨_, pss_cons (ps_if (pt_cmpR op_ne (pe_callB call_len_seq (by rfl) T.len PySem.boot_len (pa_cons (pv 0) pa_nil)) (pv 1) (nomark _)) (pss_one ps_never) pss_nil)
      (pss_one (ps_for PassesOwn.never rfl (pi_enumT (by rfl) T.enum (pa_cons (pv 0) pa_nil)) (pg_tup rfl (pgs_cons (pg_name (i := 2) scWPays.nd rfl (.inl rfl)) (pgs_cons (pg_name (i := 3) scWPays.nd rfl (.inl rfl)) pgs_nil)))
        (pss_one (ps_if (pt_not (pt_val (C8.pe_c cP hr (by decide) (by rfl) (pa_cons (pv 3) pa_nil)))) (pss_one ps_never) pss_nil)))), ?_⟩
    refine ⟨.ref p, rfl, p, ws, rfl, .inr (SqT.of hp), .int rs.length, rfl, rfl, _, rfl, iteNS (by rw [hws.1]) ?_⟩
    refine ⟨.ref p, rfl, p, ws, rfl, SqT.of hp, for_it (walk_enumT (xs := ws)) (fun i σ H' => Same H H' ∧ ∃ y2 y3, σ = [some (.ref p), some (.int rs.length), y2, y3])
      ⟨Same.refl H, none, none, rfl⟩ (fun i σ H' _ h => SqT.of (h.1 _ _ hp)) ?_ ?_⟩
    · rintro i v σ H1 H2 hi ⟨s1, y2, y3, rfl⟩ ⟨t, x, y, rfl, ht, rfl, hx, hy⟩
      have s2 : Same H (upd H1 t (.tup [x, y])) := s1.trans (Same.new ht)
      obtain ⟨⟨rn, rd⟩, hr1, hr2⟩ := hws.at hy
      obtain ⟨r0, r1, r2⟩ := hrs _ (List.mem_of_getElem? hr1)
      have r2 : rd = 1 := r2
      subst r2
      refine ⟨t, [x, y], rfl, SqT.of upd_same, rfl, x, [y], rfl, y, [], rfl, rfl, ?_⟩
      exact ⟨y, rfl, y, rn, rfl, hr2.kp (.of s2), r0, r1, true, rfl, s2, some x, some y, rfl⟩
    · rintro σ H1 ⟨s1, _⟩
      exact q H1 s1
abbrev sWPlays : Stmt := topS 47
theorem scWPlays : FnScope ["plays", "size", "x", "row", "k", "lottery"] ["plays", "size"] (C8.fnScope sWPlays) := ⟨rfl, rfl, rfl, by decide +kernel, rfl, by decide +kernel, by decide +kernel⟩
def spWPlays : Sp := fun vs H Q _ => ∃ (p : Addr) (g : Nat) (u d : Int), vs = [.ref p, .int ((g + 1 : Nat) : Int)] ∧ Par g u d ∧ PlaysAt g u d H p ∧ ∀ H', Same H H' → Q .non H'
theorem c_wplays {f : Addr} {fd : FuncData} (F : C8.Def K mg "want_plays" sWPlays f fd) (b : Binds K fd ["plays", "size"] []) (T : Tx K mg) (cL : C8.Cal P w K mg base 1 "is_lottery" spIsLot []) : C8.Cal P w K mg base 2 "want_plays" spWPlays [] := by
  refine C8.cal0 F b .nil scWPlays (fun vs H Q E h => ?_) (fun cdv A outer s0 H vs Q E hr h => ?_)
  · obtain ⟨p, g, u, d, rfl, _⟩ := h
    rfl
  · obtain ⟨p, g, u, d, rfl, hP, ⟨rows, hp, hrows⟩, q⟩ := h
    obtain ⟨t12, h12⟩ := T.plays12
    have g24 := hP.g24
    have rowAt : ∀ (i : Nat) (y : V), rows[i]? = some y → i ≤ g ∧ RowAt g u d H y i := fun i y hy => by
      obtain ⟨r, hr1, hr2⟩ := hrows.at hy
      obtain ⟨hi, _⟩ := List.getElem?_eq_some_iff.mp hr1
      rw [List.length_range] at hi
      rw [List.getElem?_range hi] at hr1
      cases Option.some.inj hr1
      exact ⟨by omega, hr2⟩
    refine ⟨_, pss_cons (ps_for PassesOwn.never rfl (pi_enumT (by rfl) T.enum (pa_cons (pv 0) pa_nil)) (pg_tup rfl (pgs_cons (pg_name (i := 2) scWPlays.nd rfl (.inl rfl)) (pgs_cons (pg_name (i := 3) scWPlays.nd rfl (.inl rfl)) pgs_nil)))
        (pss_one (ps_if (pt_cmpR op_gt (pe_callB call_len_seq (by rfl) T.len PySem.boot_len (pa_cons (pv 3) pa_nil)) (pe_glob (v := .int 12) (by rfl) h12 ⟨_, rfl⟩) (nomark _)) (pss_one ps_never) pss_nil)))
      (pss_one (ps_for PassesOwn.never rfl (pi_enumT (by rfl) T.enum (pa_cons (pv 0) pa_nil)) (pg_tup rfl (pgs_cons (pg_name (i := 2) scWPlays.nd rfl (.inl rfl)) (pgs_cons (pg_name (i := 3) scWPlays.nd rfl (.inl rfl)) pgs_nil)))
        (pss_one (ps_for PassesOwn.never rfl (pi_enumT (by rfl) T.enum (pa_cons (pv 3) pa_nil)) (pg_tup rfl (pgs_cons (pg_name (i := 4) scWPlays.nd rfl (.inl rfl)) (pgs_cons (pg_name (i := 5) scWPlays.nd rfl (.inl rfl)) pgs_nil)))
          (pss_one (ps_if (pt_not (pt_val (C8.pe_c cL hr (by decide) (by rfl) (pa_cons (pv 5) (pa_cons (pv 1) pa_nil))))) (pss_one ps_never) pss_nil)))))), ?_⟩
    refine ⟨.ref p, rfl, p, rows, rfl, SqT.of hp, for_it (walk_enumT (xs := rows)) (fun i σ H' => Same H H' ∧ ∃ y2 y3, σ = [some (.ref p), some (.int ((g + 1 : Nat) : Int)), y2, y3, none, none])
      ⟨Same.refl H, none, none, rfl⟩ (fun i σ H' _ h => SqT.of (h.1 _ _ hp)) ?_ ?_⟩
    · rintro i v σ H1 H2 hi ⟨s1, y2, y3, rfl⟩ ⟨t, x, y, rfl, ht, rfl, hx, hy⟩
      have s2 : Same H (upd H1 t (.tup [x, y])) := s1.trans (Same.new ht)
      obtain ⟨hig, l, lots, rfl, hl, hlots⟩ := rowAt i y hy
      have ll : lots.length = min i (g - i) := hlots.1.trans (stakes_len g i)
      refine ⟨t, [x, .ref l], rfl, SqT.of upd_same, rfl, x, [.ref l], rfl, .ref l, [], rfl, rfl, ?_⟩
      refine ⟨.ref l, rfl, l, lots, rfl, .inr (SqT.of (s2 _ _ hl)), lots.length, 12, rfl, rfl, _, rfl, ?_⟩
      rw [decide_eq_false (show ¬ (12 : Int) < lots.length by omega)]
      exact ⟨s2, some x, some (.ref l), rfl⟩
    · rintro σ H1 ⟨s1, y2, y3, rfl⟩
      refine ⟨.ref p, rfl, p, rows, rfl, SqT.of (s1 _ _ hp), for_it (walk_enumT (xs := rows)) (fun i σ H' => Same H H' ∧ ∃ y2 y3 y4 y5, σ = [some (.ref p), some (.int ((g + 1 : Nat) : Int)), y2, y3, y4, y5])
        ⟨s1, y2, y3, none, none, rfl⟩ (fun i σ H' _ h => SqT.of (h.1 _ _ hp)) ?_ ?_⟩
      · rintro i v σ H2 H3 hi ⟨s2, y2, y3, y4, y5, rfl⟩ ⟨t, x, y, rfl, ht, rfl, hx, hy⟩
        have s3 : Same H (upd H2 t (.tup [x, y])) := s2.trans (Same.new ht)
        obtain ⟨hig, l, lots, rfl, hl, hlots⟩ := rowAt i y hy
        refine ⟨t, [x, .ref l], rfl, SqT.of upd_same, rfl, x, [.ref l], rfl, .ref l, [], rfl, rfl, ?_⟩
        refine ⟨.ref l, rfl, l, lots, rfl, SqT.of (s3 _ _ hl), for_it (walk_enumT (xs := lots)) (fun j σ H' => Same H H' ∧ ∃ y4 y5, σ = [some (.ref p), some (.int ((g + 1 : Nat) : Int)), some x, some (.ref l), y4, y5])
          ⟨s3, y4, y5, rfl⟩ (fun i σ H' _ h => SqT.of (h.1 _ _ hl)) ?_ ?_⟩
        · rintro j v σ H4 H5 hj ⟨s4, y4, y5, rfl⟩ ⟨t2, x2, z, rfl, ht2, rfl, hx2, hz⟩
          have s5 : Same H (upd H4 t2 (.tup [x2, z])) := s4.trans (Same.new ht2)
          obtain ⟨sj, hsj, hlot⟩ := hlots.at hz
          obtain ⟨hj2, rfl⟩ := stakes_get hsj
          refine ⟨t2, [x2, z], rfl, SqT.of upd_same, rfl, x2, [z], rfl, z, [], rfl, rfl, ?_⟩
          exact ⟨z, rfl, .int ((g + 1 : Nat) : Int), rfl, z, u, d, i, _, _, rfl, hlot.kp (.of s5), by omega, by omega, by omega, hP.u1, by have := hP.ud; have := hP.d99; omega, by have := hP.u1; have := hP.ud; omega, hP.d99, true, rfl, s5, some x2, some z, rfl⟩
        · rintro σ H4 ⟨s4, y4, y5, rfl⟩
          exact ⟨s4, some x, some (.ref l), y4, y5, rfl⟩
      · rintro σ H2 ⟨s2, _⟩
        exact q H2 s2
end
end Sk
set_option Elab.async false
set_option linter.all false
set_option maxRecDepth 100000
set_option maxHeartbeats 4000000
namespace Sk
open PySem PySem.Spec PyProof.Rows L2 Bk Xr
section
variable {P : Program} {w : World} {K : PySem.W.Frag} {mg : Str → Option Value} {base : Heap}
/-! ### Board -/
abbrev sInit : Stmt := inClass (topS 43) 0
theorem scInit : FnScope ["self", "pays", "plays"] ["self", "pays", "plays"] (C8.fnScope sInit) := ⟨rfl, rfl, rfl, by decide +kernel, rfl, by decide +kernel, by decide +kernel⟩
def spInit (C : Addr) : Sp := fun vs H Q _ => ∃ (p dx pp lp : Addr) (ws : List V) (g : Nat), vs = [.ref p, .ref pp, .ref lp] ∧ H p = some (.ins C dx []) ∧ H pp = some (.tup ws) ∧ ws.length = g + 1 ∧
  ∀ H', H' p = some (.ins C dx (bf g pp lp)) → (∀ b o, H b = some o → b ≠ p → H' b = some o) → Q .non H'
theorem c_init {f C : Addr} {fd : FuncData} (M : Mk K C f) (hm : mg "Board" = some (.ref C)) (F : C8.Fun K "__init__" "Board.__init__" sInit f fd) (b : Binds K fd ["self", "pays", "plays"] []) (T : Tx K mg) (B : Bx K C) : C8.Mak P w K mg base 1 "Board" C (spInit C) [] := by
  refine C8.mak0 M hm F b .nil scInit (fun vs H Q E h => ?_) (fun cdv A outer s0 H vs Q E hr h => ?_)
  · obtain ⟨p, dx, pp, lp, ws, g, rfl, _⟩ := h
    rfl
  · obtain ⟨p, dx, pp, lp, ws, g, rfl, hp, hpp, hl, q⟩ := h
    have npp : pp ≠ p := ne_of hpp hp (by intro z; cases z)
    refine ⟨_, pss_cons (ps_fld (pv 0) (pe_callB call_len_seq (by rfl) T.len PySem.boot_len (pa_cons (pv 1) pa_nil)) rfl)
      (pss_cons (ps_fld (pv 0) (pv 1) rfl) (pss_one (ps_fld (pv 0) (pv 2) rfl))), ?_⟩
    refine ⟨.ref pp, rfl, pp, ws, rfl, .inr (SqT.of hpp), _, rfl, p, C, dx, [], rfl, hp, B.cl, B.nS, (by show 0 < 1000; decide), ?_⟩
    rw [hl]
    refine ⟨.ref pp, rfl, _, rfl, p, C, dx, _, rfl, upd_same, B.cl, B.nP, (by show 1 < 1000; decide), ?_⟩
    refine ⟨.ref lp, rfl, _, rfl, p, C, dx, _, rfl, upd_same, B.cl, B.nL, ?_, ?_⟩
    · have e : (bf g pp lp).length = 3 := by rw [bf_eq]; rfl
      have e2 : putF "pays" (V.ref pp) (putF "size" (.int ((g + 1 : Nat) : Int)) []) = ([("size", V.int ((g + 1 : Nat) : Int)), ("pays", V.ref pp)] : List (Str × V)) := by
        show (if ("size" : Str) = "pays" then _ else (("size" : Str), V.int ((g + 1 : Nat) : Int)) :: putF "pays" (V.ref pp) []) = _
        rw [if_neg (by decide +kernel)]
        rfl
      rw [e2]
      show 2 < 1000
      decide
    · refine q _ upd_same fun b o e hb => ?_
      rw [upd_ne hb, upd_ne hb, upd_ne hb]
      exact e

/-! ### made_board -/
abbrev sMade : Stmt := topS 48
theorem scMade : FnScope ["pays", "plays", "size"] ["pays", "plays"] (C8.fnScope sMade) := ⟨rfl, rfl, rfl, by decide +kernel, rfl, by decide +kernel, by decide +kernel⟩
def spMade (C : Addr) : Sp := fun vs H Q _ => ∃ (pp lp : Addr) (g : Nat) (u d : Int), vs = [.ref pp, .ref lp] ∧ Par g u d ∧ FunAt H pp (vf g u d 0) ∧ PlaysAt g u d H lp ∧ ∀ H' b, Same H H' → BoardAt C g u d H' b → Q (.ref b) H'
theorem vf0_mem {g : Nat} {u d : Int} {r : Rat2} (h : r ∈ vf g u d 0) : 0 ≤ r.1 ∧ r.1 ≤ 1 ∧ r.2 = 1 := by
  unfold vf rts cf at h
  simp only [List.mem_map, List.mem_range] at h
  obtain ⟨c, ⟨x, _, rfl⟩, rfl⟩ := h
  rw [Int.pow_zero]
  simp only [bW]
  by_cases e : (x : Int) = g
  · rw [if_pos e, rt_one (by omega)]
    decide
  · rw [if_neg e, rt_zero (by omega)]
    decide
theorem c_made {f C : Addr} {fd : FuncData} (F : C8.Def K mg "made_board" sMade f fd) (b : Binds K fd ["pays", "plays"] []) (T : Tx K mg) (cM : C8.Mak P w K mg base 1 "Board" C (spInit C) [])
    (c1 : C8.Cal P w K mg base 4 "want_pays" spWPays []) (c2 : C8.Cal P w K mg base 2 "want_plays" spWPlays []) : C8.Cal P w K mg base 5 "made_board" (spMade C) [] := by
  refine C8.cal0 F b .nil scMade (fun vs H Q E h => ?_) (fun cdv A outer s0 H vs Q E hr h => ?_)
  · obtain ⟨pp, lp, g, u, d, rfl, _⟩ := h
    rfl
  · obtain ⟨pp, lp, g, u, d, rfl, hP, hF, hL, q⟩ := h
    obtain ⟨ps, hpp, hps⟩ := id hF
    obtain ⟨rows, hlp, hrows⟩ := id hL
    have pl : ps.length = g + 1 := hps.1.trans vf_len
    have rl : rows.length = g + 1 := hrows.1.trans List.length_range
    have g24 := hP.g24
    obtain ⟨t40, h40⟩ := T.places40
    refine ⟨_, pss_cons (ps_set (i := 2) scMade.nd rfl (.inl rfl) (pe_callB call_len_seq (by rfl) T.len PySem.boot_len (pa_cons (pv 0) pa_nil)))
      (pss_cons (ps_if (pt_not (pt_chain op_le op_le pe_int (pv 2) (pe_glob (v := .int 40) (by rfl) h40 ⟨_, rfl⟩))) (pss_one ps_never) pss_nil)
      (pss_cons (ps_expr (C8.pe_c c1 hr (by decide) (by rfl) (pa_cons (pv 0) (pa_cons (pv 2) pa_nil))))
      (pss_cons (ps_if (pt_cmpR op_ne (pe_callB call_len_seq (by rfl) T.len PySem.boot_len (pa_cons (pv 1) pa_nil)) (pv 2) (nomark _)) (pss_one ps_never) pss_nil)
      (pss_cons (ps_expr (C8.pe_c c2 hr (by decide) (by rfl) (pa_cons (pv 1) (pa_cons (pv 2) pa_nil))))
      (pss_one (ps_ret (C8.pe_mk cM hr (by decide) (by rfl) (pa_cons (pv 0) (pa_cons (pv 1) pa_nil))))))))), ?_⟩
    refine ⟨.ref pp, rfl, pp, ps, rfl, .inr (SqT.of hpp), ?_⟩
    rw [pl]
    refine ⟨.int ((g + 1 : Nat) : Int), rfl, 1, ((g + 1 : Nat) : Int), rfl, rfl, _, rfl, ?_⟩
    rw [decide_eq_true (show (1 : Int) ≤ ((g + 1 : Nat) : Int) by omega)]
    refine ⟨((g + 1 : Nat) : Int), 40, rfl, rfl, _, rfl, ?_⟩
    rw [decide_eq_true (show ((g + 1 : Nat) : Int) ≤ 40 by omega)]
    refine ⟨.ref pp, rfl, .int ((g + 1 : Nat) : Int), rfl, pp, vf g u d 0, (by rw [vf_len]; rfl), hF, fun r hr => vf0_mem hr, fun H1 s1 => ?_⟩
    refine ⟨.ref lp, rfl, lp, rows, rfl, .inr (SqT.of (s1 _ _ hlp)), .int ((g + 1 : Nat) : Int), rfl, rfl, _, rfl, iteNS (by rw [rl]) ?_⟩
    refine ⟨.ref lp, rfl, .int ((g + 1 : Nat) : Int), rfl, lp, g, u, d, rfl, hP, hL.kp (.of s1), fun H2 s2 => ?_⟩
    have s02 := s1.trans s2
    refine ⟨.ref pp, rfl, .ref lp, rfl, fun x dx nx ndx nex => ?_⟩
    have sA : Same H2 (upd (upd H2 dx (.own x)) x (.ins C dx [])) := fun b o e => by
      rw [upd_ne (ne_of_none e nx), upd_ne (ne_of_none e ndx)]
      exact e
    refine ⟨x, dx, pp, lp, ps, g, rfl, upd_same, sA _ _ (s02 _ _ hpp), pl, fun H3 e3 k3 => ⟨rfl, ?_⟩⟩
    have s03 : Same H H3 := s02.trans (Same.made nx ndx k3)
    exact q H3 x s03 ⟨dx, pp, lp, e3, hF.kp (.of s03), hL.kp (.of s03)⟩

/-! ### plain_plays -/
abbrev sPPlays : Stmt := topS 54
theorem scPPlays : FnScope ["goal", "up", "down", "x", "stake"] ["goal", "up", "down", "x"] (C8.fnScope sPPlays) := ⟨rfl, rfl, rfl, by decide +kernel, rfl, by decide +kernel, by decide +kernel⟩
def spPPlays : Sp := fun vs H Q _ => ∃ (g x : Nat) (u d : Int), vs = [.int g, .int u, .int d, .int x] ∧ x ≤ g ∧ g ≤ 24 ∧ ∀ H' v, Same H H' → RowAt g u d H' v x → Q v H'
theorem c_pplays {f : Addr} {fd : FuncData} (F : C8.Def K mg "plain_plays" sPPlays f fd) (b : Binds K fd ["goal", "up", "down", "x"] []) (T : Tx K mg) : C8.Cal P w K mg base 1 "plain_plays" spPPlays [] := by
  refine C8.cal0 F b .nil scPPlays (fun vs H Q E h => ?_) (fun cdv A outer s0 H vs Q E hr h => ?_)
  · obtain ⟨g, x, u, d, rfl, _⟩ := h
    rfl
  · obtain ⟨g, x, u, d, rfl, hx, hg, q⟩ := h
    refine ⟨_, pss_one (ps_ret (pe_callTy call_tuple_of (by rfl) T.tuple (by decide +kernel) (pa_cons
      (pe_lc (own := [("stake", 4)]) (g := gName 4)
        (te := tTup (tCons (tTup (tCons (tOp (rI0 fun i j => .int (i - j)) (tVar 3) (tVar 4)) (tCons (tVar 2) tNil))) (tCons (tTup (tCons (tOp (rI0 fun i j => .int (i + j)) (tVar 3) (tVar 4)) (tCons (tVar 1) tNil))) tNil)))
        (by rfl) scPPlays.nd (pi_range2 (by rfl) T.range (pa_cons pe_int (pa_cons (pe_op op_add (pe_callB (call_min2 rfl) (by rfl) T.min (by decide +kernel) (pa_cons (pv 3) (pa_cons (pe_op op_sub (pv 0) (pv 3)) pa_nil))) pe_int) pa_nil)))
        (blkOk_by (own := [("stake", 4)]) (N := ["goal", "up", "down", "x", "stake"]) (sc := C8.fnScope sPPlays) (by decide +kernel))
        (fun _ _ _ _ _ => pg_name (i := 4) scPPlays.nd rfl (Or.inl rfl)) (fun _ _ _ _ _ => pts_nil)
        (fun _ _ _ _ _ => pe_tup (pa_cons (pe_tup (pa_cons (pe_op op_sub (pv 3) (pv 4)) (pa_cons (pv 2) pa_nil))) (pa_cons (pe_tup (pa_cons (pe_op op_add (pv 3) (pv 4)) (pa_cons (pv 1) pa_nil))) pa_nil)))) pa_nil))), ?_⟩
    refine ⟨.int x, rfl, .int g, rfl, .int x, rfl, g, x, rfl, rfl, x, (g : Int) - x, rfl, ?_⟩
    have em : (if (g : Int) - x < x then (g : Int) - x else (x : Int)) = ((min x (g - x) : Nat) : Int) := by
      split <;> omega
    rw [em]
    have em2 : ((((min x (g - x) : Nat) : Int) + 1) - 1).toNat = min x (g - x) := by omega
    refine ⟨_, 1, rfl, rfl, 1, _, rfl, ⟨by omega, by omega, by omega, by omega⟩, fun D hD => ?_⟩
    refine lc_it (walk_range (lo := 1) (n := ((((min x (g - x) : Nat) : Int) + 1) - 1).toNat)) (fun i H' => Same H H' ∧ ∃ acc, H' D = some (.lst acc) ∧ acc.length = i ∧ All2 (LotAt u d x H') acc ((stakes g x).take i))
      ⟨Same.new hD, [], upd_same, rfl, All2.nil⟩ (fun i H' _ h => True.intro) ?_ ?_
    · rintro i y H1 H2 hi ⟨s1, acc, eD, hal, hacc⟩ ⟨rfl, hy⟩
      rw [em2] at hi
      have ey : y = V.int ((1 + i : Nat) : Int) := hy.trans (by show V.int (1 + (i : Int)) = _; rw [Int.natCast_add]; rfl)
      subst ey
      refine ⟨rfl, .int x, rfl, .int ((1 + i : Nat) : Int), rfl, _, _, rfl, rfl, .int d, rfl, (by show 2 ≤ sizeLine; decide), fun a ha => ?_⟩
      refine ⟨.int x, rfl, .int ((1 + i : Nat) : Int), rfl, _, _, rfl, rfl, .int u, rfl, (by show 2 ≤ sizeLine; decide), fun b hb => ⟨(by show 2 ≤ sizeLine; decide), fun l hl => ?_⟩⟩
      have z1 : Same H2 (upd H2 a (.tup [.int ((x : Int) - ((1 + i : Nat) : Int)), .int d])) := Same.new ha
      have e1 : (upd H2 a (.tup [.int ((x : Int) - ((1 + i : Nat) : Int)), .int d])) a = some (.tup [.int ((x : Int) - ((1 + i : Nat) : Int)), .int d]) := upd_same
      generalize upd H2 a (.tup [.int ((x : Int) - ((1 + i : Nat) : Int)), .int d]) = H3 at hb hl z1 e1
      have z2 : Same H3 (upd H3 b (.tup [.int ((x : Int) + ((1 + i : Nat) : Int)), .int u])) := Same.new hb
      have e2 : (upd H3 b (.tup [.int ((x : Int) + ((1 + i : Nat) : Int)), .int u])) b = some (.tup [.int ((x : Int) + ((1 + i : Nat) : Int)), .int u]) := upd_same
      generalize upd H3 b (.tup [.int ((x : Int) + ((1 + i : Nat) : Int)), .int u]) = H4 at hl z2 e2
      have z3 : Same H4 (upd H4 l (.tup [.ref a, .ref b])) := Same.new hl
      have e3 : (upd H4 l (.tup [.ref a, .ref b])) l = some (.tup [.ref a, .ref b]) := upd_same
      show ∃ acc, (upd H4 l (.tup [.ref a, .ref b])) D = some (.lst acc) ∧ _
      generalize upd H4 l (.tup [.ref a, .ref b]) = H5 at z3 e3
      have z : Same H2 H5 := (z1.trans z2).trans z3
      have hlot : LotAt u d x H5 (.ref l) ((1 + i : Nat) : Int) := ⟨l, a, b, rfl, e3, z3 _ _ (z2 _ _ e1), z3 _ _ e2⟩
      refine ⟨acc, z _ _ eD, Nat.lt_of_lt_of_le (show acc.length < 1000 by omega) (by decide), Same.on (s1.trans z) hD, acc ++ [.ref l], upd_same, by simp [hal], ?_⟩
      have kk : Kp H5 (upd H5 D (.lst (acc ++ [.ref l]))) := Kp.lst (z _ _ eD)
      rw [List.take_add_one, stakes_at hi]
      exact All2.snoc ((hacc.mono fun _ _ => LotAt.kp (.of z)).mono fun _ _ => LotAt.kp kk) (hlot.kp kk)
    · rintro H1 ⟨s1, acc, eD, hal, hacc⟩
      rw [List.take_of_length_le (by rw [stakes_len, em2]; exact Nat.le_refl _)] at hacc
      refine ⟨D, acc, rfl, .inl ⟨SqL.of eD, fun t ht => ?_⟩⟩
      exact q _ _ (s1.trans (Same.new ht)) ⟨t, acc, rfl, upd_same, hacc.mono fun _ _ => LotAt.kp (.new ht)⟩

/-! ### plain_board -/
abbrev sPlain : Stmt := topS 55
theorem scPlain : FnScope ["goal", "up", "down", "pays", "x"] ["goal", "up", "down"] (C8.fnScope sPlain) := ⟨rfl, rfl, rfl, by decide +kernel, rfl, by decide +kernel, by decide +kernel⟩
def spPlain (C : Addr) : Sp := fun vs H Q _ => ∃ (g : Nat) (u d : Int), vs = [.int g, .int u, .int d] ∧ Par g u d ∧ ∀ H' b, Same H H' → BoardAt C g u d H' b → Q (.ref b) H'
theorem pays_at {g : Nat} {u d : Int} {H : Hp} {a b : Addr} (ha : H a = some (.tup [.int 0, .int 1])) (hb : H b = some (.tup [.int 1, .int 1])) : All2 (RatAt H) (List.replicate g (V.ref a) ++ [V.ref b]) (vf g u d 0) := by
  have e : vf g u d 0 = List.replicate g ((0, 1) : Rat2) ++ [(1, 1)] := by
    refine List.ext_getElem? fun i => ?_
    by_cases hi : i < g
    · rw [vf_get (by omega), List.getElem?_append_left (by rw [List.length_replicate]; exact hi), List.getElem?_replicate, if_pos hi, Int.pow_zero]
      simp only [bW]
      rw [if_neg (by omega), rt_zero (by omega)]
    · by_cases h2 : i = g
      · subst h2
        rw [vf_get (by omega), List.getElem?_append_right (by rw [List.length_replicate]; exact Nat.le_refl _), List.length_replicate, Nat.sub_self, Int.pow_zero]
        simp only [bW]
        rw [if_pos trivial, rt_one (by omega)]
        rfl
      · rw [List.getElem?_eq_none (by rw [vf_len]; omega), List.getElem?_eq_none (by rw [List.length_append, List.length_replicate]; show g + 1 ≤ i; omega)]
  rw [e]
  refine All2.snoc ⟨by rw [List.length_replicate, List.length_replicate], fun i v r h1 h2 => ?_⟩ ⟨b, rfl, hb⟩
  rw [List.getElem?_replicate] at h1 h2
  by_cases hi : i < g
  · rw [if_pos hi] at h1 h2
    cases Option.some.inj h1
    cases Option.some.inj h2
    exact ⟨a, rfl, ha⟩
  · rw [if_neg hi] at h1
    cases h1
theorem rep_one (v : V) : ∀ n : Nat, (List.replicate n [v]).flatten = List.replicate n v
  | 0 => rfl
  | n + 1 => by
    rw [List.replicate_succ, List.flatten_cons, rep_one v n, List.replicate_succ]
    rfl
theorem c_plain {f C : Addr} {fd : FuncData} (F : C8.Def K mg "plain_board" sPlain f fd) (b : Binds K fd ["goal", "up", "down"] []) (T : Tx K mg)
    (c1 : C8.Cal P w K mg base 1 "want_goal" spWGoal []) (c2 : C8.Cal P w K mg base 1 "want_weights" spWWeights []) (c3 : C8.Cal P w K mg base 1 "plain_plays" spPPlays []) (c4 : C8.Cal P w K mg base 5 "made_board" (spMade C) []) :
    C8.Cal P w K mg base 6 "plain_board" (spPlain C) [] := by
  refine C8.cal0 F b .nil scPlain (fun vs H Q E h => ?_) (fun cdv A outer s0 H vs Q E hr h => ?_)
  · obtain ⟨g, u, d, rfl, _⟩ := h
    rfl
  · obtain ⟨g, u, d, rfl, hP, q⟩ := h
    have g1 := hP.g1
    have g24 := hP.g24
    have u1 := hP.u1
    have ud := hP.ud
    have d99 := hP.d99
    obtain ⟨t24, h24⟩ := T.laid24
    refine ⟨_, pss_cons (ps_expr (C8.pe_c c1 hr (by decide) (by rfl) (pa_cons (pv 0) (pa_cons (pe_glob (v := .int 24) (by rfl) h24 ⟨_, rfl⟩) pa_nil))))
      (pss_cons (ps_expr (C8.pe_c c2 hr (by decide) (by rfl) (pa_cons (pv 1) (pa_cons (pv 2) pa_nil))))
      (pss_cons (ps_set (i := 3) scPlain.nd rfl (.inl rfl) (pe_op op_catA (pe_op (OpR.or op_rep1 op_repT) (pe_tup (pa_cons (pe_tup (pa_cons pe_int (pa_cons pe_int pa_nil))) pa_nil)) (pv 0)) (pe_tup (pa_cons (pe_tup (pa_cons pe_int (pa_cons pe_int pa_nil))) pa_nil))))
      (pss_one (ps_ret (C8.pe_c c4 hr (by decide) (by rfl) (pa_cons (pv 3) (pa_cons (pe_callTy call_tuple_of (by rfl) T.tuple (by decide +kernel) (pa_cons
        (pe_lc (own := [("x", 4)]) (g := gName 4) (te := tCall spPPlays [] C8.E0 (tCons (tVar 0) (tCons (tVar 1) (tCons (tVar 2) (tCons (tVar 4) tNil)))))
          (by rfl) scPlain.nd (pi_range1 (by rfl) T.range (pa_cons (pe_op op_add (pv 0) pe_int) pa_nil))
          (blkOk_by (own := [("x", 4)]) (N := ["goal", "up", "down", "pays", "x"]) (sc := C8.fnScope sPlain) (by decide +kernel))
          (fun _ _ _ _ _ => pg_name (i := 4) scPlain.nd rfl (Or.inl rfl)) (fun _ _ _ _ _ => pts_nil)
          (fun _ _ _ _ _ => C8.pe_c c3 hr (by decide) (by rfl) (pa_cons (pv 0) (pa_cons (pv 1) (pa_cons (pv 2) (pa_cons (pv 4) pa_nil)))))) pa_nil)) pa_nil))))))), ?_⟩
    refine ⟨.int g, rfl, g, 24, rfl, by omega, by omega, .int u, rfl, .int d, rfl, u, d, rfl, u1, by omega, by omega, d99, fun H1 s1 => ?_⟩
    -- pays = ((0, 1),) * goal + ((1, 1),)
    refine ⟨(by show 2 ≤ sizeLine; decide), fun a ha => ⟨(by show 1 ≤ sizeLine; decide), fun l0 hl0 => ?_⟩⟩
    have y1 : Same H1 (upd H1 a (.tup [.int 0, .int 1])) := Same.new ha
    have e1 : (upd H1 a (.tup [.int 0, .int 1])) a = some (.tup [.int 0, .int 1]) := upd_same
    generalize upd H1 a (.tup [.int 0, .int 1]) = H2 at hl0 y1 e1
    have y2 : Same H2 (upd H2 l0 (.tup [.ref a])) := Same.new hl0
    have e2 : (upd H2 l0 (.tup [.ref a])) l0 = some (.tup [.ref a]) := upd_same
    generalize upd H2 l0 (.tup [.ref a]) = H3 at y2 e2
    refine ⟨.int g, rfl, ?_⟩
    -- what follows, from the row of zeros
    have go : ∀ (R : VK) (m : Addr) (H4 : Hp), (∀ pp H6, Same H3 H6 → FunAt H6 pp (vf g u d 0) → R (.ref pp) H6) → Same H3 H4 → H4 m = some (.tup (List.replicate g (V.ref a))) → tTup (tCons (tTup (tCons (tC (.int 1)) (tCons (tC (.int 1)) tNil))) tNil) [some (.int g), some (.int u), some (.int d), none, none] H4 fun y H5 => rCatA K (.ref m) y H5 R := by
      intro R m H4 hR y3 em
      refine ⟨(by show 2 ≤ sizeLine; decide), fun b hb => ⟨(by show 1 ≤ sizeLine; decide), fun l1 hl1 => ?_⟩⟩
      have y4 : Same H4 (upd H4 b (.tup [.int 1, .int 1])) := Same.new hb
      have e4 : (upd H4 b (.tup [.int 1, .int 1])) b = some (.tup [.int 1, .int 1]) := upd_same
      generalize upd H4 b (.tup [.int 1, .int 1]) = H5 at hl1 y4 e4
      have y5 : Same H5 (upd H5 l1 (.tup [.ref b])) := Same.new hl1
      have e5 : (upd H5 l1 (.tup [.ref b])) l1 = some (.tup [.ref b]) := upd_same
      generalize upd H5 l1 (.tup [.ref b]) = H6 at y5 e5
      have y46 : Same H4 H6 := y4.trans y5
      refine ⟨m, l1, List.replicate g (V.ref a), [.ref b], rfl, rfl, SqT.of (y46 _ _ em), SqT.of e5, ?_, fun z => ?_, fun _ z => (nomatch z), fun _ _ pp hpp => ?_⟩
      · rw [List.length_replicate]
        exact Nat.le_of_lt (Nat.lt_of_lt_of_le (show g + 1 < 1000 by omega) (by decide))
      · have := congrArg List.length z
        rw [List.length_replicate] at this
        have h : g = 0 := this
        omega
      · have y7 : Same H6 (upd H6 pp (.tup (List.replicate g (V.ref a) ++ [.ref b]))) := Same.new hpp
        have ya : H6 a = some (.tup [.int 0, .int 1]) := y46 _ _ (y3 _ _ (y2 _ _ e1))
        exact hR pp _ ((y3.trans y46).trans y7) ⟨_, upd_same, pays_at (y7 _ _ ya) (y7 _ _ (y5 _ _ e4))⟩
    -- what follows, from the pays
    have fin : ∀ (pp : Addr) (H6 : Hp), Same H3 H6 → FunAt H6 pp (vf g u d 0) → tCall (spMade C) [] C8.E0 (tCons (tVar 3) (tCons (tCB (fun xs H Q => ∃ p ys, xs = [V.ref p] ∧ ((SqL K H p ys ∧ ∀ l, H l = none → Q (.ref l) (upd H l (.tup ys))) ∨ (SqT K H p ys ∧ Q (.ref p) H))) (tCons (tLc (iRng1 (tCons (tOp (rI0 fun i j => .int (i + j)) (tVar 0) (tC (.int 1))) tNil)) (gName 4) tYes (tCall spPPlays [] C8.E0 (tCons (tVar 0) (tCons (tVar 1) (tCons (tVar 2) (tCons (tVar 4) tNil))))) [4]) tNil)) tNil))
        [some (.int g), some (.int u), some (.int d), some (.ref pp), none] H6 Q := by
      intro pp H6 y6 hF
      have s06 : Same H H6 := ((s1.trans y1).trans y2).trans y6
      refine ⟨.ref pp, rfl, .int g, rfl, g, 1, rfl, rfl, _, rfl, by omega, by omega, fun D hD => ?_⟩
      have en : ((g : Int) + 1).toNat = g + 1 := by omega
      refine lc_it (walk_range (lo := 0) (n := ((g : Int) + 1).toNat)) (fun i H' => Same H6 H' ∧ ∃ acc, H' D = some (.lst acc) ∧ acc.length = i ∧ All2 (RowAt g u d H') acc ((List.range (g + 1)).take i))
        ⟨Same.new hD, [], upd_same, rfl, All2.nil⟩ (fun i H' _ h => True.intro) ?_ ?_
      · rintro i y H7 H8 hi ⟨z1, acc, eD, hal, hacc⟩ ⟨rfl, hy⟩
        rw [en] at hi
        have ey : y = V.int ((i : Nat) : Int) := hy.trans (by show V.int (0 + (i : Int)) = _; rw [Int.zero_add])
        subst ey
        refine ⟨rfl, .int g, rfl, .int u, rfl, .int d, rfl, .int i, rfl, g, i, u, d, rfl, by omega, g24, fun H9 v z2 hv => ?_⟩
        refine ⟨acc, z2 _ _ eD, Nat.lt_of_lt_of_le (show acc.length < 1000 by omega) (by decide), Same.on (z1.trans z2) hD, acc ++ [v], upd_same, by simp [hal], ?_⟩
        have kk : Kp H9 (upd H9 D (.lst (acc ++ [v]))) := Kp.lst (z2 _ _ eD)
        rw [List.take_add_one, List.getElem?_range hi]
        exact All2.snoc ((hacc.mono fun _ _ => RowAt.kp (.of z2)).mono fun _ _ => RowAt.kp kk) (hv.kp kk)
      · rintro H7 ⟨z1, acc, eD, hal, hacc⟩
        rw [List.take_of_length_le (by rw [List.length_range, en]; exact Nat.le_refl _)] at hacc
        refine ⟨D, acc, rfl, .inl ⟨SqL.of eD, fun t ht => ?_⟩⟩
        have z2 : Same H6 (upd H7 t (.tup acc)) := z1.trans (Same.new ht)
        exact ⟨pp, t, g, u, d, rfl, hP, hF.kp (.of z2), ⟨acc, upd_same, hacc.mono fun _ _ => RowAt.kp (.new ht)⟩, fun H9 b z3 hB => q H9 b ((s06.trans z2).trans z3) hB⟩
    by_cases c : g = 1
    · refine .inl ⟨l0, [.ref a], rfl, by rw [c]; rfl, SqT.of e2, ?_⟩
      exact go _ l0 H3 (fun pp H6 y6 hF => fin pp H6 y6 hF) (Same.refl H3) (by rw [c]; exact e2)
    · refine .inr ⟨l0, g, [.ref a], rfl, rfl, SqT.of e2, (fun z => nomatch z), by omega, by omega, by show 1 ≤ 1000; decide, fun m hm => ?_⟩
      exact go _ m _ (fun pp H6 y6 hF => fin pp H6 y6 hF) (Same.new hm) (by rw [upd_same, Int.toNat_natCast, rep_one])
end
end Sk
set_option Elab.async false
set_option linter.all false
set_option maxRecDepth 100000
set_option maxHeartbeats 4000000
namespace Sk
open PySem PySem.Spec PyProof.Rows L2 Bk Xr
/-! ### ratios as data -/
def dR (r : Rat2) : PyData := .tuple [.int r.1, .int r.2]
theorem dR_lay (r : Rat2) : (dR r).canLay0 = true := by simp [dR, PyData.canLay0, PyData.canLayAll0]
theorem dR_depth (r : Rat2) : (dR r).depth = 1 := by simp [dR, PyData.depth, PyData.depthAll]
theorem dRs_lay : ∀ rs : List Rat2, PyData.canLayAll0 (rs.map dR) = true
  | [] => by simp [PyData.canLayAll0]
  | z :: zs => by simp [PyData.canLayAll0, dR_lay z, dRs_lay zs]
theorem dRs_depth : ∀ rs : List Rat2, PyData.depthAll (rs.map dR) ≤ 1
  | [] => by simp [PyData.depthAll]
  | z :: zs => by
    have h1 := dRs_depth zs
    have h2 := dR_depth z
    simp only [List.map_cons, PyData.depthAll]
    omega
theorem dR_shaped (r : Rat2) : SeqAt.shaped (dR r) = true := by
  have h := dR_depth r
  show ((dR r).canLay0 && decide ((dR r).depth ≤ 64)) = true
  rw [Bool.and_eq_true]
  exact ⟨dR_lay r, decide_eq_true (by omega)⟩
theorem dRs_shaped (rs : List Rat2) : SeqAt.shaped (.list (rs.map dR)) = true := by
  have h1 := dRs_depth rs
  have h2 : PyData.depth (.list (rs.map dR)) ≤ 64 := by
    simp only [PyData.depth]
    omega
  show (PyData.canLay0 (.list (rs.map dR)) && decide (PyData.depth (.list (rs.map dR)) ≤ 64)) = true
  rw [Bool.and_eq_true]
  exact ⟨by simp only [PyData.canLay0]; exact dRs_lay rs, decide_eq_true h2⟩
theorem dR_eqv (r s : Rat2) : PyData.eqv (dR r) (dR s) = decide (r = s) := by
  obtain ⟨a, b⟩ := r
  obtain ⟨a', b'⟩ := s
  have e : PyData.eqv (dR (a, b)) (dR (a', b')) = ((a == a') && ((b == b') && true)) := by simp only [dR, PyData.eqv, PyData.eqvAll]
  rw [e]
  by_cases h1 : a = a'
  · by_cases h2 : b = b'
    · subst h1 h2
      simp
    · rw [decide_eq_false (fun z => h2 (Prod.mk.inj z).2), beq_eq_false_iff_ne.mpr h2, Bool.false_and, Bool.and_false]
  · rw [decide_eq_false (fun z => h1 (Prod.mk.inj z).1), beq_eq_false_iff_ne.mpr h1, Bool.false_and]
theorem dR_at {K : PySem.W.Frag} {H : Hp} {v : V} {r : Rat2} (h : RatAt H v r) : Dp K H v (dR r) := by
  obtain ⟨q, rfl, hq⟩ := h
  exact .tup (SqT.of hq) (.cons (.int _) (.cons (.int _) .nil))
theorem dRs_at {K : PySem.W.Frag} {H : Hp} : ∀ {vs : List V} {rs : List Rat2}, All2 (RatAt H) vs rs → DpAll K H vs (rs.map dR)
  | [], [], _ => .nil
  | [], r :: rs, h => by have := h.1; simp at this
  | v :: vs, [], h => by have := h.1; simp at this
  | v :: vs, r :: rs, h => .cons (dR_at (h.2 0 v r rfl rfl)) (dRs_at ⟨by have := h.1; simpa using this, fun i x y a b => h.2 (i + 1) x y a b⟩)
/-- the first place of an item -/
theorem first_ix {c : Int} : ∀ {cs : List Int}, c ∈ cs → ∃ j : Nat, cs[j]? = some c ∧ ∀ (m : Nat) (c' : Int), m < j → cs[m]? = some c' → c' ≠ c
  | [], h => by cases h
  | a :: cs, h => by
    by_cases e : a = c
    · subst e
      exact ⟨0, rfl, fun m c' hm => absurd hm (Nat.not_lt_zero _)⟩
    · obtain ⟨j, h1, h2⟩ := first_ix (c := c) (cs := cs) (by
        rcases List.mem_cons.mp h with z | z
        · exact absurd z.symm e
        · exact z)
      refine ⟨j + 1, h1, fun m c' hm hc => ?_⟩
      cases m with
      | zero =>
        cases Option.some.inj hc
        exact e
      | succ m => exact h2 m c' (by omega) hc

theorem hu65_of {A : Around} {k : Nat} (hr : Room k A) : A.units + 65 < cLine := by
  have := hr.un
  omega
/-! ### clock_choices -/
/-- with k + 1 plays left at x: a number below the number of an amount that is the greatest -/
def ChV (g : Nat) (u d : Int) (k : Nat) (v : V) (x : Nat) : Prop := ∃ j : Nat, v = .int ((j : Int) + -1) ∧ (am g u d k x)[j]? = some (bW g u d (k + 1) x)
def ChRow (g : Nat) (u d : Int) (H : Hp) (v : V) (k : Nat) : Prop := ∃ q ws, v = .ref q ∧ H q = some (.tup ws) ∧ All2 (ChV g u d k) ws (List.range (g + 1))
def ChTab (H : Hp) (p : Addr) (g : Nat) (u d : Int) (n : Nat) : Prop := ∃ vs, H p = some (.tup vs) ∧ All2 (ChRow g u d H) vs (List.range n)
theorem ChRow.kp {g : Nat} {u d : Int} {H H' : Hp} {v : V} {k : Nat} (z : Kp H H') : ChRow g u d H v k → ChRow g u d H' v k := fun ⟨q, ws, e, h, a⟩ => ⟨q, ws, e, z.tup h, a⟩
theorem ChTab.kp {g : Nat} {u d : Int} {H H' : Hp} {p : Addr} {n : Nat} (z : Kp H H') : ChTab H p g u d n → ChTab H' p g u d n := fun ⟨vs, h, a⟩ => ⟨vs, z.tup h, a.mono fun _ _ => ChRow.kp z⟩
section
variable {P : Program} {w : World} {K : PySem.W.Frag} {mg : Str → Option Value} {base : Heap}
abbrev sChoices : Stmt := topS 51
theorem scChoices : FnScope ["board", "n", "functions", "found", "k", "choices", "x", "best"] ["board", "n"] (C8.fnScope sChoices) := ⟨rfl, rfl, rfl, by decide +kernel, rfl, by decide +kernel, by decide +kernel⟩
def spChoices (C : Addr) : Sp := fun vs H Q _ => ∃ (b : Addr) (g : Nat) (u d : Int) (n : Nat), vs = [.ref b, .int n] ∧ Par g u d ∧ n ≤ 12 ∧ BoardAt C g u d H b ∧ ∀ H' p, Same H H' → ChTab H' p g u d n → Q (.ref p) H'
theorem c_choices {f C : Addr} {fd : FuncData} (F : C8.Def K mg "clock_choices" sChoices f fd) (b : Binds K fd ["board", "n"] []) (T : Tx K mg) (cW : C8.Cal P w K mg base 5 "within" (spWithin C) []) (cA : C8.Cal P w K mg base 3 "clock_amounts" (spAmounts C) []) :
    C8.Cal P w K mg base 6 "clock_choices" (spChoices C) [] := by
  refine C8.cal0 F b .nil scChoices (fun vs H Q E h => ?_) (fun cdv A outer s0 H vs Q E hr h => ?_)
  · obtain ⟨b, g, u, d, n, rfl, _⟩ := h
    rfl
  · obtain ⟨b, g, u, d, n, rfl, hP, hn, hB, q⟩ := h
    obtain ⟨ts, hs⟩ := T.stop
    have g24 := hP.g24
    refine ⟨_, pss_cons (ps_par (i := 2) (j := 3) (by rfl) scChoices.nd rfl rfl (by decide) rfl rfl (pa_cons (C8.pe_c cW hr (by decide) (by rfl) (pa_cons (pv 0) (pa_cons (pv 1) pa_nil))) (pa_cons (pe_lst pa_nil) pa_nil)) (by rfl))
      (pss_cons (ps_for PassesOwn.never rfl (pi_range1 (by rfl) T.range (pa_cons (pv 1) pa_nil)) (pg_name (i := 4) scChoices.nd rfl (.inl rfl))
        (pss_cons (ps_set (i := 5) scChoices.nd rfl (.inl rfl) (pe_lst pa_nil))
        (pss_cons (ps_for PassesOwn.never rfl (pi_enumT (by rfl) T.enum (pa_cons (pe_ix ix_tup (pv 2) (pe_op op_add (pv 4) pe_int) (fun _ _ => rfl)) pa_nil)) (pg_tup rfl (pgs_cons (pg_name (i := 6) scChoices.nd rfl (.inl rfl)) (pgs_cons (pg_name (i := 7) scChoices.nd rfl (.inl rfl)) pgs_nil)))
          (pss_one (ps_expr (pe_bm PySem.F.plainAttrs_list PySem.F.slot_list_append PySem.F.type_list_append mt_append (pv 5)
            (pa_cons (pe_op op_add (pe_bm PySem.F.plainAttrs_list PySem.F.slot_list_index PySem.F.type_list_index (mt_indexD (hu65_of hr)) (C8.pe_c cA hr (by decide) (by rfl) (pa_cons (pv 0) (pa_cons (pe_ix ix_tup (pv 2) (pv 4) (fun _ _ => rfl)) (pa_cons (pv 6) pa_nil)))) (pa_cons (pv 7) pa_nil))
              (pe_glob (v := .int (-1)) (by rfl) hs ⟨_, rfl⟩)) pa_nil)))))
        (pss_one (ps_expr (pe_bm PySem.F.plainAttrs_list PySem.F.slot_list_append PySem.F.type_list_append mt_append (pv 3) (pa_cons (pe_callTy call_tuple_of (by rfl) T.tuple (by decide +kernel) (pa_cons (pv 5) pa_nil)) pa_nil)))))))
      (pss_one (ps_ret (pe_callTy call_tuple_of (by rfl) T.tuple (by decide +kernel) (pa_cons (pv 3) pa_nil))))), ?_⟩
    refine ⟨.ref b, rfl, .int n, rfl, b, g, u, d, n, rfl, hP, hn, hB, fun H1 fp s1 hT => ⟨Nat.zero_le _, fun l hl => ⟨.ref fp, .ref l, rfl, ?_⟩⟩⟩
    obtain ⟨fns, hfp, hfns⟩ := id hT
    have s2 : Same H1 (upd H1 l (.lst [])) := Same.new hl
    refine ⟨.int n, rfl, n, rfl, (by omega), (by omega), for_it (walk_range (lo := 0) (n := n)) (fun i σ H' => ∃ y4 y5 y6 y7 vs, σ = [some (.ref b), some (.int n), some (.ref fp), some (.ref l), y4, y5, y6, y7] ∧ Same H1 H' ∧ H' l = some (.lst vs) ∧ All2 (ChRow g u d H') vs (List.range i))
      ⟨none, none, none, none, [], rfl, s2, upd_same, All2.nil⟩ (fun i σ H' _ h => True.intro) ?_ ?_⟩
    · rintro k y σ H2 H3 hk ⟨y4, y5, y6, y7, vs, rfl, z1, el, hvs⟩ ⟨rfl, hy⟩
      have ey : y = V.int ((k : Nat) : Int) := hy.trans (by show V.int (0 + (k : Int)) = _; rw [Int.zero_add])
      subst ey
      have vl : vs.length = k := hvs.1.trans List.length_range
      -- choices = []
      refine ⟨Nat.zero_le _, fun m hm => ?_⟩
      have z2 : Same H3 (upd H3 m (.lst [])) := Same.new hm
      have em : (upd H3 m (.lst [])) m = some (.lst []) := upd_same
      generalize upd H3 m (.lst []) = H4 at z2 em
      have z14 : Same H1 H4 := z1.trans z2
      obtain ⟨vk, hvk, qk, rfl, hqk⟩ := hfns.get (i := k) (r := k) (by rw [List.getElem?_range (by omega)])
      obtain ⟨vk1, hvk1, qk1, rfl, hqk1⟩ := hfns.get (i := k + 1) (r := k + 1) (by rw [List.getElem?_range (by omega)])
      obtain ⟨bs, hbs, hbsA⟩ := id hqk1
      have bsl : bs.length = g + 1 := hbsA.1.trans vf_len
      refine ⟨.ref fp, rfl, .int k, rfl, k, 1, rfl, rfl, fp, fns, ((k + 1 : Nat) : Int), .ref qk1, rfl, rfl, SqT.of (z14 _ _ hfp), atI_nat hvk1, qk1, bs, rfl, SqT.of (z14 _ _ hbs), ?_⟩
      refine for_it (walk_enumT (xs := bs)) (fun x σ H' => ∃ y6 y7 acc, σ = [some (.ref b), some (.int n), some (.ref fp), some (.ref l), some (.int k), some (.ref m), y6, y7] ∧ Same H3 H' ∧ H' m = some (.lst acc) ∧ All2 (ChV g u d k) acc (List.range x))
        ⟨y6, y7, [], rfl, z2, em, All2.nil⟩ (fun x σ H' _ h => by obtain ⟨_, _, _, _, s, _⟩ := h; exact SqT.of (s _ _ (z1 _ _ hbs))) ?_ ?_
      · rintro x v σ H5 H6 hx ⟨y6, y7, acc, rfl, z3, eacc, hacc⟩ ⟨t, i0, best, rfl, ht, rfl, hi0, hbest⟩
        cases Option.some.inj hi0
        have al : acc.length = x := hacc.1.trans List.length_range
        have hxg : x ≤ g := by omega
        have z4 : Same H5 (upd H5 t (.tup [.int (x : Nat), best])) := Same.new ht
        have et : (upd H5 t (.tup [.int (x : Nat), best])) t = some (.tup [.int (x : Nat), best]) := upd_same
        generalize upd H5 t (.tup [.int (x : Nat), best]) = H7 at z4 et
        have z36 : Same H3 H7 := z3.trans z4
        have z17 : Same H1 H7 := z1.trans z36
        have hr1 : RatAt H1 best (rt (bW g u d (k + 1) x) ((u + d) ^ (k + 1))) := hbsA.2 x best _ hbest (vf_get hxg)
        refine ⟨t, [.int (x : Nat), best], rfl, SqT.of et, rfl, .int (x : Nat), [best], rfl, best, [], rfl, rfl, ?_⟩
        refine ⟨.ref m, rfl, .inl ⟨rfl, _, SqL.of (z4 _ _ eacc)⟩, .ref b, rfl, .ref fp, rfl, .int k, rfl, fp, fns, k, .ref qk, rfl, rfl, SqT.of (z17 _ _ hfp), atI_nat hvk, .int x, rfl,
          b, qk, g, u, d, k, x, rfl, hP, by omega, hxg, hB.kp (.of (s1.trans z17)), hqk.kp (.of z17), fun H8 p ws z5 hp ep hws => ?_⟩
        obtain ⟨j, hj, hjn⟩ := first_ix (am_mem hP k hxg)
        refine ⟨.inl ⟨rfl, _, SqL.of ep⟩, best, rfl, p, best, dR (rt (bW g u d (k + 1) x) ((u + d) ^ (k + 1))), (rts ((u + d) ^ (k + 1)) (am g u d k x)).map dR, j, dR (rt (bW g u d (k + 1) x) ((u + d) ^ (k + 1))), rfl, rfl, .lst (SqL.of ep) (dRs_at hws), dR_at (hr1.kp (.of (z17.trans z5))), dRs_shaped _, dR_shaped _, ?_, ?_, ?_, ?_⟩
        · rw [List.getElem?_map, rts_get hj]
          rfl
        · rw [dR_eqv, decide_eq_true rfl]
        · intro mm z' hm' hz'
          rw [List.getElem?_map] at hz'
          cases e : (am g u d k x)[mm]? with
          | none =>
            rw [List.getElem?_eq_none (by rw [rts_len]; exact List.getElem?_eq_none_iff.mp e)] at hz'
            cases hz'
          | some c =>
            rw [rts_get e] at hz'
            cases Option.some.inj hz'
            rw [dR_eqv]
            exact decide_eq_false fun z => hjn mm c hm' e (rt_inj (hP.sp _) z)
        · refine ⟨_, -1, rfl, rfl, m, acc, _, rfl, rfl, z5 _ _ (z4 _ _ eacc), Nat.lt_of_lt_of_le (show acc.length < 1000 by omega) (by decide), ?_⟩
          refine ⟨some (.int x), some best, _, rfl, Same.on (z36.trans z5) hm, upd_same, ?_⟩
          rw [List.range_succ]
          exact All2.snoc hacc ⟨j, rfl, hj⟩
      · rintro σ H5 ⟨y6, y7, acc, rfl, z3, eacc, hacc⟩
        rw [bsl] at hacc
        have z13 : Same H1 H5 := z1.trans z3
        refine ⟨.ref l, rfl, .inl ⟨rfl, _, SqL.of (z3 _ _ el)⟩, .ref m, rfl, m, acc, rfl, .inl ⟨SqL.of eacc, fun t ht => ?_⟩⟩
        have z4 : Same H5 (upd H5 t (.tup acc)) := Same.new ht
        have et : (upd H5 t (.tup acc)) t = some (.tup acc) := upd_same
        generalize upd H5 t (.tup acc) = H6 at z4 et
        have ell : H6 l = some (.lst vs) := z4 _ _ (z3 _ _ el)
        refine ⟨l, vs, .ref t, rfl, rfl, ell, Nat.lt_of_lt_of_le (show vs.length < 1000 by omega) (by decide), ?_⟩
        have kk : Kp H6 (upd H6 l (.lst (vs ++ [.ref t]))) := Kp.lst ell
        refine ⟨some (.int k), some (.ref m), y6, y7, vs ++ [.ref t], rfl, Same.on (z13.trans z4) hl, upd_same, ?_⟩
        rw [List.range_succ]
        exact All2.snoc ((hvs.mono fun _ _ => ChRow.kp (.of (z3.trans z4))).mono fun _ _ => ChRow.kp kk) ⟨t, acc, rfl, kk.tup et, hacc⟩
    · rintro σ H2 ⟨y4, y5, y6, y7, vs, rfl, z1, el, hvs⟩
      refine ⟨.ref l, rfl, l, vs, rfl, .inl ⟨SqL.of el, fun t ht => ?_⟩⟩
      exact q _ t ((s1.trans z1).trans (Same.new ht)) ⟨vs, upd_same, hvs.mono fun _ _ => ChRow.kp (.new ht)⟩
end
end Sk
set_option Elab.async false
set_option linter.all false
set_option maxRecDepth 100000
set_option maxHeartbeats 4000000
namespace Sk
open PySem PySem.Spec PyProof.Rows L2 Bk Xr
/-- the law's source of draws -/
def SrcAt (H : Hp) (p : Addr) : Prop := ∃ x y : Int, H p = some (.lst [.int x, .int y]) ∧ 0 ≤ x ∧ 0 ≤ y ∧ y < 2147483647
def But (p : Addr) (H H' : Hp) : Prop := ∀ b o, H b = some o → b ≠ p → H' b = some o
theorem But.refl {p : Addr} {H : Hp} : But p H H := fun _ _ h _ => h
theorem But.trans {p : Addr} {H H1 H2 : Hp} (a : But p H H1) (b : But p H1 H2) : But p H H2 := fun c o h n => b c o (a c o h n) n
theorem But.of {p : Addr} {H H1 : Hp} (s : Same H H1) : But p H H1 := fun c o h _ => s c o h
section
variable {P : Program} {w : World} {K : PySem.W.Frag} {mg : Str → Option Value} {base : Heap}
/-! ### _law_pool -/
abbrev sPool : Stmt := topS 57
theorem scPool : FnScope ["_law_script", "_law_k", "_law_cell", "_law_big", "_law_mixed"] ["_law_script", "_law_k"] (C8.fnScope sPool) := ⟨rfl, rfl, rfl, by decide +kernel, rfl, by decide +kernel, by decide +kernel⟩
def spPool (K : PySem.W.Frag) : Sp := fun vs H Q _ => ∃ (a : Addr) (ns : List Int), vs = [.ref a, .int 0] ∧ SqL K H a (ns.map V.int) ∧ ∀ H' p, Same H H' → SrcAt H' p → Q (.ref p) H'
theorem c_pool {f : Addr} {fd : FuncData} (F : C8.Def K mg "_law_pool" sPool f fd) (b : Binds K fd ["_law_script", "_law_k"] []) (T : Tx K mg) : C8.Cal P w K mg base 1 "_law_pool" (spPool K) [] := by
  refine C8.cal0 F b .nil scPool (fun vs H Q E h => ?_) (fun cdv A outer s0 H vs Q E hr h => ?_)
  · obtain ⟨a, ns, rfl, _⟩ := h
    rfl
  · obtain ⟨a, ns, rfl, hS, q⟩ := h
    refine ⟨_, pss_cons (ps_set (i := 2) scPool.nd rfl (.inl rfl) pe_int)
      (pss_cons (ps_if (pt_cmpR op_lt (pv 1) (pe_callB call_len_seq (by rfl) T.len PySem.boot_len (pa_cons (pv 0) pa_nil)) (nomark _)) (pss_one (ps_set (i := 2) scPool.nd rfl (.inl rfl) (pe_ix ix_list (pv 0) (pv 1) (fun _ _ => rfl))))
        (pss_one (ps_if (pt_truth (pv 0) (by intro _; rfl)) (pss_one (ps_set (i := 2) scPool.nd rfl (.inl rfl) (pe_ix ix_list (pv 0) pe_int (fun _ _ => rfl)))) pss_nil)))
      (pss_cons (ps_set (i := 3) scPool.nd rfl (.inl rfl) (pe_callB (call_max2 rfl) (by rfl) T.max (by decide +kernel) (pa_cons (pe_callTy call_int1 (by rfl) T.int (by decide +kernel) (pa_cons (pv 2) pa_nil))
        (pa_cons (pe_callTy call_int1 (by rfl) T.int (by decide +kernel) (pa_cons (pe_op op_sub (pe_un un_neg pe_int) (pv 2)) pa_nil)) pa_nil))))
      (pss_cons (ps_set (i := 4) scPool.nd rfl (.inl rfl) (pe_op op_mod (pe_callTy call_int1 (by rfl) T.int (by decide +kernel) (pa_cons (pe_op op_mul (pe_op op_add (pe_op op_add (pe_op op_add
        (pe_op op_mod (pe_callTy call_int1 (by rfl) T.int (by decide +kernel) (pa_cons (pv 3) pa_nil)) pe_int) (pe_op op_mul (pe_op op_mul pe_int (pv 1)) (pv 1))) (pe_op op_mul pe_int (pv 1))) pe_int) pe_int) pa_nil)) pe_int))
      (pss_one (ps_ret (pe_lst (pa_cons (pe_op op_mul (pv 3) (pe_callTy call_int1 (by rfl) T.int (by decide +kernel) (pa_cons (pe_cmpR op_ge (pv 3) (pe_op op_pow pe_int pe_int) (nomark _)) pa_nil))) (pa_cons (pv 4) pa_nil)))))))), ?_⟩
    refine ⟨.int 0, rfl, .ref a, rfl, a, _, rfl, .inl hS, 0, _, rfl, rfl, _, rfl, ite2 (fun e => ?_) (fun e => ?_)⟩
    case' refine_1 =>
      have h0 : (0 : Int) < (ns.map V.int).length := of_decide_eq_true e
      obtain ⟨c, hc⟩ : ∃ c, ns[0]? = some c := by
        cases ns with
        | nil => simp at h0
        | cons c r => exact ⟨c, rfl⟩
      refine ⟨.ref a, rfl, .int 0, rfl, a, _, 0, .int c, rfl, rfl, hS, atI_nat (j := 0) (by rw [List.getElem?_map, hc]; rfl), ?_⟩
      refine ⟨.int c, rfl, .inl ⟨c, rfl, 1, rfl, .int c, rfl, _, _, rfl, rfl, .inl ⟨_, rfl, _, _, rfl, ?_⟩⟩⟩
      have hB : 0 ≤ (if -1 - c > c then -1 - c else c) := by split <;> omega
      generalize (if -1 - c > c then -1 - c else c) = B at hB
    case' refine_2 =>
      have h0 : (ns.map V.int).isEmpty = true := by
        cases ns with
        | nil => rfl
        | cons c r => exact absurd (decide_eq_true (by show (0 : Int) < (((c :: r).map V.int).length : Nat); rw [List.length_map, List.length_cons]; omega)) e
      refine ⟨.ref a, rfl, false, .inl ⟨_, hS, by rw [h0]; rfl⟩, ?_⟩
      refine ⟨.int 0, rfl, .inl ⟨0, rfl, 1, rfl, .int 0, rfl, _, _, rfl, rfl, .inl ⟨_, rfl, _, _, rfl, ?_⟩⟩⟩
      have hB : 0 ≤ (if -1 - (0 : Int) > 0 then -1 - (0 : Int) else 0) := by split <;> omega
      generalize (if -1 - (0 : Int) > 0 then -1 - (0 : Int) else 0) = B at hB
    all_goals
      refine ⟨.int B, rfl, .inl ⟨B, rfl, B, 2147483629, rfl, rfl, (by show (0 : Int) < 2147483629; decide), .int 0, rfl, 7919, 0, rfl, rfl, .inl ⟨by decide, by decide⟩, .int 0, rfl, _, 0, rfl, rfl, .inr ⟨by decide, by decide⟩, _, _, rfl, rfl, .int 0, rfl, 31, 0, rfl, rfl, .inl ⟨by decide, by decide⟩, _, _, rfl, rfl, _, 17, rfl, rfl,
        _, 48271, rfl, rfl, .inr ⟨by decide, by decide⟩, .inl ⟨_, rfl, _, 2147483647, rfl, rfl, (by show (0 : Int) < 2147483647; decide), ?_⟩⟩⟩
      refine ⟨.int B, rfl, .int B, rfl, 10, 18, rfl, rfl, ⟨by decide, by decide, by decide⟩, B, _, rfl, rfl, .inr ⟨_, rfl, B, _, rfl, rfl, .inr ?_, .int _, rfl, (by show 2 ≤ sizeLine; decide), fun p hp => ?_⟩⟩
      · split <;> exact ⟨by decide, by decide⟩
      · refine q _ p (Same.new hp) ⟨_, _, upd_same, ?_, Int.emod_nonneg _ (by decide), Int.emod_lt_of_pos _ (by decide)⟩
        split
        · rw [Int.mul_one]
          exact hB
        · rw [Int.mul_zero]
          exact Int.le_refl _

/-! ### _law_take -/
abbrev sTake : Stmt := topS 58
theorem scTake : FnScope ["_law_source", "_law_top", "_law_drawn"] ["_law_source", "_law_top"] (C8.fnScope sTake) := ⟨rfl, rfl, rfl, by decide +kernel, rfl, by decide +kernel, by decide +kernel⟩
def spTake : Sp := fun vs H Q _ => ∃ (p : Addr) (t : Int), vs = [.ref p, .int t] ∧ SrcAt H p ∧ 1 ≤ t ∧ t ≤ 99 ∧ ∀ H' r, But p H H' → SrcAt H' p → 0 ≤ r → r < t → Q (.int r) H'
theorem c_take {f : Addr} {fd : FuncData} (F : C8.Def K mg "_law_take" sTake f fd) (b : Binds K fd ["_law_source", "_law_top"] []) (T : Tx K mg) : C8.Cal P w K mg base 1 "_law_take" spTake [] := by
  refine C8.cal0 F b .nil scTake (fun vs H Q E h => ?_) (fun cdv A outer s0 H vs Q E hr h => ?_)
  · obtain ⟨p, t, rfl, _⟩ := h
    rfl
  · obtain ⟨p, t, rfl, ⟨x, y, hp, x0, y0, y1⟩, t1, t2, q⟩ := h
    refine ⟨_, pss_cons (ps_if (pt_cmpR op_gt (pe_ix ix_list (pv 0) pe_int (fun _ _ => rfl)) pe_int (nomark _))
        (pss_cons (ps_set (i := 2) scTake.nd rfl (.inl rfl) (pe_op op_mod (pe_callTy call_int1 (by rfl) T.int (by decide +kernel) (pa_cons (pe_ix ix_list (pv 0) pe_int (fun _ _ => rfl)) pa_nil)) (pv 1)))
        (pss_cons (ps_asg (pe_op op_fdiv (pe_ix ix_list (pv 0) pe_int (fun _ _ => rfl)) (pv 1)) (pg_sub (pv 0) pe_int set_list))
        (pss_one (ps_ret (pv 2))))) pss_nil)
      (pss_cons (ps_asg (pe_op op_mod (pe_callTy call_int1 (by rfl) T.int (by decide +kernel) (pa_cons (pe_op op_add (pe_op op_mul (pe_ix ix_list (pv 0) pe_int (fun _ _ => rfl)) pe_int) pe_int) pa_nil)) pe_int) (pg_sub (pv 0) pe_int set_list))
      (pss_one (ps_ret (pe_op op_mod (pe_callTy call_int1 (by rfl) T.int (by decide +kernel) (pa_cons (pe_op op_fdiv (pe_op op_mod (pe_callTy call_int1 (by rfl) T.int (by decide +kernel) (pa_cons (pe_op op_mul (pe_ix ix_list (pv 0) pe_int (fun _ _ => rfl)) (pe_ix ix_list (pv 0) pe_int (fun _ _ => rfl))) pa_nil)) pe_int) pe_int) pa_nil)) (pv 1))))), ?_⟩
    refine ⟨.ref p, rfl, p, _, 0, .int x, rfl, rfl, SqL.of hp, atI_nat (j := 0) rfl, x, 0, rfl, rfl, _, rfl, ite2 (fun e => ?_) (fun e => ?_)⟩
    · have xp : 0 < x := of_decide_eq_true e
      refine ⟨.ref p, rfl, p, _, 0, .int x, rfl, rfl, SqL.of hp, atI_nat (j := 0) rfl, .inl ⟨x, rfl, .int t, rfl, x, t, rfl, rfl, (by show 0 < t; omega), ?_⟩⟩
      refine ⟨.ref p, rfl, p, _, 0, .int x, rfl, rfl, SqL.of hp, atI_nat (j := 0) rfl, .int t, rfl, x, t, rfl, rfl, ⟨by omega, by omega⟩, .ref p, rfl, p, _, 0, 0, rfl, rfl, hp, rfl, ?_⟩
      refine ⟨.int (x % t), rfl, q _ _ (fun b o h n => by rw [upd_ne n]; exact h) ⟨x / t, y, upd_same, Int.ediv_nonneg x0 (by omega), y0, y1⟩ (Int.emod_nonneg _ (by omega)) (Int.emod_lt_of_pos _ (by omega))⟩
    · refine ⟨.ref p, rfl, p, _, 1, .int y, rfl, rfl, SqL.of hp, atI_nat (j := 1) rfl, y, 39373, rfl, rfl, .inr ⟨by decide, by decide⟩, _, 7, rfl, rfl, .inl ⟨_, rfl, _, 2147483647, rfl, rfl, (by show (0 : Int) < 2147483647; decide), .ref p, rfl, p, _, 1, 1, rfl, rfl, hp, rfl, ?_⟩⟩
      have z0 := Int.emod_nonneg (y * 39373 + 7) (show (2147483647 : Int) ≠ 0 by decide)
      have z1 := Int.emod_lt_of_pos (y * 39373 + 7) (show (0 : Int) < 2147483647 by decide)
      obtain ⟨z, hz⟩ : ∃ z, z = (y * 39373 + 7) % 2147483647 := ⟨_, rfl⟩
      rw [← hz] at z0 z1
      have eH : (upd H p (.lst ([V.int x, V.int y].set 1 (.int ((y * 39373 + 7) % 2147483647))))) p = some (.lst [.int x, .int z]) := by rw [hz]; exact upd_same
      have bH : But p H (upd H p (.lst ([V.int x, V.int y].set 1 (.int ((y * 39373 + 7) % 2147483647))))) := fun b o h n => by rw [upd_ne n]; exact h
      have zB : z.natAbs < 2 ^ 64 := by omega
      refine ⟨.ref p, rfl, p, _, 1, .int z, rfl, rfl, SqL.of eH, atI_nat (j := 1) rfl, .ref p, rfl, p, _, 1, .int z, rfl, rfl, SqL.of eH, atI_nat (j := 1) rfl, z, z, rfl, rfl, .inl ⟨by omega, by omega⟩,
        .inl ⟨_, rfl, _, 2147483629, rfl, rfl, (by show (0 : Int) < 2147483629; decide), _, 32, rfl, rfl, ⟨by decide, by decide⟩, .inl ⟨_, rfl, .int t, rfl, _, t, rfl, rfl, (by show 0 < t; omega), ?_⟩⟩⟩
      exact q _ _ bH ⟨x, z, eH, x0, z0, z1⟩ (Int.emod_nonneg _ (by omega)) (Int.emod_lt_of_pos _ (by omega))

/-! ### _law_one -/
abbrev sOne : Stmt := topS 59
theorem scOne : FnScope ["_law_source", "_law_things"] ["_law_source", "_law_things"] (C8.fnScope sOne) := ⟨rfl, rfl, rfl, by decide +kernel, rfl, by decide +kernel, by decide +kernel⟩
def spOne : Sp := fun vs H Q _ => ∃ (p l : Addr) (ns : List Int), vs = [.ref p, .ref l] ∧ SrcAt H p ∧ H l = some (.lst (ns.map V.int)) ∧ l ≠ p ∧ 1 ≤ ns.length ∧ ns.length ≤ 99 ∧ ∀ H' z, But p H H' → SrcAt H' p → z ∈ ns → Q (.int z) H'
theorem c_one {f : Addr} {fd : FuncData} (F : C8.Def K mg "_law_one" sOne f fd) (b : Binds K fd ["_law_source", "_law_things"] []) (T : Tx K mg) (cT : C8.Cal P w K mg base 1 "_law_take" spTake []) : C8.Cal P w K mg base 2 "_law_one" spOne [] := by
  refine C8.cal0 F b .nil scOne (fun vs H Q E h => ?_) (fun cdv A outer s0 H vs Q E hr h => ?_)
  · obtain ⟨p, l, ns, rfl, _⟩ := h
    rfl
  · obtain ⟨p, l, ns, rfl, hS, hl, hlp, n1, n2, q⟩ := h
    refine ⟨_, pss_one (ps_ret (pe_ix ix_list (pv 1) (C8.pe_c cT hr (by decide) (by rfl) (pa_cons (pv 0) (pa_cons (pe_callB call_len_seq (by rfl) T.len PySem.boot_len (pa_cons (pv 1) pa_nil)) pa_nil))) (fun _ _ => rfl))), ?_⟩
    refine ⟨.ref l, rfl, .ref p, rfl, .ref l, rfl, l, _, rfl, .inl (SqL.of hl), p, ((ns.map V.int).length : Nat), rfl, hS, by rw [List.length_map]; omega, by rw [List.length_map]; omega, fun H1 r b1 s1 r0 r1 => ?_⟩
    rw [List.length_map] at r1
    obtain ⟨i, rfl⟩ : ∃ i : Nat, r = (i : Int) := ⟨r.toNat, by omega⟩
    have hi : i < ns.length := by omega
    refine ⟨l, ns.map V.int, i, .int ns[i], rfl, rfl, SqL.of (b1 _ _ hl hlp), atI_nat (by rw [List.getElem?_map, List.getElem?_eq_getElem hi]; rfl), ?_⟩
    exact q H1 _ b1 s1 (List.getElem_mem hi)

/-! ### _law_same -/
abbrev sSame : Stmt := topS 61
theorem scSame : FnScope ["_law_told", "_law_n", "_law_d", "_law_one_here"] ["_law_told", "_law_n", "_law_d"] (C8.fnScope sSame) := ⟨rfl, rfl, rfl, by decide +kernel, rfl, by decide +kernel, by decide +kernel⟩
def spSame : Sp := fun vs H Q _ => ∃ (v : V) (n d : Int), vs = [v, .int n, .int d] ∧ RatAt H v (rt n d) ∧ 0 ≤ n ∧ n ≤ d ∧ 0 < d ∧ d < 2 ^ 100 ∧ ∀ H', Same H H' → Q (.bl true) H'
theorem hu64_of {A : Around} {k : Nat} (hr : Room k A) : A.units + 64 < cLine := by
  have := hr.un
  omega
theorem pe_isi {X : Cx} {p pos : Pos} {e : Expr} {es : List Expr} {t : TA} (hg : Gl X "isinstance") (hm : X.mg "isinstance" = none) (ha : PA X (e :: es) t)
    (he : starEach (e :: es) X.env = (false, eval e X.env) :: starEach es X.env := by rfl) (hpl : (backTo pos (starEach es X.env)).any (·.1) = false := by rfl) : PE X (.Call (.Name "isinstance" p) (e :: es) [] pos) (tCB (rIsi X.K) t) :=
  pe_callB call_isi hg hm (by decide +kernel) ha (by decide) (by decide) he hpl
theorem c_same {f : Addr} {fd : FuncData} (F : C8.Def K mg "_law_same" sSame f fd) (b : Binds K fd ["_law_told", "_law_n", "_law_d"] []) (T : Tx K mg) : C8.Cal P w K mg base 1 "_law_same" spSame [] := by
  refine C8.cal0 F b .nil scSame (fun vs H Q E h => ?_) (fun cdv A outer s0 H vs Q E hr h => ?_)
  · obtain ⟨v, n, d, rfl, _⟩ := h
    rfl
  · obtain ⟨_, n, d, rfl, ⟨p, rfl, hp⟩, n0, nd, d0, dB, q⟩ := h
    have hc := rt_cross n d
    have hb := rt_pos (n := n) d0
    obtain ⟨sA, sB⟩ := rt_sm n0 nd d0 dB
    have sn : Sm n := .of n0 (by omega)
    have sd : Sm d := .of (by omega) dB
    generalize (rt n d).1 = x at hp hc sA
    generalize (rt n d).2 = y at hp hc hb sB
    refine ⟨_, pss_cons (ps_if (PW.pt (pw_or (pt_not (pt_val (pe_isi (by rfl) T.isi (pa_cons (pv 0) (pa_cons (pe_bltn (v := .ty "tuple") (u := .type "tuple") (by rfl) T.tuple (by decide +kernel) rfl) pa_nil)))))
        (pw_or (pt_cmpR op_ne (pe_callB call_len_seq (by rfl) T.len PySem.boot_len (pa_cons (pv 0) pa_nil)) pe_int (nomark _))
        (pw_or1 (pt_cmpR (op_neD (hu64_of hr)) (pe_lc (own := [("_law_one_here", 3)]) (g := gName 3)
          (tt := tOr (tNot (tB (tCB (rIsi K) (tCons (tVar 3) (tCons (tC (.ty "int")) tNil))))) (tB (tCB (rIsi K) (tCons (tVar 3) (tCons (tC (.ty "bool")) tNil)))))
          (by rfl) scSame.nd (pi_tup (pv 0))
          (blkOk_by (own := [("_law_one_here", 3)]) (N := ["_law_told", "_law_n", "_law_d", "_law_one_here"]) (sc := C8.fnScope sSame) (by decide +kernel))
          (fun _ _ _ _ _ => pg_name (i := 3) scSame.nd rfl (Or.inl rfl))
          (fun _ _ _ _ _ => pts_one (PW.pt (pw_or (pt_not (pt_val (pe_isi (by rfl) T.isi (pa_cons (pv 3) (pa_cons (pe_bltn (v := .ty "int") (u := .type "int") (by rfl) T.int boot_int rfl) pa_nil)))))
            (pw_or1 (pt_val (pe_isi (by rfl) T.isi (pa_cons (pv 3) (pa_cons (pe_bltn (v := .ty "bool") (u := .type "bool") (by rfl) T.bool (by decide +kernel) rfl) pa_nil))))))))
          (fun _ _ _ _ _ => pv 3)) (pe_lst pa_nil) (nomark _)))))) (pss_one (ps_ret pe_bl)) pss_nil)
      (pss_one (ps_ret (pe_and (pe_cmpR op_ge (pe_ix ix_tup (pv 0) pe_int (fun _ _ => rfl)) pe_int (nomark _))
        (pe_one (pe_cmpR op_eq (pe_op op_mulW (pe_ix ix_tup (pv 0) pe_int (fun _ _ => rfl)) (pv 2)) (pe_op op_mulW (pv 1) (pe_ix ix_tup (pv 0) pe_int (fun _ _ => rfl))) (nomark _)))))), ?_⟩
    refine ⟨.ref p, rfl, .ref p, .ty "tuple", .type "tuple", .type "tuple", true, rfl, .ty "tuple", .base (.tup hp), kit_ty (by decide +kernel), true, rfl, .ref p, rfl, p, _, rfl, .inr (SqT.of hp), rfl, _, rfl, ?_⟩
    refine ⟨.ref p, rfl, p, rfl, ⟨_, SqT.of hp⟩, fun D hD => ?_⟩
    refine lc_it (walk_tup (xs := [V.int x, V.int y])) (fun i H' => Same H H' ∧ H' D = some (.lst [])) ⟨Same.new hD, upd_same⟩ (fun i H' _ h => SqT.of (h.1 _ _ hp)) ?_ ?_
    · rintro i v H1 H2 hi ⟨s1, eD⟩ ⟨rfl, hv⟩
      obtain ⟨z, rfl⟩ : ∃ z, v = V.int z := by
        match i, hi with
        | 0, _ => exact ⟨x, (Option.some.inj hv).symm⟩
        | 1, _ => exact ⟨y, (Option.some.inj hv).symm⟩
      exact ⟨rfl, .int z, rfl, .int z, .ty "int", .type "int", .type "int", true, rfl, .ty "int", .base (.int z), kit_ty (by decide +kernel), true, rfl,
        .int z, rfl, .int z, .ty "bool", .type "int", .type "bool", false, rfl, .ty "bool", .base (.int z), kit_ty (by decide +kernel), false, rfl, s1, eD⟩
    · rintro H1 ⟨s1, eD⟩
      refine ⟨Nat.zero_le _, fun l hl => ?_⟩
      have s2 : Same H1 (upd H1 l (.lst [])) := Same.new hl
      have e0 : PyData.eqv (.list []) (.list []) = true := by simp [PyData.eqv, PyData.eqvAll]
      refine ⟨.list [], .list [], .lst (SqL.of (s2 _ _ eD)) .nil, .lst (SqL.of upd_same) .nil, dRs_shaped [], dRs_shaped [], _, rfl, ?_⟩
      rw [e0]
      have hp2 := s2 _ _ (s1 _ _ hp)
      refine ⟨.ref p, rfl, p, _, 1, .int y, rfl, rfl, SqT.of hp2, atI_nat (j := 1) rfl, y, 1, rfl, rfl, _, rfl, ?_⟩
      rw [decide_eq_true (show (1 : Int) ≤ y by omega)]
      refine ⟨.ref p, rfl, p, _, 0, .int x, rfl, rfl, SqT.of hp2, atI_nat (j := 0) rfl, .int d, rfl, x, d, rfl, rfl, mulW sA sd, .int n, rfl, .ref p, rfl, p, _, 1, .int y, rfl, rfl, SqT.of hp2, atI_nat (j := 1) rfl, n, y, rfl, rfl, mulW sn sB, rfl, ?_⟩
      show Q (.bl (decide (V.int (x * d) = V.int (n * y)))) _
      rw [hc, decide_eq_true rfl]
      exact q _ (s1.trans s2)

/-! ### _law_is_best -/
abbrev sBest : Stmt := topS 62
theorem scBest : FnScope ["_law_goal", "_law_up", "_law_down", "_law_ahead", "_law_x", "_law_choice", "_law_due", "_law_stake"] ["_law_goal", "_law_up", "_law_down", "_law_ahead", "_law_x", "_law_choice", "_law_due"] (C8.fnScope sBest) := ⟨rfl, rfl, rfl, by decide +kernel, rfl, by decide +kernel, by decide +kernel⟩
def spBest : Sp := fun vs H Q _ => ∃ (g : Nat) (u d : Int) (q : Addr) (x k j : Nat), vs = [.int g, .int u, .int d, .ref q, .int x, .int ((j : Int) + -1), .int (bW g u d (k + 1) x)] ∧ Par g u d ∧ k ≤ 12 ∧ x ≤ g ∧
  H q = some (.lst ((cf g u d k).map V.int)) ∧ (am g u d k x)[j]? = some (bW g u d (k + 1) x) ∧ Q (.bl true) H
theorem c_best {f : Addr} {fd : FuncData} (F : C8.Def K mg "_law_is_best" sBest f fd) (b : Binds K fd ["_law_goal", "_law_up", "_law_down", "_law_ahead", "_law_x", "_law_choice", "_law_due"] []) (T : Tx K mg) : C8.Cal P w K mg base 1 "_law_is_best" spBest [] := by
  refine C8.cal0 F b .nil scBest (fun vs H Q E h => ?_) (fun cdv A outer s0 H vs Q E hr h => ?_)
  · obtain ⟨g, u, d, q, x, k, j, rfl, _⟩ := h
    rfl
  · obtain ⟨g, u, d, l, x, k, j, rfl, hP, hk, hx, hl, hj, q⟩ := h
    have g24 := hP.g24
    have u0 := hP.up
    have d0 := hP.dp
    have hS := hP.sp k
    have hS2 := hP.sz (k := k) (by omega)
    have nn := bW_nonneg (g := g) u0 d0 k
    have le := bW_le (g := g) u0 d0 k
    have bS : ∀ z, Sm (bW g u d k z) := fun z => .of (nn z) (by have := le z; omega)
    have dB : d.natAbs < 2 ^ 8 := by have := hP.d99; show _ < 256; omega
    have uB : u.natAbs < 2 ^ 8 := by have := hP.d99; have := hP.ud; show _ < 256; omega
    have udB : (u + d).natAbs < 2 ^ 9 := addB uB dB
    have at_ : ∀ z : Nat, z ≤ g → ((cf g u d k).map V.int)[z]? = some (.int (bW g u d k z)) := fun z hz => by rw [List.getElem?_map, cf_get hz]; rfl
    refine ⟨_, pss_cons (ps_if (pt_cmpR op_lt (pv 5) pe_int (nomark _))
        (pss_one (ps_ret (pe_cmpR op_eq (pv 6) (pe_op op_mulW (pe_op op_mulW (pe_op op_add (pv 1) (pv 2)) (pe_callTy call_int1 (by rfl) T.int (by decide +kernel) (pa_cons (pe_cmpR op_eq (pv 4) (pv 0) (nomark _)) pa_nil))) (pe_ix ix_list (pv 3) (pv 0) (fun _ _ => rfl))) (nomark _)))) pss_nil)
      (pss_cons (ps_set (i := 7) scBest.nd rfl (.inl rfl) (pe_op op_add (pv 5) pe_int))
      (pss_one (ps_ret (pe_and (pe_chain op_le op_le pe_int (pv 7) (pe_callB (call_min2 rfl) (by rfl) T.min (by decide +kernel) (pa_cons (pv 4) (pa_cons (pe_op op_sub (pv 0) (pv 4)) pa_nil))))
        (pe_one (pe_cmpR op_eq (pe_op op_add (pe_op op_mulW (pv 1) (pe_ix ix_list (pv 3) (pe_op op_add (pv 4) (pv 7)) (fun _ _ => rfl))) (pe_op op_mulW (pv 2) (pe_ix ix_list (pv 3) (pe_op op_sub (pv 4) (pv 7)) (fun _ _ => rfl)))) (pv 6) (nomark _))))))), ?_⟩
    refine ⟨.int ((j : Int) + -1), rfl, _, 0, rfl, rfl, _, rfl, ite2 (fun e => ?_) (fun e => ?_)⟩
    · have j0 : j = 0 := by
        have z : (j : Int) + -1 < 0 := of_decide_eq_true e
        omega
      subst j0
      have hj0 : (if x = g then (u + d) ^ (k + 1) else 0) = bW g u d (k + 1) x := Option.some.inj hj
      have kB : ∀ c : Bool, (if c = true then (1 : Int) else 0).natAbs < 2 ^ 8 := fun c => by cases c <;> decide
      refine ⟨.int (bW g u d (k + 1) x), rfl, .int u, rfl, .int d, rfl, u, d, rfl, rfl, .int x, rfl, .int g, rfl, rfl, .inr ⟨_, rfl, u + d, _, rfl, rfl, mulW udB (kB _), .ref l, rfl, .int g, rfl, l, _, g, _, rfl, rfl, SqL.of hl, atI_nat (at_ g (Nat.le_refl _)), _, _, rfl, rfl, mulW (mulB udB (kB _)) (bS _), rfl, ?_⟩⟩
      show Q (.bl (decide (V.int (bW g u d (k + 1) x) = V.int ((u + d) * (if decide (V.int x = V.int g) = true then 1 else 0) * bW g u d k g)))) _
      rw [decide_eq_true, ]
      · exact q
      · refine congrArg V.int ?_
        rw [bW_goal hP.gp, ← hj0]
        by_cases c : x = g
        · subst c
          rw [if_pos rfl, decide_eq_true rfl, if_pos rfl, Int.mul_one, Int.pow_succ, Int.mul_comm]
        · rw [if_neg c, decide_eq_false (fun z => c (by have := V.int.inj z; omega)), if_neg Bool.false_ne_true, Int.mul_zero, Int.zero_mul]
    · obtain ⟨i, rfl⟩ : ∃ i, j = i + 1 := ⟨j - 1, by
        have z : ¬ (j : Int) + -1 < 0 := fun y => e (decide_eq_true y)
        omega⟩
      have hj1 : ((stakes g x).map fun s => d * bW g u d k (x - s) + u * bW g u d k (x + s))[i]? = some (bW g u d (k + 1) x) := hj
      obtain ⟨s, hs, hsv⟩ : ∃ s, (stakes g x)[i]? = some s ∧ d * bW g u d k (x - s) + u * bW g u d k (x + s) = bW g u d (k + 1) x := by
        rw [List.getElem?_map] at hj1
        cases e2 : (stakes g x)[i]? with
        | none => rw [e2] at hj1; cases hj1
        | some s => rw [e2] at hj1; exact ⟨s, rfl, Option.some.inj hj1⟩
      obtain ⟨hi, rfl⟩ := stakes_get hs
      have ej : ((i + 1 : Nat) : Int) + -1 + 1 = ((1 + i : Nat) : Int) := by omega
      refine ⟨.int (((i + 1 : Nat) : Int) + -1), rfl, _, 1, rfl, rfl, ?_⟩
      dsimp only
      rw [ej]
      have ex1 : (x : Int) + ((1 + i : Nat) : Int) = ((x + (1 + i) : Nat) : Int) := by omega
      have ex2 : (x : Int) - ((1 + i : Nat) : Int) = ((x - (1 + i) : Nat) : Int) := by omega
      rw [ex1, ex2] at hsv
      refine ⟨.int ((1 + i : Nat) : Int), rfl, 1, _, rfl, rfl, _, rfl, ?_⟩
      rw [decide_eq_true (show (1 : Int) ≤ ((1 + i : Nat) : Int) by omega)]
      refine ⟨.int x, rfl, .int g, rfl, .int x, rfl, g, x, rfl, rfl, x, (g : Int) - x, rfl, ((1 + i : Nat) : Int), _, rfl, rfl, _, rfl, ?_⟩
      rw [decide_eq_true (show ((1 + i : Nat) : Int) ≤ (if (g : Int) - x < x then (g : Int) - x else (x : Int)) by split <;> omega)]
      refine ⟨.int u, rfl, .ref l, rfl, .int x, rfl, .int ((1 + i : Nat) : Int), rfl, x, _, rfl, rfl, l, _, _, .int (bW g u d k ((x + (1 + i) : Nat) : Int)), rfl, rfl, SqL.of hl, (by rw [ex1]; exact atI_nat (at_ _ (by omega))), u, _, rfl, rfl, mulW uB (bS _),
        .int d, rfl, .ref l, rfl, .int x, rfl, .int ((1 + i : Nat) : Int), rfl, x, _, rfl, rfl, l, _, _, .int (bW g u d k ((x - (1 + i) : Nat) : Int)), rfl, rfl, SqL.of hl, (by rw [ex2]; exact atI_nat (at_ _ (by omega))), d, _, rfl, rfl, mulW dB (bS _), _, _, rfl, rfl, .int (bW g u d (k + 1) x), rfl, rfl, ?_⟩
      show Q (.bl (decide (V.int (u * bW g u d k ((x + (1 + i) : Nat) : Int) + d * bW g u d k ((x - (1 + i) : Nat) : Int)) = V.int (bW g u d (k + 1) x)))) _
      rw [← hsv, Int.add_comm, decide_eq_true rfl]
      exact q
end
end Sk
set_option Elab.async false
set_option linter.all false
set_option maxRecDepth 100000
set_option maxHeartbeats 4000000
namespace Sk
open PySem PySem.Spec PyProof.Rows L2 Bk Xr
/-- the law's own reckoning: lists of the numbers for 0 to n plays -/
def LstV (g : Nat) (u d : Int) (H : Hp) (v : V) (k : Nat) : Prop := ∃ q, v = .ref q ∧ H q = some (.lst ((cf g u d k).map V.int))
def DueAt (H : Hp) (p : Addr) (g : Nat) (u d : Int) (n : Nat) : Prop := ∃ vs, H p = some (.lst vs) ∧ All2 (LstV g u d H) vs (List.range (n + 1))
theorem LstV.same {g : Nat} {u d : Int} {H H' : Hp} {v : V} {k : Nat} (s : Same H H') : LstV g u d H v k → LstV g u d H' v k := fun ⟨q, e, h⟩ => ⟨q, e, s _ _ h⟩
theorem DueAt.same {g : Nat} {u d : Int} {H H' : Hp} {p : Addr} {n : Nat} (s : Same H H') : DueAt H p g u d n → DueAt H' p g u d n := fun ⟨vs, h, a⟩ => ⟨vs, s _ _ h, a.mono fun _ _ => LstV.same s⟩
theorem cf_head (g : Nat) (u d : Int) (k : Nat) : ∃ c r, (cf g u d k).map V.int = .int c :: r := by
  unfold cf
  rw [List.range_succ_eq_map]
  exact ⟨_, _, rfl⟩
/-- a list of refs is none of ints -/
theorem LstV.upd {g : Nat} {u d : Int} {H : Hp} {f z : Addr} {r : List V} {o : HO} {v : V} {k : Nat} (hf : H f = some (.lst (.ref z :: r))) : LstV g u d H v k → LstV g u d (upd H f o) v k := fun ⟨q, e, h⟩ => ⟨q, e, by
  rw [upd_ne (ne_of h hf (fun y => by
    obtain ⟨c, r2, e2⟩ := cf_head g u d k
    rw [e2] at y
    injection y with y1
    injection y1 with y2 _
    cases y2))]
  exact h⟩
section
variable {P : Program} {w : World} {K : PySem.W.Frag} {mg : Str → Option Value} {base : Heap}
abbrev sBold : Stmt := topS 60
theorem scBold : FnScope ["_law_goal", "_law_up", "_law_down", "_law_n", "_law_found", "_law_whole", "_law_turn", "_law_ahead", "_law_later", "_law_x"] ["_law_goal", "_law_up", "_law_down", "_law_n"] (C8.fnScope sBold) := ⟨rfl, rfl, rfl, by decide +kernel, rfl, by decide +kernel, by decide +kernel⟩
def spBold : Sp := fun vs H Q _ => ∃ (g : Nat) (u d : Int) (n : Nat), vs = [.int g, .int u, .int d, .int n] ∧ Par g u d ∧ n ≤ 12 ∧ ∀ H' p, Same H H' → DueAt H' p g u d n → Q (.ref p) H'
theorem cf_zero {g : Nat} {u d : Int} : (cf g u d 0).map V.int = List.replicate g (V.int 0) ++ [V.int 1] := by
  refine List.ext_getElem? fun i => ?_
  by_cases hi : i < g
  · rw [List.getElem?_map, cf_get (by omega), List.getElem?_append_left (by rw [List.length_replicate]; exact hi), List.getElem?_replicate, if_pos hi]
    simp only [bW]
    rw [if_neg (by omega)]
    rfl
  · by_cases h2 : i = g
    · subst h2
      rw [List.getElem?_map, cf_get (by omega), List.getElem?_append_right (by rw [List.length_replicate]; exact Nat.le_refl _), List.length_replicate, Nat.sub_self]
      simp only [bW]
      rw [if_pos trivial]
      rfl
    · rw [List.getElem?_eq_none (by rw [List.length_map, cf_len]; omega), List.getElem?_eq_none (by rw [List.length_append, List.length_replicate]; show g + 1 ≤ i; omega)]
theorem c_bold {f : Addr} {fd : FuncData} (F : C8.Def K mg "_law_bold" sBold f fd) (b : Binds K fd ["_law_goal", "_law_up", "_law_down", "_law_n"] []) (T : Tx K mg) : C8.Cal P w K mg base 1 "_law_bold" spBold [] := by
  refine C8.cal0 F b .nil scBold (fun vs H Q E h => ?_) (fun cdv A outer s0 H vs Q E hr h => ?_)
  · obtain ⟨g, u, d, n, rfl, _⟩ := h
    rfl
  · obtain ⟨g, u, d, n, rfl, hP, hn, q⟩ := h
    have g1 := hP.g1
    have g24 := hP.g24
    have u0 := hP.up
    have d0 := hP.dp
    have dB : d.natAbs < 2 ^ 8 := by have := hP.d99; show _ < 256; omega
    have uB : u.natAbs < 2 ^ 8 := by have := hP.d99; have := hP.ud; show _ < 256; omega
    have udB : (u + d).natAbs < 2 ^ 9 := addB uB dB
    have twB : (2 : Int).natAbs < 2 ^ 8 := by decide
    refine ⟨_, pss_cons (ps_par (i := 4) (j := 5) (by rfl) scBold.nd rfl rfl (by decide) rfl rfl (pa_cons (pe_lst (pa_cons (pe_op op_cat (pe_op op_rep (pe_lst (pa_cons pe_int pa_nil)) (pv 0)) (pe_lst (pa_cons pe_int pa_nil))) pa_nil)) (pa_cons pe_int pa_nil)) (by rfl))
      (pss_cons (ps_for PassesOwn.never rfl (pi_range1 (by rfl) T.range (pa_cons (pv 3) pa_nil)) (pg_name (i := 6) scBold.nd rfl (.inl rfl))
        (pss_cons (ps_par (i := 7) (j := 8) (by rfl) scBold.nd rfl rfl (by decide) rfl rfl (pa_cons (pe_ix ix_list (pv 4) (pe_un un_neg pe_int) (fun _ _ => rfl)) (pa_cons (pe_lst pa_nil) pa_nil)) (by rfl))
        (pss_cons (ps_for PassesOwn.never rfl (pi_range1 (by rfl) T.range (pa_cons (pe_op op_add (pv 0) pe_int) pa_nil)) (pg_name (i := 9) scBold.nd rfl (.inl rfl))
          (pss_one (ps_if (pt_cmpR op_le (pe_op op_mul pe_int (pv 9)) (pv 0) (nomark _))
            (pss_one (ps_expr (pe_bm PySem.F.plainAttrs_list PySem.F.slot_list_append PySem.F.type_list_append mt_append (pv 8) (pa_cons (pe_op op_mulW (pv 1) (pe_ix ix_list (pv 7) (pe_op op_mul pe_int (pv 9)) (fun _ _ => rfl))) pa_nil))))
            (pss_one (ps_expr (pe_bm PySem.F.plainAttrs_list PySem.F.slot_list_append PySem.F.type_list_append mt_append (pv 8)
              (pa_cons (pe_op op_add (pe_op op_mulW (pv 1) (pv 5)) (pe_op op_mulW (pv 2) (pe_ix ix_list (pv 7) (pe_op op_sub (pe_op op_mul pe_int (pv 9)) (pv 0)) (fun _ _ => rfl)))) pa_nil)))))))
        (pss_cons (ps_set (i := 5) scBold.nd rfl (.inl rfl) (pe_op op_mulW (pv 5) (pe_op op_add (pv 1) (pv 2))))
        (pss_cons (ps_asg (pv 5) (pg_sub (pv 8) (pv 0) set_list))
        (pss_one (ps_expr (pe_bm PySem.F.plainAttrs_list PySem.F.slot_list_append PySem.F.type_list_append mt_append (pv 4) (pa_cons (pv 8) pa_nil)))))))))
      (pss_one (ps_ret (pv 4)))), ?_⟩
    -- found, whole = ([[0] * goal + [1]], 1)
    refine ⟨(by show 1 ≤ sizeLine; decide), fun a ha => ?_⟩
    have y1 : Same H (upd H a (.lst [.int 0])) := Same.new ha
    have e1 : (upd H a (.lst [.int 0])) a = some (.lst [.int 0]) := upd_same
    show tVar 0 _ _ _
    generalize upd H a (.lst [.int 0]) = H1 at y1 e1
    refine ⟨.int g, rfl, a, g, _, rfl, rfl, e1, by omega, by omega, ?_, fun b hb => ?_⟩
    · exact Nat.le_of_lt (Nat.lt_of_lt_of_le (show 1 * (g : Int).toNat < 1000 by omega) (by decide))
    have y2 : Same H1 (upd H1 b (.lst (List.replicate (g : Int).toNat [V.int 0]).flatten)) := Same.new hb
    have e2 : (upd H1 b (.lst (List.replicate (g : Int).toNat [V.int 0]).flatten)) b = some (.lst (List.replicate g (V.int 0))) := by rw [upd_same, Int.toNat_natCast, rep_one]
    show tLst _ _ _ _
    generalize upd H1 b (.lst (List.replicate (g : Int).toNat [V.int 0]).flatten) = H2 at y2 e2
    refine ⟨(by show 1 ≤ sizeLine; decide), fun c hc => ?_⟩
    have y3 : Same H2 (upd H2 c (.lst [.int 1])) := Same.new hc
    have e3 : (upd H2 c (.lst [.int 1])) c = some (.lst [.int 1]) := upd_same
    show rCat _ _ _ _
    generalize upd H2 c (.lst [.int 1]) = H3 at y3 e3
    refine ⟨b, c, _, _, rfl, rfl, y3 _ _ e2, e3, ?_, fun r hrr => ?_⟩
    · rw [List.length_replicate]
      exact Nat.le_of_lt (Nat.lt_of_lt_of_le (show g + 1 < 1000 by omega) (by decide))
    have y4 : Same H3 (upd H3 r (.lst (List.replicate g (V.int 0) ++ [V.int 1]))) := Same.new hrr
    have e4 : (upd H3 r (.lst (List.replicate g (V.int 0) ++ [V.int 1]))) r = some (.lst ((cf g u d 0).map V.int)) := by rw [upd_same, cf_zero]
    refine ⟨(by show 1 ≤ sizeLine; decide), fun fo hfo => ?_⟩
    have y14 : Same H (upd H3 r (.lst (List.replicate g (V.int 0) ++ [V.int 1]))) := ((y1.trans y2).trans y3).trans y4
    show ∃ v w', _
    generalize upd H3 r (.lst (List.replicate g (V.int 0) ++ [V.int 1])) = H4 at y14 e4 hfo
    have hfo0 : H fo = none := y14.free hfo
    refine ⟨.ref fo, .int 1, rfl, .int n, rfl, n, rfl, (by omega), (by omega), ?_⟩
    refine for_it (walk_range (lo := 0) (n := n)) (fun i σ H' => ∃ y6 y7 y8 y9 z vs, σ = [some (.int g), some (.int u), some (.int d), some (.int n), some (.ref fo), some (.int ((u + d) ^ i)), y6, y7, y8, y9] ∧ Same H H' ∧ H' fo = some (.lst (.ref z :: vs)) ∧ All2 (LstV g u d H') (.ref z :: vs) (List.range (i + 1)))
      ⟨none, none, none, none, r, [], by rw [Int.pow_zero]; rfl, Same.on y14 hfo0, upd_same, All2.cons (LstV.same (Same.new hfo) ⟨r, rfl, e4⟩) All2.nil⟩ (fun i σ H' _ h => True.intro) ?_ ?_
    · rintro k y σ H5 H6 hk ⟨y6, y7, y8, y9, z, vs, rfl, s1, ef, hvs⟩ ⟨rfl, hy⟩
      have hS := hP.sp k
      have hS2 := hP.sz (k := k) (by omega)
      have sS : Sm ((u + d) ^ k) := .of (by omega) hS2
      have nn := bW_nonneg (g := g) u0 d0 k
      have le := bW_le (g := g) u0 d0 k
      have bS : ∀ z, Sm (bW g u d k z) := fun z => .of (nn z) (by have := le z; omega)
      have vl : (V.ref z :: vs).length = k + 1 := hvs.1.trans List.length_range
      obtain ⟨lv, hlv, qk, rfl, hqk⟩ := hvs.get (i := k) (r := k) (by rw [List.getElem?_range (by omega)])
      have at_ : ∀ t : Nat, t ≤ g → ((cf g u d k).map V.int)[t]? = some (.int (bW g u d k t)) := fun t ht => by rw [List.getElem?_map, cf_get ht]; rfl
      refine ⟨.ref fo, rfl, 1, rfl, fo, _, -1, .ref qk, rfl, rfl, SqL.of ef, atI_neg1 (by rw [vl]; exact hlv), Nat.zero_le _, fun m hm => ⟨.ref qk, .ref m, rfl, ?_⟩⟩
      have z2 : Same H6 (upd H6 m (.lst [])) := Same.new hm
      have em : (upd H6 m (.lst [])) m = some (.lst []) := upd_same
      refine ⟨.int g, rfl, g, 1, rfl, rfl, _, rfl, by omega, by omega, ?_⟩
      have en : ((g : Int) + 1).toNat = g + 1 := by omega
      refine for_it (walk_range (lo := 0) (n := ((g : Int) + 1).toNat)) (fun x σ H' => ∃ y9, σ = [some (.int g), some (.int u), some (.int d), some (.int n), some (.ref fo), some (.int ((u + d) ^ k)), some y, some (.ref qk), some (.ref m), y9] ∧ Same H6 H' ∧ H' m = some (.lst (((cf g u d (k + 1)).take x).map V.int)))
        ⟨y9, rfl, z2, em⟩ (fun x σ H' _ h => True.intro) ?_ ?_
      · rintro x v σ H7 H8 hx ⟨y9, rfl, z3, eacc⟩ ⟨rfl, hv⟩
        rw [en] at hx
        have ev : v = V.int ((x : Nat) : Int) := hv.trans (by show V.int (0 + (x : Int)) = _; rw [Int.zero_add])
        subst ev
        have hxg : x ≤ g := by omega
        have hq : H8 qk = some (.lst ((cf g u d k).map V.int)) := z3 _ _ hqk
        have llen : (((cf g u d (k + 1)).take x).map V.int).length < sizeLine := by
          refine Nat.lt_of_lt_of_le (show _ < 1000 by rw [List.length_map, List.length_take, cf_len]; omega) (by decide)
        have nx : ∀ o : V, o = .int (bW g u d (k + 1) x) → ∃ y9', ([some (.int g), some (.int u), some (.int d), some (.int n), some (.ref fo), some (.int ((u + d) ^ k)), some y, some (.ref qk), some (.ref m), some (.int (x : Nat))] : L2.St) = [some (.int g), some (.int u), some (.int d), some (.int n), some (.ref fo), some (.int ((u + d) ^ k)), some y, some (.ref qk), some (.ref m), y9'] ∧ Same H6 (upd H8 m (.lst ((((cf g u d (k + 1)).take x).map V.int) ++ [o]))) ∧ (upd H8 m (.lst ((((cf g u d (k + 1)).take x).map V.int) ++ [o]))) m = some (.lst (((cf g u d (k + 1)).take (x + 1)).map V.int)) := by
          rintro o rfl
          refine ⟨_, rfl, Same.on z3 hm, ?_⟩
          rw [upd_same, List.take_add_one, cf_get hxg, List.map_append]
          rfl
        refine ⟨.int x, rfl, 2, x, rfl, rfl, .inl ⟨by decide, by decide⟩, .int g, rfl, 2 * (x : Int), g, rfl, rfl, _, rfl, ite2 (fun e => ?_) (fun e => ?_)⟩
        · have c : 2 * (x : Int) ≤ g := of_decide_eq_true e
          refine ⟨.ref m, rfl, .inl ⟨rfl, _, SqL.of eacc⟩, .int u, rfl, .ref qk, rfl, .int x, rfl, 2, x, rfl, rfl, .inl ⟨by decide, by decide⟩, qk, _, _, .int (bW g u d k (2 * (x : Int))), rfl, rfl, SqL.of hq, (by rw [show (2 * (x : Int)) = ((2 * x : Nat) : Int) by omega]; exact atI_nat (at_ _ (by omega))), u, _, rfl, rfl, mulW uB (bS _), m, _, _, rfl, rfl, eacc, llen, ?_⟩
          exact nx _ (by simp only [bW]; rw [if_pos c])
        · have c : ¬ 2 * (x : Int) ≤ g := fun y => e (decide_eq_true y)
          refine ⟨.ref m, rfl, .inl ⟨rfl, _, SqL.of eacc⟩, .int u, rfl, .int ((u + d) ^ k), rfl, u, _, rfl, rfl, mulW uB sS, .int d, rfl, .ref qk, rfl, .int x, rfl, 2, x, rfl, rfl, .inl ⟨by decide, by decide⟩, .int g, rfl, 2 * (x : Int), g, rfl, rfl, qk, _, _, .int (bW g u d k (2 * (x : Int) - g)), rfl, rfl, SqL.of hq, (by rw [show (2 * (x : Int) - g) = ((2 * x - g : Nat) : Int) by omega]; exact atI_nat (at_ _ (by omega))), d, _, rfl, rfl, mulW dB (bS _), _, _, rfl, rfl, m, _, _, rfl, rfl, eacc, llen, ?_⟩
          exact nx _ (by simp only [bW]; rw [if_neg c])
      · rintro σ H7 ⟨y9, rfl, z3, eacc⟩
        rw [en, List.take_of_length_le (by rw [cf_len]; exact Nat.le_refl _)] at eacc
        have gl : ixN ((cf g u d (k + 1)).map V.int).length (g : Int) = some g := by
          unfold ixN
          rw [List.length_map, cf_len, if_pos (by omega), if_pos (by omega)]
          exact congrArg some (by omega)
        have sset : ((cf g u d (k + 1)).map V.int).set g (.int ((u + d) ^ k * (u + d))) = (cf g u d (k + 1)).map V.int := by
          refine List.ext_getElem? fun i => ?_
          by_cases hi : i = g
          · subst hi
            rw [List.getElem?_set_self (by rw [List.length_map, cf_len]; omega), List.getElem?_map, cf_get (Nat.le_refl _), bW_goal hP.gp, Int.pow_succ]
            rfl
          · rw [List.getElem?_set_ne (fun y => hi y.symm)]
        refine ⟨.int ((u + d) ^ k), rfl, .int u, rfl, .int d, rfl, u, d, rfl, rfl, _, _, rfl, rfl, mulW sS udB, .int ((u + d) ^ k * (u + d)), rfl, .ref m, rfl, .int g, rfl, m, _, g, g, rfl, rfl, eacc, gl, ?_⟩
        have z4 : Same H6 (upd H7 m (.lst (((cf g u d (k + 1)).map V.int).set g (.int ((u + d) ^ k * (u + d)))))) := Same.on z3 hm
        have em2 : (upd H7 m (.lst (((cf g u d (k + 1)).map V.int).set g (.int ((u + d) ^ k * (u + d)))))) m = some (.lst ((cf g u d (k + 1)).map V.int)) := by rw [upd_same, sset]
        refine ⟨.ref fo, rfl, .inl ⟨rfl, _, SqL.of (z4 _ _ ef)⟩, .ref m, rfl, fo, _, .ref m, rfl, rfl, z4 _ _ ef, Nat.lt_of_lt_of_le (show (V.ref z :: vs).length < 1000 by omega) (by decide), ?_⟩
        refine ⟨some y, some (.ref qk), some (.ref m), y9, z, vs ++ [.ref m], by rw [Int.pow_succ]; rfl, Same.on (s1.trans z4) hfo0, upd_same, ?_⟩
        rw [List.range_succ]
        exact All2.snoc (vs := .ref z :: vs) ((hvs.mono fun _ _ => LstV.same z4).mono fun _ _ => LstV.upd (z4 _ _ ef)) (LstV.upd (z4 _ _ ef) ⟨m, rfl, em2⟩)
    · rintro σ H5 ⟨y6, y7, y8, y9, z, vs, rfl, s1, ef, hvs⟩
      exact ⟨.ref fo, rfl, q H5 fo s1 ⟨_, ef, hvs⟩⟩
end
end Sk
set_option Elab.async false
set_option linter.all false
set_option maxRecDepth 100000
set_option maxHeartbeats 4000000
namespace Sk
open PySem PySem.Spec PyProof.Rows L2 Bk Xr
theorem SrcAt.same {H H' : Hp} {p : Addr} (s : Same H H') : SrcAt H p → SrcAt H' p := fun ⟨x, y, h, r⟩ => ⟨x, y, s _ _ h, r⟩
/-- the names of bold_within's arguments in the law's call, and how they come to the parameters -/
def kN : List Str := ["n", "x", "down", "up", "goal"]
def kG {α : Type} : List α → List α → List α
  | [], [a, b, c, d, e] => [e, d, c, b, a]
  | _, _ => []
theorem kb_bwithin {K : PySem.W.Frag} {mg : Str → Option Value} {f : Addr} {fd : FuncData} (F : C8.Def K mg "bold_within" sBWithin f fd) (df : fd.defaults = .none) : KBinds K fd ["goal", "up", "down", "x", "n"] kN kG kG := by
  obtain ⟨oc, od, dV, kV, doc, pm, an, cdv, ct, osl, rfl, lk, hcd⟩ := F.fn.ex
  have e : dV = .none := df
  subst e
  refine ⟨fun s us ws _ hl => ?_, fun {vs us zs ws} r1 r2 => ?_⟩
  · match us, ws, hl with
    | [], [a, b, c, d, e], _ => exact .of_eq (by rfl)
    | [], [], h => cases h
    | [], [_], h => cases h
    | [], [_, _], h => cases h
    | [], [_, _, _], h => cases h
    | [], [_, _, _, _], h => cases h
    | [], _ :: _ :: _ :: _ :: _ :: _ :: _, h => cases h
    | _ :: _, _, h => cases h
  · cases r1 with
    | cons _ _ => exact .nil
    | nil =>
      cases r2 with
      | nil => exact .nil
      | cons a1 r2 => cases r2 with
        | nil => exact .nil
        | cons a2 r2 => cases r2 with
          | nil => exact .nil
          | cons a3 r2 => cases r2 with
            | nil => exact .nil
            | cons a4 r2 => cases r2 with
              | nil => exact .nil
              | cons a5 r2 => cases r2 with
                | nil => exact .cons a5 (.cons a4 (.cons a3 (.cons a2 (.cons a1 .nil))))
                | cons _ _ => exact .nil
section
variable {P : Program} {w : World} {K : PySem.W.Frag} {mg : Str → Option Value} {base : Heap}
abbrev sLaw : Stmt := topS 63
theorem scLaw : FnScope ["_law_script", "_law_source", "_law_goal", "_law_down", "_law_up", "_law_n", "_law_board", "_law_told", "_law_choices", "_law_due", "_law_whole", "_law_k", "_law_x"] ["_law_script"] (C8.fnScope sLaw) := ⟨rfl, rfl, rfl, by decide +kernel, rfl, by decide +kernel, by decide +kernel⟩
def spLaw (K : PySem.W.Frag) : Sp := fun vs H Q _ => ∃ (a : Addr) (ns : List Int), vs = [.ref a] ∧ SqL K H a (ns.map V.int) ∧ ∀ H', Q (.bl true) H'
theorem f_law {f C fB : Addr} {fd fdB : FuncData} (F : C8.Def K mg "law" sLaw f fd) (T : Tx K mg) (cPool : C8.Cal P w K mg base 1 "_law_pool" (spPool K) []) (cTake : C8.Cal P w K mg base 1 "_law_take" spTake []) (cOne : C8.Cal P w K mg base 2 "_law_one" spOne [])
    (cPlain : C8.Cal P w K mg base 6 "plain_board" (spPlain C) []) (cWithin : C8.Cal P w K mg base 5 "within" (spWithin C) []) (cChoices : C8.Cal P w K mg base 6 "clock_choices" (spChoices C) []) (cBold : C8.Cal P w K mg base 1 "_law_bold" spBold [])
    (cSame : C8.Cal P w K mg base 1 "_law_same" spSame []) (cBest : C8.Cal P w K mg base 1 "_law_is_best" spBest [])
    (FB : C8.Def K mg "bold_within" sBWithin fB fdB) (dB : fdB.defaults = .none) (GB : FnOk P w K mg base C8.CX0 3 fB fdB ["goal", "up", "down", "x", "n"] spBWithin) : FnOk P w K mg base C8.CX0 7 f fd ["_law_script"] (spLaw K) := by
  have KB := kb_bwithin FB dB
  refine C8.fn0 F.fn scLaw (fun vs H Q E h => ?_) (fun cdv A outer s0 H vs Q E hr h => ?_)
  · obtain ⟨a, ns, rfl, _⟩ := h
    rfl
  · obtain ⟨a, ns, rfl, hS, q⟩ := h
    refine ⟨_, pss_cons (ps_set (i := 1) scLaw.nd rfl (.inl rfl) (C8.pe_c cPool hr (by decide) (by rfl) (pa_cons (pv 0) (pa_cons pe_int pa_nil))))
      (pss_cons (ps_set (i := 2) scLaw.nd rfl (.inl rfl) (C8.pe_c cOne hr (by decide) (by rfl) (pa_cons (pv 1) (pa_cons (pe_lst (pa_cons pe_int (pa_cons pe_int (pa_cons pe_int (pa_cons pe_int (pa_cons pe_int (pa_cons pe_int (pa_cons pe_int (pa_cons pe_int (pa_cons pe_int (pa_cons pe_int (pa_cons pe_int pa_nil)))))))))))) pa_nil))))
      (pss_cons (ps_set (i := 3) scLaw.nd rfl (.inl rfl) (C8.pe_c cOne hr (by decide) (by rfl) (pa_cons (pv 1) (pa_cons (pe_lst (pa_cons pe_int (pa_cons pe_int (pa_cons pe_int (pa_cons pe_int (pa_cons (pe_op op_add pe_int (C8.pe_c cTake hr (by decide) (by rfl) (pa_cons (pv 1) (pa_cons pe_int pa_nil)))) pa_nil)))))) pa_nil))))
      (pss_cons (ps_set (i := 4) scLaw.nd rfl (.inl rfl) (C8.pe_c cOne hr (by decide) (by rfl) (pa_cons (pv 1) (pa_cons (pe_lst (pa_cons pe_int (pa_cons (pv 3) (pa_cons (pe_op op_add pe_int (C8.pe_c cTake hr (by decide) (by rfl) (pa_cons (pv 1) (pa_cons (pv 3) pa_nil)))) pa_nil)))) pa_nil))))
      (pss_cons (ps_set (i := 5) scLaw.nd rfl (.inl rfl) (pe_ifExp (pt_cmpR op_le (pv 2) pe_int (nomark _)) (C8.pe_c cTake hr (by decide) (by rfl) (pa_cons (pv 1) (pa_cons pe_int pa_nil))) (C8.pe_c cTake hr (by decide) (by rfl) (pa_cons (pv 1) (pa_cons pe_int pa_nil)))))
      (pss_cons (ps_set (i := 6) scLaw.nd rfl (.inl rfl) (C8.pe_c cPlain hr (by decide) (by rfl) (pa_cons (pv 2) (pa_cons (pv 4) (pa_cons (pv 3) pa_nil)))))
      (pss_cons (ps_asg (pe_tup (pa_cons (C8.pe_c cWithin hr (by decide) (by rfl) (pa_cons (pv 6) (pa_cons (pv 5) pa_nil))) (pa_cons (C8.pe_c cChoices hr (by decide) (by rfl) (pa_cons (pv 6) (pa_cons (pv 5) pa_nil)))
          (pa_cons (C8.pe_c cBold hr (by decide) (by rfl) (pa_cons (pv 2) (pa_cons (pv 4) (pa_cons (pv 3) (pa_cons (pv 5) pa_nil))))) (pa_cons pe_int pa_nil)))))
        (pg_tup rfl (pgs_cons (pg_name (i := 7) scLaw.nd rfl (.inl rfl)) (pgs_cons (pg_name (i := 8) scLaw.nd rfl (.inl rfl)) (pgs_cons (pg_name (i := 9) scLaw.nd rfl (.inl rfl)) (pgs_cons (pg_name (i := 10) scLaw.nd rfl (.inl rfl)) pgs_nil))))))
      (pss_cons (ps_for PassesOwn.never rfl (pi_range1 (by rfl) T.range (pa_cons (pe_op op_add (pv 5) pe_int) pa_nil)) (pg_name (i := 11) scLaw.nd rfl (.inl rfl))
        (pss_cons (ps_for PassesOwn.never rfl (pi_range1 (by rfl) T.range (pa_cons (pe_op op_add (pv 2) pe_int) pa_nil)) (pg_name (i := 12) scLaw.nd rfl (.inl rfl))
          (pss_cons (ps_if (pt_not (pt_val (C8.pe_c cSame hr (by decide) (by rfl) (pa_cons (pe_ix ix_tup (pe_ix ix_tup (pv 7) (pv 11) (fun _ _ => rfl)) (pv 12) (fun _ _ => rfl))
            (pa_cons (pe_ix ix_list (pe_ix ix_list (pv 9) (pv 11) (fun _ _ => rfl)) (pv 12) (fun _ _ => rfl)) (pa_cons (pv 10) pa_nil)))))) (pss_one (ps_ret pe_bl)) pss_nil)
          (pss_cons (ps_if (pt_not (pt_val (C8.pe_c cSame hr (by decide) (by rfl) (pa_cons (pe_callK0 (E := C8.E0) GB (hr.mono (by decide)) (by rfl) FB.mgf FB.kp KB C8.pass0 (pk_cons (pv 11) (pk_cons (pv 12) (pk_cons (pv 3) (pk_cons (pv 4) (pk_cons (pv 2) pk_nil))))) (names := by rfl))
            (pa_cons (pe_ix ix_list (pe_ix ix_list (pv 9) (pv 11) (fun _ _ => rfl)) (pv 12) (fun _ _ => rfl)) (pa_cons (pv 10) pa_nil)))))) (pss_one (ps_ret pe_bl)) pss_nil)
          (pss_one (ps_if (PW.pt (pw_and (pt_cmpR op_gt (pv 11) pe_int (nomark _)) (pw_and1 (pt_not (pt_val (C8.pe_c cBest hr (by decide) (by rfl) (pa_cons (pv 2) (pa_cons (pv 4) (pa_cons (pv 3)
            (pa_cons (pe_ix ix_list (pv 9) (pe_op op_sub (pv 11) pe_int) (fun _ _ => rfl)) (pa_cons (pv 12) (pa_cons (pe_ix ix_tup (pe_ix ix_tup (pv 8) (pe_op op_sub (pv 11) pe_int) (fun _ _ => rfl)) (pv 12) (fun _ _ => rfl))
            (pa_cons (pe_ix ix_list (pe_ix ix_list (pv 9) (pv 11) (fun _ _ => rfl)) (pv 12) (fun _ _ => rfl)) pa_nil)))))))))))))
            (pss_one (ps_ret pe_bl)) pss_nil)))))
        (pss_one (ps_set (i := 10) scLaw.nd rfl (.inl rfl) (pe_op op_mulW (pv 10) (pe_op op_add (pv 4) (pv 3)))))))
      (pss_one (ps_ret pe_bl))))))))), ?_⟩
    -- the draws
    refine ⟨.ref a, rfl, a, ns, rfl, hS, fun H1 p s1 hp => ?_⟩
    refine ⟨.ref p, rfl, (by show 11 ≤ sizeLine; decide), fun l hl => ?_⟩
    have hp2 : SrcAt (upd H1 l (.lst [.int 1, .int 2, .int 3, .int 4, .int 5, .int 6, .int 7, .int 8, .int 8, .int 12, .int 24])) p := hp.same (Same.new hl)
    have lp : l ≠ p := fun e => by
      obtain ⟨x, y, h, _⟩ := hp
      rw [← e, hl] at h
      cases h
    refine ⟨p, l, [1, 2, 3, 4, 5, 6, 7, 8, 8, 12, 24], rfl, hp2, upd_same, lp, by decide, by decide, fun H2 z b2 hp2 hz => ?_⟩
    obtain ⟨g, rfl, g1, g24, gn⟩ : ∃ g : Nat, z = (g : Int) ∧ 1 ≤ g ∧ g ≤ 24 ∧ (g ≤ 8 ∨ 8 < g) := by
      simp only [List.mem_cons, List.not_mem_nil, or_false] at hz
      exact ⟨z.toNat, by omega, by omega, by omega, by omega⟩
    refine ⟨.ref p, rfl, .ref p, rfl, p, 99, rfl, hp2, by decide, by decide, fun H3 r b3 hp3 r0 r1 => ?_⟩
    refine ⟨1, r, rfl, rfl, (by show 5 ≤ sizeLine; decide), fun l2 hl2 => ?_⟩
    have lp2 : l2 ≠ p := fun e => by
      obtain ⟨x, y, h, _⟩ := hp3
      rw [← e, hl2] at h
      cases h
    refine ⟨p, l2, [1, 2, 3, 99, 1 + r], rfl, hp3.same (Same.new hl2), upd_same, lp2, by show 1 ≤ 5; decide, by show 5 ≤ 99; decide, fun H4 d b4 hp4 hd => ?_⟩
    have d1 : 1 ≤ d ∧ d ≤ 99 := by
      simp only [List.mem_cons, List.not_mem_nil, or_false] at hd
      omega
    refine ⟨.ref p, rfl, .int d, rfl, .ref p, rfl, .int d, rfl, p, d, rfl, hp4, d1.1, d1.2, fun H5 r' b5 hp5 r0' r1' => ?_⟩
    refine ⟨1, r', rfl, rfl, (by show 3 ≤ sizeLine; decide), fun l3 hl3 => ?_⟩
    have lp3 : l3 ≠ p := fun e => by
      obtain ⟨x, y, h, _⟩ := hp5
      rw [← e, hl3] at h
      cases h
    refine ⟨p, l3, [1, d, 1 + r'], rfl, hp5.same (Same.new hl3), upd_same, lp3, by show 1 ≤ 3; decide, by show 3 ≤ 99; decide, fun H6 u b6 hp6 hu => ?_⟩
    have u1 : 1 ≤ u ∧ u ≤ d := by
      simp only [List.mem_cons, List.not_mem_nil, or_false] at hu
      omega
    have hP : Par g u d := ⟨g1, g24, u1.1, u1.2, d1.2⟩
    -- n, then all that follows
    refine ⟨.int g, rfl, g, 8, rfl, rfl, _, rfl, ite2 (fun e => ?_) (fun e => ?_)⟩
    case' refine_1 =>
      refine ⟨.ref p, rfl, p, 13, rfl, hp6, by decide, by decide, fun H7 n' b7 hp7 n0 n1 => ?_⟩
      obtain ⟨n, rfl, hn⟩ : ∃ n : Nat, n' = (n : Int) ∧ n ≤ 12 := ⟨n'.toNat, by omega, by omega⟩
    case' refine_2 =>
      refine ⟨.ref p, rfl, p, 4, rfl, hp6, by decide, by decide, fun H7 n' b7 hp7 n0 n1 => ?_⟩
      obtain ⟨n, rfl, hn⟩ : ∃ n : Nat, n' = (n : Int) ∧ n ≤ 12 := ⟨n'.toNat, by omega, by omega⟩
    all_goals
      clear e hp7 b7 hp6 b6 hp5 b5 hp4 b4 hp3 b3 hp2 b2 hp lp lp2 lp3 hl3 hl2 hl hz hd hu r0 r1 r0' r1' s1 gn n0 n1
      refine ⟨.int g, rfl, .int u, rfl, .int d, rfl, g, u, d, rfl, hP, fun H8 b s8 hB => ?_⟩
      refine ⟨.ref b, rfl, .int n, rfl, b, g, u, d, n, rfl, hP, hn, hB, fun H9 tp s9 hT => ?_⟩
      refine ⟨.ref b, rfl, .int n, rfl, b, g, u, d, n, rfl, hP, hn, hB.kp (.of s9), fun H10 cp s10 hC => ?_⟩
      refine ⟨.int g, rfl, .int u, rfl, .int d, rfl, .int n, rfl, g, u, d, n, rfl, hP, hn, fun H11 dp s11 hD => ?_⟩
      refine ⟨(by show 4 ≤ sizeLine; decide), fun t ht => ?_⟩
      have s12 : Same H11 (upd H11 t (.tup [.ref tp, .ref cp, .ref dp, .int 1])) := Same.new ht
      have et : (upd H11 t (.tup [.ref tp, .ref cp, .ref dp, .int 1])) t = some (.tup [.ref tp, .ref cp, .ref dp, .int 1]) := upd_same
      show gTup _ _ _ _ _ _ _
      generalize upd H11 t (.tup [.ref tp, .ref cp, .ref dp, .int 1]) = HA at s12 et
      refine ⟨t, _, rfl, SqT.of et, rfl, .ref tp, _, rfl, .ref cp, _, rfl, .ref dp, _, rfl, .int 1, [], rfl, rfl, ?_⟩
      obtain ⟨tvs, htp, htA⟩ := hT.kp (.of ((s10.trans s11).trans s12))
      obtain ⟨cvs, hcp, hcA⟩ := hC.kp (.of (s11.trans s12))
      obtain ⟨dvs, hdp, hdA⟩ := hD.same s12
      have en : ((n : Int) + 1).toNat = n + 1 := by omega
      have eg : ((g : Int) + 1).toNat = g + 1 := by omega
      refine ⟨.int n, rfl, n, 1, rfl, rfl, _, rfl, by omega, by omega, ?_⟩
      refine for_it (walk_range (lo := 0) (n := ((n : Int) + 1).toNat)) (fun k σ H' => ∃ y11 y12, σ = [some (.ref a), some (.ref p), some (.int g), some (.int d), some (.int u), some (.int n), some (.ref b), some (.ref tp), some (.ref cp), some (.ref dp), some (.int ((u + d) ^ k)), y11, y12] ∧ Same HA H')
        ⟨none, none, by rw [Int.pow_zero]; rfl, Same.refl HA⟩ (fun i σ H' _ h => True.intro) ?_ ?_
      · rintro k y σ HB HC hk ⟨y11, y12, rfl, z1⟩ ⟨rfl, hy⟩
        rw [en] at hk
        have ey : y = V.int ((k : Nat) : Int) := hy.trans (by show V.int (0 + (k : Int)) = _; rw [Int.zero_add])
        subst ey
        have hS := hP.sp k
        have hS2 := hP.sz (k := k) (by omega)
        have nn := bW_nonneg (g := g) hP.up hP.dp k
        have le := bW_le (g := g) hP.up hP.dp k
        obtain ⟨tv, htv, qk, rfl, hqk⟩ := htA.get (i := k) (r := k) (by rw [List.getElem?_range (by omega)])
        obtain ⟨dv, hdv, lk, rfl, hlk⟩ := hdA.get (i := k) (r := k) (by rw [List.getElem?_range (by omega)])
        refine ⟨.int g, rfl, g, 1, rfl, rfl, _, rfl, by omega, by omega, ?_⟩
        refine for_it (walk_range (lo := 0) (n := ((g : Int) + 1).toNat)) (fun x σ H' => ∃ y12, σ = [some (.ref a), some (.ref p), some (.int g), some (.int d), some (.int u), some (.int n), some (.ref b), some (.ref tp), some (.ref cp), some (.ref dp), some (.int ((u + d) ^ k)), some (.int k), y12] ∧ Same HA H')
          ⟨y12, rfl, z1⟩ (fun i σ H' _ h => True.intro) ?_ ?_
        · rintro x v σ HD HE hx ⟨y12, rfl, z2⟩ ⟨rfl, hv⟩
          rw [eg] at hx
          have ev : v = V.int ((x : Nat) : Int) := hv.trans (by show V.int (0 + (x : Int)) = _; rw [Int.zero_add])
          subst ev
          have hxg : x ≤ g := by omega
          obtain ⟨fs, fv, hfs, hfv, hfr⟩ := hqk.get hxg
          have due : ((cf g u d k).map V.int)[x]? = some (.int (bW g u d k x)) := by rw [List.getElem?_map, cf_get hxg]; rfl
          -- the clock's chance
          refine ⟨.ref tp, rfl, .int k, rfl, tp, _, k, .ref qk, rfl, rfl, SqT.of (z2 _ _ htp), atI_nat htv, .int x, rfl, qk, _, x, fv, rfl, rfl, SqT.of (z2 _ _ hfs), atI_nat hfv,
            .ref dp, rfl, .int k, rfl, dp, _, k, .ref lk, rfl, rfl, SqL.of (z2 _ _ hdp), atI_nat hdv, .int x, rfl, lk, _, x, _, rfl, rfl, SqL.of (z2 _ _ hlk), atI_nat due,
            .int ((u + d) ^ k), rfl, fv, bW g u d k x, (u + d) ^ k, rfl, hfr.kp (.of z2), nn x, le x, hS, hS2, fun HF z3 => ⟨true, rfl, ?_⟩⟩
          have z23 := z2.trans z3
          -- bold stakes' chance
          refine ⟨.int k, rfl, .int x, rfl, .int d, rfl, .int u, rfl, .int g, rfl, g, u, d, x, k, rfl, hP, hxg, by omega, fun HG bv z4 hbv => ?_⟩
          have z24 := z23.trans z4
          refine ⟨.ref dp, rfl, .int k, rfl, dp, _, k, .ref lk, rfl, rfl, SqL.of (z24 _ _ hdp), atI_nat hdv, .int x, rfl, lk, _, x, _, rfl, rfl, SqL.of (z24 _ _ hlk), atI_nat due,
            .int ((u + d) ^ k), rfl, bv, bW g u d k x, (u + d) ^ k, rfl, hbv, nn x, le x, hS, hS2, fun HI z5 => ⟨true, rfl, ?_⟩⟩
          have z25 := z24.trans z5
          -- the choice
          refine ⟨.int k, rfl, k, 0, rfl, rfl, _, rfl, ite2 (fun e => ?_) (fun e => ?_)⟩
          · obtain ⟨k', rfl⟩ : ∃ k', k = k' + 1 := ⟨k - 1, by
              have z : (0 : Int) < k := of_decide_eq_true e
              omega⟩
            obtain ⟨dv', hdv', lk', rfl, hlk'⟩ := hdA.get (i := k') (r := k') (by rw [List.getElem?_range (by omega)])
            obtain ⟨cv, hcv, cq, cws, rfl, hcq, hcwA⟩ := hcA.get (i := k') (r := k') (by rw [List.getElem?_range (by omega)])
            obtain ⟨jv, hjv, j, rfl, hj⟩ := hcwA.get (i := x) (r := x) (by rw [List.getElem?_range (by omega)])
            have ek : ((k' + 1 : Nat) : Int) - 1 = (k' : Int) := by omega
            refine ⟨.int g, rfl, .int u, rfl, .int d, rfl, .ref dp, rfl, .int ((k' + 1 : Nat) : Int), rfl, ((k' + 1 : Nat) : Int), 1, rfl, rfl, dp, _, _, .ref lk', rfl, rfl, SqL.of (z25 _ _ hdp), (by rw [ek]; exact atI_nat hdv'), .int x, rfl,
              .ref cp, rfl, .int ((k' + 1 : Nat) : Int), rfl, ((k' + 1 : Nat) : Int), 1, rfl, rfl, cp, _, _, .ref cq, rfl, rfl, SqT.of (z25 _ _ hcp), (by rw [ek]; exact atI_nat hcv), .int x, rfl, cq, _, x, _, rfl, rfl, SqT.of (z25 _ _ hcq), atI_nat hjv,
              .ref dp, rfl, .int ((k' + 1 : Nat) : Int), rfl, dp, _, _, .ref lk, rfl, rfl, SqL.of (z25 _ _ hdp), atI_nat hdv, .int x, rfl, lk, _, x, _, rfl, rfl, SqL.of (z25 _ _ hlk), atI_nat due,
              g, u, d, lk', x, k', j, rfl, hP, by omega, hxg, z25 _ _ hlk', hj, true, rfl, ?_⟩
            exact ⟨some (.int x), rfl, z25⟩
          · exact ⟨some (.int x), rfl, z25⟩
        · rintro σ HD ⟨y12, rfl, z2⟩
          have uB : (u + d).natAbs < 2 ^ 8 := by have := hP.d99; have := hP.ud; have := hP.u1; show _ < 256; omega
          have sS : Sm ((u + d) ^ k) := .of (by omega) hS2
          refine ⟨.int ((u + d) ^ k), rfl, .int u, rfl, .int d, rfl, u, d, rfl, rfl, _, _, rfl, rfl, mulW sS uB, ?_⟩
          exact ⟨some (.int k), y12, by rw [Int.pow_succ]; rfl, z2⟩
      · rintro σ HB ⟨y11, y12, rfl, z1⟩
        exact q _
end
end Sk
set_option Elab.async false
set_option linter.all false
set_option maxRecDepth 100000
set_option maxHeartbeats 4000000
namespace Sk
open PySem PySem.Spec PyProof.Rows L2 Bk Xr
/-- a def as the top has left it -/
structure DefK (K : PySem.W.Frag) (x : Str) (st : Stmt) : Prop where
  ex : ∃ (f : Addr) (oc : Value) (od : Option Addr) (kV doc pm : Value) (an : Option Addr) (cdv ct : Value) (osl : Array (Option Value)),
    PySem.W.nsIn K mainGlobals x = some (some (.ref f)) ∧ K.lookup f = some ⟨oc, od, .func (PySem.W.fnOf x x (C8.fnArgs st) (C8.fnBody st) (C8.fnScope st) .none kV doc pm an cdv ct), osl⟩ ∧ PySem.W.codeIn K cdv x = true ∧ PySem.W.keepIn K (.ref f) = true
theorem defk {K : PySem.W.Frag} {x : Str} {st : Stmt} {f : Addr} {oc : Value} {od an : Option Addr} {kV doc pm cdv ct : Value} {osl : Array (Option Value)} (a : PySem.W.nsIn K mainGlobals x = some (some (.ref f)))
    (l : K.lookup f = some ⟨oc, od, .func (PySem.W.fnOf x x (C8.fnArgs st) (C8.fnBody st) (C8.fnScope st) .none kV doc pm an cdv ct), osl⟩) (c : PySem.W.codeIn K cdv x = true) (k : PySem.W.keepIn K (.ref f) = true) : DefK K x st :=
  ⟨f, oc, od, kV, doc, pm, an, cdv, ct, osl, a, l, c, k⟩
/-- .. as the layer has it; its arguments bind by place -/
theorem DefK.get {K : PySem.W.Frag} {x : Str} {st : Stmt} {h : Heap} {mg : Str → Option Value} {ps : List Str} (D : DefK K x st) (X : K.In h) (G : h.Ns mainGlobals mg)
    (hb : ∀ (kV doc pm : Value) (an : Option Addr) (cdv ct : Value) (us : List Value), us.length = ps.length → bindArgs (PySem.W.fnOf x x (C8.fnArgs st) (C8.fnBody st) (C8.fnScope st) .none kV doc pm an cdv ct) ⟨us, []⟩ = pure (ps.zip us)) :
    ∃ f fd, C8.Def K mg x st f fd ∧ fd.defaults = .none ∧ Binds K fd ps [] := by
  obtain ⟨f, oc, od, kV, doc, pm, an, cdv, ct, osl, a, l, c, k⟩ := D.ex
  have F : C8.Fun K x x st f (PySem.W.fnOf x x (C8.fnArgs st) (C8.fnBody st) (C8.fnScope st) .none kV doc pm an cdv ct) := ⟨oc, od, .none, kV, doc, pm, an, cdv, ct, osl, rfl, l, c⟩
  exact ⟨f, _, ⟨F, PySem.W.mg_of X G a, k⟩, rfl, F.binds rfl hb⟩
/-- the class of boards as the top has left it -/
structure ClsK (K : PySem.W.Frag) : Prop where
  ex : ∃ (C f : Addr) (oc : Value) (od : Option Addr) (kV doc pm : Value) (an : Option Addr) (cdv ct : Value) (osl : Array (Option Value)),
    PySem.W.nsIn K mainGlobals "Board" = some (some (.ref C)) ∧ PySem.W.findIn K (.ref C) "__init__" = some (some (.ref f)) ∧ PySem.W.isFn K (.ref f) = true ∧
    K.lookup f = some ⟨oc, od, .func (PySem.W.fnOf "__init__" "Board.__init__" (C8.fnArgs sInit) (C8.fnBody sInit) (C8.fnScope sInit) .none kV doc pm an cdv ct), osl⟩ ∧ PySem.W.codeIn K cdv "Board.__init__" = true ∧
    PySem.W.makesIn K C = true ∧ PySem.W.keepIn K (.ref C) = true ∧ Bx K C
theorem clsk {K : PySem.W.Frag} {C f : Addr} {oc : Value} {od an : Option Addr} {kV doc pm cdv ct : Value} {osl : Array (Option Value)} (a : PySem.W.nsIn K mainGlobals "Board" = some (some (.ref C))) (i : PySem.W.findIn K (.ref C) "__init__" = some (some (.ref f)))
    (t : PySem.W.isFn K (.ref f) = true) (l : K.lookup f = some ⟨oc, od, .func (PySem.W.fnOf "__init__" "Board.__init__" (C8.fnArgs sInit) (C8.fnBody sInit) (C8.fnScope sInit) .none kV doc pm an cdv ct), osl⟩) (c : PySem.W.codeIn K cdv "Board.__init__" = true)
    (m : PySem.W.makesIn K C = true) (k : PySem.W.keepIn K (.ref C) = true) (pg : PySem.W.plainGet K C Str.empty = true) (hd : PySem.W.hasDictIn K C = true) (po : PySem.W.plainOver K C = true) (sa : PySem.W.findIn K (.ref C) "__setattr__" = some (some (.builtin "object.__setattr__")))
    (n1 : PySem.W.findIn K (.ref C) "size" = some none) (n2 : PySem.W.findIn K (.ref C) "pays" = some none) (n3 : PySem.W.findIn K (.ref C) "plays" = some none) : ClsK K :=
  ⟨C, f, oc, od, kV, doc, pm, an, cdv, ct, osl, a, i, t, l, c, m, k, ⟨⟨pg, hd, po, sa⟩, n1, n2, n3⟩⟩
theorem lim_of {p : Program} {n : Int} {mg : Str → Option Value} {h : Heap} (hn : 2 ≤ n) (x : PySem.W.XL p [("PAY_LIMIT", .int n)] mg h) : ∃ t i, mg "PAY_LIMIT" = some (.int i t) ∧ 2 ≤ i := by
  obtain ⟨v, e, r⟩ := x.2.val _ (List.mem_singleton.mpr rfl)
  cases r with
  | int i t => exact ⟨t, n, e, hn⟩
theorem all_mk {l : PySem.W.OpenLaw} {w : World} {K : PySem.W.Frag} {h : Heap} {mg : Str → Option Value} {fa : Addr} {twithin20 tgoal200 tweight99 tbold200 tplaces40 tplays12 tpairs8 tweights tstop tlaid24 : Tok} (X : K.In h) (G : h.Ns mainGlobals mg) (hfa : mg "law" = some (.ref fa)) (hlim : ∃ t i, mg "PAY_LIMIT" = some (.int i t) ∧ 2 ≤ i)
    (DRatio : DefK K "ratio" sRatio) (DLess : DefK K "less" sLess) (DGreatest : DefK K "greatest" sGreatest) (DIsNum : DefK K "is_number" sIsNum) (DIsRatio : DefK K "is_ratio" sIsRatio) (DWeight : DefK K "weight_of" sWeight) (DAverage : DefK K "average" sAverage) (DAmounts : DefK K "clock_amounts" sAmounts) (DNext : DefK K "next_within" sNext) (DWithin : DefK K "within" sWithin) (DWGoal : DefK K "want_goal" sWGoal) (DWWeights : DefK K "want_weights" sWWeights) (DWPurse : DefK K "want_purse" sWPurse) (DWPlain : DefK K "want_plain" sWPlain) (DTurn : DefK K "bold_turn" sTurn) (DBWithin : DefK K "bold_within" sBWithin) (DIsPay : DefK K "is_pay" sIsPay) (DIsLot : DefK K "is_lottery" sIsLot) (DWPays : DefK K "want_pays" sWPays) (DWPlays : DefK K "want_plays" sWPlays) (DMade : DefK K "made_board" sMade) (DChoices : DefK K "clock_choices" sChoices) (DPPlays : DefK K "plain_plays" sPPlays) (DPlain : DefK K "plain_board" sPlain) (DPool : DefK K "_law_pool" sPool) (DTake : DefK K "_law_take" sTake) (DOne : DefK K "_law_one" sOne) (DBold : DefK K "_law_bold" sBold) (DSame : DefK K "_law_same" sSame) (DBest : DefK K "_law_is_best" sBest) (DLaw : DefK K "law" sLaw)
    (B : ClsK K) (zgcd : PySem.W.nsIn K mainGlobals "gcd" = some (some (.builtin "math.gcd"))) (zisi : PySem.W.nsIn K mainGlobals "isinstance" = some none) (zint : PySem.W.nsIn K mainGlobals "int" = some none) (zbool : PySem.W.nsIn K mainGlobals "bool" = some none) (ztuple : PySem.W.nsIn K mainGlobals "tuple" = some none) (zlen : PySem.W.nsIn K mainGlobals "len" = some none) (zsum : PySem.W.nsIn K mainGlobals "sum" = some none) (zrange : PySem.W.nsIn K mainGlobals "range" = some none) (zenum : PySem.W.nsIn K mainGlobals "enumerate" = some none) (zmin : PySem.W.nsIn K mainGlobals "min" = some none) (zmax : PySem.W.nsIn K mainGlobals "max" = some none)
    (kwithin20 : PySem.W.nsIn K mainGlobals "MOST_PLAYS_within" = some (some (.int 20 twithin20))) (kgoal200 : PySem.W.nsIn K mainGlobals "MOST_GOAL" = some (some (.int 200 tgoal200))) (kweight99 : PySem.W.nsIn K mainGlobals "MOST_WEIGHT_plainchecks" = some (some (.int 99 tweight99))) (kbold200 : PySem.W.nsIn K mainGlobals "MOST_PLAYS_boldwithin" = some (some (.int 200 tbold200))) (kplaces40 : PySem.W.nsIn K mainGlobals "MOST_PLACES" = some (some (.int 40 tplaces40))) (kplays12 : PySem.W.nsIn K mainGlobals "MOST_PLAYS_boards" = some (some (.int 12 tplays12))) (kpairs8 : PySem.W.nsIn K mainGlobals "MOST_PAIRS" = some (some (.int 8 tpairs8))) (kweights : PySem.W.nsIn K mainGlobals "MOST_WEIGHT_boards" = some (some (.int 99999 tweights))) (kstop : PySem.W.nsIn K mainGlobals "STOP" = some (some (.int (-1) tstop))) (klaid24 : PySem.W.nsIn K mainGlobals "MOST_LAID" = some (some (.int 24 tlaid24))) :
    ∃ fd : FuncData, (∀ (s : Shared) (v : Value), BindsTo s fd ⟨[v], []⟩ [("_law_script", v)]) ∧ ∀ base : Heap, K.In base → base.Ns mainGlobals mg → FnOk l.prog w K mg base C8.CX0 7 fa fd ["_law_script"] (spLaw K) := by
  have T : Tx K mg := ⟨PySem.W.mg_of X G zgcd, PySem.W.mg_none_of X G zisi, PySem.W.mg_none_of X G zint, PySem.W.mg_none_of X G zbool, PySem.W.mg_none_of X G ztuple, PySem.W.mg_none_of X G zlen, PySem.W.mg_none_of X G zsum, PySem.W.mg_none_of X G zrange, PySem.W.mg_none_of X G zenum, PySem.W.mg_none_of X G zmin, PySem.W.mg_none_of X G zmax, ⟨_, PySem.W.mg_of X G kwithin20⟩, ⟨_, PySem.W.mg_of X G kgoal200⟩, ⟨_, PySem.W.mg_of X G kweight99⟩, ⟨_, PySem.W.mg_of X G kbold200⟩, ⟨_, PySem.W.mg_of X G kplaces40⟩, ⟨_, PySem.W.mg_of X G kplays12⟩, ⟨_, PySem.W.mg_of X G kpairs8⟩, ⟨_, PySem.W.mg_of X G kweights⟩, ⟨_, PySem.W.mg_of X G kstop⟩, ⟨_, PySem.W.mg_of X G klaid24⟩, hlim⟩
  obtain ⟨fRatio, fdRatio, FRatio, eRatio, bRatio⟩ := DRatio.get (ps := ["n", "d"]) X G fun _ _ _ _ _ _ us hl => match us, hl with | [_, _], _ => rfl
  obtain ⟨fLess, fdLess, FLess, eLess, bLess⟩ := DLess.get (ps := ["a", "b"]) X G fun _ _ _ _ _ _ us hl => match us, hl with | [_, _], _ => rfl
  obtain ⟨fGreatest, fdGreatest, FGreatest, eGreatest, bGreatest⟩ := DGreatest.get (ps := ["row"]) X G fun _ _ _ _ _ _ us hl => match us, hl with | [_], _ => rfl
  obtain ⟨fIsNum, fdIsNum, FIsNum, eIsNum, bIsNum⟩ := DIsNum.get (ps := ["thing"]) X G fun _ _ _ _ _ _ us hl => match us, hl with | [_], _ => rfl
  obtain ⟨fIsRatio, fdIsRatio, FIsRatio, eIsRatio, bIsRatio⟩ := DIsRatio.get (ps := ["thing"]) X G fun _ _ _ _ _ _ us hl => match us, hl with | [_], _ => rfl
  obtain ⟨fWeight, fdWeight, FWeight, eWeight, bWeight⟩ := DWeight.get (ps := ["lottery"]) X G fun _ _ _ _ _ _ us hl => match us, hl with | [_], _ => rfl
  obtain ⟨fAverage, fdAverage, FAverage, eAverage, bAverage⟩ := DAverage.get (ps := ["f", "lottery"]) X G fun _ _ _ _ _ _ us hl => match us, hl with | [_, _], _ => rfl
  obtain ⟨fAmounts, fdAmounts, FAmounts, eAmounts, bAmounts⟩ := DAmounts.get (ps := ["board", "f", "x"]) X G fun _ _ _ _ _ _ us hl => match us, hl with | [_, _, _], _ => rfl
  obtain ⟨fNext, fdNext, FNext, eNext, bNext⟩ := DNext.get (ps := ["board", "f"]) X G fun _ _ _ _ _ _ us hl => match us, hl with | [_, _], _ => rfl
  obtain ⟨fWithin, fdWithin, FWithin, eWithin, bWithin⟩ := DWithin.get (ps := ["board", "n"]) X G fun _ _ _ _ _ _ us hl => match us, hl with | [_, _], _ => rfl
  obtain ⟨fWGoal, fdWGoal, FWGoal, eWGoal, bWGoal⟩ := DWGoal.get (ps := ["goal", "most"]) X G fun _ _ _ _ _ _ us hl => match us, hl with | [_, _], _ => rfl
  obtain ⟨fWWeights, fdWWeights, FWWeights, eWWeights, bWWeights⟩ := DWWeights.get (ps := ["up", "down"]) X G fun _ _ _ _ _ _ us hl => match us, hl with | [_, _], _ => rfl
  obtain ⟨fWPurse, fdWPurse, FWPurse, eWPurse, bWPurse⟩ := DWPurse.get (ps := ["goal", "x"]) X G fun _ _ _ _ _ _ us hl => match us, hl with | [_, _], _ => rfl
  obtain ⟨fWPlain, fdWPlain, FWPlain, eWPlain, bWPlain⟩ := DWPlain.get (ps := ["goal", "up", "down", "x"]) X G fun _ _ _ _ _ _ us hl => match us, hl with | [_, _, _, _], _ => rfl
  obtain ⟨fTurn, fdTurn, FTurn, eTurn, bTurn⟩ := DTurn.get (ps := ["goal", "up", "down", "state"]) X G fun _ _ _ _ _ _ us hl => match us, hl with | [_, _, _, _], _ => rfl
  obtain ⟨fBWithin, fdBWithin, FBWithin, eBWithin, bBWithin⟩ := DBWithin.get (ps := ["goal", "up", "down", "x", "n"]) X G fun _ _ _ _ _ _ us hl => match us, hl with | [_, _, _, _, _], _ => rfl
  obtain ⟨fIsPay, fdIsPay, FIsPay, eIsPay, bIsPay⟩ := DIsPay.get (ps := ["thing"]) X G fun _ _ _ _ _ _ us hl => match us, hl with | [_], _ => rfl
  obtain ⟨fIsLot, fdIsLot, FIsLot, eIsLot, bIsLot⟩ := DIsLot.get (ps := ["lottery", "size"]) X G fun _ _ _ _ _ _ us hl => match us, hl with | [_, _], _ => rfl
  obtain ⟨fWPays, fdWPays, FWPays, eWPays, bWPays⟩ := DWPays.get (ps := ["pays", "size"]) X G fun _ _ _ _ _ _ us hl => match us, hl with | [_, _], _ => rfl
  obtain ⟨fWPlays, fdWPlays, FWPlays, eWPlays, bWPlays⟩ := DWPlays.get (ps := ["plays", "size"]) X G fun _ _ _ _ _ _ us hl => match us, hl with | [_, _], _ => rfl
  obtain ⟨fMade, fdMade, FMade, eMade, bMade⟩ := DMade.get (ps := ["pays", "plays"]) X G fun _ _ _ _ _ _ us hl => match us, hl with | [_, _], _ => rfl
  obtain ⟨fChoices, fdChoices, FChoices, eChoices, bChoices⟩ := DChoices.get (ps := ["board", "n"]) X G fun _ _ _ _ _ _ us hl => match us, hl with | [_, _], _ => rfl
  obtain ⟨fPPlays, fdPPlays, FPPlays, ePPlays, bPPlays⟩ := DPPlays.get (ps := ["goal", "up", "down", "x"]) X G fun _ _ _ _ _ _ us hl => match us, hl with | [_, _, _, _], _ => rfl
  obtain ⟨fPlain, fdPlain, FPlain, ePlain, bPlain⟩ := DPlain.get (ps := ["goal", "up", "down"]) X G fun _ _ _ _ _ _ us hl => match us, hl with | [_, _, _], _ => rfl
  obtain ⟨fPool, fdPool, FPool, ePool, bPool⟩ := DPool.get (ps := ["_law_script", "_law_k"]) X G fun _ _ _ _ _ _ us hl => match us, hl with | [_, _], _ => rfl
  obtain ⟨fTake, fdTake, FTake, eTake, bTake⟩ := DTake.get (ps := ["_law_source", "_law_top"]) X G fun _ _ _ _ _ _ us hl => match us, hl with | [_, _], _ => rfl
  obtain ⟨fOne, fdOne, FOne, eOne, bOne⟩ := DOne.get (ps := ["_law_source", "_law_things"]) X G fun _ _ _ _ _ _ us hl => match us, hl with | [_, _], _ => rfl
  obtain ⟨fBold, fdBold, FBold, eBold, bBold⟩ := DBold.get (ps := ["_law_goal", "_law_up", "_law_down", "_law_n"]) X G fun _ _ _ _ _ _ us hl => match us, hl with | [_, _, _, _], _ => rfl
  obtain ⟨fSame, fdSame, FSame, eSame, bSame⟩ := DSame.get (ps := ["_law_told", "_law_n", "_law_d"]) X G fun _ _ _ _ _ _ us hl => match us, hl with | [_, _, _], _ => rfl
  obtain ⟨fBest, fdBest, FBest, eBest, bBest⟩ := DBest.get (ps := ["_law_goal", "_law_up", "_law_down", "_law_ahead", "_law_x", "_law_choice", "_law_due"]) X G fun _ _ _ _ _ _ us hl => match us, hl with | [_, _, _, _, _, _, _], _ => rfl
  obtain ⟨fl, oc, od, kV, doc, pm, an, cdv, ct, osl, al, ll, cl, kl⟩ := DLaw.ex
  have e := hfa.symm.trans (PySem.W.mg_of X G al)
  cases e
  have FLaw : C8.Def K mg "law" sLaw fa (PySem.W.fnOf "law" "law" (C8.fnArgs sLaw) (C8.fnBody sLaw) (C8.fnScope sLaw) .none kV doc pm an cdv ct) := ⟨⟨oc, od, .none, kV, doc, pm, an, cdv, ct, osl, rfl, ll, cl⟩, PySem.W.mg_of X G al, kl⟩
  obtain ⟨C, fI, oc2, od2, kV2, doc2, pm2, an2, cdv2, ct2, osl2, aC, iC, tC, lC, cC, mC, kC, hB⟩ := B.ex
  have FI : C8.Fun K "__init__" "Board.__init__" sInit fI (PySem.W.fnOf "__init__" "Board.__init__" (C8.fnArgs sInit) (C8.fnBody sInit) (C8.fnScope sInit) .none kV2 doc2 pm2 an2 cdv2 ct2) := ⟨oc2, od2, .none, kV2, doc2, pm2, an2, cdv2, ct2, osl2, rfl, lC, cC⟩
  have bI := FI.binds (ps := ["self", "pays", "plays"]) rfl fun _ _ _ _ _ _ us hl => match us, hl with | [_, _, _], _ => rfl
  have M : Mk K C fI := ⟨mC, iC, tC, kC⟩
  refine ⟨PySem.W.fnOf "law" "law" (C8.fnArgs sLaw) (C8.fnBody sLaw) (C8.fnScope sLaw) .none kV doc pm an cdv ct, fun s v => .of_eq rfl, fun base _ _ => ?_⟩
  have cRatio : C8.Cal l.prog w K mg base 1 "ratio" spRatio [] := c_ratio FRatio bRatio T
  have cLess : C8.Cal l.prog w K mg base 1 "less" spLess [] := c_less FLess bLess
  have cGreatest : C8.Cal l.prog w K mg base 2 "greatest" spGreatest [] := c_greatest FGreatest bGreatest cLess
  have cWeight : C8.Cal l.prog w K mg base 1 "weight_of" spWeight [] := c_weight FWeight bWeight T
  have cAverage : C8.Cal l.prog w K mg base 2 "average" spAverage [] := c_average FAverage bAverage cRatio cWeight
  have cAmounts : C8.Cal l.prog w K mg base 3 "clock_amounts" (spAmounts C) [] := c_amounts FAmounts bAmounts hB cAverage
  have cNext : C8.Cal l.prog w K mg base 4 "next_within" (spNext C) [] := c_next FNext bNext T hB cGreatest cAmounts
  have cWithin : C8.Cal l.prog w K mg base 5 "within" (spWithin C) [] := c_within FWithin bWithin T hB cNext
  have cWGoal : C8.Cal l.prog w K mg base 1 "want_goal" spWGoal [] := c_wgoal FWGoal bWGoal
  have cWWeights : C8.Cal l.prog w K mg base 1 "want_weights" spWWeights [] := c_wweights FWWeights bWWeights T
  have cWPurse : C8.Cal l.prog w K mg base 1 "want_purse" spWPurse [] := c_wpurse FWPurse bWPurse
  have cWPlain : C8.Cal l.prog w K mg base 2 "want_plain" spWPlain [] := c_wplain FWPlain bWPlain T cWGoal cWWeights cWPurse
  have cTurn : C8.Cal l.prog w K mg base 1 "bold_turn" spTurn [] := c_turn FTurn bTurn
  have gBWithin : FnOk l.prog w K mg base C8.CX0 3 fBWithin fdBWithin ["goal", "up", "down", "x", "n"] spBWithin := f_bwithin FBWithin T cWPlain cTurn cRatio
  have cIsNum : C8.Cal l.prog w K mg base 1 "is_number" spIsNum [] := c_isnum FIsNum bIsNum T
  have cIsRatio : C8.Cal l.prog w K mg base 2 "is_ratio" spIsRatio [] := c_isratio FIsRatio bIsRatio T cIsNum
  have cIsPay : C8.Cal l.prog w K mg base 3 "is_pay" spIsPay [] := c_ispay FIsPay bIsPay T cIsRatio
  have cIsLot : C8.Cal l.prog w K mg base 1 "is_lottery" spIsLot [] := c_islot FIsLot bIsLot T
  have cWPays : C8.Cal l.prog w K mg base 4 "want_pays" spWPays [] := c_wpays FWPays bWPays T cIsPay
  have cWPlays : C8.Cal l.prog w K mg base 2 "want_plays" spWPlays [] := c_wplays FWPlays bWPlays T cIsLot
  have cMak : C8.Mak l.prog w K mg base 1 "Board" C (spInit C) [] := c_init M (PySem.W.mg_of X G aC) FI bI T hB
  have cMade : C8.Cal l.prog w K mg base 5 "made_board" (spMade C) [] := c_made FMade bMade T cMak cWPays cWPlays
  have cPPlays : C8.Cal l.prog w K mg base 1 "plain_plays" spPPlays [] := c_pplays FPPlays bPPlays T
  have cPlain : C8.Cal l.prog w K mg base 6 "plain_board" (spPlain C) [] := c_plain FPlain bPlain T cWGoal cWWeights cPPlays cMade
  have cChoices : C8.Cal l.prog w K mg base 6 "clock_choices" (spChoices C) [] := c_choices FChoices bChoices T cWithin cAmounts
  have cPool : C8.Cal l.prog w K mg base 1 "_law_pool" (spPool K) [] := c_pool FPool bPool T
  have cTake : C8.Cal l.prog w K mg base 1 "_law_take" spTake [] := c_take FTake bTake T
  have cOne : C8.Cal l.prog w K mg base 2 "_law_one" spOne [] := c_one FOne bOne T cTake
  have cBold : C8.Cal l.prog w K mg base 1 "_law_bold" spBold [] := c_bold FBold bBold T
  have cSame : C8.Cal l.prog w K mg base 1 "_law_same" spSame [] := c_same FSame bSame T
  have cBest : C8.Cal l.prog w K mg base 1 "_law_is_best" spBest [] := c_best FBest bBest T
  exact f_law FLaw T cPool cTake cOne cPlain cWithin cChoices cBold cSame cBest FBWithin eBWithin gBWithin
end Sk
open PySem PySem.W PyProof.Rows
set_option Elab.async false
set_option maxRecDepth 100000 in
set_option maxHeartbeats 0 in
theorem PySem.Challenge.cw_stakehulls_k87_whole_bold_stakes_beat_th_holds : PySem.Challenge.rw_stakehulls_k87_whole_bold_stakes_beat_th.Holds := by
  w_on; o_law; k_head; (case hw => w_witness2)
  k_fill
  refine Xr.law_end (l := PySem.Challenge.rw_stakehulls_k87_whole_bold_stakes_beat_th) (k := 7) (x := "_law_script") (CX := C8.CX0) (sp := Sk.spLaw) rfl rfl ⟨rfl, by decide, by decide⟩ (fun w h Y => PySem.W.kIn_of Y) (fun _ _ _ _ h => h) (fun _ _ a ns hS => ⟨a, ns, rfl, hS, fun _ => rfl⟩) ?F
  case F =>
    intro w mg fa h KX G hX hmg
    refine' Sk.all_mk KX G hmg (Sk.lim_of (by decide) hX) (Sk.defk ?aRatio ?lRatio ?cRatio ?kRatio) (Sk.defk ?aLess ?lLess ?cLess ?kLess) (Sk.defk ?aGreatest ?lGreatest ?cGreatest ?kGreatest) (Sk.defk ?aIsNum ?lIsNum ?cIsNum ?kIsNum) (Sk.defk ?aIsRatio ?lIsRatio ?cIsRatio ?kIsRatio) (Sk.defk ?aWeight ?lWeight ?cWeight ?kWeight) (Sk.defk ?aAverage ?lAverage ?cAverage ?kAverage) (Sk.defk ?aAmounts ?lAmounts ?cAmounts ?kAmounts) (Sk.defk ?aNext ?lNext ?cNext ?kNext) (Sk.defk ?aWithin ?lWithin ?cWithin ?kWithin) (Sk.defk ?aWGoal ?lWGoal ?cWGoal ?kWGoal) (Sk.defk ?aWWeights ?lWWeights ?cWWeights ?kWWeights) (Sk.defk ?aWPurse ?lWPurse ?cWPurse ?kWPurse) (Sk.defk ?aWPlain ?lWPlain ?cWPlain ?kWPlain) (Sk.defk ?aTurn ?lTurn ?cTurn ?kTurn) (Sk.defk ?aBWithin ?lBWithin ?cBWithin ?kBWithin) (Sk.defk ?aIsPay ?lIsPay ?cIsPay ?kIsPay) (Sk.defk ?aIsLot ?lIsLot ?cIsLot ?kIsLot) (Sk.defk ?aWPays ?lWPays ?cWPays ?kWPays) (Sk.defk ?aWPlays ?lWPlays ?cWPlays ?kWPlays) (Sk.defk ?aMade ?lMade ?cMade ?kMade) (Sk.defk ?aChoices ?lChoices ?cChoices ?kChoices) (Sk.defk ?aPPlays ?lPPlays ?cPPlays ?kPPlays) (Sk.defk ?aPlain ?lPlain ?cPlain ?kPlain) (Sk.defk ?aPool ?lPool ?cPool ?kPool) (Sk.defk ?aTake ?lTake ?cTake ?kTake) (Sk.defk ?aOne ?lOne ?cOne ?kOne) (Sk.defk ?aBold ?lBold ?cBold ?kBold) (Sk.defk ?aSame ?lSame ?cSame ?kSame) (Sk.defk ?aBest ?lBest ?cBest ?kBest) (Sk.defk ?aLaw ?lLaw ?cLaw ?kLaw) (Sk.clsk ?Ba ?Bi ?Bt ?Bl ?Bc ?Bm ?Bk ?Bpg ?Bhd ?Bpo ?Bsa ?Bn1 ?Bn2 ?Bn3) ?zgcd ?zisi ?zint ?zbool ?ztuple ?zlen ?zsum ?zrange ?zenum ?zmin ?zmax ?qwithin20 ?qgoal200 ?qweight99 ?qbold200 ?qplaces40 ?qplays12 ?qpairs8 ?qweights ?qstop ?qlaid24
    (case aRatio => k_is)
    (case lRatio => k_is)
    (case cRatio => k_is)
    (case kRatio => k_is)
    (case aLess => k_is)
    (case lLess => k_is)
    (case cLess => k_is)
    (case kLess => k_is)
    (case aGreatest => k_is)
    (case lGreatest => k_is)
    (case cGreatest => k_is)
    (case kGreatest => k_is)
    (case aIsNum => k_is)
    (case lIsNum => k_is)
    (case cIsNum => k_is)
    (case kIsNum => k_is)
    (case aIsRatio => k_is)
    (case lIsRatio => k_is)
    (case cIsRatio => k_is)
    (case kIsRatio => k_is)
    (case aWeight => k_is)
    (case lWeight => k_is)
    (case cWeight => k_is)
    (case kWeight => k_is)
    (case aAverage => k_is)
    (case lAverage => k_is)
    (case cAverage => k_is)
    (case kAverage => k_is)
    (case aAmounts => k_is)
    (case lAmounts => k_is)
    (case cAmounts => k_is)
    (case kAmounts => k_is)
    (case aNext => k_is)
    (case lNext => k_is)
    (case cNext => k_is)
    (case kNext => k_is)
    (case aWithin => k_is)
    (case lWithin => k_is)
    (case cWithin => k_is)
    (case kWithin => k_is)
    (case aWGoal => k_is)
    (case lWGoal => k_is)
    (case cWGoal => k_is)
    (case kWGoal => k_is)
    (case aWWeights => k_is)
    (case lWWeights => k_is)
    (case cWWeights => k_is)
    (case kWWeights => k_is)
    (case aWPurse => k_is)
    (case lWPurse => k_is)
    (case cWPurse => k_is)
    (case kWPurse => k_is)
    (case aWPlain => k_is)
    (case lWPlain => k_is)
    (case cWPlain => k_is)
    (case kWPlain => k_is)
    (case aTurn => k_is)
    (case lTurn => k_is)
    (case cTurn => k_is)
    (case kTurn => k_is)
    (case aBWithin => k_is)
    (case lBWithin => k_is)
    (case cBWithin => k_is)
    (case kBWithin => k_is)
    (case aIsPay => k_is)
    (case lIsPay => k_is)
    (case cIsPay => k_is)
    (case kIsPay => k_is)
    (case aIsLot => k_is)
    (case lIsLot => k_is)
    (case cIsLot => k_is)
    (case kIsLot => k_is)
    (case aWPays => k_is)
    (case lWPays => k_is)
    (case cWPays => k_is)
    (case kWPays => k_is)
    (case aWPlays => k_is)
    (case lWPlays => k_is)
    (case cWPlays => k_is)
    (case kWPlays => k_is)
    (case aMade => k_is)
    (case lMade => k_is)
    (case cMade => k_is)
    (case kMade => k_is)
    (case aChoices => k_is)
    (case lChoices => k_is)
    (case cChoices => k_is)
    (case kChoices => k_is)
    (case aPPlays => k_is)
    (case lPPlays => k_is)
    (case cPPlays => k_is)
    (case kPPlays => k_is)
    (case aPlain => k_is)
    (case lPlain => k_is)
    (case cPlain => k_is)
    (case kPlain => k_is)
    (case aPool => k_is)
    (case lPool => k_is)
    (case cPool => k_is)
    (case kPool => k_is)
    (case aTake => k_is)
    (case lTake => k_is)
    (case cTake => k_is)
    (case kTake => k_is)
    (case aOne => k_is)
    (case lOne => k_is)
    (case cOne => k_is)
    (case kOne => k_is)
    (case aBold => k_is)
    (case lBold => k_is)
    (case cBold => k_is)
    (case kBold => k_is)
    (case aSame => k_is)
    (case lSame => k_is)
    (case cSame => k_is)
    (case kSame => k_is)
    (case aBest => k_is)
    (case lBest => k_is)
    (case cBest => k_is)
    (case kBest => k_is)
    (case aLaw => k_is)
    (case lLaw => k_is)
    (case cLaw => k_is)
    (case kLaw => k_is)
    (case Ba => k_is)
    (case Bi => k_is)
    (case Bt => k_is)
    (case Bl => k_is)
    (case Bc => k_is)
    (case Bm => k_is)
    (case Bk => k_is)
    (case Bpg => k_is)
    (case Bhd => k_is)
    (case Bpo => k_is)
    (case Bsa => k_is)
    (case Bn1 => k_is)
    (case Bn2 => k_is)
    (case Bn3 => k_is)
    (case zgcd => k_is)
    (case zisi => k_is)
    (case zint => k_is)
    (case zbool => k_is)
    (case ztuple => k_is)
    (case zlen => k_is)
    (case zsum => k_is)
    (case zrange => k_is)
    (case zenum => k_is)
    (case zmin => k_is)
    (case zmax => k_is)
    (case qwithin20 => k_is)
    (case qgoal200 => k_is)
    (case qweight99 => k_is)
    (case qbold200 => k_is)
    (case qplaces40 => k_is)
    (case qplays12 => k_is)
    (case qpairs8 => k_is)
    (case qweights => k_is)
    (case qstop => k_is)
    (case qlaid24 => k_is)
