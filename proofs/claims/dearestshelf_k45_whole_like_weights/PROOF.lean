import PyProof.Rows.All
import Wide.All
import OpenK.AllK
import Wide.FinOn
import KE.KExcSuper
import HandS.ForMost
import HandS.ForExc
import HandS.More
import HandS.Wide
import HandS.Gcd
import HandS.IsInst
import HandS.Defaults
import HandS.Walk
import HandS.Conv
import HandS.Zip
import HandS.Flow
import HandS.Slots
import HandS.SlotsOwn
import HandS.ClsMeth
import HandS.CallLocal
import HandS.ExcInit
import HandS.ExcField
import HandS.Nested
import KE.GoesNew
import KE.GoesMore
import KE.KTupSum
import HandS.HeadHook1
import HandS.HeadHook2
import HandS.HeadHook3
import KE.KStateDown
import HandS.Head0
import HandS.Head1
import HandS.Head2
import HandS.HeadEnd
import HandS.Head3
import PySem.Challenge.RW_dearestshelf_k45_whole_like_weights
section JK45Math
set_option Elab.async false
set_option linter.all false
set_option maxHeartbeats 4000000
namespace K45
/-! ### quotients: a Ratio by its fields -/
def rg (n d : Int) : Int := ((Nat.gcd n.natAbs d.natAbs : Nat) : Int)
def rT (n d : Int) : Int := n / rg n d
def rB (n d : Int) : Int := d / rg n d
theorem rg_pos {n d : Int} (h : 0 < d) : 0 < rg n d := by
  unfold rg
  have : 0 < Nat.gcd n.natAbs d.natAbs := Nat.gcd_pos_of_pos_right _ (by omega)
  omega
theorem rg_dvd_n (n d : Int) : rg n d ∣ n := Int.ofNat_dvd_left.mpr (Nat.gcd_dvd_left _ _)
theorem rg_dvd_d (n d : Int) : rg n d ∣ d := Int.ofNat_dvd_left.mpr (Nat.gcd_dvd_right _ _)
theorem rT_mul (n d : Int) : rT n d * rg n d = n := Int.ediv_mul_cancel (rg_dvd_n n d)
theorem rB_mul (n d : Int) : rB n d * rg n d = d := Int.ediv_mul_cancel (rg_dvd_d n d)
theorem rB_pos {n d : Int} (h : 0 < d) : 0 < rB n d := by
  have h1 := rg_pos (n := n) h
  have h2 := rB_mul n d
  rcases Int.lt_trichotomy (rB n d) 0 with z | z | z
  · have := Int.mul_neg_of_neg_of_pos z h1
    omega
  · rw [z] at h2; omega
  · exact z
theorem r_cross (n d : Int) : rT n d * d = n * rB n d := by
  have h1 := rT_mul n d
  have h2 := rB_mul n d
  calc rT n d * d = rT n d * (rB n d * rg n d) := by rw [h2]
    _ = (rT n d * rg n d) * rB n d := by grind
    _ = n * rB n d := by rw [h1]
theorem rT_abs {n d : Int} (h : 0 < d) : (rT n d).natAbs ≤ n.natAbs := by
  have h1 := congrArg Int.natAbs (rT_mul n d)
  rw [Int.natAbs_mul] at h1
  have h2 : 0 < (rg n d).natAbs := by have := rg_pos (n := n) h; omega
  calc (rT n d).natAbs = (rT n d).natAbs * 1 := by omega
    _ ≤ (rT n d).natAbs * (rg n d).natAbs := Nat.mul_le_mul_left _ h2
    _ = n.natAbs := h1
theorem rB_abs {n d : Int} (h : 0 < d) : (rB n d).natAbs ≤ d.natAbs := by
  have h1 := congrArg Int.natAbs (rB_mul n d)
  rw [Int.natAbs_mul] at h1
  have h2 : 0 < (rg n d).natAbs := by have := rg_pos (n := n) h; omega
  calc (rB n d).natAbs = (rB n d).natAbs * 1 := by omega
    _ ≤ (rB n d).natAbs * (rg n d).natAbs := Nat.mul_le_mul_left _ h2
    _ = d.natAbs := h1
theorem r_coprime {n d : Int} (h : 0 < d) : Nat.Coprime (rT n d).natAbs (rB n d).natAbs := by
  have hg : 0 < Nat.gcd n.natAbs d.natAbs := Nat.gcd_pos_of_pos_right _ (by omega)
  have h1 := congrArg Int.natAbs (rT_mul n d)
  have h2 := congrArg Int.natAbs (rB_mul n d)
  rw [Int.natAbs_mul] at h1 h2
  have e : (rg n d).natAbs = Nat.gcd n.natAbs d.natAbs := by unfold rg; omega
  rw [e] at h1 h2
  have e1 : (rT n d).natAbs = n.natAbs / Nat.gcd n.natAbs d.natAbs := by
    rw [Nat.eq_div_of_mul_eq_left (by omega) h1]
  have e2 : (rB n d).natAbs = d.natAbs / Nat.gcd n.natAbs d.natAbs := by
    rw [Nat.eq_div_of_mul_eq_left (by omega) h2]
  rw [e1, e2]
  exact Nat.coprime_div_gcd_div_gcd hg
theorem mul_cancel_pos {a b c : Int} (h : 0 < c) (e : a * c = b * c) : a = b := Int.eq_of_mul_eq_mul_right (by omega) e
theorem r_eq {n d n' d' : Int} (h : 0 < d) (h' : 0 < d') (e : n * d' = n' * d) : rT n d = rT n' d' ∧ rB n d = rB n' d' := by
  have c1 := r_cross n d
  have c2 := r_cross n' d'
  have p1 := rB_pos (n := n) h
  have p2 := rB_pos (n := n') h'
  -- rT * rB' = rT' * rB
  have x : rT n d * rB n' d' = rT n' d' * rB n d := by
    have : (rT n d * rB n' d') * (d * d') = (rT n' d' * rB n d) * (d * d') := by
      calc (rT n d * rB n' d') * (d * d') = (rT n d * d) * (rB n' d' * d') := by grind
        _ = (n * rB n d) * (rB n' d' * d') := by rw [c1]
        _ = (n * d') * rB n d * rB n' d' := by grind
        _ = (n' * d) * rB n d * rB n' d' := by rw [e]
        _ = (n' * rB n' d') * d * rB n d := by grind
        _ = (rT n' d' * d') * d * rB n d := by rw [c2]
        _ = (rT n' d' * rB n d) * (d * d') := by grind
    exact mul_cancel_pos (Int.mul_pos h h') this
  have xn : (rT n d).natAbs * (rB n' d').natAbs = (rT n' d').natAbs * (rB n d).natAbs := by
    rw [← Int.natAbs_mul, ← Int.natAbs_mul, x]
  have k1 : (rB n d).natAbs ∣ (rB n' d').natAbs := by
    refine (r_coprime (n := n) h).symm.dvd_of_dvd_mul_left ?_
    exact ⟨(rT n' d').natAbs, by rw [xn, Nat.mul_comm]⟩
  have k2 : (rB n' d').natAbs ∣ (rB n d).natAbs := by
    refine (r_coprime (n := n') h').symm.dvd_of_dvd_mul_left ?_
    exact ⟨(rT n d).natAbs, by rw [← xn, Nat.mul_comm]⟩
  have eb : rB n d = rB n' d' := by
    have := Nat.dvd_antisymm k1 k2
    omega
  refine ⟨?_, eb⟩
  rw [eb] at x
  exact mul_cancel_pos p2 x
/-- comparing a quotient with whole numbers and quotients -/
theorem r_lt_iff {n d x : Int} (h : 0 < d) : rT n d < x * rB n d ↔ n < x * d := by
  have g := rg_pos (n := n) h
  have h1 := rT_mul n d
  have h2 := rB_mul n d
  constructor
  · intro z
    have := Int.mul_lt_mul_of_pos_right z g
    rw [h1, Int.mul_assoc, h2] at this
    exact this
  · intro z
    refine Int.lt_of_mul_lt_mul_right (a := rg n d) ?_ (Int.le_of_lt g)
    rw [h1, Int.mul_assoc, h2]
    exact z
theorem r_ge_iff {n d x : Int} (h : 0 < d) : x * rB n d ≤ rT n d ↔ x * d ≤ n := by
  have := r_lt_iff (n := n) (x := x) h
  omega
/-- the fields of sums and products -/
theorem r_add {n d n' d' : Int} (h : 0 < d) (h' : 0 < d') : 0 < rB n d * rB n' d' ∧ (rT n d * rB n' d' + rT n' d' * rB n d) * (d * d') = (n * d' + n' * d) * (rB n d * rB n' d') := by
  have c1 := r_cross n d
  have c2 := r_cross n' d'
  refine ⟨Int.mul_pos (rB_pos h) (rB_pos h'), ?_⟩
  calc (rT n d * rB n' d' + rT n' d' * rB n d) * (d * d') = (rT n d * d) * rB n' d' * d' + (rT n' d' * d') * rB n d * d := by grind
    _ = (n * rB n d) * rB n' d' * d' + (n' * rB n' d') * rB n d * d := by rw [c1, c2]
    _ = _ := by grind
theorem r_mul_int {n d x : Int} (h : 0 < d) : (rT n d * x) * d = (n * x) * rB n d := by
  have c1 := r_cross n d
  calc (rT n d * x) * d = (rT n d * d) * x := by grind
    _ = (n * rB n d) * x := by rw [c1]
    _ = _ := by grind
theorem r_over_int {n d x : Int} (h : 0 < d) : rT n d * (d * x) = n * (rB n d * x) := by
  have c1 := r_cross n d
  calc rT n d * (d * x) = (rT n d * d) * x := by grind
    _ = (n * rB n d) * x := by rw [c1]
    _ = _ := by grind

/-! ### elimination -/
def SS (u v : Nat → Int) : Nat → Int
  | 0 => 0
  | k + 1 => SS u v k + u k * v k
def dg (T : Int) (u v : Nat → Int) : Nat → Int
  | 0 => 1
  | k + 1 => T ^ k * (T - SS u v (k + 1))
def ent (T b : Int) (u v : Nat → Int) (m k i j : Nat) : Int :=
  if i < k then (if j = m then T ^ (k - 1) * b * u i else if j < k then (if j = i then dg T u v k else 0) else -(T ^ (k - 1) * u i * v j))
  else (if j = m then T ^ k * b * u i else if j < k then 0 else (if j = i then T ^ k * (T - SS u v k) else 0) - T ^ k * u i * v j)
theorem ent_row {T b : Int} {u v : Nat → Int} {m k j : Nat} (hk : k < m) (hj : j ≤ m) : ent T b u v m (k + 1) k j = ent T b u v m k k j := by
  unfold ent
  rw [if_pos (Nat.lt_succ_self k), if_neg (Nat.lt_irrefl k)]
  by_cases h1 : j = m
  · rw [if_pos h1, if_pos h1]; rfl
  · rw [if_neg h1, if_neg h1]
    by_cases h2 : j < k
    · rw [if_pos (by omega), if_neg (by omega), if_pos h2]
    · rw [if_neg h2]
      by_cases h3 : j = k
      · subst h3
        rw [if_pos (Nat.lt_succ_self j), if_pos rfl, if_pos rfl]
        show T ^ j * (T - (SS u v j + u j * v j)) = T ^ j * (T - SS u v j) - T ^ j * u j * v j
        grind
      · rw [if_neg (by omega), if_neg h3]
        show -(T ^ k * u k * v j) = 0 - T ^ k * u k * v j
        omega
theorem ent_diag {T b : Int} {u v : Nat → Int} {m k : Nat} (hk : k < m) : ent T b u v m k k k = dg T u v (k + 1) := by
  unfold ent
  rw [if_neg (Nat.lt_irrefl k), if_neg (by omega), if_neg (Nat.lt_irrefl k), if_pos rfl]
  show _ = T ^ k * (T - (SS u v k + u k * v k))
  grind
theorem ent_step {T b : Int} {u v : Nat → Int} {m k i j : Nat} (hk : k < m) (hi : i < m) (hj : j ≤ m) (hik : i ≠ k) :
    ent T b u v m k i j * ent T b u v m k k k - ent T b u v m k i k * ent T b u v m k k j = dg T u v k * ent T b u v m (k + 1) i j := by
  rw [ent_diag hk]
  cases k with
  | zero =>
    have hi0 : 0 < i := by omega
    unfold ent
    simp only [Nat.not_lt_zero, if_false, dg, SS, Int.pow_zero, Int.one_mul, Nat.pow_zero]
    rw [if_neg (show ¬ i < 0 + 1 by omega), if_neg (show ¬ (0 : Nat) = m by omega), if_neg (show ¬ (0 : Nat) = i by omega)]
    by_cases h1 : j = m
    · simp only [if_pos h1]
      grind
    · simp only [if_neg h1]
      by_cases h2 : j = 0
      · subst h2
        rw [if_neg (show ¬ (0 : Nat) = i by omega), if_pos rfl, if_pos (by omega)]
        grind
      · rw [if_neg h2, if_neg (show ¬ j < 0 + 1 by omega)]
        by_cases h3 : j = i
        · rw [if_pos h3, if_pos h3]
          grind
        · rw [if_neg h3, if_neg h3]
          grind
  | succ k =>
    have e1 : T ^ (k + 1) = T ^ k * T := Int.pow_succ ..
    have e2 : T ^ (k + 1 + 1) = T ^ k * T * T := by rw [Int.pow_succ, e1]
    have s2 : SS u v (k + 1 + 1) = SS u v (k + 1) + u (k + 1) * v (k + 1) := rfl
    unfold ent
    simp only [dg, Nat.add_sub_cancel, e1, e2, s2]
    generalize SS u v (k + 1) = s
    generalize T ^ k = P
    by_cases a1 : i < k + 1
    · rw [if_pos a1, if_pos a1, if_pos (show i < k + 1 + 1 by omega), if_neg (show ¬ k + 1 < k + 1 by omega)]
      rw [if_neg (show ¬ k + 1 = m by omega), if_neg (show ¬ k + 1 < k + 1 by omega)]
      by_cases h1 : j = m
      · simp only [if_pos h1]
        grind
      · simp only [if_neg h1]
        by_cases h2 : j < k + 1
        · simp only [if_pos h2, if_pos (show j < k + 1 + 1 by omega)]
          by_cases h3 : j = i
          · simp only [if_pos h3]
            grind
          · simp only [if_neg h3]
            grind
        · simp only [if_neg h2]
          by_cases h4 : j = k + 1
          · subst h4
            simp only [if_pos (show k + 1 < k + 1 + 1 by omega), if_neg (show ¬ k + 1 = i by omega), if_true]
            grind
          · simp only [if_neg (show ¬ j < k + 1 + 1 by omega), if_neg h4]
            grind
    · rw [if_neg a1, if_neg a1, if_neg (show ¬ i < k + 1 + 1 by omega), if_neg (show ¬ k + 1 < k + 1 by omega)]
      rw [if_neg (show ¬ k + 1 = m by omega), if_neg (show ¬ k + 1 < k + 1 by omega), if_neg (show ¬ k + 1 = i by omega)]
      by_cases h1 : j = m
      · simp only [if_pos h1]
        grind
      · simp only [if_neg h1]
        by_cases h2 : j < k + 1
        · simp only [if_pos h2, if_pos (show j < k + 1 + 1 by omega)]
          grind
        · simp only [if_neg h2]
          by_cases h4 : j = k + 1
          · subst h4
            simp only [if_pos (show k + 1 < k + 1 + 1 by omega), if_neg (show ¬ k + 1 = i by omega), if_true]
            grind
          · simp only [if_neg (show ¬ j < k + 1 + 1 by omega), if_neg h4]
            by_cases h3 : j = i
            · simp only [if_pos h3]
              grind
            · simp only [if_neg h3]
              grind
/-- what makes the elimination go: all sums below T -/
structure Good (T : Int) (u v : Nat → Int) (m : Nat) : Prop where
  pos : ∀ k, k ≤ m → SS u v k < T
  tp : 0 < T
theorem dg_pos {T : Int} {u v : Nat → Int} {m k : Nat} (g : Good T u v m) (hk : k ≤ m) : 0 < dg T u v k := by
  cases k with
  | zero => show (0 : Int) < 1; omega
  | succ k =>
    have h1 := g.pos (k + 1) hk
    exact Int.mul_pos (Int.pow_pos g.tp) (by omega)
theorem ent_div {T b : Int} {u v : Nat → Int} {m k i j : Nat} (g : Good T u v m) (hk : k < m) (hi : i < m) (hj : j ≤ m) (hik : i ≠ k) :
    (ent T b u v m k i j * ent T b u v m k k k - ent T b u v m k i k * ent T b u v m k k j) / dg T u v k = ent T b u v m (k + 1) i j := by
  rw [ent_step hk hi hj hik]
  have := dg_pos g (Nat.le_of_lt hk)
  exact Int.mul_ediv_cancel_left _ (by omega)

/-- the table by its rows -/
def erow (T b : Int) (u v : Nat → Int) (m k i : Nat) : List Int := (List.range (m + 1)).map fun j => ent T b u v m k i j
def tab (T b : Int) (u v : Nat → Int) (m k : Nat) : List (List Int) := (List.range m).map fun i => erow T b u v m k i
theorem erow_len {T b : Int} {u v : Nat → Int} {m k i : Nat} : (erow T b u v m k i).length = m + 1 := by simp [erow]
theorem erow_get {T b : Int} {u v : Nat → Int} {m k i j : Nat} (h : j ≤ m) : (erow T b u v m k i)[j]? = some (ent T b u v m k i j) := by
  unfold erow
  rw [List.getElem?_map, List.getElem?_range (by omega)]
  rfl
theorem tab_len {T b : Int} {u v : Nat → Int} {m k : Nat} : (tab T b u v m k).length = m := by simp [tab]
theorem tab_get {T b : Int} {u v : Nat → Int} {m k i : Nat} (h : i < m) : (tab T b u v m k)[i]? = some (erow T b u v m k i) := by
  unfold tab
  rw [List.getElem?_map, List.getElem?_range h]
  rfl
/-- one line of a pivot step -/
def pline (pivot factor scale : Int) (line chosen : List Int) : List Int := List.zipWith (fun x y => (x * pivot - factor * y) / scale) line chosen
theorem pline_erow {T b : Int} {u v : Nat → Int} {m k i : Nat} (g : Good T u v m) (hk : k < m) (hi : i < m) (hik : i ≠ k) :
    pline (ent T b u v m k k k) (ent T b u v m k i k) (dg T u v k) (erow T b u v m k i) (erow T b u v m k k) = erow T b u v m (k + 1) i := by
  refine List.ext_getElem? fun j => ?_
  unfold pline
  rw [List.getElem?_zipWith]
  by_cases hj : j ≤ m
  · rw [erow_get hj, erow_get hj, erow_get hj]
    show some _ = some _
    rw [ent_div g hk hi hj hik]
  · have n : ∀ k' i', (erow T b u v m k' i')[j]? = none := fun k' i' => List.getElem?_eq_none (by rw [erow_len]; omega)
    rw [n, n, n]
theorem erow_keep {T b : Int} {u v : Nat → Int} {m k : Nat} (hk : k < m) : erow T b u v m (k + 1) k = erow T b u v m k k := by
  refine List.ext_getElem? fun j => ?_
  by_cases hj : j ≤ m
  · rw [erow_get hj, erow_get hj, ent_row hk hj]
  · have n : ∀ k' i', (erow T b u v m k' i')[j]? = none := fun k' i' => List.getElem?_eq_none (by rw [erow_len]; omega)
    rw [n, n]
/-- the last table's quotients -/
theorem last_quot {T b : Int} {u v : Nat → Int} {m i : Nat} (g : Good T u v m) (hi : i < m) :
    ent T b u v m m i m * (T - SS u v m) = (b * u i) * dg T u v m := by
  cases m with
  | zero => omega
  | succ m =>
    unfold ent
    rw [if_pos hi, if_pos rfl]
    show T ^ m * b * u i * _ = (b * u i) * (T ^ m * _)
    grind
/-- x takes less than k bits -/
def Bd (k : Nat) (x : Int) : Prop := x.natAbs < 2 ^ k
theorem Bd.le {a c : Nat} {x : Int} (h : Bd a x) (hl : a ≤ c) : Bd c x := Nat.lt_of_lt_of_le h (Nat.pow_le_pow_right (by omega) hl)
theorem Bd.mul {a c : Nat} {x y : Int} (h : Bd a x) (h' : Bd c y) : Bd (a + c) (x * y) := by
  unfold Bd at *
  rw [Int.natAbs_mul, Nat.pow_add]
  exact Nat.mul_lt_mul'' h h'
theorem Bd.sub {a : Nat} {x y : Int} (h : Bd a x) (h' : Bd a y) : Bd (a + 1) (x - y) := by
  unfold Bd at *
  rw [Nat.pow_succ]
  generalize 2 ^ a = p at *
  omega
theorem Bd.add {a : Nat} {x y : Int} (h : Bd a x) (h' : Bd a y) : Bd (a + 1) (x + y) := by
  unfold Bd at *
  rw [Nat.pow_succ]
  generalize 2 ^ a = p at *
  omega
theorem Bd.neg {a : Nat} {x : Int} (h : Bd a x) : Bd a (-x) := by
  unfold Bd at *
  rw [Int.natAbs_neg]
  exact h
theorem Bd.zero (a : Nat) : Bd a 0 := Nat.two_pow_pos a
theorem Bd.one {a : Nat} (h : 0 < a) : Bd a 1 := Nat.one_lt_two_pow (by omega)
theorem Bd.pow {a : Nat} {x : Int} (h : Bd a x) : ∀ k : Nat, Bd (a * k + 1) (x ^ k)
  | 0 => by
    rw [Int.pow_zero]
    exact Bd.one (by omega)
  | k + 1 => by
    rw [Int.pow_succ]
    have := Bd.mul (Bd.pow h k) h
    have e : a * k + 1 + a = a * (k + 1) + 1 := by rw [Nat.mul_succ]; omega
    rw [e] at this
    exact this
theorem Bd.of_le {a : Nat} {x y : Int} (h0 : 0 ≤ x) (h : x ≤ y) (hy : Bd a y) : Bd a x := by
  unfold Bd at *
  generalize 2 ^ a = p at *
  omega
theorem Bd.of_abs {a : Nat} {x y : Int} (h : x.natAbs ≤ y.natAbs) (hy : Bd a y) : Bd a x := Nat.lt_of_le_of_lt h hy
theorem Bd.rT {a : Nat} {n d : Int} (h : 0 < d) (hn : Bd a n) : Bd a (rT n d) := .of_abs (rT_abs h) hn
theorem Bd.rB {a : Nat} {n d : Int} (h : 0 < d) (hd : Bd a d) : Bd a (rB n d) := .of_abs (rB_abs h) hd
/-- bounds: everything of less than 2001 bits -/
structure Sized (T b : Int) (u v : Nat → Int) (m : Nat) : Prop where
  bt : Bd 70 T
  bb : Bd 200 b
  bu : ∀ i, i < m → Bd 70 (u i)
  bv : ∀ i, i < m → Bd 70 (v i)
  bs : ∀ k, k ≤ m → Bd 70 (T - SS u v k)
  m8 : m ≤ 8
theorem tpow {T b : Int} {u v : Nat → Int} {m : Nat} (z : Sized T b u v m) (k : Nat) (hk : k ≤ 8) : Bd 600 (T ^ k) := (z.bt.pow k).le (by omega)
theorem dg_bd {T b : Int} {u v : Nat → Int} {m k : Nat} (z : Sized T b u v m) (hk : k ≤ m) : Bd 2000 (dg T u v k) := by
  have hm := z.m8
  cases k with
  | zero => exact Bd.one (by omega)
  | succ k => exact ((tpow z k (by omega)).mul (z.bs (k + 1) hk)).le (by omega)
theorem ent_bd {T b : Int} {u v : Nat → Int} {m k i j : Nat} (z : Sized T b u v m) (hk : k ≤ m) (hi : i < m) (hj : j ≤ m) : Bd 2001 (ent T b u v m k i j) := by
  have hm := z.m8
  have t1 := tpow z (k - 1) (by omega)
  have t2 := tpow z k (by omega)
  unfold ent
  by_cases a1 : i < k
  · rw [if_pos a1]
    by_cases a2 : j = m
    · rw [if_pos a2]
      exact ((t1.mul z.bb).mul (z.bu i hi)).le (by omega)
    · rw [if_neg a2]
      by_cases a3 : j < k
      · rw [if_pos a3]
        by_cases a4 : j = i
        · rw [if_pos a4]; exact (dg_bd z hk).le (by omega)
        · rw [if_neg a4]; exact Bd.zero _
      · rw [if_neg a3]
        exact (((t1.mul (z.bu i hi)).mul (z.bv j (by omega))).le (by omega)).neg
  · rw [if_neg a1]
    by_cases a2 : j = m
    · rw [if_pos a2]
      exact ((t2.mul z.bb).mul (z.bu i hi)).le (by omega)
    · rw [if_neg a2]
      by_cases a3 : j < k
      · rw [if_pos a3]; exact Bd.zero _
      · rw [if_neg a3]
        have h2 : Bd 2000 (T ^ k * u i * v j) := ((t2.mul (z.bu i hi)).mul (z.bv j (by omega))).le (by omega)
        by_cases a4 : j = i
        · rw [if_pos a4]
          exact Bd.sub ((t2.mul (z.bs k hk)).le (by omega)) h2
        · rw [if_neg a4]
          exact Bd.sub (Bd.zero _) h2
end K45
namespace K45
/-! ### sums over lots -/
def sm (f : Nat → Int) (L : List Nat) : Int := (L.map f).sum
theorem sm_nil (f : Nat → Int) : sm f [] = 0 := rfl
theorem sm_cons (f : Nat → Int) (x : Nat) (L : List Nat) : sm f (x :: L) = f x + sm f L := by simp [sm]
theorem sm_append (f : Nat → Int) (L L' : List Nat) : sm f (L ++ L') = sm f L + sm f L' := by simp [sm, List.sum_append]
theorem sm_one (f : Nat → Int) (x : Nat) : sm f [x] = f x := by simp [sm]
theorem sm_congr {f g : Nat → Int} {L : List Nat} (h : ∀ x ∈ L, f x = g x) : sm f L = sm g L := by
  unfold sm
  rw [List.map_congr_left h]
theorem sm_mul (f : Nat → Int) (c : Int) : ∀ L, sm (fun x => f x * c) L = sm f L * c
  | [] => by simp [sm]
  | x :: L => by rw [sm_cons, sm_cons, sm_mul f c L]; grind
theorem sm_add (f g : Nat → Int) : ∀ L, sm (fun x => f x + g x) L = sm f L + sm g L
  | [] => by simp [sm]
  | x :: L => by rw [sm_cons, sm_cons, sm_cons, sm_add f g L]; omega
theorem sm_sub (f g : Nat → Int) : ∀ L, sm (fun x => f x - g x) L = sm f L - sm g L
  | [] => by simp [sm]
  | x :: L => by rw [sm_cons, sm_cons, sm_cons, sm_sub f g L]; omega
theorem sm_le {f g : Nat → Int} : ∀ {L : List Nat}, (∀ x ∈ L, f x ≤ g x) → sm f L ≤ sm g L
  | [], _ => by simp [sm]
  | x :: L, h => by
    rw [sm_cons, sm_cons]
    have h1 := h x List.mem_cons_self
    have h2 := sm_le (f := f) (g := g) (L := L) fun y hy => h y (List.mem_cons_of_mem _ hy)
    omega
theorem sm_nonneg {f : Nat → Int} {L : List Nat} (h : ∀ x ∈ L, 0 ≤ f x) : 0 ≤ sm f L := by
  have := sm_le (f := fun _ => 0) (g := f) (L := L) h
  have e : sm (fun _ => 0) L = 0 := by
    have := sm_mul (fun _ => 0) 0 L
    simpa using this
  omega
theorem sm_split (f : Nat → Int) (q : Nat → Bool) : ∀ L, sm f L = sm f (L.filter q) + sm f (L.filter fun x => !q x)
  | [] => by simp [sm]
  | x :: L => by
    have ih := sm_split f q L
    cases e : q x with
    | true => rw [List.filter_cons_of_pos (by simpa using e), List.filter_cons_of_neg (by simp [e]), sm_cons, sm_cons, ih]; omega
    | false => rw [List.filter_cons_of_neg (by simp [e]), List.filter_cons_of_pos (by simp [e]), sm_cons, sm_cons, ih]; omega
theorem sm_range (f : Nat → Int) (k : Nat) : sm f (List.range (k + 1)) = sm f (List.range k) + f k := by
  rw [List.range_succ, sm_append, sm_one]
theorem sm_filter_ite (f : Nat → Int) (q : Nat → Bool) : ∀ L, sm f (L.filter q) = sm (fun x => if q x = true then f x else 0) L
  | [] => by simp [sm]
  | x :: L => by
    have ih := sm_filter_ite f q L
    rw [sm_cons]
    cases e : q x with
    | true => rw [List.filter_cons_of_pos (by simpa using e), sm_cons, ih, if_pos rfl]
    | false => rw [List.filter_cons_of_neg (by simp [e]), ih, if_neg (by simp)]; omega
theorem sm_perm {f : Nat → Int} {L L' : List Nat} (h : L.Perm L') : sm f L = sm f L' := by
  induction h with
  | nil => rfl
  | cons x _ ih => rw [sm_cons, sm_cons, ih]
  | swap x y l => rw [sm_cons, sm_cons, sm_cons, sm_cons]; omega
  | trans _ _ i1 i2 => exact i1.trans i2
/-- the sum with one thing less -/
theorem sm_less (f : Nat → Int) {n t : Nat} (h : t < n) : sm (fun j => if j = t then 0 else f j) (List.range n) = sm f (List.range n) - f t := by
  induction n with
  | zero => omega
  | succ n ih =>
    rw [sm_range, sm_range]
    by_cases e : t = n
    · subst e
      rw [if_pos rfl]
      have : sm (fun j => if j = t then 0 else f j) (List.range t) = sm f (List.range t) := sm_congr fun x hx => if_neg (by have := List.mem_range.mp hx; omega)
      omega
    · rw [ih (by omega), if_neg (by omega)]
      omega
/-- SS is such a sum -/
theorem ss_sm (u v : Nat → Int) : ∀ m, SS u v m = sm (fun i => u i * v i) (List.range m)
  | 0 => rfl
  | m + 1 => by rw [sm_range, ← ss_sm u v m]; rfl
/-- .. over the places of a list -/
theorem sm_places (f : Nat → Int) : ∀ (L : List Nat), sm (fun i => f (L.getD i 0)) (List.range L.length) = sm f L := fun L => by
  unfold sm
  congr 1
  refine List.ext_getElem? fun j => ?_
  rw [List.getElem?_map, List.getElem?_map]
  by_cases h : j < L.length
  · rw [List.getElem?_range h, List.getElem?_eq_getElem h]
    simp [h]
  · rw [List.getElem?_eq_none (by simpa using h), List.getElem?_eq_none (by omega)]
    rfl

/-! ### what a lot brings -/
section
variable (w p : Nat → Int) (a : Int)
def tot (L : List Nat) : Int := a + sm w L
def bro (L : List Nat) : Int := sm (fun i => w i * p i) L
end
/-- the lot of the things that q says -/
def lotq (n : Nat) (q : Nat → Bool) : List Nat := (List.range n).filter q
theorem lotq_mem {n : Nat} {q : Nat → Bool} {t : Nat} : t ∈ lotq n q ↔ t < n ∧ q t = true := by simp [lotq]
theorem lotq_filter (n : Nat) (q r : Nat → Bool) : (lotq n q).filter r = lotq n fun t => q t && r t := by
  unfold lotq
  rw [List.filter_filter]
  congr 1
  funext t
  rw [Bool.and_comm]
theorem lotq_congr {n : Nat} {q r : Nat → Bool} (h : ∀ t, t < n → q t = r t) : lotq n q = lotq n r := by
  unfold lotq
  exact List.filter_congr fun t ht => h t (List.mem_range.mp ht)
theorem lotq_len {n : Nat} {q : Nat → Bool} : (lotq n q).length ≤ n := by
  have := List.length_filter_le q (List.range n)
  rw [List.length_range] at this
  exact this
theorem lotq_nodup {n : Nat} {q : Nat → Bool} : (lotq n q).Nodup := List.Pairwise.filter _ List.nodup_range
theorem lotq_sorted {n : Nat} {q : Nat → Bool} : (lotq n q).Pairwise (· < ·) := List.Pairwise.filter _ List.pairwise_lt_range

structure Ok (w p : Nat → Int) (a : Int) (n : Nat) : Prop where
  w1 : ∀ i, i < n → 1 ≤ w i
  p0 : ∀ i, i < n → 0 ≤ p i
  a1 : 1 ≤ a
section
variable {w p : Nat → Int} {a : Int} {n : Nat}
theorem tot_pos (ok : Ok w p a n) {L : List Nat} (hL : ∀ t ∈ L, t < n) : 0 < tot w a L := by
  have := sm_nonneg (f := w) (L := L) fun t ht => by have := ok.w1 t (hL t ht); omega
  have := ok.a1
  unfold tot
  omega
theorem bro_nonneg (ok : Ok w p a n) {L : List Nat} (hL : ∀ t ∈ L, t < n) : 0 ≤ bro w p L :=
  sm_nonneg fun t ht => Int.mul_nonneg (by have := ok.w1 t (hL t ht); omega) (ok.p0 t (hL t ht))
/-- taking away what is not dearer than the worth lets the worth grow -/
theorem grow (ok : Ok w p a n) {L : List Nat} (hL : ∀ t ∈ L, t < n) (q : Nat → Bool) (h : ∀ t ∈ L, q t = false → p t * tot w a L ≤ bro w p L) :
    bro w p L * tot w a (L.filter q) ≤ bro w p (L.filter q) * tot w a L := by
  have e1 := sm_split (fun i => w i * p i) q L
  have e2 := sm_split w q L
  have h1 : sm (fun i => (w i * p i) * tot w a L) (L.filter fun x => !q x) ≤ sm (fun i => w i * bro w p L) (L.filter fun x => !q x) := sm_le fun t ht => by
    obtain ⟨m1, m2⟩ := List.mem_filter.mp ht
    have m3 : q t = false := by simpa using m2
    have := h t m1 m3
    have wp := ok.w1 t (hL t m1)
    rw [Int.mul_assoc]
    exact Int.mul_le_mul_of_nonneg_left this (by omega)
  rw [sm_mul, sm_mul] at h1
  unfold tot bro at *
  generalize sm (fun i => w i * p i) L = B at *
  generalize sm w L = W at *
  generalize sm (fun i => w i * p i) (L.filter q) = B' at *
  generalize sm w (L.filter q) = W' at *
  generalize sm (fun i => w i * p i) (L.filter fun x => !q x) = B'' at *
  generalize sm w (L.filter fun x => !q x) = W'' at *
  have g1 : B * (a + W') = B * (a + W) - W'' * B := by grind
  have g2 : B' * (a + W) = B * (a + W) - B'' * (a + W) := by grind
  omega
theorem le_trans_frac {x B D B' D' : Int} (hD : 0 < D) (hD' : 0 < D') (h1 : x * D ≤ B) (h2 : B * D' ≤ B' * D) : x * D' ≤ B' := by
  have k : x * D * D' ≤ B' * D := Int.le_trans (Int.mul_le_mul_of_nonneg_right h1 (by omega)) h2
  have k2 : (x * D') * D ≤ B' * D := by
    have e : x * D' * D = x * D * D' := by grind
    omega
  exact Int.le_of_mul_le_mul_right k2 hD
/-- the things that a lot keeps -/
def keepq (w p : Nat → Int) (a : Int) (L : List Nat) (t : Nat) : Bool := decide (bro w p L < p t * tot w a L)
/-- the lots of settled: what is out brings at most the worth -/
def OutOk (w p : Nat → Int) (a : Int) (n : Nat) (q : Nat → Bool) : Prop := ∀ t, t < n → q t = false → p t * tot w a (lotq n q) ≤ bro w p (lotq n q)
theorem lot_in {q : Nat → Bool} : ∀ t ∈ lotq n q, t < n := fun t ht => (lotq_mem.mp ht).1
theorem outOk_all : OutOk w p a n fun _ => true := fun t _ h => by simp at h
theorem outOk_step (ok : Ok w p a n) {q : Nat → Bool} (h : OutOk w p a n q) : OutOk w p a n fun t => q t && keepq w p a (lotq n q) t := by
  intro t ht hf
  have g := grow ok (L := lotq n q) lot_in (keepq w p a (lotq n q)) fun x hx e => by
    have : ¬ bro w p (lotq n q) < p x * tot w a (lotq n q) := by simpa [keepq] using e
    omega
  rw [lotq_filter] at g
  refine le_trans_frac (tot_pos ok lot_in) (tot_pos ok lot_in) ?_ g
  cases e : q t with
  | false => exact h t ht e
  | true =>
    have hf' : (q t && keepq w p a (lotq n q) t) = false := hf
    rw [e, Bool.true_and] at hf'
    have : ¬ bro w p (lotq n q) < p t * tot w a (lotq n q) := by simpa [keepq] using hf'
    omega
/-- a lot of just the things that are dearer than its worth -/
def Fix (w p : Nat → Int) (a : Int) (n : Nat) (L : List Nat) : Prop := L = lotq n (keepq w p a L)
theorem fix_of (h : OutOk w p a n q) (hk : ((lotq n q).filter (keepq w p a (lotq n q))).length = (lotq n q).length) : Fix w p a n (lotq n q) := by
  have e : (lotq n q).filter (keepq w p a (lotq n q)) = lotq n q := List.filter_eq_self.mpr (List.length_filter_eq_length_iff.mp hk)
  unfold Fix
  refine lotq_congr fun t ht => ?_
  cases eq : q t with
  | true =>
    have m : t ∈ (lotq n q).filter (keepq w p a (lotq n q)) := by rw [e]; exact lotq_mem.mpr ⟨ht, eq⟩
    exact (List.mem_filter.mp m).2.symm
  | false =>
    have := h t ht eq
    unfold keepq
    rw [decide_eq_false (by omega)]
/-- the worth of such a lot is one and the same -/
theorem fix_pos {L : List Nat} (h : Fix w p a n L) : a * bro w p L = sm (fun t => w t * max (p t * tot w a L - bro w p L) 0) (List.range n) := by
  have e : sm (fun t => w t * max (p t * tot w a L - bro w p L) 0) (List.range n) = sm (fun t => w t * (p t * tot w a L - bro w p L)) (lotq n (keepq w p a L)) := by
    unfold lotq
    rw [sm_filter_ite]
    refine sm_congr fun t _ => ?_
    by_cases c : bro w p L < p t * tot w a L
    · rw [if_pos (by simpa [keepq] using c), Int.max_eq_left (by omega)]
    · rw [if_neg (by simpa [keepq] using c), Int.max_eq_right (by omega), Int.mul_zero]
  rw [e]
  have e2 : lotq n (keepq w p a L) = L := h.symm
  rw [e2]
  have e3 : sm (fun t => w t * (p t * tot w a L - bro w p L)) L = sm (fun t => (w t * p t) * tot w a L - w t * bro w p L) L := sm_congr fun t _ => by grind
  rw [e3, sm_sub, sm_mul, sm_mul]
  show a * bro w p L = bro w p L * tot w a L - sm w L * bro w p L
  unfold tot
  grind
theorem fix_le (ok : Ok w p a n) {L L' : List Nat} (h : Fix w p a n L) (h' : Fix w p a n L') : bro w p L' * tot w a L ≤ bro w p L * tot w a L' := by
  have d : 0 < tot w a L := by rw [show L = lotq n (keepq w p a L) from h]; exact tot_pos ok lot_in
  have d' : 0 < tot w a L' := by rw [show L' = lotq n (keepq w p a L') from h']; exact tot_pos ok lot_in
  have x := fix_pos h
  have x' := fix_pos h'
  by_cases c : bro w p L' * tot w a L ≤ bro w p L * tot w a L'
  · exact c
  · have lt : bro w p L * tot w a L' < bro w p L' * tot w a L := by omega
    -- then a B D' ≥ a B' D
    have y : a * bro w p L * tot w a L' ≥ a * bro w p L' * tot w a L := by
      rw [x, x', ← sm_mul, ← sm_mul]
      refine sm_le fun t ht => ?_
      have wp := ok.w1 t (List.mem_range.mp ht)
      have m1 : max (p t * tot w a L' - bro w p L') 0 * tot w a L ≤ max (p t * tot w a L - bro w p L) 0 * tot w a L' := by
        have z0 : 0 ≤ max (p t * tot w a L - bro w p L) 0 * tot w a L' := Int.mul_nonneg (by omega) (by omega)
        by_cases c2 : p t * tot w a L' - bro w p L' ≤ 0
        · rw [Int.max_eq_right c2, Int.zero_mul]
          exact z0
        · rw [Int.max_eq_left (by omega)]
          have k1 : (p t * tot w a L - bro w p L) * tot w a L' ≤ max (p t * tot w a L - bro w p L) 0 * tot w a L' := Int.mul_le_mul_of_nonneg_right (by omega) (by omega)
          have k2 : (p t * tot w a L' - bro w p L') * tot w a L = p t * tot w a L' * tot w a L - bro w p L' * tot w a L := by grind
          have k3 : (p t * tot w a L - bro w p L) * tot w a L' = p t * tot w a L' * tot w a L - bro w p L * tot w a L' := by grind
          omega
      rw [Int.mul_assoc, Int.mul_assoc]
      exact Int.mul_le_mul_of_nonneg_left m1 (by omega)
    have ap := ok.a1
    have z : a * (bro w p L * tot w a L') < a * (bro w p L' * tot w a L) := Int.mul_lt_mul_of_pos_left lt (by omega)
    rw [← Int.mul_assoc, ← Int.mul_assoc] at z
    omega
theorem fix_one (ok : Ok w p a n) {L L' : List Nat} (h : Fix w p a n L) (h' : Fix w p a n L') : bro w p L * tot w a L' = bro w p L' * tot w a L :=
  Int.le_antisymm (fix_le ok h' h) (fix_le ok h h')
/-- the sums of the stepping buyers' values: D times what a buyer who looks for each thing brings -/
def val (w p : Nat → Int) (a : Int) (q : Nat → Bool) (n : Nat) (t : Nat) : Int := if q t = true then p t * tot w a (lotq n q) else bro w p (lotq n q)
theorem val_sum (w p : Nat → Int) (a : Int) (q : Nat → Bool) (n : Nat) : sm (fun t => w t * val w p a q n t) (List.range n) = (a + sm w (List.range n)) * bro w p (lotq n q) := by
  have e1 := sm_split (fun t => w t * val w p a q n t) q (List.range n)
  have e2 := sm_split w q (List.range n)
  have e3 : sm (fun t => w t * val w p a q n t) ((List.range n).filter q) = sm (fun t => (w t * p t) * tot w a (lotq n q)) (lotq n q) := sm_congr fun t ht => by
    have := (List.mem_filter.mp ht).2
    unfold val
    rw [if_pos this]
    grind
  have e4 : sm (fun t => w t * val w p a q n t) ((List.range n).filter fun x => !q x) = sm (fun t => w t * bro w p (lotq n q)) ((List.range n).filter fun x => !q x) := sm_congr fun t ht => by
    have : q t = false := by simpa using (List.mem_filter.mp ht).2
    unfold val
    rw [this, if_neg (by simp)]
  rw [sm_mul] at e3 e4
  rw [e1, e3, e4]
  have b : sm (fun t => w t * p t) (lotq n q) = bro w p (lotq n q) := rfl
  rw [b]
  unfold tot lotq at *
  rw [e2]
  grind
/-- stepping on from t brings less than its price: just where the price is above the worth -/
theorem onward_iff (ok : Ok w p a n) {q : Nat → Bool} {t : Nat} (ht : t < n) (hq : q t = true) :
    sm (fun j => if j = t then 0 else w j * val w p a q n j) (List.range n) < p t * (tot w a (lotq n q) * ((a + sm w (List.range n)) - w t)) ↔ bro w p (lotq n q) < p t * tot w a (lotq n q) := by
  rw [sm_less _ ht, val_sum]
  have v : val w p a q n t = p t * tot w a (lotq n q) := by unfold val; rw [if_pos hq]
  rw [v]
  have T1 : 0 < a + sm w (List.range n) := tot_pos ok fun t ht => List.mem_range.mp ht
  generalize a + sm w (List.range n) = T at *
  generalize bro w p (lotq n q) = B at *
  generalize tot w a (lotq n q) = D at *
  have e : p t * (D * (T - w t)) = T * (p t * D) - w t * (p t * D) := by grind
  rw [e]
  constructor
  · intro h
    exact Int.lt_of_mul_lt_mul_left (a := T) (by omega) (by omega)
  · intro h
    have := Int.mul_lt_mul_of_pos_left h T1
    omega
/-! ### the dearest first -/
/-- what dearer_than_worth has added so far -/
structure Add (w p : Nat → Int) (a : Int) (L : List Nat) : Prop where
  all : ∀ t ∈ L, bro w p L < p t * tot w a L
theorem add_nil : Add w p a [] := ⟨fun t h => by simp at h⟩
theorem add_step {L : List Nat} {x : Nat} (h : ∀ t ∈ L, p x ≤ p t) (hx : bro w p L < p x * tot w a L) (hd : 0 < tot w a (L ++ [x])) : Add w p a (L ++ [x]) := by
  have e1 : bro w p (L ++ [x]) = bro w p L + w x * p x := by unfold bro; rw [sm_append, sm_one]
  have e2 : tot w a (L ++ [x]) = tot w a L + w x := by unfold tot; rw [sm_append, sm_one]; omega
  refine ⟨fun t ht => ?_⟩
  have px : bro w p (L ++ [x]) < p x * tot w a (L ++ [x]) := by
    rw [e1, e2]
    have : p x * (tot w a L + w x) = p x * tot w a L + w x * p x := by grind
    omega
  rcases List.mem_append.mp ht with z | z
  · exact Int.lt_of_lt_of_le px (Int.mul_le_mul_of_nonneg_right (h t z) (by omega))
  · have : t = x := by simpa using z
    rw [this]
    exact px
theorem le_drop {L : List Nat} {x y : Nat} (hx : p x * tot w a L ≤ bro w p L) (h : p y ≤ p x) (hd : 0 < tot w a L) : p y * tot w a L ≤ bro w p L :=
  Int.le_trans (Int.mul_le_mul_of_nonneg_right h (by omega)) hx
end
/-- two ascending lists of the same things are one -/
theorem sorted_eq : ∀ {l l' : List Nat}, l.Pairwise (· < ·) → l'.Pairwise (· < ·) → (∀ x, x ∈ l ↔ x ∈ l') → l = l'
  | [], [], _, _, _ => rfl
  | [], y :: l', _, _, h => by have := (h y).mpr List.mem_cons_self; simp at this
  | x :: l, [], _, _, h => by have := (h x).mp List.mem_cons_self; simp at this
  | x :: l, y :: l', h1, h2, h => by
    obtain ⟨a1, a2⟩ := List.pairwise_cons.mp h1
    obtain ⟨b1, b2⟩ := List.pairwise_cons.mp h2
    have e : x = y := by
      rcases List.mem_cons.mp ((h x).mp List.mem_cons_self) with z | z
      · exact z
      · rcases List.mem_cons.mp ((h y).mpr List.mem_cons_self) with z' | z'
        · exact z'.symm
        · have := b1 x z
          have := a1 y z'
          omega
    subst e
    congr 1
    refine sorted_eq a2 b2 fun z => ?_
    constructor
    · intro hz
      rcases List.mem_cons.mp ((h z).mp (List.mem_cons_of_mem _ hz)) with e | hz'
      · subst e; have := a1 z hz; omega
      · exact hz'
    · intro hz
      rcases List.mem_cons.mp ((h z).mpr (List.mem_cons_of_mem _ hz)) with e | hz'
      · subst e; have := b1 z hz; omega
      · exact hz'
end K45
end JK45Math
section JK45Rules
set_option Elab.async false
set_option linter.all false
set_option maxRecDepth 100000
set_option maxHeartbeats 4000000
namespace K45R
open PySem PySem.Spec PyProof.Rows L2
abbrev St := L2.St

/-! ### a def with a closure (super()): its environment -/
theorem cells_app : ∀ (names : List (Str × NameKind)) (n : Nat) (acc : List (Str × Addr)), cellsFrom n names acc = cellsFrom n names [] ++ acc
  | [], n, acc => rfl
  | (x, k) :: r, n, acc => by
    unfold cellsFrom
    by_cases h : (k == NameKind.cell) = true
    · rw [if_pos h, if_pos h, cells_app r (n + 1) ((x, n) :: acc), cells_app r (n + 1) [(x, n)], List.append_assoc]
      rfl
    · rw [if_neg h, if_neg h]
      exact cells_app r n acc
section
variable {M : Model} {A : Around} {E : Value → Shared → Prop} {s₀ s : Shared} {env : Env} {own : List (Str × Addr)}
theorem stLS {m cm : Str → Option Value} {n : Str} {v : Value} {Q : Unit → Shared → Prop} (x : InCallC s₀ env.locals m own cm s) (hk : env.scope.kind = .function) (hl : env.kindOf n = some .local)
    (h : ∀ s', InCallC s₀ env.locals (fun y => if y = n then some v else m y) own cm s' → Q () s') : wpAny M A (storeName env n v) Q E s := by
  refine wpAny_storeName_local hl x.toInCall.ns (fun h' hn' hs' => h _ ⟨⟨?_, hn', fun b o e => ?_, x.toInCall.fresh⟩, fun k c hc => ?_, x.apart, x.above⟩) (by rw [hk]; rfl)
  · obtain ⟨h₁, tk, rfl⟩ := x.toInCall.same
    exact ⟨h', _, rfl⟩
  · exact hs'.extBut b o (Nat.ne_of_lt (Nat.lt_of_lt_of_le (Heap.lt_size e) x.toInCall.fresh)) (x.toInCall.keep b o e)
  · exact (x.cell k c hc).sameBut hs' (Nat.ne_of_gt (x.above k c (PySem.mem_of_lookup hc)))
theorem stCS {m cm : Str → Option Value} {n : Str} {c : Addr} {v : Value} {Q : Unit → Shared → Prop} (x : InCallC s₀ env.locals m own cm s) (hk : env.scope.kind = .function) (hl : env.kindOf n = some .cell)
    (hc : own.lookup n = some c) (hce : env.cells.lookup n = some c)
    (h : ∀ s', InCallC s₀ env.locals m own (fun y => if y = n then some v else cm y) s' → Q () s') : wpAny M A (storeName env n v) Q E s := by
  have hLc := x.above n c (PySem.mem_of_lookup hc)
  refine wpAny_storeName_cell hk hl hce (x.cell n c hc) fun h' hc' hs' => h _ ⟨⟨?_, x.toInCall.ns.sameBut hs' (Nat.ne_of_lt hLc), fun b o e => ?_, x.toInCall.fresh⟩, fun k c' hk' => ?_, x.apart, x.above⟩
  · obtain ⟨h₁, tk, rfl⟩ := x.toInCall.same
    exact ⟨h', _, rfl⟩
  · exact hs'.extBut b o (Nat.ne_of_lt (Nat.lt_trans (Nat.lt_of_lt_of_le (Heap.lt_size e) x.toInCall.fresh) hLc)) (x.toInCall.keep b o e)
  · by_cases hkn : k = n
    · subst hkn
      rw [hc] at hk'; cases hk'
      simpa using hc'
    · rw [if_neg hkn]
      exact (x.cell k c' hk').sameBut hs' fun e => hkn (name_of_addr x.apart (PySem.mem_of_lookup hk') (e ▸ PySem.mem_of_lookup hc))
theorem bindParamsS (f : Str × Value → PUnit → Sem (ForInStep PUnit)) (hf : ∀ n v u, f (n, v) u = (do storeName env n v; pure (.yield ⟨⟩))) (hk : env.scope.kind = .function) (hown : ∀ n c, own.lookup n = some c → env.cells.lookup n = some c) :
    ∀ (binds : List (Str × Value)) (m cm : Str → Option Value) (s : Shared) (Q : PUnit → Shared → Prop), InCallC s₀ env.locals m own cm s →
      (∀ x ∈ binds, env.kindOf x.1 = some .local ∨ (env.kindOf x.1 = some .cell ∧ (own.lookup x.1).isSome = true)) →
      (∀ s', InCallC s₀ env.locals (bindL env.kindOf binds m) own (bindC env.kindOf binds cm) s' → Q ⟨⟩ s') → wpAny M A (forIn binds ⟨⟩ f) Q E s
  | [], m, cm, s, Q, x, _, h => by rw [List.forIn_nil]; exact wpAny_pure (h s x)
  | (n, v) :: r, m, cm, s, Q, x, hkind, h => by
    rw [List.forIn_cons, hf]
    have hr : ∀ y ∈ r, env.kindOf y.1 = some .local ∨ (env.kindOf y.1 = some .cell ∧ (own.lookup y.1).isSome = true) := fun y hy => hkind y (List.mem_cons_of_mem _ hy)
    rcases hkind (n, v) List.mem_cons_self with hl | ⟨hl, hc⟩
    · refine wpAny_bind (wpAny_bind (stLS x hk hl fun s' x' => wpAny_pure (bindParamsS f hf hk hown r _ _ s' Q x' hr fun s'' x'' => h s'' ?_)))
      unfold bindL bindC; rw [if_pos hl, if_pos hl]; exact x''
    · obtain ⟨c, hc⟩ := Option.isSome_iff_exists.mp hc
      have hnl : ¬ env.kindOf n = some .local := by rw [hl]; decide
      refine wpAny_bind (wpAny_bind (stCS x hk hl hc (hown _ _ hc) fun s' x' => wpAny_pure (bindParamsS f hf hk hown r _ _ s' Q x' hr fun s'' x'' => h s'' ?_)))
      unfold bindL bindC; rw [if_neg hnl, if_neg hnl]; exact x''
end
theorem newEnvS {M : Model} {A : Around} {E : Value → Shared → Prop} {s : Shared} {scope : Scope} {globals : Addr} {cl : List (Str × Addr)} {binds : List (Str × Value)} {qual : Str} {func : Option Addr} {code : Value} {builtins : Addr} {Q : Env → Shared → Prop}
    (hk : scope.kind = .function)
    (hkind : ∀ x ∈ binds, scope.names.lookup x.1 = some .local ∨ (scope.names.lookup x.1 = some .cell ∧ ((cellsFrom (s.heap.objs.size + 1) scope.names []).lookup x.1).isSome = true))
    (hQ : ∀ env, env = newEnv scope s.heap.objs.size globals (cellsFrom (s.heap.objs.size + 1) scope.names cl) qual func code none builtins →
      ∀ s', InCallC s env.locals (bindL env.kindOf binds fun _ => none) (cellsFrom (s.heap.objs.size + 1) scope.names []) (bindC env.kindOf binds fun _ => none) s' → Q env s') :
    wpAny M A (newFunctionEnv scope globals cl binds qual func code none builtins) Q E s := by
  simp only [newFunctionEnv, Option.isSome_none, Bool.false_eq_true, if_false]
  refine wpAny_bind (wpAny_alloc ?_)
  refine wpAny_bind (wpAny_layCells _ (fun name kind cells => by cases hkc : kind == NameKind.cell <;> simp [hkc]) _ _ _ _ ?_)
  have ok := cellsFrom_ok scope.names (s.heap.push { cls := .type "frame", data := .dict #[] }) (s.heap.objs.size + 1) [] ⟨fun _ _ hm => (nomatch hm), List.Pairwise.nil⟩ (by rw [Heap.size_push]; exact Nat.le_refl _)
  rw [Heap.size_push] at ok
  rw [show ({ s with heap := s.heap.push { cls := .type "frame", data := .dict #[] } } : Shared).heap.objs.size = s.heap.objs.size + 1 from Heap.size_push ..]
  refine wpAny_bind (bindParamsS (s₀ := s) (env := newEnv scope s.heap.objs.size globals (cellsFrom (s.heap.objs.size + 1) scope.names cl) qual func code none builtins) (own := cellsFrom (s.heap.objs.size + 1) scope.names [])
    _ (fun _ _ _ => rfl) hk (fun n c e => ?_) binds (fun _ => none) (fun _ => none) _ _
    ⟨⟨⟨_, _, rfl⟩, (Heap.Ns.new s.heap (.type "frame")).keeps (pushCells_keeps _ _), fun b o e => pushCells_keeps _ _ b o (Heap.get?_push_of_some _ e), Nat.le_refl _⟩,
      fun n c hc => (ok.empty n c (PySem.mem_of_lookup hc)).1, ok.apart, fun n c hm => (ok.empty n c hm).2⟩
    hkind fun s' x => wpAny_pure (hQ _ rfl s' x))
  show (cellsFrom (s.heap.objs.size + 1) scope.names cl).lookup n = some c
  rw [cells_app, List.lookup_append, e]
  rfl

/-! ### the names of such a def -/
structure FnScopeS (N P : List Str) (sc : Scope) : Prop where
  kind : sc.kind = .function
  co : sc.isCoroutine = false
  gen : sc.isGenerator = false
  nd : N.Nodup
  pre : N.take P.length = P
  par : ∀ x ∈ P, sc.names.lookup x = some .local ∨ sc.names.lookup x = some .cell
  free : ∀ y ∈ sc.names, y.2 = .free → y.1 = ("__class__" : Str)
  cls : ∀ y ∈ sc.names, y.1 = ("__class__" : Str) → y.2 = .free
def fnsB (N P : List Str) (sc : Scope) : Bool :=
  decide (sc.kind = .function) && (!sc.isCoroutine && (!sc.isGenerator && (decide N.Nodup && (decide (N.take P.length = P) && (P.all (fun x => decide (sc.names.lookup x = some .local ∨ sc.names.lookup x = some .cell)) &&
    (sc.names.all (fun y => !decide (y.2 = .free) || decide (y.1 = ("__class__" : Str))) && sc.names.all (fun y => !decide (y.1 = ("__class__" : Str)) || decide (y.2 = .free))))))))
theorem fns_by {N P : List Str} {sc : Scope} (h : fnsB N P sc = true) : FnScopeS N P sc := by
  unfold fnsB at h
  simp only [Bool.and_eq_true, Bool.not_eq_true', decide_eq_true_eq, List.all_eq_true, Bool.or_eq_true, decide_eq_false_iff_not] at h
  obtain ⟨h1, h2, h3, h4, h5, h6, h7, h8⟩ := h
  exact ⟨h1, h2, h3, h4, h5, h6, fun y hy e => (h7 y hy).elim (fun z => absurd e z) id, fun y hy e => (h8 y hy).elim (fun z => absurd e z) id⟩

abbrev envS (qual : Str) (scope : Scope) (L f : Addr) (cd : Value) (cc : Addr) : Env := PySem.W.envX qual scope L f cd (cellsFrom (L + 1) scope.names [("__class__", cc)])
def cxS (CX : CXT) (P : Program) (w : World) (K : PySem.W.Frag) (mg : Str → Option Value) (base : Heap) (N : List Str) (qual : Str) (scope : Scope) (f : Addr) (cd : Value) (cc : Addr) (A : Around) (outer : List Env) (s : Shared) (H : Hp) (E : XK) : Cx where
  prog := P
  w := w
  K := K
  mg := mg
  base := base
  A := A.deeper (envS qual scope s.heap.objs.size f cd cc)
  N := N
  s_0 := s
  H_0 := H
  env := envS qual scope s.heap.objs.size f cd cc
  outer := outer
  stack := envS qual scope s.heap.objs.size f cd cc :: outer
  ex := []
  calm := true
  fn := fun x => scope.names.lookup x == some .cell
  pn := []
  xe := fun e s' => wpAny (model P w) (A.deeper (envS qual scope s.heap.objs.size f cd cc)) (leaving (envS qual scope s.heap.objs.size f cd cc) e) (fun _ s'' => CX outer H s E e s'') (fun e' s'' => CX outer H s E e' s'') s'
theorem own_kind : ∀ {names : List (Str × NameKind)} {n : Nat} {acc : List (Str × Addr)} {x : Str} {c : Addr}, (x, c) ∈ cellsFrom n names acc → (x, c) ∈ acc ∨ (x, NameKind.cell) ∈ names
  | [], _, _, _, _, h => .inl h
  | (y, k) :: r, n, acc, x, c, h => by
    unfold cellsFrom at h
    by_cases hk : (k == NameKind.cell) = true
    · rw [if_pos hk] at h
      rcases own_kind h with z | z
      · rcases List.mem_cons.mp z with e | z
        · cases e
          exact .inr (by rw [beq_iff_eq.mp hk]; exact List.mem_cons_self)
        · exact .inl z
      · exact .inr (List.mem_cons_of_mem _ z)
    · rw [if_neg hk] at h
      rcases own_kind h with z | z
      · exact .inl z
      · exact .inr (List.mem_cons_of_mem _ z)
section
variable {CX : CXT} {P : Program} {w : World} {K : PySem.W.Frag} {mg : Str → Option Value} {base : Heap} {N ps : List Str} {qual : Str} {scope : Scope} {f cc D : Addr} {cd : Value} {A : Around} {outer : List Env} {s s1 : Shared} {H : Hp} {E : XK} {us : List Value} {vs : List V}
theorem look_app {l r : List (Str × Addr)} {x : Str} {c : Addr} (h : (l ++ r).lookup x = some c) : l.lookup x = some c ∨ (l.lookup x = none ∧ r.lookup x = some c) := by
  rw [List.lookup_append] at h
  cases e : l.lookup x with
  | some c' => rw [e] at h; exact .inl h
  | none => rw [e] at h; exact .inr ⟨rfl, h⟩
theorem inv_startS (S : FnScopeS N ps scope) (hd : A.handled = none) (e0 : Env0 P w K mg base A outer s H) (hcell : ∃ cl cld csl, K.lookup cc = some ⟨cl, cld, .cell (some (.ref D)), csl⟩) (hl : vs.length = ps.length) (r : Vals vs us)
    (x : InCallC s s.heap.objs.size (bindL (envS qual scope s.heap.objs.size f cd cc).kindOf (ps.zip us) fun _ => none) (cellsFrom (s.heap.objs.size + 1) scope.names []) (bindC (envS qual scope s.heap.objs.size f cd cc).kindOf (ps.zip us) fun _ => none) s1) :
    Inv (cxS CX P w K mg base N qual scope f cd cc A outer s H E) [] (L2.start N vs) H s1 := by
  have hpl : ps.length ≤ N.length := by have := congrArg List.length S.pre; rw [List.length_take] at this; omega
  obtain ⟨h1, tk, rfl, hk⟩ := x.done
  have noA : ∀ b : Addr, b ∉ (cxS CX P w K mg base N qual scope f cd cc A outer s H E).ex := fun b z => absurd (show b ∈ ([] : List Addr) from z) (by simp)
  obtain ⟨cl, cld, csl, hcK⟩ := hcell
  have hcb : base.get? cc = some ⟨cl, cld, .cell (some (.ref D)), csl⟩ := e0.mod.kin _ _ hcK
  obtain ⟨hcs, hcn⟩ := e0.bs _ _ hcb
  have hclt : cc < s.heap.objs.size := Heap.lt_size hcs
  have cells : (envS qual scope s.heap.objs.size f cd cc).cells = cellsFrom (s.heap.objs.size + 1) scope.names [] ++ [(("__class__" : Str), cc)] := cells_app _ _ _
  have one : ∀ y c, ([(("__class__" : Str), cc)] : List (Str × Addr)).lookup y = some c → y = ("__class__" : Str) ∧ c = cc := fun y c e => by
    have q := PySem.mem_of_lookup e
    have q2 : (y, c) = (("__class__" : Str), cc) := by simpa using q
    cases q2
    exact ⟨rfl, rfl⟩
  have both : ∀ y c, (envS qual scope s.heap.objs.size f cd cc).cells.lookup y = some c → (cellsFrom (s.heap.objs.size + 1) scope.names []).lookup y = some c ∨ ((cellsFrom (s.heap.objs.size + 1) scope.names []).lookup y = none ∧ y = ("__class__" : Str) ∧ c = cc) := fun y c e => by
    rw [cells] at e
    rcases look_app e with z | ⟨z, z2⟩
    · exact .inl z
    · exact .inr ⟨z, one y c z2⟩
  have abv : ∀ y c, (cellsFrom (s.heap.objs.size + 1) scope.names []).lookup y = some c → s.heap.objs.size < c := fun y c e => x.above y c (PySem.mem_of_lookup e)
  refine ⟨⟨e0.mod, S.kind, rfl, rfl, Nat.le_refl _, fun y z c h1 h2 => ?_, fun y hy => ?_, fun y c hf h => ?_, fun _ => hd, Around.frames_deeper e0.frames, .inr ⟨rfl, rfl⟩, fun b z => absurd z (noA b), e0.bs, e0.bsz, fun b _ _ => noA b, fun b z => absurd z (noA b), e0.funs, e0.frf⟩,
    rfl, e0.bare, Un.kept hk, ⟨_, x.toInCall.ns, fun i y v h1 h2 h3 => ?_⟩, fun y c h => ?_, e0.hok.fresh (Nat.le_refl _), fun y c h => ?_, fun p hp => absurd (show p ∈ ([] : List (Addr × Obj)) from hp) (by simp), e0.hok.kept hk, ?_⟩
  · rcases both y c h1 with a | ⟨_, a, ac⟩ <;> rcases both z c h2 with b | ⟨_, b, bc⟩
    · exact name_of_addr x.apart (PySem.mem_of_lookup a) (PySem.mem_of_lookup b)
    · have := abv y c a; rw [bc] at this; exact absurd this (Nat.not_lt.mpr (Nat.le_of_lt hclt))
    · have := abv z c b; rw [ac] at this; exact absurd this (Nat.not_lt.mpr (Nat.le_of_lt hclt))
    · rw [a, b]
  · have hy : scope.names.lookup y = some .cell ∨ scope.names.lookup y = some .free := hy
    show ∃ c, (envS qual scope s.heap.objs.size f cd cc).cells.lookup y = some c
    rw [cells, List.lookup_append]
    rcases hy with hy | hy
    · obtain ⟨c, e⟩ := cell_has (n := s.heap.objs.size + 1) hy
      rw [e]
      exact ⟨c, rfl⟩
    · have e := S.free _ (PySem.mem_of_lookup hy) rfl
      have e : y = ("__class__" : Str) := e
      subst e
      cases (cellsFrom (s.heap.objs.size + 1) scope.names []).lookup ("__class__" : Str) with
      | some c => exact ⟨c, rfl⟩
      | none => exact ⟨cc, by simp [List.lookup]⟩
  · have hf : (scope.names.lookup y == some .cell) = true := hf
    obtain ⟨c', e⟩ := cell_has (n := s.heap.objs.size + 1) (beq_iff_eq.mp hf)
    rcases both y c h with a | ⟨a, _⟩
    · exact Nat.le_of_lt (abv y c a)
    · rw [e] at a; cases a
  · have hi : i < vs.length := by
      unfold L2.start at h2
      by_cases hi : i < vs.length
      · exact hi
      · rw [List.getElem?_append_right (by simpa using hi)] at h2
        rw [List.getElem?_replicate] at h2
        split at h2 <;> cases h2
    have ha : vs[i]? = some v := by
      unfold L2.start at h2
      rw [List.getElem?_append_left (by simpa using hi), List.getElem?_map] at h2
      cases e : vs[i]? with
      | none => rw [e] at h2; cases h2
      | some a => rw [e] at h2; cases h2; rfl
    obtain ⟨u, hu, rv⟩ := r.get ha
    have hp : ps[i]? = some y := by
      rw [← S.pre, List.getElem?_take_of_lt (by omega)]; exact h1
    have ndP : ps.Nodup := by rw [← S.pre]; exact S.nd.sublist (List.take_sublist _ _)
    refine ⟨u, rv, ?_⟩
    rcases S.par y (List.mem_of_getElem? hp) with k | k
    · exact .inl ⟨k, bindL_get ndP hp hu k⟩
    · obtain ⟨c, e⟩ := cell_has (n := s.heap.objs.size + 1) k
      refine .inr ⟨.inl k, c, ?_, ?_⟩
      · show (envS qual scope s.heap.objs.size f cd cc).cells.lookup y = some c
        rw [cells, List.lookup_append, e]
        rfl
      · have q := x.cell y c e
        rw [bindC_get ndP hp hu (by show scope.names.lookup y ≠ _; rw [k]; decide)] at q
        exact q
  · rcases both y c h with a | ⟨_, _, a⟩
    · exact ⟨_, x.cell y c a⟩
    · rw [a]
      exact ⟨_, _, hk _ _ hcs, rfl⟩
  · rcases both y c h with a | ⟨_, _, a⟩
    · exact e0.hok.fresh (Nat.le_of_lt (abv y c a))
    · rw [a]
      exact hcn
  · unfold L2.start
    show _ = N.length
    rw [List.length_append, List.length_map, List.length_replicate]
    omega
end
/-! ### a body whose first statement may ask its own activation (super()) -/
structure PSA (X : Cx) (c : Code) (st : Stmt) (t : TS) : Prop where
  run : ∀ (pins : List (Addr × Obj)) (s : Shared) (σ : St) (H : Hp) (D : Ends), Inv X pins σ H s → t D σ H → PySem.wpAt (model X.prog X.w) X.A c (exec st X.env) (SP X pins D) X.xe s
structure PSsA (X : Cx) (c : Code) (st : List Stmt) (t : TS) : Prop where
  run : ∀ (pins : List (Addr × Obj)) (s : Shared) (σ : St) (H : Hp) (D : Ends), Inv X pins σ H s → t D σ H → PySem.wpAt (model X.prog X.w) X.A c (execs st X.env) (SP X pins D) X.xe s
theorem psa_cons {X : Cx} {c : Code} {st : Stmt} {rest : List Stmt} {t u : TS} (h1 : PSA X c st t) (h2 : PSs X rest u) : PSsA X c (st :: rest) (tSeq t u) := by
  refine ⟨fun pins s σ H D I h => ?_⟩
  refine ks_wpAt_execs_cons (ks_wpAt_mono (h1.run pins s σ H { D with nx := u D } I h) (fun f s1 q => ?_) fun _ _ z => z)
  cases f with
  | next =>
    obtain ⟨σ', H', I', q⟩ := q
    exact PySem.wpAt_of_wpAny (h2.run pins s1 σ' H' D I' q)
  | ret v => exact q
  | brk => exact q
  | cont => exact q
/-- what the text has of such a def -/
structure FunS (K : PySem.W.Frag) (x qual : Str) (st : Stmt) (f cc cda D : Addr) (file : Str) (fd : FuncData) : Prop where
  ex : ∃ (oc : Value) (od : Option Addr) (kV doc pm : Value) (an : Option Addr) (ct : Value) (osl : Array (Option Value)),
    fd = PySem.W.fnX x qual (defArgs st) (defBody st) (defScope st) [("__class__", cc)] .none kV doc pm an (.ref cda) ct ∧ K.lookup f = some ⟨oc, od, .func fd, osl⟩
  cd : PySem.W.codeIn K (.ref cda) qual = true
  cell : ∃ cl cld csl, K.lookup cc = some ⟨cl, cld, .cell (some (.ref D)), csl⟩
  code : ∃ ccl cdd vs ccs tf, K.lookup cda = some ⟨ccl, cdd, .fields vs, ccs⟩ ∧ vs[2]? = some (.str file tf)
  kp : PySem.W.keepIn K (.ref f) = true
section
variable {P : Program} {w : World} {K : PySem.W.Frag} {mg : Str → Option Value} {base : Heap}
theorem FunS.ok {CX : CXT} {x qual : Str} {st : Stmt} {f cc cda D : Addr} {file : Str} {fd : FuncData} {N ps : List Str} {k : Nat} {sp : Sp} (F : FunS K x qual st f cc cda D file fd) (S : FnScopeS N ps (defScope st)) (len : ∀ vs H Q E, sp vs H Q E → vs.length = ps.length)
    (hbody : ∀ (A : Around) (outer : List Env) (s : Shared) (H : Hp) (vs : List V) (Q : VK) (E : XK), Room k (A.deeper (envS qual (defScope st) s.heap.objs.size f (.ref cda) cc)) → sp vs H Q E →
      ∃ t, PSsA (cxS CX P w K mg base N qual (defScope st) f (.ref cda) cc A outer s H E) (.func (defBody st) (envS qual (defScope st) s.heap.objs.size f (.ref cda) cc)) (defBody st) t ∧ t { nx := fun _ H' => Q .non H', rt := Q } (L2.start N vs) H) :
    FnOk P w K mg base CX (k + 1) f fd ps sp := by
  obtain ⟨oc, od, kV, doc, pm, an, ct, osl, rfl, lk⟩ := F.ex
  refine ⟨len, fun A outer s H args us vs Q E hr e0 hb r hsp => ?_⟩
  have hl := len _ _ _ _ hsp
  have KX : K.In s.heap := e0.mod.kin.keeps fun b o e => (e0.bs b o e).1
  have lim : s.heap.NoLimit := e0.mod.nolimit.keeps fun b o e => (e0.bs b o e).1
  have hkind : ∀ y ∈ ps.zip us, (defScope st).names.lookup y.1 = some .local ∨ ((defScope st).names.lookup y.1 = some .cell ∧ ((cellsFrom (s.heap.objs.size + 1) (defScope st).names []).lookup y.1).isSome = true) := fun ⟨n, v⟩ hy => by
    rcases S.par n (List.of_mem_zip hy).1 with q | q
    · exact .inl q
    · exact .inr ⟨q, PySem.W.cellsFrom_some _ _ _ (.inl q)⟩
  refine codeAny_call_function hr.depth (KX _ _ lk) rfl S.co S.gen rfl (PySem.W.codeRec_of KX F.cd) (hb _ _ _ _ ?_)
  refine newEnvS S.kind hkind fun env he s1 x => ?_
  subst he
  refine ⟨lim.keeps x.toInCall.keep, ks_codeAny_funcAt ?_⟩
  obtain ⟨t, ht, hq⟩ := hbody A outer s H vs Q E (hr.deeper _) hsp
  have I : Inv (cxS CX P w K mg base N qual (defScope st) f (.ref cda) cc A outer s H E) [] (L2.start N vs) H s1 := inv_startS S hr.hd e0 F.cell hl r x
  refine ks_wpAt_mono (ht.run [] s1 (L2.start N vs) H _ I hq) (fun fl s' hs => ?_) fun e s' hs => hs
  have fin : ∀ {σ' : St} {H' : Hp} {v : V} {u : Value}, Inv (cxS CX P w K mg base N qual (defScope st) f (.ref cda) cc A outer s H E) [] σ' H' s' → RelV v u → Q v H' → CE outer P w H s Q u s' :=
    fun {σ' H' v u} J rv q => ⟨v, H', J.os, J.bare, J.base, J.hok, rv, q⟩
  cases fl with
  | ret u =>
    obtain ⟨v, σ', H', J, rv, q⟩ := hs
    exact fin J rv q
  | next =>
    obtain ⟨σ', H', J, q⟩ := hs
    exact fin (v := V.non) (u := Value.none) J rfl q
  | brk =>
    obtain ⟨_, _, _, q⟩ := hs
    exact False.elim q
  | cont =>
    obtain ⟨_, _, _, q⟩ := hs
    exact False.elim q
end
end K45R
end JK45Rules
section JK45Super
set_option Elab.async false
set_option linter.all false
set_option maxRecDepth 100000
set_option maxHeartbeats 4000000
namespace K45R
open PySem PySem.Spec PyProof.Rows L2
theorem PSsA.nox {X : Cx} {c : Code} {st : List Stmt} {t : TS} (h : PSsA X.nox c st t) : PSsA X c st t := ⟨fun pins s σ H D I hw =>
  ks_wpAt_mono (h.run pins s σ H D (I.wish _) hw) (fun _ _ q => q.unwish) fun _ _ z => False.elim z⟩
/-! ### super().m(..) -/
/-- what of the def and its place super() asks: f the def, cc the cell of __class__ (D), cda its code -/
structure SupEnv (X : Cx) (f cc cda D : Addr) : Prop where
  fu : X.env.func = some f
  co : X.env.code = .ref cda
  ks : X.env.kindOf "super" = some .globalImplicit
  kc : X.env.kindOf "__class__" = some .free
  ce : X.env.cells.lookup ("__class__" : Str) = some cc
  cell : ∃ cl cld csl, X.K.lookup cc = some ⟨cl, cld, .cell (some (.ref D)), csl⟩
  code : ∃ ccl cdd vs ccs tf file, X.K.lookup cda = some ⟨ccl, cdd, .fields vs, ccs⟩ ∧ vs[2]? = some (.str file tf) ∧ ((X.prog.main.file : Str) == file) = true
  fn : ∃ oc od fd osl ar, X.K.lookup f = some ⟨oc, od, .func fd, osl⟩ ∧ (fd.params.posonlyargs ++ fd.params.args).head? = some ar ∧ X.N[0]? = some ar.arg ∧ Loc X.env.scope ar.arg
  mg : X.mg "super" = none
  top : (X.prog.main.scope.names.lookup ("super" : Str)).isSome = false
  dc : ∃ cd, PySem.W.clsIn X.K D = some cd
/-- the i-th name, loaded -/
theorem load_slot {X : Cx} {A : Around} {pins : List (Addr × Obj)} {σ : St} {H : Hp} {s : Shared} {i : Nat} {x : Str} {v : V} {Q : Value → Shared → Prop} {E : Value → Shared → Prop} (I : Inv X pins σ H s) (hN : X.N[i]? = some x) (hv : Loc X.env.scope x) (hσ : σ[i]? = some (some v))
    (h : ∀ u, RelV v u → Q u s) : wpAny (model X.prog X.w) A (loadName X.env x) Q E s := by
  obtain ⟨m, hn, hl⟩ := I.loc
  have vis : Vis X.env.scope x := by rcases hv with k | k; exact .inl k; exact .inr (.inl k)
  obtain ⟨u, r, l⟩ := hl i x v hN hσ vis
  rcases l with ⟨hk, hm⟩ | ⟨hk, c, hc, hcell⟩
  · exact wpAny_loadName_local I.ok.kind hk hn hm (h u r)
  · rcases hk with hk | hk
    · exact wpAny_loadName_cell I.ok.kind hk hc hcell (h u r)
    · rcases hv with k | k
      · have : X.env.scope.names.lookup x = some .free := hk
        rw [k] at this; cases this
      · have : X.env.scope.names.lookup x = some .free := hk
        rw [k] at this; cases this
section
variable {X : Cx} {CX : CXT} {pins : List (Addr × Obj)} {σ : St} {H : Hp} {s : Shared} {k : Nat} {C D g f cc cda a : Addr} {sp : Sp} {E : XK} {e : Expr} {es : List Expr} {m : Str} {p0 p1 apos pos pos' : Pos} {t : TA} {body : List Stmt}
theorem super_at {ox : Obj} {odx : Option Obj} {whole : Sem Value} {Q : Value → Shared → Prop} (S : SupEnv X f cc cda D) (I : Inv X pins σ H s) (hσ : σ[0]? = some (some (.ref a))) (J : PySem.W.InstAt s.heap a ox C odx) (hsub : PySem.W.mroIn X.K C (.ref D) = some true)
    (hat : (m == ("__class__" : Str)) = false)
    (h : ∀ (so : Addr) (h' : Heap), (∀ b o, s.heap.get? b = some o → h'.get? b = some o) → h'.get? so = some (PySem.W.ks_superObj D a C) → Q (.ref so) { s with heap := h' }) :
    PySem.wpAt (model X.prog X.w) X.A (.func body X.env) (attributeBase (.Call (.Name "super" p0) [] [] p1) m X.env whole) Q X.xe s := by
  obtain ⟨oc, od, fd, osl, ar, hf, hp, hN, hloc⟩ := S.fn
  obtain ⟨ccl, cdd, vs, ccs, tf, file, hcode, hvs, hfile⟩ := S.code
  obtain ⟨cl, cld, csl, hcell⟩ := S.cell
  obtain ⟨cd, hD⟩ := S.dc
  have K := I.kIn
  obtain ⟨oD, hD1, hD2⟩ : ∃ oD, s.heap.get? D = some oD ∧ oD.data = .cls cd := by
    unfold PySem.W.clsIn at hD
    split at hD
    · rename_i c d cd' sl ho
      cases hD
      exact ⟨_, K _ _ ho, rfl⟩
    · cases hD
  refine PySem.ks_wpAt_super_base (env := X.env) S.ks S.kc hat S.fu (K _ _ hf) rfl hp S.co (K _ _ hcode) rfl hvs hfile S.top ?_
  obtain ⟨mb, h1, h2⟩ := I.mod.blt
  refine PySem.W.ks_loadName_global I.ok.kind S.ks (Calls.loadGlobal_builtin (by rw [I.ok.glob]; exact I.mod.glob.keeps I.bk) S.mg (by rw [I.ok.blt]; exact h1.keeps I.bk) ((h2 _ (by decide +kernel)).trans (show bootBuiltins "super" = some (.type "super") by first | boot_by_name | rfl | kernel_rfl)) ⟨rfl, ?_⟩)
  refine wpAny_loadName_free I.ok.kind S.kc S.ce ⟨_, K _ _ hcell, rfl⟩ ?_
  refine load_slot I hN hloc hσ fun u ru => ?_
  cases (show u = Value.ref a from ru)
  refine PySem.ks_wpAny_isType_cls hD1 hD2 ⟨rfl, ?_⟩
  obtain ⟨hh, g', d, tt, os⟩ := s
  refine PySem.ks_wpAny_call_super hD1 hD2 J.at_ J.cls (fun c e => ?_) (PySem.W.looks_mroIn K hsub) (fun h' e k => h _ h' k e)
  have := J.no
  unfold PySem.W.notCls at this
  rw [e] at this
  exact Bool.noConfusion this
/-- the def that super().m finds for an instance of the class at C -/
structure SupM (K : PySem.W.Frag) (C D : Addr) (m : Str) (g : Addr) : Prop where
  mro : PySem.W.mroIn K C (.ref D) = some true
  at_ : PySem.W.ks_superIn K C D m = some (some (.ref g))
  ty : PySem.W.typeIn K (.ref g) = some (.type "function")
  fi : PySem.W.fnIn K g = true
  no : PySem.W.nsIn K PySem.cStatics "thirdparty.any" = some none
theorem super_method {ox : Obj} {odx : Option Obj} {so : Addr} {pl : Sem Bool} {A : Around} {EE : Value → Shared → Prop} {Q : Value × List Value → Shared → Prop} (I : Inv X pins σ H s) (J : PySem.W.InstAt s.heap a ox C odx) (M : SupM X.K C D m g) (hso : s.heap.get? so = some (PySem.W.ks_superObj D a C))
    (hn : (m == ("__class__" : Str)) = false)
    (h : ∀ s', Inv X ((s.heap.objs.size, PySem.W.methodObj (.ref g) (.ref a)) :: pins) σ H s' → Q (.ref s.heap.objs.size, []) s') : wpAny (model X.prog X.w) A (getMethod (.ref so) m pl) Q EE s := by
  have K := I.kIn
  obtain ⟨hh, gg, d, t, os⟩ := s
  have hm := M.at_
  cases hc : PySem.W.clsIn X.K C with
  | none => unfold PySem.W.ks_superIn at hm; rw [hc] at hm; cases hm
  | some cd =>
    unfold PySem.W.ks_superIn at hm
    rw [hc] at hm
    obtain ⟨of, hof, hofc⟩ : ∃ of, hh.get? g = some of ∧ of.cls = .type "function" := by
      have ht' : (X.K.lookup g).map (·.cls) = some (.type "function") := M.ty
      cases z : X.K.lookup g with
      | none => rw [z] at ht'; cases ht'
      | some of => rw [z] at ht'; exact ⟨of, K _ _ z, Option.some.inj ht'⟩
    refine PySem.ks_wpAny_getMethod_super hso (PySem.W.looks_opaque K M.no) (l₀ := cd.mro) ?_ rfl K hm hof hofc (PySem.W.ks_ne K J hc) hn ?_
    · exact fun A Q E s k q => wpAny_bind ((PySem.W.looks_clsIn K hc) A _ E s k (wpAny_pure q))
    · exact h _ (ClX.pin_new (s := ⟨hh, gg, d, t, os⟩) I (fun _ _ z => Heap.get?_push_of_some _ z) (Nat.le_refl _) (Heap.get?_push_size hh rfl) (fun v z => nomatch z))
/-- super().m(e, ..), the first slot an instance of the class at C -/
def tSuper (C : Addr) (sp : Sp) (E : XK) (t : TA) : TE := fun σ H Q => ∃ a dx fs, σ[0]? = some (some (.ref a)) ∧ H a = some (.ins C dx fs) ∧ t σ H fun vs H2 => sp (.ref a :: vs) H2 Q E
theorem super_call {Q : VK} (S : SupEnv X f cc cda D) (M : SupM X.K C D m g) (F : FnR X.prog X.w X.K X.mg X.base CX k g sp) (hr : Room k X.A) (hx : Passes CX X E) (ha : PA X (e :: es) t) (hn : (m == ("__class__" : Str)) = false) (I : Inv X pins σ H s) (h : tSuper C sp E t σ H Q)
    (hst : starEach (e :: es) X.env = (false, eval e X.env) :: starEach es X.env := by rfl) (hpl : (backTo pos (starEach es X.env)).any (·.1) = false := by rfl)
    {pl : Sem Bool} (he : eval (.Call (.Attribute (.Call (.Name "super" p0) [] [] p1) m apos) (e :: es) [] pos) X.env = (do
      let ov ← attributeBase (.Call (.Name "super" p0) [] [] p1) m X.env (eval (.Call (.Name "super" p0) [] [] p1) X.env)
      standAt apos.atName
      let (f, first) ← holding [ov] (getMethod ov m pl)
      callWith pos f first (backTo pos (starEach (e :: es) X.env)) []) := by rfl) :
    PySem.wpAt (model X.prog X.w) X.A (.func body X.env) (eval (.Call (.Attribute (.Call (.Name "super" p0) [] [] p1) m apos) (e :: es) [] pos) X.env) (EP X pins σ Q) X.xe s := by
  obtain ⟨a, dx, fs, hσ, ea, q⟩ := h
  obtain ⟨mA, O, _, _, _, _⟩ := ins_get I.hok ea
  obtain ⟨od, J, _⟩ := O.look
  refine PySem.ks_wpAt_MethodCall (pl := pl) ?_ he
  refine super_at S I hσ J M.mro hn fun so h' k hso => ?_
  have I1 : Inv X pins σ H { s with heap := h' } := I.kept (t' := s.toks) k
  have J1 : PySem.W.InstAt h' a (PySem.W.instObj C dx) C (some od) := ⟨k _ _ J.at_, J.cls, J.no, k _ _ J.dict⟩
  refine super_method I1 J1 M hso hn fun s2 I2 => ?_
  refine ClX.callwith_cm I2 (ClX.base_none I1 (Nat.le_refl _)) M.fi (thn (ha.run pos _ s2 σ H _ I2 q) fun us s3 ⟨vs, H2, I3, rv, q2⟩ => ⟨⟨ClX.pin_at I3, I3.kIn⟩, ?_⟩) hst hpl
  exact ClX.run_cm F hr hx I3 rv q2
/-- as a statement, as the value of a local name -/
theorem psa_superE (S : SupEnv X f cc cda D) (M : SupM X.K C D m g) (F : FnR X.prog X.w X.K X.mg X.base CX k g sp) (hr : Room k X.A) (hx : Passes CX X E) (ha : PA X (e :: es) t) (hn : (m == ("__class__" : Str)) = false := by decide)
    (hst : starEach (e :: es) X.env = (false, eval e X.env) :: starEach es X.env := by rfl) (hpl : (backTo pos (starEach es X.env)).any (·.1) = false := by rfl)
    {pl : Sem Bool} (he : eval (.Call (.Attribute (.Call (.Name "super" p0) [] [] p1) m apos) (e :: es) [] pos) X.env = (do
      let ov ← attributeBase (.Call (.Name "super" p0) [] [] p1) m X.env (eval (.Call (.Name "super" p0) [] [] p1) X.env)
      standAt apos.atName
      let (f, first) ← holding [ov] (getMethod ov m pl)
      callWith pos f first (backTo pos (starEach (e :: es) X.env)) []) := by rfl)
    (hs : swapsWith (.Call (.Attribute (.Call (.Name "super" p0) [] [] p1) m apos) (e :: es) [] pos) none pos'.line X.env = pure false := by rfl) :
    PSA X (.func body X.env) (.Expr (.Call (.Attribute (.Call (.Name "super" p0) [] [] p1) m apos) (e :: es) [] pos) pos') (tDrop (tSuper C sp E t)) := by
  refine ⟨fun pins s σ H D' I h => ?_⟩
  refine PySem.ks_wpAt_Expr_any (ks_wpAt_mono (super_call S M F hr hx ha hn I h hst hpl he) (fun v s1 ⟨x, H1, I1, r1, q1⟩ => ⟨σ, H1, I1, q1⟩) fun _ _ z => z) I.quiet hs
theorem psa_superN {i : Nat} {x : Str} {px : Pos} (S : SupEnv X f cc cda D) (M : SupM X.K C D m g) (F : FnR X.prog X.w X.K X.mg X.base CX k g sp) (hr : Room k X.A) (hx : Passes CX X E) (hN : X.N.Nodup) (hi : X.N[i]? = some x) (hxl : Loc X.env.scope x) (ha : PA X (e :: es) t) (hn : (m == ("__class__" : Str)) = false := by decide)
    (hst : starEach (e :: es) X.env = (false, eval e X.env) :: starEach es X.env := by rfl) (hpl : (backTo pos (starEach es X.env)).any (·.1) = false := by rfl)
    {pl : Sem Bool} (he : eval (.Call (.Attribute (.Call (.Name "super" p0) [] [] p1) m apos) (e :: es) [] pos) X.env = (do
      let ov ← attributeBase (.Call (.Name "super" p0) [] [] p1) m X.env (eval (.Call (.Name "super" p0) [] [] p1) X.env)
      standAt apos.atName
      let (f, first) ← holding [ov] (getMethod ov m pl)
      callWith pos f first (backTo pos (starEach (e :: es) X.env)) []) := by rfl)
    (hs : swapsWith (.Call (.Attribute (.Call (.Name "super" p0) [] [] p1) m apos) (e :: es) [] pos) (some (.Name x px)) pos'.line X.env = pure false := by rfl)
    (hf : X.fn x = true ∨ X.env.scope.names.lookup x = some .local := by first | exact .inl rfl | exact .inr rfl | assumption) :
    PSA X (.func body X.env) (.Assign [.Name x px] (.Call (.Attribute (.Call (.Name "super" p0) [] [] p1) m apos) (e :: es) [] pos) pos') (tAsg (tSuper C sp E t) (gName i)) := by
  refine ⟨fun pins s σ H D' I h => ?_⟩
  refine PySem.ks_wpAt_Assign_Name (ks_wpAt_mono (super_call S M F hr hx ha hn I h hst hpl he) (fun v s1 ⟨y, H1, I1, r1, q1⟩ => ?_) fun _ _ z => z) hs
  exact store_ok I1 hN hi hxl r1 (fun s2 I2 => ⟨_, H1, I2, q1⟩) hf
end
end K45R
end JK45Super
section JK45Ops
set_option Elab.async false
set_option linter.all false
set_option maxRecDepth 100000
set_option maxHeartbeats 4000000
namespace K45R
open PySem PySem.Spec PyProof.Rows L2
section
variable {X : Cx} {CX : CXT} {pins : List (Addr × Obj)} {σ : St} {H : Hp} {s : Shared} {n : Nat} {C g : Addr} {sp : Sp} {E : XK}
/-- x op y of two instances of one class: the class's own def for op -/
def rOwnR (C : Addr) (sp : Sp) (E : XK) : R2 := fun x y H Q => ∃ a dx fs b dy fs', x = .ref a ∧ y = .ref b ∧ H a = some (.ins C dx fs) ∧ H b = some (.ins C dy fs') ∧ sp [x, y] H Q E
theorem op_ownR {op : Operator} (hc : PySem.W.selfFirst X.K C = true) (hs : PySem.W.findIn X.K (.ref C) (PySem.dunder op.info.2) = some (some (.ref g))) (hf : PySem.W.isFn X.K (.ref g) = true) (F : FnR X.prog X.w X.K X.mg X.base CX n g sp)
    (hr : Room n X.A) (hx : Passes CX X E) : OpR X (binaryOp op) (rOwnR C sp E) := by
  intro pins s σ H x y v u Q I rx ry h
  obtain ⟨a, dx, fs, b, dy, fs', rfl, rfl, ha, hb, q⟩ := h
  cases (show v = Value.ref a from rx)
  cases (show u = Value.ref b from ry)
  obtain ⟨_, O, _⟩ := ins_get I.hok ha
  obtain ⟨od, J, _⟩ := O.look
  obtain ⟨_, O', _⟩ := ins_get I.hok hb
  obtain ⟨od', J', _⟩ := O'.look
  obtain ⟨m, hF⟩ := I.fr
  refine PySem.W.binop_K (op := op) hF I.ok.mod.kin J J'.type hc hs hf ?_
  refine wpAny_mono (wpAny_call (run_fnR (us := [.ref a, .ref b]) (vs := [.ref a, .ref b]) F hr hx I (.cons rfl (.cons rfl .nil)) q)) (fun w s' z => ?_) fun _ _ x => x
  obtain ⟨z', H', I', rz, qz⟩ := z
  exact SlX.cmpback rz ⟨z', H', I', rz, qz⟩
/-- x op n, n a whole number -/
def rOwnI (C : Addr) (sp : Sp) (E : XK) : R2 := fun x y H Q => ∃ a dx fs j, x = .ref a ∧ y = .int j ∧ H a = some (.ins C dx fs) ∧ sp [x, y] H Q E
theorem op_ownI {op : Operator} {fo ro rc : Option Value} (hc : PySem.W.selfFirst X.K C = true) (hs : PySem.W.findIn X.K (.ref C) (PySem.dunder op.info.2) = some (some (.ref g))) (hf : PySem.W.isFn X.K (.ref g) = true)
    (h0 : PySem.W.findIn X.K (.ref C) (PySem.dunderR op.info.2) = some rc) (hp : rc = none ∨ ∃ g : Addr, rc = some (.ref g)) (h1 : PySem.W.findIn X.K (.type "int") (PySem.dunder op.info.2) = some fo) (h2 : PySem.W.findIn X.K (.type "int") (PySem.dunderR op.info.2) = some ro) (hsub : PySem.W.subIn X.K (.type "int") (.ref C) = some false)
    (F : FnR X.prog X.w X.K X.mg X.base CX n g sp) (hr : Room n X.A) (hx : Passes CX X E) : OpR X (binaryOp op) (rOwnI C sp E) := by
  intro pins s σ H x y v u Q I rx ry h
  obtain ⟨a, dx, fs, j, rfl, rfl, ha, q⟩ := h
  cases (show v = Value.ref a from rx)
  obtain ⟨t, e⟩ := (show ∃ t, u = Value.int j t from ry)
  subst e
  obtain ⟨_, O, _⟩ := ins_get I.hok ha
  obtain ⟨od, J, _⟩ := O.look
  obtain ⟨m, hF⟩ := I.fr
  refine PySem.W.ksp_binT (op := op) (T := "int") hF I.ok.mod.kin J rfl hc hs hf h0 hp h1 h2 hsub ?_
  refine wpAny_mono (wpAny_call (run_fnR (us := [.ref a, .int j t]) (vs := [.ref a, .int j]) F hr hx I (.cons rfl (.cons ⟨t, rfl⟩ .nil)) q)) (fun w s' z => ?_) fun _ _ x => x
  obtain ⟨z', H', I', rz, qz⟩ := z
  exact SlX.cmpback rz ⟨z', H', I', rz, qz⟩
/-- x < n, n a whole number -/
theorem cmp_ownI {op : CmpOp} (hop : ∀ a b, compareOp op a b = richCompare op a b) (hn : PySem.W.notFirst X.K C (.type "int") = true) (hs : PySem.W.findIn X.K (.ref C) (cmpInfo op).2.1 = some (some (.ref g))) (hf : PySem.W.isFn X.K (.ref g) = true)
    (F : FnR X.prog X.w X.K X.mg X.base CX n g sp) (hr : Room n X.A) (hx : Passes CX X E) : OpR X (compareOp op) (rOwnI C sp E) := by
  intro pins s σ H x y v u Q I rx ry h
  obtain ⟨a, dx, fs, j, rfl, rfl, ha, q⟩ := h
  cases (show v = Value.ref a from rx)
  obtain ⟨t, e⟩ := (show ∃ t, u = Value.int j t from ry)
  subst e
  obtain ⟨_, O, _⟩ := ins_get I.hok ha
  obtain ⟨od, J, _⟩ := O.look
  obtain ⟨m, hF⟩ := I.fr
  rw [hop]
  refine PySem.W.cmp_K (op := op) (tb := .type "int") hr.units0 hF I.ok.mod.kin J (.of_pure rfl) hn hs hf ?_
  refine wpAny_mono (wpAny_call (run_fnR (us := [.ref a, .int j t]) (vs := [.ref a, .int j]) F hr hx I (.cons rfl (.cons ⟨t, rfl⟩ .nil)) q)) (fun w s' z => ?_) fun _ _ x => x
  obtain ⟨z', H', I', rz, qz⟩ := z
  exact SlX.cmpback rz ⟨z', H', I', rz, qz⟩
end
end K45R
end JK45Ops
section JK45Zip
set_option Elab.async false
set_option linter.all false
set_option maxRecDepth 100000
set_option maxHeartbeats 4000000
namespace K45R
open PySem PySem.Spec PyProof.Rows L2
/-! ### zip(a tuple, a list) -/
def pairJ (K : PySem.W.Frag) (a b : Addr) (xs ys : List V) : It where
  go := fun i H => i < min xs.length ys.length ∧ SqT K H a xs ∧ SqL K H b ys
  yld := fun i H v H' => ∃ T x y, v = V.ref T ∧ H T = none ∧ H' = upd H T (.tup [x, y]) ∧ xs[i]? = some x ∧ ys[i]? = some y
  stop := fun i H => i = min xs.length ys.length ∧ SqT K H a xs ∧ SqL K H b ys
theorem walk_pair {K : PySem.W.Frag} {a b : Addr} {xs ys : List V} : Walk (pairJ K a b xs ys) (min xs.length ys.length) (fun H => SqT K H a xs ∧ SqL K H b ys) (YPair (fun i => xs[i]?) (fun i => ys[i]?)) :=
  ⟨fun i H hi h => ⟨hi, h⟩, fun H h => ⟨rfl, h⟩, fun i H x H' hi h y => y⟩
abbrev pairS (a b z TI TO i1 i2 : Addr) (i : Nat) (h : Heap) : Prop := IsZip h z TI TO .none ∧ IsTupOf2 h TI (.ref i1) (.ref i2) ∧ (∃ u v, IsTupOf2 h TO u v) ∧ h.IsTupleIter i1 a i ∧ h.IsListIter i2 b i
theorem pair_obj {a b z TI TO i1 i2 : Addr} {i : Nat} {h : Heap} (st : pairS a b z TI TO i1 i2 i h) : ∀ c ∈ [z, TI, TO, i1, i2], ∃ o, h.get? c = some o ∧ ∀ v, o.data ≠ .cell v := by
  obtain ⟨hz, hTI, ⟨x, y, hTO⟩, ⟨o1, e1, _, d1⟩, o2, e2, _, d2⟩ := st
  intro c hc
  simp only [List.mem_cons, List.not_mem_nil, or_false] at hc
  rcases hc with rfl | rfl | rfl | rfl | rfl
  · exact ⟨_, hz, fun v q => nomatch q⟩
  · exact ⟨_, hTI, fun v q => nomatch q⟩
  · exact ⟨_, hTO, fun v q => nomatch q⟩
  · exact ⟨o1, e1, fun v q => by rw [d1] at q; cases q⟩
  · exact ⟨o2, e2, fun v q => by rw [d2] at q; cases q⟩
theorem turn_pair {P : Program} {w : World} {K : PySem.W.Frag} {elts : List Expr} {kk : Nat} {tpos : Pos} {a b z TI TO i1 i2 : Addr} {xs ys : List V} (D : ZipSep2 z TI TO i1 i2 [i1, a] [i2, b]) (na : a ≠ i1) (nb : b ≠ i2) :
    Turn P w K (.Tuple elts kk tpos) (pairJ K a b xs ys) [z, TI, TO, i1, i2] z (pairS a b z TI TO i1 i2) where
  mem := by simp
  obj := fun i h st => pair_obj st
  keep := fun i h h' st k => by
    obtain ⟨hz, hTI, ⟨x, y, hTO⟩, h1, h2⟩ := st
    refine ⟨k z (by simp) _ hz, k TI (by simp) _ hTI, ⟨x, y, k TO (by simp) _ hTO⟩, ?_, ?_⟩
    · exact h1.at fun o => k i1 (by simp) o
    · exact h2.at fun o => k i2 (by simp) o
  item := by
    intro X hP hw hK hc i pins s σ H E I hf st hg
    subst hP hw hK
    obtain ⟨hi, qx, qy⟩ := hg
    obtain ⟨us, rx, px, _⟩ := I.tuple qx
    obtain ⟨ws, ry, py, _⟩ := I.list qy
    have lx := rx.length
    have ly := ry.length
    have hh : X.A.in1.handled = none := I.ok.hd hc
    have G := GoesN.zip2 (prog := X.prog) (w := X.w) (A := X.A) (elts := elts) (x1 := kk) (pos := tpos) D (Draws.tuple hh i1 a na us.toArray) (Draws.list hh i2 b nb ws.toArray)
    obtain ⟨hz, hTI, hTO, h1, h2⟩ := st
    have px' : s.heap.IsTuple a us.toArray := px
    refine G.goes i s (fun v s2 => ∃ x H', Inv X pins σ H' s2 ∧ RelV x v ∧ (pairJ X.K a b xs ys).yld i H x H' ∧ pairS a b z TI TO i1 i2 (i + 1) s2.heap ∧ ∀ c ∈ [z, TI, TO, i1, i2], H' c = none) E (by simp only [List.size_toArray]; omega)
      ⟨hz, hTI, hTO, ⟨h1, px'⟩, h2, py.isList⟩ fun v h' tk hY st' hk htk => ?_
    obtain ⟨T, x, y, rfl, hT, ex, ey, hTup⟩ := hY
    obtain ⟨gz, gTI, gTO, ⟨g1, _⟩, g2, _⟩ := st'
    have hix : i < xs.length := by omega
    have hiy : i < ys.length := by omega
    obtain ⟨u, hu, ru⟩ := rx.get (List.getElem?_eq_getElem hix)
    obtain ⟨u2, hu2, ru2⟩ := ry.get (List.getElem?_eq_getElem hiy)
    have e1 : x = u := by
      have : us.toArray[i]? = some u := by simpa using hu
      exact Option.some.inj (ex.symm.trans this)
    have e2 : y = u2 := by
      have : ws.toArray[i]? = some u2 := by simpa using hu2
      exact Option.some.inj (ey.symm.trans this)
    subst e1 e2
    obtain ⟨oT, hoT, cT, nT, dT⟩ := hTup
    have new : ObjOk X.prog X.w (upd H T (.tup [xs[i], ys[i]])) h' T (.tup [xs[i], ys[i]]) := ⟨by show 2 ≤ sizeLine; decide, [x, y], .cons ru (.cons ru2 .nil), ⟨oT, hoT, cT, nT, dT⟩⟩
    have I1 : Inv X pins σ (upd H T (.tup [xs[i], ys[i]])) { s with heap := h', toks := tk } := I.turnedNew (ch := [z, TI, TO, i1, i2]) (fun c o hb q => hk c o (fun m => hb (by
      simp only [List.mem_cons, List.not_mem_nil, or_false] at m ⊢
      rcases m with m | m | m | m <;> simp [m])) q) hf hT new
    refine ⟨.ref T, _, I1, rfl, ⟨T, _, _, rfl, I.hok.fresh hT, rfl, List.getElem?_eq_getElem hix, List.getElem?_eq_getElem hiy⟩, ⟨gz, gTI, gTO, g1, g2⟩, fun c hcm => ?_⟩
    obtain ⟨oc, hoc, _⟩ := pair_obj ⟨hz, hTI, hTO, h1, h2⟩ c hcm
    rw [upd_ne (Nat.ne_of_lt (Nat.lt_of_lt_of_le (Heap.lt_size hoc) hT))]
    exact (hf c hcm).1
  done := by
    intro X hP hw hK hc i pins s σ H E I hf st hg
    subst hP hw hK
    obtain ⟨hi, qx, qy⟩ := hg
    obtain ⟨us, rx, px, _⟩ := I.tuple qx
    obtain ⟨ws, ry, py, _⟩ := I.list qy
    have lx := rx.length
    have ly := ry.length
    have hh : X.A.in1.handled = none := I.ok.hd hc
    have G := GoesN.zip2 (prog := X.prog) (w := X.w) (A := X.A) (elts := elts) (x1 := kk) (pos := tpos) D (Draws.tuple hh i1 a na us.toArray) (Draws.list hh i2 b nb ws.toArray)
    obtain ⟨hz, hTI, hTO, h1, h2⟩ := st
    have px' : s.heap.IsTuple a us.toArray := px
    have ei : min us.toArray.size ws.toArray.size = i := by simp only [List.size_toArray]; omega
    refine G.stops s (fun s1 => Inv X pins σ H s1) E (by rw [ei]; exact ⟨hz, hTI, hTO, ⟨h1, px'⟩, h2, py.isList⟩) fun h' tk hk htk => ?_
    exact I.turnedL (ch := [z, TI, TO, i1, i2]) (fun c o hb q => hk c o (fun m => hb (by
      simp only [List.mem_cons, List.not_mem_nil, or_false] at m ⊢
      rcases m with m | m | m | m <;> simp [m])) q) hf
  self := fun A i s Q E st h => wpAny_pyIter_zip st.1 h
def iPair (K : PySem.W.Frag) (ta : TA) : TI := fun σ H R => ta σ H fun vs H1 => ∃ a b xs ys, vs = [.ref a, .ref b] ∧ SqT K H1 a xs ∧ SqL K H1 b ys ∧ R (pairJ K a b xs ys) H1
theorem pi_pair {X : Cx} {e e2 : Expr} {ta : TA} {p pos tpos : Pos} {elts : List Expr} {kk : Nat} (hg : Gl X "zip") (hm : X.mg "zip" = none) (ha : PA X [e, e2] ta)
    (hs : starEach [e, e2] X.env = (false, eval e X.env) :: starEach [e2] X.env := by rfl) (hpl : (backTo pos (starEach [e2] X.env)).any (·.1) = false := by rfl) :
    PI X (.Tuple elts kk tpos) (.Call (.Name "zip" p) [e, e2] [] pos) (iPair X.K ta) := by
  refine ⟨fun pins s σ H R I h => ?_⟩
  refine Call_ (ld_blt I hg hm PyProof.Rows.boot_zip (PyProof.Rows.callWith_type1 (thn (ha.run pos pins s σ H _ I h) fun us s1 ⟨vs, H1, I1, r1, q1⟩ => ?_) hs hpl))
  obtain ⟨a, b, xs, ys, rfl, qx, qy, q⟩ := q1
  obtain ⟨u1, u2, rfl, r, r'⟩ := vals2 r1
  cases (show u1 = Value.ref a from r)
  cases (show u2 = Value.ref b from r')
  obtain ⟨its, rx, px, _⟩ := I1.tuple qx
  obtain ⟨its2, ry, py, _⟩ := I1.list qy
  have la : a < s1.heap.objs.size := by
    obtain ⟨o, ho, _⟩ := id px
    exact Heap.lt_size ho
  have lb : b < s1.heap.objs.size := py.lt
  refine zip_begins2 (begins_tuple a its.toArray) (begins_list b its2.toArray) (show s1.heap.IsTuple a its.toArray from px) py.isList fun h' hz hTI hTO g1 g2 hsz hk => ?_
  refine wpAny_pyIter_zip hz ?_
  have I2 : Inv X pins σ H1 { s1 with heap := h' } := I1.kept (t' := s1.toks) hk
  refine ⟨s1.heap.objs.size + 4, [s1.heap.objs.size + 4, s1.heap.objs.size + 2, s1.heap.objs.size + 3, s1.heap.objs.size, s1.heap.objs.size + 1], _, _, H1, rfl, I2,
    turn_pair (zip_sep2 (fp1 := [a]) (fp2 := [b]) (fun c hc => by simp at hc; rw [hc]; exact la) (fun c hc => by simp at hc; rw [hc]; exact lb)) (Nat.ne_of_lt la) (Nat.ne_of_lt (Nat.lt_succ_of_lt lb)),
    ⟨hz, hTI, ⟨_, _, hTO⟩, ⟨_, g1, rfl, rfl⟩, ⟨_, g2, rfl, rfl⟩⟩, fun c hc => ?_, q⟩
  have hle : s1.heap.objs.size ≤ c := by
    simp only [List.mem_cons, List.not_mem_nil, or_false] at hc
    rcases hc with e | e | e | e | e <;> (subst e; first | exact Nat.le_refl _ | exact Nat.le_add_right _ _)
  exact I1.fpOk hle (I1.hok.fresh hle)
end K45R
end JK45Zip
section JK45Exc
set_option Elab.async false
set_option linter.all false
set_option maxRecDepth 100000
set_option maxHeartbeats 4000000
namespace K45R
open PySem PySem.Spec PyProof.Rows L2
/-! ### super().__init__(..) in the __init__ of an own exception over ValueError -/
section
variable {prog : Program} {w : World} {A : Around} {E : Value → Shared → Prop} {h : Heap} {g : Array GenState} {d : Drawn} {t : Nat} {os : OsState}
variable {nm q : Str} {C N : Addr} {bs bm : List Value} {hdct : Bool} {sn : List Str} {sub : List Value} {ab : Bool} {col : Option Bool} {dd : Option Addr} {k0 k1 k2 k3 k5 : Option Value}
theorem mw_call {u e t0 : Addr} {rest : List Value} {Q : Value → Shared → Prop}
    (hC : h.get? C = some (excClassObj nm q C N bs bm hdct sn sub ab col dd k0 k1 k2 k3 k5 "ValueError.__new__")) (he : h.get? e = some (HandSPX.excO C t0)) (hu : h.get? u = some (PySem.W.kxs_mw "ValueError.__init__" e)) (hr : rest.length ≤ sizeLine)
    (hq : ∀ h' t1, h'.get? e = some (HandSPX.excO C t1) → (∀ b o, b ≠ e → h.get? b = some o → h'.get? b = some o) → Q .none ⟨h', g, d, t, os⟩) : wpAny (model prog w) A (call (.ref u) rest) Q E ⟨h, g, d, t, os⟩ := by
  have FB := F.excBase_ValueError
  refine wpAny_call (codeAny_of_tree ?_)
  show wpAny _ A.in1 (callAny (.ref u) ⟨rest, []⟩) _ _ _
  unfold callAny
  refine wpAny_bind (wpAny_load hu ?_)
  simp only [PySem.W.kxs_mw, show (Value.type "method-wrapper" == Value.type "method" || Value.type "method-wrapper" == Value.type "builtin_function_or_method" || Value.type "method-wrapper" == Value.type "method-wrapper") = true by decide, if_true]
  refine W.KFB.if_so (by decide) (wpAny_bind (PySem.W.check_bound_init FB.toExcCallFacts hC he rfl ?_))
  refine wpAny_bind (wpAny_pure (wpAny_pure ⟨Code.quiet_builtin _ (by decide +kernel), codeAny_builtin FB.initEntry ?_⟩))
  rw [Around.under_plainId FB.init.plain _]
  wp_walk
  refine hq _ h.objs.size ?_ fun b o hb ho => ?_
  · rw [Heap.get?_update_self _ (Heap.get?_push_of_some _ he) rfl]
    rfl
  · rw [Heap.get?_update_other _ _ (Ne.symm hb)]
    exact Heap.get?_push_of_some _ ho
end
structure SupX (K : PySem.W.Frag) (C D : Addr) : Prop where
  mro : PySem.W.mroIn K C (.ref D) = some true
  at_ : PySem.W.ks_superIn K C D "__init__" = some (some (.builtin "ValueError.__init__"))
  sub : PySem.W.subIn K (.ref C) (.type "ValueError") = some true
  no : PySem.W.nsIn K PySem.cStatics "thirdparty.any" = some none
  cls : OexC K C
def tSupX (C : Addr) (t : TA) : TE := fun σ H Q => ∃ a, σ[0]? = some (some (.ref a)) ∧ H a = some (exo a C none) ∧ t σ H fun vs H2 => vs.length ≤ 1000 ∧ H2 a = some (exo a C none) ∧ Q .non H2
section
variable {X : Cx} {CX : CXT} {pins : List (Addr × Obj)} {σ : St} {H : Hp} {s : Shared} {k : Nat} {C D f cc cda a : Addr} {e : Expr} {es : List Expr} {p0 p1 apos pos pos' : Pos} {t : TA} {body : List Stmt}
theorem psa_superX (S : SupEnv X f cc cda D) (M : SupX X.K C D) (ha : PA X (e :: es) t)
    (hst : starEach (e :: es) X.env = (false, eval e X.env) :: starEach es X.env := by rfl) (hpl : (backTo pos (starEach es X.env)).any (·.1) = false := by rfl)
    {pl : Sem Bool} (he : eval (.Call (.Attribute (.Call (.Name "super" p0) [] [] p1) "__init__" apos) (e :: es) [] pos) X.env = (do
      let ov ← attributeBase (.Call (.Name "super" p0) [] [] p1) "__init__" X.env (eval (.Call (.Name "super" p0) [] [] p1) X.env)
      standAt apos.atName
      let (f, first) ← holding [ov] (getMethod ov "__init__" pl)
      callWith pos f first (backTo pos (starEach (e :: es) X.env)) []) := by rfl)
    (hs : swapsWith (.Call (.Attribute (.Call (.Name "super" p0) [] [] p1) "__init__" apos) (e :: es) [] pos) none pos'.line X.env = pure false := by rfl) :
    PSA X (.func body X.env) (.Expr (.Call (.Attribute (.Call (.Name "super" p0) [] [] p1) "__init__" apos) (e :: es) [] pos) pos') (tDrop (tSupX C t)) := by
  refine ⟨fun pins s σ H D' I h => ?_⟩
  obtain ⟨a, hσ, ea, q⟩ := h
  refine PySem.ks_wpAt_Expr_any (PySem.ks_wpAt_MethodCall (pl := pl) ?_ he) I.quiet hs
  obtain ⟨t1, ho⟩ := exo_at I.hok ea
  have J : PySem.W.InstAt s.heap a (HandSPX.excO C t1) C none := ⟨ho, rfl, rfl, trivial⟩
  refine super_at S I hσ J M.mro (by decide) fun so h' kk hso => ?_
  have I1 : Inv X pins σ H { s with heap := h' } := I.kept (t' := s.toks) kk
  have J1 : PySem.W.InstAt h' a (HandSPX.excO C t1) C none := ⟨kk _ _ ho, rfl, rfl, trivial⟩
  have K1 := I1.kIn
  obtain ⟨hh, gg, dd, tt, oo⟩ := s
  have hm := M.at_
  cases hc : PySem.W.clsIn X.K C with
  | none => unfold PySem.W.ks_superIn at hm; rw [hc] at hm; cases hm
  | some cd =>
    unfold PySem.W.ks_superIn at hm
    rw [hc] at hm
    refine PySem.W.kxs_getMethod PySem.W.kxs_ValueError hso (PySem.W.looks_opaque K1 M.no) (l₀ := cd.mro) ?_ rfl K1 hm (J1.type.andThen (PySem.W.looks_subIn K1 M.sub)) (PySem.W.ks_ne K1 J1 hc) (by decide) ?_
    · exact fun A Q E s k q => wpAny_bind ((PySem.W.looks_clsIn K1 hc) A _ E s k (wpAny_pure q))
    · have I2 : Inv X ((h'.objs.size, PySem.W.kxs_mw "ValueError.__init__" a) :: pins) σ H ⟨h'.push (PySem.W.kxs_mw "ValueError.__init__" a), gg, dd, tt + 1, oo⟩ :=
        ClX.pin_new (s := ⟨h', gg, dd, tt, oo⟩) I1 (fun _ _ z => Heap.get?_push_of_some _ z) (Nat.le_refl _) (Heap.get?_push_size h' rfl) (fun v z => nomatch z)
      show wpAny _ _ (callWith pos (.ref h'.objs.size) [] (backTo pos (starEach (e :: es) X.env)) []) _ _ _
      rw [hst]
      refine PySem.W.kxs_callWith (i := "ValueError.__init__") (x := a) (by show (false || (backTo pos (starEach es X.env)).any (·.1)) = false; rw [hpl]; rfl) (Calls.evalArgs_plain ?_)
      have ra := ha.run pos _ _ σ H _ I2 q
      rw [hst] at ra
      refine thn ra fun us s3 hh => ?_
      obtain ⟨vs, H2, I3, rv, hl, ea2, q2⟩ := hh
      have hu := ClX.pin_at I3
      refine ⟨hu, ?_⟩
      obtain ⟨t2, ho2⟩ := exo_at I3.hok ea2
      obtain ⟨nm, qn, N, bs, bm, sn, sub, ab, col, dd, k0, k1, k2, k3, k5, hC, hbm⟩ := M.cls.cls
      obtain ⟨h3, g3, d3, t3, o3⟩ := s3
      have hz : us.length ≤ sizeLine := by
        rw [← Paired.length rv, sizeLine_eq]
        omega
      refine mw_call (I3.kIn _ _ hC) ho2 hu hz fun h4 t4 hx k4 => ?_
      have J4 := I3.write (t' := t3) (x := a) (e := a) (o := exo a C none) (by rw [ea2]; exact True.intro) (.inl rfl) k4 ⟨_, hx⟩ (exo_ok hx)
      have eu : upd H2 a (exo a C none) = H2 := by
        funext b
        by_cases hb : b = a
        · rw [hb, upd_same, ea2]
        · rw [upd_ne hb]
      rw [eu] at J4
      exact ⟨σ, H2, ClX.unpin J4, q2⟩
/-! ### cls(e, ..), cls a local -/
end
def tMakeL (i : Nat) (C : Addr) (sp : Sp) (dvs : List V) (E : XK) (t : TA) : TE := fun σ H Q => σ[i]? = some (some (.ref C)) ∧ tMake C sp dvs E t σ H Q
section
variable {X : Cx} {CX : CXT} {k i : Nat} {C f : Addr} {fd : FuncData} {ps : List Str} {sp : Sp} {dvs : List V} {ds : List Value} {E : XK} {x : Str} {p pos : Pos} {e : Expr} {es : List Expr} {t : TA}
theorem pe_makeL (M : Mk X.K C f) (F : FnOk X.prog X.w X.K X.mg X.base CX k f fd ps sp) (hr : Room (k + 1) X.A) (hN : X.N[i]? = some x) (hv : Vis X.env.scope x) (hb : Binds X.K fd ps ds) (hd : Vals dvs ds) (hx : Passes CX X E) (ha : PA X (e :: es) t)
    (hdb : (x == ("__debug__" : Str)) = false := by decide) (hcd : (x == ("__classdict__" : Str)) = false := by decide)
    (he : starEach (e :: es) X.env = (false, eval e X.env) :: starEach es X.env := by rfl) (hpl : (backTo pos (starEach es X.env)).any (·.1) = false := by rfl) : PE X (.Call (.Name x p) (e :: es) [] pos) (tMakeL i C sp dvs E t) := by
  refine ⟨fun pins s σ H Q I ⟨hs, ht⟩ => ?_⟩
  have nm := (pe_var (pos := p) hN hv hdb hcd).run pins s σ H (fun v H1 => v = .ref C ∧ H1 = H) I ⟨.ref C, hs, rfl, rfl⟩
  refine wpAny_Call_Name_kw (thn nm fun u s1 hu => ?_)
  obtain ⟨v, H1, I1, r1, rfl, rfl⟩ := hu
  cases (show u = Value.ref C from r1)
  refine PySem.W.callWith_K (h₀ := X.base) I1.ok.mod.kin M.kp (thn (ha.run pos pins s1 σ _ _ I1 ht) fun us s2 hh => ?_) he hpl
  obtain ⟨vs, H2, I2, r, q⟩ := hh
  exact ⟨I2.kIn, run_make M F hr hb hd hx I2 r q⟩
/-! ### sum(a tuple) -/
def rSumT (K : PySem.W.Frag) : List V → Hp → VK → Prop := fun vs H Q => ∃ (a : Addr) (ns : List Int), vs = [V.ref a] ∧ SqT K H a (ns.map V.int) ∧ Q (.int ns.sum) H
theorem cr_sumT (hc : X.calm = true) : CallR X (.builtin "sum") (rSumT X.K) := by
  intro pins s σ H vs us Q I r h
  obtain ⟨a, ns, rfl, hs, q⟩ := h
  obtain ⟨its, rv, hl, _⟩ := I.tuple hs
  rw [Vals.ref1 r]
  have hi := rv.ints
  obtain ⟨xs, e⟩ := hi.allInts.items
  have hn : numsOf (intItems xs).toList = ns := by rw [← e]; exact hi.numsOf
  rw [nums_intItems] at hn
  have ht : s.heap.IsTuple a (intItems xs) := by rw [← e]; exact hl
  refine PySem.W.ktm_sumG (I.ok.hd hc) ht fun h' tk t' hk => ⟨.int ns.sum, H, I.kept hk, ⟨t', ?_⟩, q⟩
  have ep : preSum (numAt xs) xs.size = ns.sum := by
    rw [preSum_eq, List.take_of_length_le (by simp), hn]
  rw [ep]
end
end K45R
end JK45Exc
section JK45Blk
set_option Elab.async false
set_option linter.all false
set_option maxRecDepth 100000
set_option maxHeartbeats 4000000
namespace K45R
open PySem PySem.Spec PyProof.Rows L2
/-! ### rules within a comprehension, where the written part must be named -/
section
variable {X : Cx} (K : PySem.W.Frag)
theorem ixL (h : X.K = K := by rfl) : IxR X (rIxL K) := by subst h; exact ix_list
theorem ixT (h : X.K = K := by rfl) : IxR X (rIxT K) := by subst h; exact ix_tup
def rLst : List V → Hp → VK → Prop := fun xs H Q => ∃ p ys, xs = [.ref p] ∧ (SqL K H p ys ∨ SqT K H p ys) ∧ ∀ l, H l = none → Q (.ref l) (upd H l (.lst ys))
theorem cLst (h : X.K = K := by rfl) : CallR X (.type "list") (rLst K) := by subst h; exact call_list_of
def rTup : List V → Hp → VK → Prop := fun xs H Q => ∃ p ys, xs = [.ref p] ∧ ((SqL K H p ys ∧ ∀ l, H l = none → Q (.ref l) (upd H l (.tup ys))) ∨ (SqT K H p ys ∧ Q (.ref p) H))
theorem cTup (h : X.K = K := by rfl) : CallR X (.type "tuple") (rTup K) := by subst h; exact call_tuple_of
def rLenS : List V → Hp → VK → Prop := fun xs H Q => ∃ p ys, xs = [.ref p] ∧ (SqL K H p ys ∨ SqT K H p ys) ∧ Q (.int ys.length) H
theorem cLen (h : X.K = K := by rfl) : CallR X (.builtin "len") (rLenS K) := by subst h; exact call_len_seq
theorem cSumT (hc : X.calm = true) (h : X.K = K := by rfl) : CallR X (.builtin "sum") (rSumT K) := by subst h; exact cr_sumT hc
theorem cSum (hc : X.calm = true) (h : X.K = K := by rfl) : CallR X (.builtin "sum") (rSum K) := by subst h; exact cr_sum hc
theorem pFld {e : Expr} {ta : TE} {f : Str} {pos : Pos} (he : PE X e ta) (hb : attributeBase e f X.env (eval e X.env) = eval e X.env) (h : X.K = K := by rfl) : PE X (.Attribute e f pos) (tFld K ta f) := by subst h; exact pe_fld he hb
end
theorem pg_two {X : Cx} {i j : Nat} {x y : Str} {px py pos : Pos} {kk : Nat} (hc : X.calm = true) (hN : X.N.Nodup) (hi : X.N[i]? = some x) (hj : X.N[j]? = some y) (hx : Loc X.env.scope x) (hy : Loc X.env.scope y)
    (fx : X.fn x = true ∨ X.env.scope.names.lookup x = some .local) (fy : X.fn y = true ∨ X.env.scope.names.lookup y = some .local) : PG X (.Tuple [.Name x px, .Name y py] kk pos) (gTup X.K 2 (gCons (gName i) (gCons (gName j) gNil))) :=
  pg_tup hc (pgs_cons (pg_name hN hi hx fx) (pgs_cons (pg_name hN hj hy fy) pgs_nil))
end K45R
end JK45Blk
section JK45Text
set_option Elab.async false
set_option linter.all false
set_option maxRecDepth 100000
set_option maxHeartbeats 4000000
namespace K45T
open PySem PySem.Spec PyProof.Rows L2 K45R
def top (i : Nat) : Stmt := PySem.Challenge.pw_dearestshelf_k45_whole_like_weights.main.body.getD i (.Pass ⟨0, 0, 0, 0⟩)
abbrev s_RI : Stmt := inClass (top 12) 0
abbrev s_RA : Stmt := inClass (top 12) 1
abbrev s_RM : Stmt := inClass (top 12) 5
abbrev s_RL : Stmt := inClass (top 12) 13
abbrev s_RG : Stmt := inClass (top 12) 16
abbrev s_RO : Stmt := inClass (top 12) 18
abbrev s_TI : Stmt := inClass (top 8) 0
abbrev s_piv : Stmt := top 14
abbrev s_sol : Stmt := top 15
abbrev s_cl : Stmt := top 17
abbrev s_cp : Stmt := top 18
abbrev s_do : Stmt := top 21
abbrev s_UI : Stmt := inClass (top 23) 2
abbrev s_US : Stmt := inClass (top 23) 3
abbrev s_cs : Stmt := top 25
abbrev s_SI : Stmt := inClass (top 26) 1
abbrev s_ST : Stmt := inClass (top 26) 2
abbrev s_SS : Stmt := inClass (top 26) 3
abbrev s_SV : Stmt := inClass (top 26) 4
abbrev s_SO : Stmt := inClass (top 26) 5
abbrev s_SE : Stmt := inClass (top 26) 6
abbrev s_SB : Stmt := inClass (top 26) 8
abbrev s_SL : Stmt := inClass (top 26) 9
abbrev s_WI : Stmt := inClass (top 28) 0
abbrev s_WT : Stmt := inClass (top 28) 1
abbrev s_WS : Stmt := inClass (top 28) 2
abbrev s_WB : Stmt := inClass (top 28) 3
abbrev s_dw : Stmt := top 29
abbrev s_lc : Stmt := top 31
abbrev s_ld : Stmt := top 32
abbrev s_lr : Stmt := top 33
abbrev s_lu : Stmt := top 34
abbrev s_ll : Stmt := top 35
abbrev s_li : Stmt := top 36
abbrev s_ls : Stmt := top 37
abbrev s_lt : Stmt := top 38
abbrev s_lv : Stmt := top 39
abbrev s_lw : Stmt := top 40
abbrev s_lk : Stmt := top 41
abbrev s_lf : Stmt := top 42
abbrev s_lb : Stmt := top 43
abbrev s_law : Stmt := top 44
/-! ### the names of each def -/
abbrev ns_RI : List Str := ["self", "top", "bottom", "shared"]
theorem sc_RI : FnScope ns_RI ["self", "top", "bottom"] (defScope s_RI) := ⟨rfl, rfl, rfl, by decide +kernel, rfl, by decide +kernel, by decide +kernel⟩
abbrev ns_RA : List Str := ["self", "other"]
theorem sc_RA : FnScope ns_RA ["self", "other"] (defScope s_RA) := ⟨rfl, rfl, rfl, by decide +kernel, rfl, by decide +kernel, by decide +kernel⟩
abbrev ns_RM : List Str := ["self", "other"]
theorem sc_RM : FnScope ns_RM ["self", "other"] (defScope s_RM) := ⟨rfl, rfl, rfl, by decide +kernel, rfl, by decide +kernel, by decide +kernel⟩
abbrev ns_RL : List Str := ["self", "other"]
theorem sc_RL : FnScope ns_RL ["self", "other"] (defScope s_RL) := ⟨rfl, rfl, rfl, by decide +kernel, rfl, by decide +kernel, by decide +kernel⟩
abbrev ns_RG : List Str := ["self", "other"]
theorem sc_RG : FnScope ns_RG ["self", "other"] (defScope s_RG) := ⟨rfl, rfl, rfl, by decide +kernel, rfl, by decide +kernel, by decide +kernel⟩
abbrev ns_RO : List Str := ["self", "other"]
theorem sc_RO : FnScope ns_RO ["self", "other"] (defScope s_RO) := ⟨rfl, rfl, rfl, by decide +kernel, rfl, by decide +kernel, by decide +kernel⟩
abbrev ns_TI : List Str := ["self", "many", "most"]
theorem sc_TI : FnScopeS ns_TI ["self", "many", "most"] (defScope s_TI) := fns_by (by decide +kernel)
abbrev ns_piv : List Str := ["rows", "row", "column", "scale", "chosen", "pivot", "after", "at", "line", "factor", "x", "y"]
theorem sc_piv : FnScope ns_piv ["rows", "row", "column", "scale"] (defScope s_piv) := ⟨rfl, rfl, rfl, by decide +kernel, rfl, by decide +kernel, by decide +kernel⟩
abbrev ns_sol : List Str := ["rows", "right", "size", "table", "scale", "at", "other", "line", "last"]
theorem sc_sol : FnScope ns_sol ["rows", "right"] (defScope s_sol) := ⟨rfl, rfl, rfl, by decide +kernel, rfl, by decide +kernel, by decide +kernel⟩
abbrev ns_cl : List Str := ["lot", "many", "before", "thing"]
theorem sc_cl : FnScope ns_cl ["lot", "many"] (defScope s_cl) := ⟨rfl, rfl, rfl, by decide +kernel, rfl, by decide +kernel, by decide +kernel⟩
abbrev ns_cp : List Str := ["prices", "many", "at", "price"]
theorem sc_cp : FnScope ns_cp ["prices", "many"] (defScope s_cp) := ⟨rfl, rfl, rfl, by decide +kernel, rfl, by decide +kernel, by decide +kernel⟩
abbrev ns_do : List Str := ["prices", "order", "thing", "price", "place"]
theorem sc_do : FnScope ns_do ["prices"] (defScope s_do) := ⟨rfl, rfl, rfl, by decide +kernel, rfl, by decide +kernel, by decide +kernel⟩
abbrev ns_UI : List Str := ["self", "many"]
theorem sc_UI : FnScope ns_UI ["self", "many"] (defScope s_UI) := ⟨rfl, rfl, rfl, by decide +kernel, rfl, by decide +kernel, by decide +kernel⟩
abbrev ns_US : List Str := ["self", "lot", "_"]
theorem sc_US : FnScope ns_US ["self", "lot"] (defScope s_US) := ⟨rfl, rfl, rfl, by decide +kernel, rfl, by decide +kernel, by decide +kernel⟩
abbrev ns_cs : List Str := ["first", "aside", "steps", "leaves", "at", "weight", "row"]
theorem sc_cs : FnScope ns_cs ["first", "aside", "steps", "leaves"] (defScope s_cs) := ⟨rfl, rfl, rfl, by decide +kernel, rfl, by decide +kernel, by decide +kernel⟩
abbrev ns_SI : List Str := ["self", "first", "aside", "steps", "leaves", "row"]
theorem sc_SI : FnScopeS ns_SI ["self", "first", "aside", "steps", "leaves"] (defScope s_SI) := fns_by (by decide +kernel)
abbrev ns_ST : List Str := ["self", "thing"]
theorem sc_ST : FnScope ns_ST ["self", "thing"] (defScope s_ST) := ⟨rfl, rfl, rfl, by decide +kernel, rfl, by decide +kernel, by decide +kernel⟩
abbrev ns_SS : List Str := ["self", "lot", "row", "thing", "out", "rows", "at", "other", "line", "looks", "arrived", "look"]
theorem sc_SS : FnScopeS ns_SS ["self", "lot"] (defScope s_SS) := fns_by (by decide +kernel)
abbrev ns_SV : List Str := ["self", "lot", "prices", "thing", "out", "rows", "right", "at", "line", "values", "value", "other", "price"]
theorem sc_SV : FnScope ns_SV ["self", "lot", "prices"] (defScope s_SV) := ⟨rfl, rfl, rfl, by decide +kernel, rfl, by decide +kernel, by decide +kernel⟩
abbrev ns_SO : List Str := ["self", "thing", "values", "total", "weight", "value"]
theorem sc_SO : FnScope ns_SO ["self", "thing", "values"] (defScope s_SO) := ⟨rfl, rfl, rfl, by decide +kernel, rfl, by decide +kernel, by decide +kernel⟩
abbrev ns_SE : List Str := ["self", "prices", "lot", "values", "kept", "thing"]
theorem sc_SE : FnScope ns_SE ["self", "prices"] (defScope s_SE) := ⟨rfl, rfl, rfl, by decide +kernel, rfl, by decide +kernel, by decide +kernel⟩
abbrev ns_SB : List Str := ["self", "prices", "lot", "values", "total", "weight", "value"]
theorem sc_SB : FnScope ns_SB ["self", "prices"] (defScope s_SB) := ⟨rfl, rfl, rfl, by decide +kernel, rfl, by decide +kernel, by decide +kernel⟩
abbrev ns_SL : List Str := ["cls", "rule", "steps", "thing", "row", "leaves", "_"]
theorem sc_SL : FnScope ns_SL ["cls", "rule"] (defScope s_SL) := ⟨rfl, rfl, rfl, by decide +kernel, rfl, by decide +kernel, by decide +kernel⟩
abbrev ns_WI : List Str := ["self", "weights", "aside", "at", "weight"]
theorem sc_WI : FnScopeS ns_WI ["self", "weights", "aside"] (defScope s_WI) := fns_by (by decide +kernel)
abbrev ns_WT : List Str := ["self", "lot", "thing"]
theorem sc_WT : FnScope ns_WT ["self", "lot"] (defScope s_WT) := ⟨rfl, rfl, rfl, by decide +kernel, rfl, by decide +kernel, by decide +kernel⟩
abbrev ns_WS : List Str := ["self", "lot", "row", "total", "thing"]
theorem sc_WS : FnScopeS ns_WS ["self", "lot"] (defScope s_WS) := fns_by (by decide +kernel)
abbrev ns_WB : List Str := ["self", "prices"]
theorem sc_WB : FnScope ns_WB ["self", "prices"] (defScope s_WB) := ⟨rfl, rfl, rfl, by decide +kernel, rfl, by decide +kernel, by decide +kernel⟩
abbrev ns_dw : List Str := ["rule", "prices", "lot", "brought", "total", "worth", "thing"]
theorem sc_dw : FnScope ns_dw ["rule", "prices"] (defScope s_dw) := ⟨rfl, rfl, rfl, by decide +kernel, rfl, by decide +kernel, by decide +kernel⟩
abbrev ns_lc : List Str := ["_law_script", "_law_place"]
theorem sc_lc : FnScope ns_lc ["_law_script", "_law_place"] (defScope s_lc) := ⟨rfl, rfl, rfl, by decide +kernel, rfl, by decide +kernel, by decide +kernel⟩
abbrev ns_ld : List Str := ["_law_cell_here", "_law_sizes", "_law_size", "_law_left", "_law_found", "_law_k", "_law_low", "_law_high"]
theorem sc_ld : FnScope ns_ld ["_law_cell_here", "_law_sizes"] (defScope s_ld) := ⟨rfl, rfl, rfl, by decide +kernel, rfl, by decide +kernel, by decide +kernel⟩
abbrev ns_lr : List Str := ["_law_cell_here", "_law_count", "_law_drawn", "_law_bound", "_law_k", "_law_value"]
theorem sc_lr : FnScope ns_lr ["_law_cell_here", "_law_count"] (defScope s_lr) := ⟨rfl, rfl, rfl, by decide +kernel, rfl, by decide +kernel, by decide +kernel⟩
abbrev ns_lu : List Str := ["_law_row_here", "_law_number"]
theorem sc_lu : FnScope ns_lu ["_law_row_here"] (defScope s_lu) := ⟨rfl, rfl, rfl, by decide +kernel, rfl, by decide +kernel, by decide +kernel⟩
abbrev ns_ll : List Str := ["_law_bits", "_law_many", "_law_found", "_law_left", "_law_thing"]
theorem sc_ll : FnScope ns_ll ["_law_bits", "_law_many"] (defScope s_ll) := ⟨rfl, rfl, rfl, by decide +kernel, rfl, by decide +kernel, by decide +kernel⟩
abbrev ns_li : List Str := ["_law_x"]
theorem sc_li : FnScope ns_li ["_law_x"] (defScope s_li) := ⟨rfl, rfl, rfl, by decide +kernel, rfl, by decide +kernel, by decide +kernel⟩
abbrev ns_ls : List Str := ["_law_x", "_law_top", "_law_bottom"]
theorem sc_ls : FnScope ns_ls ["_law_x", "_law_top", "_law_bottom"] (defScope s_ls) := ⟨rfl, rfl, rfl, by decide +kernel, rfl, by decide +kernel, by decide +kernel⟩
abbrev ns_lt : List Str := ["_law_x", "_law_due", "_law_k"]
theorem sc_lt : FnScope ns_lt ["_law_x", "_law_due"] (defScope s_lt) := ⟨rfl, rfl, rfl, by decide +kernel, rfl, by decide +kernel, by decide +kernel⟩
abbrev ns_lv : List Str := ["_law_x", "_law_pairs", "_law_k"]
theorem sc_lv : FnScope ns_lv ["_law_x", "_law_pairs"] (defScope s_lv) := ⟨rfl, rfl, rfl, by decide +kernel, rfl, by decide +kernel, by decide +kernel⟩
abbrev ns_lw : List Str := ["_law_weights", "_law_aside", "_law_prices", "_law_lot_here", "_law_top", "_law_bottom", "_law_thing"]
theorem sc_lw : FnScope ns_lw ["_law_weights", "_law_aside", "_law_prices", "_law_lot_here"] (defScope s_lw) := ⟨rfl, rfl, rfl, by decide +kernel, rfl, by decide +kernel, by decide +kernel⟩
abbrev ns_lk : List Str := ["_law_chain", "_law_weights", "_law_aside", "_law_many", "_law_k", "_law_weight", "_law_j"]
theorem sc_lk : FnScope ns_lk ["_law_chain", "_law_weights", "_law_aside"] (defScope s_lk) := ⟨rfl, rfl, rfl, by decide +kernel, rfl, by decide +kernel, by decide +kernel⟩
abbrev ns_lf : List Str := ["_law_rule", "e"]
theorem sc_lf : FnScope ns_lf ["_law_rule"] (defScope s_lf) := ⟨rfl, rfl, rfl, by decide +kernel, rfl, by decide +kernel, by decide +kernel⟩
abbrev ns_lb : List Str := ["_law_best", "_law_weights", "_law_aside", "_law_prices", "_law_lot_here", "_law_due", "_law_k"]
theorem sc_lb : FnScope ns_lb ["_law_best", "_law_weights", "_law_aside", "_law_prices"] (defScope s_lb) := ⟨rfl, rfl, rfl, by decide +kernel, rfl, by decide +kernel, by decide +kernel⟩
abbrev ns_law : List Str := ["_law_script", "_law_d", "_law_many", "_law_row_here", "_law_weights", "_law_aside", "_law_prices", "_law_passed", "_law_rule", "_law_chain", "_law_lots", "_law_lot_here", "_law_total", "_law_due", "_law_one", "_law_two", "_law_refused_here", "_law_ones", "_law_thing"]
theorem sc_law : FnScope ns_law ["_law_script"] (defScope s_law) := ⟨rfl, rfl, rfl, by decide +kernel, rfl, by decide +kernel, by decide +kernel⟩
/-! ### addresses -/
abbrev cR (K : PySem.W.Frag) : Addr := He.ga K "Ratio"
abbrev cU (K : PySem.W.Frag) : Addr := He.ga K "Rule"
abbrev cS (K : PySem.W.Frag) : Addr := He.ga K "Stepping"
abbrev cW (K : PySem.W.Frag) : Addr := He.ga K "Weighted"
abbrev cT (K : PySem.W.Frag) : Addr := He.ga K "TooMany"
abbrev f_RI (K : PySem.W.Frag) : Addr := He.ma K (cR K) "__init__"
abbrev f_RA (K : PySem.W.Frag) : Addr := He.ma K (cR K) "__add__"
abbrev f_RM (K : PySem.W.Frag) : Addr := He.ma K (cR K) "__mul__"
abbrev f_RL (K : PySem.W.Frag) : Addr := He.ma K (cR K) "__lt__"
abbrev f_RG (K : PySem.W.Frag) : Addr := He.ma K (cR K) "__ge__"
abbrev f_RO (K : PySem.W.Frag) : Addr := He.ma K (cR K) "over"
abbrev f_TI (K : PySem.W.Frag) : Addr := He.ma K (cT K) "__init__"
abbrev f_piv (K : PySem.W.Frag) : Addr := He.ga K "pivoted"
abbrev f_sol (K : PySem.W.Frag) : Addr := He.ga K "solve"
abbrev f_cl (K : PySem.W.Frag) : Addr := He.ga K "check_lot"
abbrev f_cp (K : PySem.W.Frag) : Addr := He.ga K "check_prices"
abbrev f_do (K : PySem.W.Frag) : Addr := He.ga K "dearest_order"
abbrev f_UI (K : PySem.W.Frag) : Addr := He.ma K (cU K) "__init__"
abbrev f_US (K : PySem.W.Frag) : Addr := He.ma K (cU K) "shares"
abbrev f_cs (K : PySem.W.Frag) : Addr := He.ga K "check_steps"
abbrev f_SI (K : PySem.W.Frag) : Addr := He.ma K (cS K) "__init__"
abbrev f_ST (K : PySem.W.Frag) : Addr := He.ma K (cS K) "step_total"
abbrev f_SS (K : PySem.W.Frag) : Addr := He.ma K (cS K) "shares"
abbrev f_SV (K : PySem.W.Frag) : Addr := He.ma K (cS K) "values_of"
abbrev f_SO (K : PySem.W.Frag) : Addr := He.ma K (cS K) "onward"
abbrev f_SE (K : PySem.W.Frag) : Addr := He.ma K (cS K) "settled"
abbrev f_SB (K : PySem.W.Frag) : Addr := He.ma K (cS K) "best"
abbrev f_WI (K : PySem.W.Frag) : Addr := He.ma K (cW K) "__init__"
abbrev f_WT (K : PySem.W.Frag) : Addr := He.ma K (cW K) "total_of"
abbrev f_WS (K : PySem.W.Frag) : Addr := He.ma K (cW K) "shares"
abbrev f_WB (K : PySem.W.Frag) : Addr := He.ma K (cW K) "best"
abbrev f_dw (K : PySem.W.Frag) : Addr := He.ga K "dearer_than_worth"
abbrev f_lc (K : PySem.W.Frag) : Addr := He.ga K "_law_cell"
abbrev f_ld (K : PySem.W.Frag) : Addr := He.ga K "_law_draws"
abbrev f_lr (K : PySem.W.Frag) : Addr := He.ga K "_law_row"
abbrev f_lu (K : PySem.W.Frag) : Addr := He.ga K "_law_ups"
abbrev f_ll (K : PySem.W.Frag) : Addr := He.ga K "_law_lot"
abbrev f_li (K : PySem.W.Frag) : Addr := He.ga K "_law_is_int"
abbrev f_ls (K : PySem.W.Frag) : Addr := He.ga K "_law_same"
abbrev f_lt (K : PySem.W.Frag) : Addr := He.ga K "_law_same_lot"
abbrev f_lv (K : PySem.W.Frag) : Addr := He.ga K "_law_same_row"
abbrev f_lw (K : PySem.W.Frag) : Addr := He.ga K "_law_worth"
abbrev f_lk (K : PySem.W.Frag) : Addr := He.ga K "_law_is_like"
abbrev f_lf (K : PySem.W.Frag) : Addr := He.ga K "_law_refused"
abbrev f_lb (K : PySem.W.Frag) : Addr := He.ga K "_law_is_best"
abbrev f_law (K : PySem.W.Frag) : Addr := He.ga K "law"
end K45T
end JK45Text
section JK45Facts
set_option Elab.async false
set_option linter.all false
set_option maxRecDepth 100000
set_option maxHeartbeats 4000000
namespace K45T
open PySem PySem.Spec PyProof.Rows L2 K45R
abbrev CRead_ := ClX.CRead
/-- what the walks ask of the written part and of the module's names -/
structure Fx (K : PySem.W.Frag) (mg : Str → Option Value) : Prop where
  m_len : mg "len" = none
  m_int : mg "int" = none
  m_isinstance : mg "isinstance" = none
  m_bool : mg "bool" = none
  m_list : mg "list" = none
  m_tuple : mg "tuple" = none
  m_zip : mg "zip" = none
  m_range : mg "range" = none
  m_enumerate : mg "enumerate" = none
  m_sum : mg "sum" = none
  m_any : mg "any" = none
  m_sorted : mg "sorted" = none
  m_super : mg "super" = none
  m_ValueError : mg "ValueError" = none
  m_gcd : mg "gcd" = some (.builtin "math.gcd")
  g_Ratio : mg "Ratio" = some (.ref (cR K))
  g_Stepping : mg "Stepping" = some (.ref (cS K))
  g_Weighted : mg "Weighted" = some (.ref (cW K))
  g_TooMany : mg "TooMany" = some (.ref (cT K))
  g_piv : mg "pivoted" = some (.ref (f_piv K))
  g_sol : mg "solve" = some (.ref (f_sol K))
  g_cl : mg "check_lot" = some (.ref (f_cl K))
  g_cp : mg "check_prices" = some (.ref (f_cp K))
  g_do : mg "dearest_order" = some (.ref (f_do K))
  g_cs : mg "check_steps" = some (.ref (f_cs K))
  g_dw : mg "dearer_than_worth" = some (.ref (f_dw K))
  g_lc : mg "_law_cell" = some (.ref (f_lc K))
  g_ld : mg "_law_draws" = some (.ref (f_ld K))
  g_lr : mg "_law_row" = some (.ref (f_lr K))
  g_lu : mg "_law_ups" = some (.ref (f_lu K))
  g_ll : mg "_law_lot" = some (.ref (f_ll K))
  g_li : mg "_law_is_int" = some (.ref (f_li K))
  g_ls : mg "_law_same" = some (.ref (f_ls K))
  g_lt : mg "_law_same_lot" = some (.ref (f_lt K))
  g_lv : mg "_law_same_row" = some (.ref (f_lv K))
  g_lw : mg "_law_worth" = some (.ref (f_lw K))
  g_lk : mg "_law_is_like" = some (.ref (f_lk K))
  g_lf : mg "_law_refused" = some (.ref (f_lf K))
  g_lb : mg "_law_is_best" = some (.ref (f_lb K))
  c_Ratio : Cls K (cR K)
  n_Ratio_top : NoAttr K (cR K) "top"
  n_Ratio_bottom : NoAttr K (cR K) "bottom"
  k_Ratio : Mk K (cR K) (f_RI K)
  ic_Ratio : PySem.W.findIn K (.ref (cR K)) "__class__" = some (some (.builtin "object.__class__"))
  io_Ratio : PySem.W.mroIn K (cR K) (.type "object") = some true
  c_Stepping : Cls K (cS K)
  n_Stepping_many : NoAttr K (cS K) "many"
  n_Stepping_first : NoAttr K (cS K) "first"
  n_Stepping_aside : NoAttr K (cS K) "aside"
  n_Stepping_steps : NoAttr K (cS K) "steps"
  n_Stepping_leaves : NoAttr K (cS K) "leaves"
  k_Stepping : Mk K (cS K) (f_SI K)
  ic_Stepping : PySem.W.findIn K (.ref (cS K)) "__class__" = some (some (.builtin "object.__class__"))
  io_Stepping : PySem.W.mroIn K (cS K) (.type "object") = some true
  c_Weighted : Cls K (cW K)
  n_Weighted_many : NoAttr K (cW K) "many"
  n_Weighted_weights : NoAttr K (cW K) "weights"
  n_Weighted_aside : NoAttr K (cW K) "aside"
  k_Weighted : Mk K (cW K) (f_WI K)
  ic_Weighted : PySem.W.findIn K (.ref (cW K)) "__class__" = some (some (.builtin "object.__class__"))
  io_Weighted : PySem.W.mroIn K (cW K) (.type "object") = some true
  i_get : PySem.W.specialIn K (.builtin "object.__class__") "__get__" = some (some (.builtin "getset_descriptor.__get__"))
  i_tk : PySem.W.takesIn K (.builtin "object.__class__") = some true
  q_Ri : PySem.W.kitOne K (.ref (cR K)) (.type "int") = some false
  q_RR : PySem.W.kitOne K (.ref (cR K)) (.ref (cR K)) = some true
  q_SS : PySem.W.kitOne K (.ref (cS K)) (.ref (cS K)) = some true
  t_RA : Meth K (cR K) "__add__" (f_RA K)
  t_RM : Meth K (cR K) "__mul__" (f_RM K)
  t_RL : Meth K (cR K) "__lt__" (f_RL K)
  t_RG : Meth K (cR K) "__ge__" (f_RG K)
  t_RO : Meth K (cR K) "over" (f_RO K)
  t_ST : Meth K (cS K) "step_total" (f_ST K)
  t_SS : Meth K (cS K) "shares" (f_SS K)
  t_SV : Meth K (cS K) "values_of" (f_SV K)
  t_SO : Meth K (cS K) "onward" (f_SO K)
  t_SE : Meth K (cS K) "settled" (f_SE K)
  t_SB : Meth K (cS K) "best" (f_SB K)
  t_WT : Meth K (cW K) "total_of" (f_WT K)
  t_WS : Meth K (cW K) "shares" (f_WS K)
  t_WB : Meth K (cW K) "best" (f_WB K)
  o_first : PySem.W.selfFirst K (cR K) = true
  o_radd : ∃ rc, PySem.W.findIn K (.ref (cR K)) "__radd__" = some rc ∧ (rc = none ∨ ∃ g : Addr, rc = some (.ref g))
  o_rmul : ∃ rc, PySem.W.findIn K (.ref (cR K)) "__rmul__" = some rc ∧ (rc = none ∨ ∃ g : Addr, rc = some (.ref g))
  o_iadd : ∃ fo, PySem.W.findIn K (.type "int") "__add__" = some fo
  o_iradd : ∃ fo, PySem.W.findIn K (.type "int") "__radd__" = some fo
  o_imul : ∃ fo, PySem.W.findIn K (.type "int") "__mul__" = some fo
  o_irmul : ∃ fo, PySem.W.findIn K (.type "int") "__rmul__" = some fo
  o_sub : PySem.W.subIn K (.type "int") (.ref (cR K)) = some false
  o_not : PySem.W.notFirst K (cR K) (.type "int") = true
  most_S : ∃ u, Con K (cS K) "MOST" (.int 8) u
  most_W : ∃ u, Con K (cW K) "MOST" (.int 24) u
  d_RI : ∃ fd, FunD K "__init__" "Ratio.__init__" (defArgs s_RI) (defBody s_RI) (defScope s_RI) [.int 1] [] (f_RI K) fd
  d_RA : ∃ fd, FunD K "__add__" "Ratio.__add__" (defArgs s_RA) (defBody s_RA) (defScope s_RA) [] [] (f_RA K) fd
  d_RM : ∃ fd, FunD K "__mul__" "Ratio.__mul__" (defArgs s_RM) (defBody s_RM) (defScope s_RM) [] [] (f_RM K) fd
  d_RL : ∃ fd, FunD K "__lt__" "Ratio.__lt__" (defArgs s_RL) (defBody s_RL) (defScope s_RL) [] [] (f_RL K) fd
  d_RG : ∃ fd, FunD K "__ge__" "Ratio.__ge__" (defArgs s_RG) (defBody s_RG) (defScope s_RG) [] [] (f_RG K) fd
  d_RO : ∃ fd, FunD K "over" "Ratio.over" (defArgs s_RO) (defBody s_RO) (defScope s_RO) [] [] (f_RO K) fd
  d_TI : ∃ cc cda file fd, FunS K "__init__" "TooMany.__init__" s_TI (f_TI K) cc cda (cT K) file fd ∧ ((PySem.Challenge.pw_dearestshelf_k45_whole_like_weights.main.file : Str) == file) = true ∧ PySem.W.clsIn K (cT K) ≠ none
  d_piv : ∃ fd, FunD K "pivoted" "pivoted" (defArgs s_piv) (defBody s_piv) (defScope s_piv) [] [] (f_piv K) fd
  d_sol : ∃ fd, FunD K "solve" "solve" (defArgs s_sol) (defBody s_sol) (defScope s_sol) [] [] (f_sol K) fd
  d_cl : ∃ fd, FunD K "check_lot" "check_lot" (defArgs s_cl) (defBody s_cl) (defScope s_cl) [] [] (f_cl K) fd
  d_cp : ∃ fd, FunD K "check_prices" "check_prices" (defArgs s_cp) (defBody s_cp) (defScope s_cp) [] [] (f_cp K) fd
  d_do : ∃ fd, FunD K "dearest_order" "dearest_order" (defArgs s_do) (defBody s_do) (defScope s_do) [] [] (f_do K) fd
  d_UI : ∃ fd, FunD K "__init__" "Rule.__init__" (defArgs s_UI) (defBody s_UI) (defScope s_UI) [] [] (f_UI K) fd
  d_US : ∃ fd, FunD K "shares" "Rule.shares" (defArgs s_US) (defBody s_US) (defScope s_US) [] [] (f_US K) fd
  d_cs : ∃ fd, FunD K "check_steps" "check_steps" (defArgs s_cs) (defBody s_cs) (defScope s_cs) [] [] (f_cs K) fd
  d_SI : ∃ cc cda file fd, FunS K "__init__" "Stepping.__init__" s_SI (f_SI K) cc cda (cS K) file fd ∧ ((PySem.Challenge.pw_dearestshelf_k45_whole_like_weights.main.file : Str) == file) = true ∧ PySem.W.clsIn K (cS K) ≠ none
  d_ST : ∃ fd, FunD K "step_total" "Stepping.step_total" (defArgs s_ST) (defBody s_ST) (defScope s_ST) [] [] (f_ST K) fd
  d_SS : ∃ cc cda file fd, FunS K "shares" "Stepping.shares" s_SS (f_SS K) cc cda (cS K) file fd ∧ ((PySem.Challenge.pw_dearestshelf_k45_whole_like_weights.main.file : Str) == file) = true ∧ PySem.W.clsIn K (cS K) ≠ none
  d_SV : ∃ fd, FunD K "values_of" "Stepping.values_of" (defArgs s_SV) (defBody s_SV) (defScope s_SV) [] [] (f_SV K) fd
  d_SO : ∃ fd, FunD K "onward" "Stepping.onward" (defArgs s_SO) (defBody s_SO) (defScope s_SO) [] [] (f_SO K) fd
  d_SE : ∃ fd, FunD K "settled" "Stepping.settled" (defArgs s_SE) (defBody s_SE) (defScope s_SE) [] [] (f_SE K) fd
  d_SB : ∃ fd, FunD K "best" "Stepping.best" (defArgs s_SB) (defBody s_SB) (defScope s_SB) [] [] (f_SB K) fd
  d_SL : ∃ mc p g fd, CRead_ K (cS K) mc ∧ ClX.CMet K (cS K) mc "like" p g ∧ FunD K "like" "Stepping.like" (defArgs s_SL) (defBody s_SL) (defScope s_SL) [] [] g fd
  d_WI : ∃ cc cda file fd, FunS K "__init__" "Weighted.__init__" s_WI (f_WI K) cc cda (cW K) file fd ∧ ((PySem.Challenge.pw_dearestshelf_k45_whole_like_weights.main.file : Str) == file) = true ∧ PySem.W.clsIn K (cW K) ≠ none
  d_WT : ∃ fd, FunD K "total_of" "Weighted.total_of" (defArgs s_WT) (defBody s_WT) (defScope s_WT) [] [] (f_WT K) fd
  d_WS : ∃ cc cda file fd, FunS K "shares" "Weighted.shares" s_WS (f_WS K) cc cda (cW K) file fd ∧ ((PySem.Challenge.pw_dearestshelf_k45_whole_like_weights.main.file : Str) == file) = true ∧ PySem.W.clsIn K (cW K) ≠ none
  d_WB : ∃ fd, FunD K "best" "Weighted.best" (defArgs s_WB) (defBody s_WB) (defScope s_WB) [] [] (f_WB K) fd
  d_dw : ∃ fd, FunD K "dearer_than_worth" "dearer_than_worth" (defArgs s_dw) (defBody s_dw) (defScope s_dw) [] [] (f_dw K) fd
  d_lc : ∃ fd, FunD K "_law_cell" "_law_cell" (defArgs s_lc) (defBody s_lc) (defScope s_lc) [] [] (f_lc K) fd
  d_ld : ∃ fd, FunD K "_law_draws" "_law_draws" (defArgs s_ld) (defBody s_ld) (defScope s_ld) [] [] (f_ld K) fd
  d_lr : ∃ fd, FunD K "_law_row" "_law_row" (defArgs s_lr) (defBody s_lr) (defScope s_lr) [] [] (f_lr K) fd
  d_lu : ∃ fd, FunD K "_law_ups" "_law_ups" (defArgs s_lu) (defBody s_lu) (defScope s_lu) [] [] (f_lu K) fd
  d_ll : ∃ fd, FunD K "_law_lot" "_law_lot" (defArgs s_ll) (defBody s_ll) (defScope s_ll) [] [] (f_ll K) fd
  d_li : ∃ fd, FunD K "_law_is_int" "_law_is_int" (defArgs s_li) (defBody s_li) (defScope s_li) [] [] (f_li K) fd
  d_ls : ∃ fd, FunD K "_law_same" "_law_same" (defArgs s_ls) (defBody s_ls) (defScope s_ls) [] [] (f_ls K) fd
  d_lt : ∃ fd, FunD K "_law_same_lot" "_law_same_lot" (defArgs s_lt) (defBody s_lt) (defScope s_lt) [] [] (f_lt K) fd
  d_lv : ∃ fd, FunD K "_law_same_row" "_law_same_row" (defArgs s_lv) (defBody s_lv) (defScope s_lv) [] [] (f_lv K) fd
  d_lw : ∃ fd, FunD K "_law_worth" "_law_worth" (defArgs s_lw) (defBody s_lw) (defScope s_lw) [] [] (f_lw K) fd
  d_lk : ∃ fd, FunD K "_law_is_like" "_law_is_like" (defArgs s_lk) (defBody s_lk) (defScope s_lk) [] [] (f_lk K) fd
  d_lf : ∃ fd, FunD K "_law_refused" "_law_refused" (defArgs s_lf) (defBody s_lf) (defScope s_lf) [] [] (f_lf K) fd
  d_lb : ∃ fd, FunD K "_law_is_best" "_law_is_best" (defArgs s_lb) (defBody s_lb) (defScope s_lb) [] [] (f_lb K) fd
  d_law : ∃ fd, FunD K "law" "law" (defArgs s_law) (defBody s_law) (defScope s_law) [] [] (f_law K) fd
  u_SI : SupM K (cS K) (cS K) "__init__" (f_UI K)
  u_WI : SupM K (cW K) (cW K) "__init__" (f_UI K)
  u_SS : SupM K (cS K) (cS K) "shares" (f_US K)
  u_WS : SupM K (cW K) (cW K) "shares" (f_US K)
  x_T : SupX K (cT K) (cT K)
  x_ini : PySem.W.findIn K (.ref (cT K)) "__init__" = some (some (.ref (f_TI K)))
  x_ty : PySem.W.typeIn K (.ref (f_TI K)) = some (.type "function")
  x_many : PySem.W.findIn K (.ref (cT K)) "many" = some none
  x_most : PySem.W.findIn K (.ref (cT K)) "most" = some none
  x_f : XfC K (cT K)
  x_em : PySem.W.exmOne K (.ref (cT K)) (.ref (cT K)) = some true
end K45T
end JK45Facts
section JK45Math2
set_option Elab.async false
set_option linter.all false
set_option maxHeartbeats 4000000
namespace K45
/-! ### putting one more into a falling list -/
theorem ins_sorted {p : Nat → Int} {L : List Nat} {x k : Nat} (hk : k ≤ L.length) (hs : L.Pairwise fun a b => p b ≤ p a) (h1 : ∀ j t, k ≤ j → L[j]? = some t → p t < p x) (h2 : ∀ t, k ≠ 0 → L[k - 1]? = some t → p x ≤ p t) :
    (L.take k ++ [x] ++ L.drop k).Pairwise fun a b => p b ≤ p a := by
  have hs' := hs
  rw [← List.take_append_drop k L] at hs'
  obtain ⟨s1, s2, s3⟩ := List.pairwise_append.mp hs'
  have up : ∀ a ∈ L.take k, p x ≤ p a := by
    intro a ha
    obtain ⟨i, hi⟩ := List.mem_iff_getElem?.mp ha
    have hlt : i < (L.take k).length := (List.getElem?_eq_some_iff.mp hi).1
    rw [List.length_take] at hlt
    have hk0 : k ≠ 0 := by omega
    have hiL : L[i]? = some a := by rw [List.getElem?_take_of_lt (by omega)] at hi; exact hi
    have c : k - 1 < L.length := by omega
    have hz : L[k - 1]? = some L[k - 1] := List.getElem?_eq_getElem c
    have pz := h2 _ hk0 hz
    by_cases d : i = k - 1
    · rw [d, hz] at hiL
      cases hiL
      exact pz
    · have q := (List.pairwise_iff_getElem.mp hs) i (k - 1) (by omega) c (by omega)
      have ea : L[i]'(by omega) = a := by
        have := List.getElem?_eq_getElem (l := L) (i := i) (by omega)
        rw [hiL] at this
        exact (Option.some.inj this).symm
      rw [ea] at q
      omega
  have dn : ∀ b ∈ L.drop k, p b < p x := by
    intro b hb
    obtain ⟨i, hi⟩ := List.mem_iff_getElem?.mp hb
    rw [List.getElem?_drop] at hi
    exact h1 (k + i) b (by omega) hi
  rw [List.append_assoc]
  refine List.pairwise_append.mpr ⟨s1, ?_, fun a ha b hb => ?_⟩
  · show (x :: L.drop k).Pairwise _
    exact List.pairwise_cons.mpr ⟨fun b hb => by have := dn b hb; omega, s2⟩
  · rcases List.mem_cons.mp (show b ∈ x :: L.drop k from hb) with rfl | hb
    · exact up a ha
    · exact s3 a ha b hb
theorem ins_perm {L : List Nat} {x k n : Nat} (h : L.Perm (List.range n)) (hx : x = n) : (L.take k ++ [x] ++ L.drop k).Perm (List.range (n + 1)) := by
  subst hx
  rw [List.range_succ]
  have a : (L.take k ++ [x] ++ L.drop k).Perm (x :: (L.take k ++ L.drop k)) := by
    rw [List.append_assoc]
    exact List.perm_middle
  rw [List.take_append_drop] at a
  refine a.trans ((List.Perm.cons x h).trans ?_)
  exact (List.perm_append_singleton x (List.range x)).symm
/-! ### prices by places -/
def nth (ps : List Int) (t : Nat) : Int := ps.getD t 0
theorem nth_get {ps : List Int} {t : Nat} (h : t < ps.length) : ps[t]? = some (nth ps t) := by
  unfold nth
  rw [List.getD_eq_getElem?_getD, List.getElem?_eq_getElem h]
  rfl
theorem nth_of {ps : List Int} {t : Nat} {x : Int} (h : ps[t]? = some x) : nth ps t = x := by
  unfold nth
  rw [List.getD_eq_getElem?_getD, h]
  rfl
end K45
namespace K45
/-! ### rows of shares -/
def lotrow (f : Nat → Int) (D : Int) (M : List Nat) (n : Nat) : List (Int × Int) := (List.range n).map fun t => (if t ∈ M then f t else 0, D)
theorem lotrow_len {f : Nat → Int} {D : Int} {M : List Nat} {n : Nat} : (lotrow f D M n).length = n := by simp [lotrow]
theorem lotrow_get {f : Nat → Int} {D : Int} {M : List Nat} {n t : Nat} (h : t < n) : (lotrow f D M n)[t]? = some (if t ∈ M then f t else 0, D) := by
  unfold lotrow
  rw [List.getElem?_map, List.getElem?_range h]
  rfl
theorem lotrow_set {f : Nat → Int} {D : Int} {M : List Nat} {n t : Nat} (h : t < n) : (lotrow f D M n).set t (f t, D) = lotrow f D (M ++ [t]) n := by
  refine List.ext_getElem? fun j => ?_
  by_cases hj : j < n
  · by_cases c : t = j
    · subst c
      rw [List.getElem?_set_self (by rw [lotrow_len]; exact h), lotrow_get h, if_pos (by simp)]
    · rw [List.getElem?_set_ne c, lotrow_get hj, lotrow_get hj]
      have e : (j ∈ M ++ [t]) ↔ j ∈ M := by
        rw [List.mem_append, List.mem_singleton]
        constructor
        · rintro (z | z)
          · exact z
          · exact absurd z.symm c
        · exact .inl
      simp only [e]
  · rw [List.getElem?_eq_none (by rw [List.length_set, lotrow_len]; omega), List.getElem?_eq_none (by rw [lotrow_len]; omega)]
/-! ### the dearest first, by places -/
/-- just the things dearer than what L brings are in L -/
structure Ends_ (w p : Nat → Int) (a : Int) (n : Nat) (L : List Nat) : Prop where
  nd : L.Nodup
  lt : ∀ t ∈ L, t < n
  up : ∀ t ∈ L, bro w p L < p t * tot w a L
  dn : ∀ t, t < n → t ∉ L → p t * tot w a L ≤ bro w p L
theorem ends_fix {w p : Nat → Int} {a : Int} {n : Nat} {L : List Nat} (h : Ends_ w p a n L) : (lotq n (keepq w p a L)).Perm L ∧ Fix w p a n (lotq n (keepq w p a L)) := by
  have pm : (lotq n (keepq w p a L)).Perm L := by
    refine (List.perm_ext_iff_of_nodup lotq_nodup h.nd).mpr fun t => ?_
    rw [lotq_mem]
    constructor
    · rintro ⟨h1, h2⟩
      refine Classical.byContradiction fun c => ?_
      have := h.dn t h1 c
      have : bro w p L < p t * tot w a L := by simpa [keepq] using h2
      omega
    · intro ht
      exact ⟨h.lt t ht, by simpa [keepq] using h.up t ht⟩
  have e1 : bro w p (lotq n (keepq w p a L)) = bro w p L := sm_perm pm
  have e2 : tot w a (lotq n (keepq w p a L)) = tot w a L := by unfold tot; rw [sm_perm pm]
  refine ⟨pm, ?_⟩
  unfold Fix
  refine lotq_congr fun t _ => ?_
  show decide _ = decide _
  rw [e1, e2]
theorem sorted_ints {L0 L1 : List Nat} (h : L1.Perm L0) (s : L1.Pairwise (· < ·)) {ns : List Int} (hp : ns.Perm (L0.map fun t : Nat => (t : Int))) (hs : ns.Pairwise (· ≤ ·)) : ns = L1.map fun t : Nat => (t : Int) := by
  refine List.Perm.eq_of_pairwise (le := fun a b : Int => a ≤ b) (fun a b _ _ h1 h2 => by omega) hs ?_ (hp.trans (h.map _).symm)
  exact List.pairwise_map.mpr (s.imp fun {a b} q => by omega)
end K45
namespace K45
/-! ### rows of two kinds -/
def mixrow (f g : Nat → Int × Int) (M : List Nat) (n : Nat) : List (Int × Int) := (List.range n).map fun t => if t ∈ M then f t else g t
theorem mixrow_len {f g : Nat → Int × Int} {M : List Nat} {n : Nat} : (mixrow f g M n).length = n := by simp [mixrow]
theorem mixrow_get {f g : Nat → Int × Int} {M : List Nat} {n t : Nat} (h : t < n) : (mixrow f g M n)[t]? = some (if t ∈ M then f t else g t) := by
  unfold mixrow
  rw [List.getElem?_map, List.getElem?_range h]
  rfl
theorem mixrow_set {f g : Nat → Int × Int} {M : List Nat} {n t : Nat} (h : t < n) : (mixrow f g M n).set t (f t) = mixrow f g (M ++ [t]) n := by
  refine List.ext_getElem? fun j => ?_
  by_cases hj : j < n
  · by_cases c : t = j
    · subst c
      rw [List.getElem?_set_self (by rw [mixrow_len]; exact h), mixrow_get h, if_pos (by simp)]
    · rw [List.getElem?_set_ne c, mixrow_get hj, mixrow_get hj]
      have e : (j ∈ M ++ [t]) ↔ j ∈ M := by
        rw [List.mem_append, List.mem_singleton]
        constructor
        · rintro (z | z)
          · exact z
          · exact absurd z.symm c
        · exact .inl
      simp only [e]
  · rw [List.getElem?_eq_none (by rw [List.length_set, mixrow_len]; omega), List.getElem?_eq_none (by rw [mixrow_len]; omega)]
/-! ### the equations of stepping buyers -/
/-- the things that are out -/
def outq (n : Nat) (q : Nat → Bool) : List Nat := lotq n fun t => !q t
theorem out_sum (w : Nat → Int) (n : Nat) (q : Nat → Bool) : sm w (List.range n) = sm w (lotq n q) + sm w (outq n q) := sm_split w q (List.range n)
theorem sm_take (w : Nat → Int) (O : List Nat) (k : Nat) (h : k < O.length) : sm w (O.take (k + 1)) = sm w (O.take k) + w (O.getD k 0) := by
  rw [List.take_add_one, List.getElem?_eq_getElem h]
  show sm w (O.take k ++ [O[k]]) = _
  rw [sm_append, sm_one, List.getD_eq_getElem?_getD, List.getElem?_eq_getElem h]
  rfl
theorem ss_take {w : Nat → Int} {u v : Nat → Int} {O : List Nat} (h : ∀ j, j < O.length → u j * v j = w (O.getD j 0)) : ∀ k, k ≤ O.length → SS u v k = sm w (O.take k)
  | 0, _ => by rw [List.take_zero]; rfl
  | k + 1, hk => by
    rw [sm_take w O k (by omega), ← ss_take h k (by omega), ← h k (by omega)]
    rfl
theorem sm_take_le {w : Nat → Int} {O : List Nat} (h : ∀ t ∈ O, 0 ≤ w t) (k : Nat) : sm w (O.take k) ≤ sm w O := by
  have e : sm w O = sm w (O.take k) + sm w (O.drop k) := by rw [← sm_append, List.take_append_drop]
  have := sm_nonneg (f := w) (L := O.drop k) fun t ht => h t (List.mem_of_mem_drop ht)
  omega
section
variable {w : Nat → Int} {a : Int} {n : Nat} {q : Nat → Bool} {u v : Nat → Int} {b : Int}
/-- T - S: what stands -/
theorem tot_out : tot w a (List.range n) - sm w (outq n q) = tot w a (lotq n q) := by
  unfold tot
  rw [out_sum w n q]
  omega
theorem good_out (w1 : ∀ t, t < n → 1 ≤ w t) (a1 : 1 ≤ a) (h : ∀ j, j < (outq n q).length → u j * v j = w ((outq n q).getD j 0)) : Good (tot w a (List.range n)) u v (outq n q).length := by
  have w0 : ∀ t ∈ outq n q, 0 ≤ w t := fun t ht => by have := w1 t (lotq_mem.mp ht).1; omega
  have e := out_sum w n q
  have l0 : 0 ≤ sm w (lotq n q) := sm_nonneg fun t ht => by have := w1 t (lotq_mem.mp ht).1; omega
  have o0 : 0 ≤ sm w (outq n q) := sm_nonneg w0
  refine ⟨fun k hk => ?_, ?_⟩
  · rw [ss_take h k hk]
    have := sm_take_le w0 k
    unfold tot
    omega
  · unfold tot
    omega
theorem ss_out (h : ∀ j, j < (outq n q).length → u j * v j = w ((outq n q).getD j 0)) : tot w a (List.range n) - SS u v (outq n q).length = tot w a (lotq n q) := by
  rw [ss_take h _ (Nat.le_refl _), List.take_length]
  exact tot_out
theorem sized_out (w1 : ∀ t, t < n → 1 ≤ w t) (a1 : 1 ≤ a) (h : ∀ j, j < (outq n q).length → u j * v j = w ((outq n q).getD j 0)) (bt : Bd 70 (tot w a (List.range n))) (bb : Bd 200 b) (bu : ∀ i, Bd 70 (u i)) (bv : ∀ i, Bd 70 (v i)) (n8 : n ≤ 8) :
    Sized (tot w a (List.range n)) b u v (outq n q).length := by
  refine ⟨bt, bb, fun i _ => bu i, fun i _ => bv i, fun k hk => ?_, Nat.le_trans lotq_len n8⟩
  have g := good_out (a := a) w1 a1 h
  have s0 : 0 ≤ SS u v k := by
    rw [ss_take h k hk]
    exact sm_nonneg fun t ht => by have := w1 t (lotq_mem.mp (List.mem_of_mem_take ht)).1; omega
  have := g.pos k hk
  exact .of_le (by omega) (show tot w a (List.range n) - SS u v k ≤ tot w a (List.range n) by omega) bt
end
theorem outq_nodup {n : Nat} {q : Nat → Bool} : (outq n q).Nodup := lotq_nodup
theorem outq_mem {n : Nat} {q : Nat → Bool} {t : Nat} : t ∈ outq n q ↔ t < n ∧ q t = false := by
  unfold outq
  rw [lotq_mem]
  simp
theorem getD_of {O : List Nat} {i t : Nat} (h : O[i]? = some t) : O.getD i 0 = t := by rw [List.getD_eq_getElem?_getD, h]; rfl
theorem nodup_at {O : List Nat} (h : O.Nodup) {i j t : Nat} (hi : O[i]? = some t) (hj : O[j]? = some t) : i = j := by
  have li := (List.getElem?_eq_some_iff.mp hi).1
  have lj := (List.getElem?_eq_some_iff.mp hj).1
  rcases Nat.lt_trichotomy i j with c | c | c
  · have := List.pairwise_iff_getElem.mp h i j li lj c
    exact absurd ((List.getElem?_eq_some_iff.mp hi).2.trans (List.getElem?_eq_some_iff.mp hj).2.symm) this
  · exact c
  · have := List.pairwise_iff_getElem.mp h j i lj li c
    exact absurd ((List.getElem?_eq_some_iff.mp hj).2.trans (List.getElem?_eq_some_iff.mp hi).2.symm) this
theorem lotq_succ {n : Nat} {q : Nat → Bool} : lotq (n + 1) q = if q n = true then lotq n q ++ [n] else lotq n q := by
  unfold lotq
  rw [List.range_succ, List.filter_append]
  by_cases h : q n = true
  · rw [if_pos h, List.filter_cons_of_pos h]
    rfl
  · rw [if_neg h, List.filter_cons_of_neg h]
    simp
end K45
namespace K45
theorem ent0 {T b : Int} {u v : Nat → Int} {m i j : Nat} (h : j < m) : ent T b u v m 0 i j = if j = i then T - u i * v i else -(u i * v j) := by
  unfold ent
  rw [if_neg (by omega), if_neg (by omega), if_neg (by omega), Int.pow_zero, Int.one_mul, Int.one_mul]
  by_cases c : j = i
  · subst c
    rw [if_pos rfl, if_pos rfl]
    show T - 0 - _ = _
    omega
  · rw [if_neg c, if_neg c]
    omega
end K45
end JK45Math2
section JK45Ratio
set_option Elab.async false
set_option linter.all false
set_option maxRecDepth 100000
set_option maxHeartbeats 4000000
namespace K45W
open PySem PySem.Spec PyProof.Rows L2 K45R K45T K45
/-! ### a def as its callers see it -/
def OkD (P : Program) (w : World) (K : PySem.W.Frag) (mg : Str → Option Value) (base : Heap) (k : Nat) (f : Addr) (ps : List Str) (dvs : List V) (sp : Sp) : Prop :=
  (∃ fd ds, FnOk P w K mg base CX0 k f fd ps sp ∧ Binds K fd ps ds ∧ Vals dvs ds) ∧ PySem.W.keepIn K (.ref f) = true
section
variable {P : Program} {w : World} {K : PySem.W.Frag} {mg : Str → Option Value} {base : Heap} {j k : Nat} {f : Addr} {ps : List Str} {dvs : List V} {sp sp' : Sp}
theorem OkD.mono (h : OkD P w K mg base j f ps dvs sp) (l : j ≤ k) : OkD P w K mg base k f ps dvs sp := by
  obtain ⟨⟨fd, ds, F, b, d⟩, kp⟩ := h
  exact ⟨⟨fd, ds, F.mono l, b, d⟩, kp⟩
theorem OkD.raw (h : OkD P w K mg base j f ps dvs sp) : FnR P w K mg base CX0 j f (fun vs H Q E => sp (vs ++ dvs) H Q E) := by
  obtain ⟨⟨fd, ds, F, b, d⟩, kp⟩ := h
  exact F.raw b d
theorem OkD.raw0 (h : OkD P w K mg base j f ps [] sp) : FnR P w K mg base CX0 j f sp := by
  have z := h.raw
  have e : (fun (vs : List V) (H : Hp) (Q : VK) (E : XK) => sp (vs ++ []) H Q E) = sp := by
    funext vs H Q E
    rw [List.append_nil]
  rw [e] at z
  exact z
/-- a def without closure: its walk -/
theorem okF {x qual : Str} {st : Stmt} {N : List Str} (F : ∃ fd, FunD K x qual (defArgs st) (defBody st) (defScope st) [] [] f fd) (S : FnScope N ps (defScope st)) (hb : ∀ (kV doc pm : Value) (an : Option Addr) (cdv ct : Value) (us : List Value), us.length = ps.length → bindArgs (PySem.W.fnOf x qual (defArgs st) (defBody st) (defScope st) .none kV doc pm an cdv ct) ⟨us, []⟩ = pure (ps.zip us))
    (len : ∀ vs H Q E, sp vs H Q E → vs.length = ps.length)
    (hbody : ∀ (cdv : Value) (A : Around) (outer : List Env) (s : Shared) (H : Hp) (vs : List V) (Q : VK) (E : XK), Room k (A.deeper (envOfC qual (defScope st) s.heap.objs.size f cdv)) → sp vs H Q E →
      ∃ t, PSs (cxOf CX0 P w K mg base N qual (defScope st) f cdv A outer s H E).nox (defBody st) t ∧ t { nx := fun _ H' => Q .non H', rt := Q } (start N vs) H) : OkD P w K mg base (k + 1) f ps [] sp := by
  obtain ⟨fd, F⟩ := F
  refine ⟨⟨fd, [], F.ok S len fun cdv A outer s H vs Q E hr h => ?_, F.bindsN hb, .nil⟩, F.kp⟩
  obtain ⟨t, ht, q⟩ := hbody cdv A outer s H vs Q E hr h
  exact ⟨t, ht.nox, q⟩
end
theorem same_upd {H : Hp} {p : Addr} {o : HO} (h : H p = none) : Same H (upd H p o) := fun b x e => by
  rw [upd_ne (ne_of_none e h)]
  exact e
/-! ### ratios -/
theorem ktb : ¬ (("bottom" : Str) = "top") := by decide +kernel
def rF (n d : Int) : List (Str × V) := [("top", .int (rT n d)), ("bottom", .int (rB n d))]
theorem lk_cons {f g : Str} {y : V} {l : List (Str × V)} : ((f, y) :: l).lookup g = if g = f then some y else l.lookup g := lookup_put f g y l
theorem rF_top (n d : Int) : (rF n d).lookup ("top" : Str) = some (.int (rT n d)) := by unfold rF; rw [lk_cons, if_pos rfl]
theorem rF_bot (n d : Int) : (rF n d).lookup ("bottom" : Str) = some (.int (rB n d)) := by unfold rF; rw [lk_cons, if_neg ktb, lk_cons, if_pos rfl]
theorem rF_no (n d : Int) {m : Str} (h1 : ¬ m = "top") (h2 : ¬ m = "bottom") : (rF n d).lookup m = none := by unfold rF; rw [lk_cons, if_neg h1, lk_cons, if_neg h2]; rfl
structure RatAt (C : Addr) (H : Hp) (v : V) (n d : Int) : Prop where
  ex : ∃ a dx, v = .ref a ∧ H a = some (.ins C dx (rF n d))
  pos : 0 < d
theorem RatAt.same {C : Addr} {H H' : Hp} {v : V} {n d : Int} (s : Same H H') (r : RatAt C H v n d) : RatAt C H' v n d := by
  obtain ⟨⟨a, dx, e, h⟩, p⟩ := r
  exact ⟨⟨a, dx, e, s _ _ h⟩, p⟩
theorem RatAt.eq {C : Addr} {H : Hp} {v : V} {n d n' d' : Int} (r : RatAt C H v n d) (p : 0 < d') (e : n * d' = n' * d) : RatAt C H v n' d' := by
  obtain ⟨⟨a, dx, ev, h⟩, q⟩ := r
  obtain ⟨e1, e2⟩ := r_eq q p e
  refine ⟨⟨a, dx, ev, ?_⟩, p⟩
  unfold rF at *
  rw [e1, e2] at h
  exact h
/-! ### Ratio(top, bottom) -/
def sp_RI (C : Addr) : Sp := fun vs H Q _ => ∃ (x dx : Addr) (n d : Int), vs = [.ref x, .int n, .int d] ∧ H x = some (.ins C dx []) ∧ 0 < d ∧ Bd 8000 n ∧ Bd 8000 d ∧
  ∀ H', (∀ b o, b ≠ x → H b = some o → H' b = some o) → H' x = some (.ins C dx (rF n d)) → Q .non H'
section
variable {P : Program} {w : World} {K : PySem.W.Frag} {mg : Str → Option Value} {base : Heap}
theorem rg_bd {n d : Int} (h : 0 < d) (hb : Bd 8000 d) : Bd 8000 (rg n d) := by
  have h1 : (rg n d).natAbs ≤ d.natAbs := by
    unfold rg
    rw [Int.natAbs_natCast]
    exact Nat.le_of_dvd (by omega) (Nat.gcd_dvd_right _ _)
  exact Nat.lt_of_le_of_lt h1 hb
theorem ok_RI (T : Fx K mg) : ∀ dvs, (dvs = [] ∨ dvs = [.int 1]) → OkD P w K mg base 1 (f_RI K) ["self", "top", "bottom"] dvs (sp_RI (cR K)) := by
  intro dvs hdv
  obtain ⟨fd, F⟩ := T.d_RI
  have W : FnOk P w K mg base CX0 1 (f_RI K) fd ["self", "top", "bottom"] (sp_RI (cR K)) := by
    refine F.ok sc_RI (fun vs H Q E h => ?_) (fun cdv A outer s H vs Q E hr h => ?_)
    · obtain ⟨x, dx, n, d, rfl, _⟩ := h
      rfl
    · obtain ⟨x, dx, n, d, rfl, hx, hd, bn, bd, q⟩ := h
      refine ⟨_, PSs.nox (pss_cons (ps_if (pt_cmpR op_eq (pv 2) pe_int (nomark _)) pss_never pss_nil)
        (pss_cons (ps_if (pt_cmpR op_lt (pv 2) pe_int (nomark _)) pss_never pss_nil)
        (pss_cons (ps_set (i := 3) sc_RI.nd rfl (.inl rfl) (pe_callBfun cr_gcd (by rfl) T.m_gcd (pa_cons (pv 1) (pa_cons (pv 2) pa_nil))))
        (pss_cons (ps_fld (pv 0) (pe_op op_fdivW (pv 1) (pv 3)) rfl)
        (pss_one (ps_fld (pv 0) (pe_op op_fdivW (pv 2) (pv 3)) rfl)))))), ?_⟩
      have ne : ¬ (V.int d = V.int 0) := fun e => by cases e; omega
      refine ⟨_, rfl, rfl, _, rfl, ?_⟩
      rw [decide_eq_false ne]
      refine iteF ?_
      refine ⟨_, rfl, _, _, rfl, rfl, _, rfl, ?_⟩
      rw [decide_eq_false (show ¬ d < 0 by omega)]
      refine iteF ?_
      refine ⟨_, rfl, _, rfl, n, d, rfl, ?_⟩
      have gp := rg_pos (n := n) hd
      have gb := rg_bd (n := n) hd bd
      refine ⟨_, rfl, _, rfl, n, rg n d, rfl, rfl, wide_div gp gb (by decide) (by decide), _, rfl, x, cR K, dx, [], rfl, hx, T.c_Ratio, T.n_Ratio_top, (by show 0 < 1000; decide), ?_⟩
      refine ⟨_, rfl, _, rfl, d, rg n d, rfl, rfl, wide_div gp gb (by decide) (by decide), _, rfl, x, cR K, dx, _, rfl, upd_same, T.c_Ratio, T.n_Ratio_bottom, (by show 1 < 1000; decide), ?_⟩
      refine q _ (fun b o nb e => ?_) ?_
      · rw [upd_ne nb, upd_ne nb]
        exact e
      · rw [upd_same]
        have e : putF "bottom" (.int (d / rg n d)) (putF "top" (.int (n / rg n d)) []) = rF n d := by
          show (if ("top" : Str) = "bottom" then _ else _) = _
          rw [if_neg (fun e => ktb e.symm)]
          rfl
        rw [← e]
  refine ⟨?_, F.kp⟩
  rcases hdv with rfl | rfl
  · obtain ⟨ds, r, b⟩ := F.binds1 (ps := ["self", "top", "bottom"]) 3 1 (by simp) rfl fun T kV doc pm an cdv ct us its h1 h2 => match us, h1, its, h2 with | [_, _, _], _, [_], _ => ⟨_, rfl, rfl⟩
    exact ⟨fd, ds, W, b, r⟩
  · obtain ⟨ds, r, b⟩ := F.binds1 (ps := ["self", "top", "bottom"]) 2 0 (by simp) rfl fun T kV doc pm an cdv ct us its h1 h2 => match us, h1, its, h2 with | [_, _], _, [_], _ => ⟨_, rfl, rfl⟩
    exact ⟨fd, ds, W, b, r⟩
end
end K45W
end JK45Ratio
section JK45Rops
set_option Elab.async false
set_option linter.all false
set_option maxRecDepth 100000
set_option maxHeartbeats 4000000
namespace K45W
open PySem PySem.Spec PyProof.Rows L2 K45R K45T K45
theorem mk_same {H : Hp} {x dx : Addr} {C : Addr} {fs : List (Str × V)} (hx : H x = none) (hdx : H dx = none) : Same H (upd (upd H dx (.own x)) x (.ins C dx fs)) := fun b o e => by
  rw [upd_ne (ne_of_none e hx), upd_ne (ne_of_none e hdx)]
  exact e
/-- Ratio(n, d) made -/
theorem mk_rat {C : Addr} {H : Hp} {Q : VK} {E : XK} {n d : Int} (h : 0 < d) (bn : Bd 8000 n) (bd : Bd 8000 d) (q : ∀ v H', Same H H' → RatAt C H' v n d → Q v H') (x dx : Addr) (hx : H x = none) (hdx : H dx = none) (ne : dx ≠ x) :
    sp_RI C [.ref x, .int n, .int d] (upd (upd H dx (.own x)) x (.ins C dx [])) (fun v H2 => v = .non ∧ Q (.ref x) H2) E := by
  refine ⟨x, dx, n, d, rfl, upd_same, h, bn, bd, fun H' k e => ⟨rfl, q _ _ (fun b o eb => ?_) ⟨⟨x, dx, rfl, e⟩, h⟩⟩⟩
  exact k b o (ne_of_none eb hx) (mk_same hx hdx b o eb)
theorem made_rat {C x dx : Addr} {H H' : Hp} {n d : Int} (hx : H x = none) (hdx : H dx = none) (h : 0 < d) (k : ∀ b o, b ≠ x → (upd (upd H dx (.own x)) x (.ins C dx [])) b = some o → H' b = some o) (e : H' x = some (.ins C dx (rF n d))) : Same H H' ∧ RatAt C H' (.ref x) n d :=
  ⟨fun b o eb => k b o (ne_of_none eb hx) (mk_same hx hdx b o eb), ⟨x, dx, rfl, e⟩, h⟩
/-- the type of a ratio -/
theorem ty_rat {K : PySem.W.Frag} {mg : Str → Option Value} (T : Fx K mg) {H : Hp} {a dx : Addr} {n d : Int} (e : H a = some (.ins (cR K) dx (rF n d))) : TyX K H (.ref a) (.ref (cR K)) := .base (.ins e T.c_Ratio T.ic_Ratio T.i_get T.i_tk T.io_Ratio)
def sp_bin (C : Addr) (R : Int → Int → Int → Int → Int × Int) : Sp := fun vs H Q _ => ∃ (x y : V) (n d n' d' : Int), vs = [x, y] ∧ RatAt C H x n d ∧ RatAt C H y n' d' ∧ Bd 3000 n ∧ Bd 3000 d ∧ Bd 3000 n' ∧ Bd 3000 d' ∧ ∀ v H', Same H H' → RatAt C H' v (R n d n' d').1 (R n d n' d').2 → Q v H'
def sp_int (C : Addr) (R : Int → Int → Int → Int × Int) : Sp := fun vs H Q _ => ∃ (x : V) (n d i : Int), vs = [x, .int i] ∧ RatAt C H x n d ∧ Bd 3000 n ∧ Bd 3000 d ∧ Bd 3000 i ∧ ∀ v H', Same H H' → RatAt C H' v (R n d i).1 (R n d i).2 → Q v H'
def sp_over (C : Addr) : Sp := fun vs H Q _ => ∃ (x : V) (n d i : Int), vs = [x, .int i] ∧ RatAt C H x n d ∧ Bd 3000 n ∧ Bd 3000 d ∧ 0 < i ∧ Bd 3000 i ∧ ∀ v H', Same H H' → RatAt C H' v n (d * i) → Q v H'
def sp_cmp (C : Addr) (R : Int → Int → Int → Bool) : Sp := fun vs H Q _ => ∃ (x : V) (n d i : Int), vs = [x, .int i] ∧ RatAt C H x n d ∧ Bd 3000 n ∧ Bd 3000 d ∧ Bd 3000 i ∧ Q (.bl (R n d i)) H
/-- what both shapes of + promise -/
def sp_RA (C : Addr) : Sp := fun vs H Q E => sp_bin C (fun n d n' d' => (n * d' + n' * d, d * d')) vs H Q E ∨ sp_int C (fun n d i => (n + i * d, d)) vs H Q E
section
variable {P : Program} {w : World} {K : PySem.W.Frag} {mg : Str → Option Value} {base : Heap}
theorem ok_RA (T : Fx K mg) : OkD P w K mg base 3 (f_RA K) ["self", "other"] [] (sp_RA (cR K)) := by
  obtain ⟨⟨fdI, dsI, GI, bI, dI⟩, kpI⟩ := ok_RI (P := P) (w := w) (base := base) T [] (.inl rfl)
  refine okF T.d_RA sc_RA (fun _ _ _ _ _ _ us hl => match us, hl with | [_, _], _ => rfl) (fun vs H Q E h => ?_) (fun cdv A outer s H vs Q E hr h => ?_)
  · rcases h with ⟨x, y, n, d, n', d', rfl, _⟩ | ⟨x, n, d, i, rfl, _⟩ <;> rfl
  refine ⟨_, pss_cons (ps_if (pt_val (pe_callB call_isi (by rfl) T.m_isinstance boot_isinstance (pa_cons (pv 1) (pa_cons (pe_bltn (v := .ty "int") (by rfl) T.m_int (by decide +kernel) rfl) pa_nil))))
        (pss_one (ps_ret (pe_make T.k_Ratio GI hr (by rfl) T.g_Ratio bI dI pass0 (pa_cons (pe_op op_add (pe_fld (pv 0) rfl) (pe_op op_mulW (pv 1) (pe_fld (pv 0) rfl))) (pa_cons (pe_fld (pv 0) rfl) pa_nil))))) pss_nil)
      (pss_cons (ps_if (pt_not (pt_val (pe_callB call_isi (by rfl) T.m_isinstance boot_isinstance (pa_cons (pv 1) (pa_cons (pe_glob (v := .ref (cR K)) rfl T.g_Ratio rfl) pa_nil))))) pss_never pss_nil)
      (pss_one (ps_ret (pe_make T.k_Ratio GI hr (by rfl) T.g_Ratio bI dI pass0 (pa_cons (pe_op op_add (pe_op op_mulW (pe_fld (pv 0) rfl) (pe_fld (pv 1) rfl)) (pe_op op_mulW (pe_fld (pv 1) rfl) (pe_fld (pv 0) rfl))) (pa_cons (pe_op op_mulW (pe_fld (pv 0) rfl) (pe_fld (pv 1) rfl)) pa_nil)))))), ?_⟩
  rcases h with ⟨x, y, n, d, n', d', rfl, rx, ry, bn, bd, bn', bd', q⟩ | ⟨x, n, d, i, rfl, rx, bn, bd, bi, q⟩
  · obtain ⟨⟨a, dx, rfl, ea⟩, pd⟩ := id rx
    obtain ⟨⟨b, dy, rfl, eb⟩, pd'⟩ := id ry
    refine ⟨_, rfl, _, .ty "int", _, _, false, rfl, .ty "int", ty_rat T eb, T.q_Ri, _, rfl, ?_⟩
    refine iteF ?_
    refine ⟨_, rfl, _, .ref (cR K), _, _, true, rfl, .own _, ty_rat T eb, T.q_RR, _, rfl, ?_⟩
    refine iteF ?_
    have c := T.c_Ratio
    have fa := rF_top n d
    have fa2 := rF_bot n d
    have fb := rF_top n' d'
    have fb2 := rF_bot n' d'
    have b1 := bn.rT pd
    have b2 := bd.rB (n := n) pd
    have b3 := bn'.rT pd'
    have b4 := bd'.rB (n := n') pd'
    refine ⟨_, rfl, a, _, dx, _, _, rfl, ea, c, T.n_Ratio_top, fa, _, rfl, b, _, dy, _, _, rfl, eb, c, T.n_Ratio_bottom, fb2, _, _, rfl, rfl, wide_mul b1 b4 (by decide) (by decide) (by decide), ?_⟩
    refine ⟨_, rfl, b, _, dy, _, _, rfl, eb, c, T.n_Ratio_top, fb, _, rfl, a, _, dx, _, _, rfl, ea, c, T.n_Ratio_bottom, fa2, _, _, rfl, rfl, wide_mul b3 b2 (by decide) (by decide) (by decide), _, _, rfl, rfl, ?_⟩
    refine ⟨_, rfl, a, _, dx, _, _, rfl, ea, c, T.n_Ratio_bottom, fa2, _, rfl, b, _, dy, _, _, rfl, eb, c, T.n_Ratio_bottom, fb2, _, _, rfl, rfl, wide_mul b2 b4 (by decide) (by decide) (by decide), ?_⟩
    obtain ⟨p, e⟩ := r_add (n := n) (n' := n') pd pd'
    exact mk_rat p ((Bd.add (b1.mul b4) (b3.mul b2)).le (by omega)) ((b2.mul b4).le (by omega)) fun v H' s r => q v H' s (r.eq (Int.mul_pos pd pd') e)
  · obtain ⟨⟨a, dx, rfl, ea⟩, pd⟩ := id rx
    refine ⟨_, rfl, _, .ty "int", _, _, true, rfl, .ty "int", .base (.int i), kit_ty (by decide +kernel), _, rfl, ?_⟩
    refine iteT ?_
    have c := T.c_Ratio
    have fa := rF_top n d
    have fa2 := rF_bot n d
    have b1 := bn.rT pd
    have b2 := bd.rB (n := n) pd
    refine ⟨_, rfl, a, _, dx, _, _, rfl, ea, c, T.n_Ratio_top, fa, _, rfl, _, rfl, a, _, dx, _, _, rfl, ea, c, T.n_Ratio_bottom, fa2, _, _, rfl, rfl, wide_mul bi b2 (by decide) (by decide) (by decide), _, _, rfl, rfl, ?_⟩
    refine ⟨_, rfl, a, _, dx, _, _, rfl, ea, c, T.n_Ratio_bottom, fa2, ?_⟩
    refine mk_rat (rB_pos pd) ((Bd.add (b1.le (by decide : 3000 ≤ 6000)) (bi.mul b2)).le (by omega)) (b2.le (by omega)) fun v H' s r => q v H' s (r.eq pd ?_)
    have cr := r_cross n d
    grind
theorem ok_RM (T : Fx K mg) : OkD P w K mg base 3 (f_RM K) ["self", "other"] [] (sp_int (cR K) fun n d i => (n * i, d)) := by
  obtain ⟨⟨fdI, dsI, GI, bI, dI⟩, kpI⟩ := ok_RI (P := P) (w := w) (base := base) T [] (.inl rfl)
  refine okF T.d_RM sc_RM (fun _ _ _ _ _ _ us hl => match us, hl with | [_, _], _ => rfl) (fun vs H Q E h => ?_) (fun cdv A outer s H vs Q E hr h => ?_)
  · obtain ⟨x, n, d, i, rfl, _⟩ := h
    rfl
  refine ⟨_, pss_cons (ps_if (pt_val (pe_callB call_isi (by rfl) T.m_isinstance boot_isinstance (pa_cons (pv 1) (pa_cons (pe_bltn (v := .ty "int") (by rfl) T.m_int (by decide +kernel) rfl) pa_nil))))
        (pss_one (ps_ret (pe_make T.k_Ratio GI hr (by rfl) T.g_Ratio bI dI pass0 (pa_cons (pe_op op_mulW (pe_fld (pv 0) rfl) (pv 1)) (pa_cons (pe_fld (pv 0) rfl) pa_nil))))) pss_nil) pss_never, ?_⟩
  obtain ⟨x, n, d, i, rfl, rx, bn, bd, bi, q⟩ := h
  obtain ⟨⟨a, dx, rfl, ea⟩, pd⟩ := id rx
  have b1 := bn.rT pd
  have b2 := bd.rB (n := n) pd
  refine ⟨_, rfl, _, .ty "int", _, _, true, rfl, .ty "int", .base (.int i), kit_ty (by decide +kernel), _, rfl, ?_⟩
  refine iteT ?_
  refine ⟨_, rfl, a, _, dx, _, _, rfl, ea, T.c_Ratio, T.n_Ratio_top, rF_top n d, _, rfl, _, _, rfl, rfl, wide_mul b1 bi (by decide) (by decide) (by decide), ?_⟩
  refine ⟨_, rfl, a, _, dx, _, _, rfl, ea, T.c_Ratio, T.n_Ratio_bottom, rF_bot n d, ?_⟩
  refine mk_rat (rB_pos pd) ((b1.mul bi).le (by omega)) (b2.le (by omega)) fun v H' s r => q v H' s (r.eq pd ?_)
  exact r_mul_int pd
theorem ok_RO (T : Fx K mg) : OkD P w K mg base 3 (f_RO K) ["self", "other"] [] (sp_over (cR K)) := by
  obtain ⟨⟨fdI, dsI, GI, bI, dI⟩, kpI⟩ := ok_RI (P := P) (w := w) (base := base) T [] (.inl rfl)
  refine okF T.d_RO sc_RO (fun _ _ _ _ _ _ us hl => match us, hl with | [_, _], _ => rfl) (fun vs H Q E h => ?_) (fun cdv A outer s H vs Q E hr h => ?_)
  · obtain ⟨x, n, d, i, rfl, _⟩ := h
    rfl
  refine ⟨_, pss_cons (ps_if (pt_val (pe_callB call_isi (by rfl) T.m_isinstance boot_isinstance (pa_cons (pv 1) (pa_cons (pe_bltn (v := .ty "int") (by rfl) T.m_int (by decide +kernel) rfl) pa_nil))))
        (pss_one (ps_ret (pe_make T.k_Ratio GI hr (by rfl) T.g_Ratio bI dI pass0 (pa_cons (pe_fld (pv 0) rfl) (pa_cons (pe_op op_mulW (pe_fld (pv 0) rfl) (pv 1)) pa_nil))))) pss_nil) pss_never, ?_⟩
  obtain ⟨x, n, d, i, rfl, rx, bn, bd, pi, bi, q⟩ := h
  obtain ⟨⟨a, dx, rfl, ea⟩, pd⟩ := id rx
  have b1 := bn.rT pd
  have b2 := bd.rB (n := n) pd
  refine ⟨_, rfl, _, .ty "int", _, _, true, rfl, .ty "int", .base (.int i), kit_ty (by decide +kernel), _, rfl, ?_⟩
  refine iteT ?_
  refine ⟨_, rfl, a, _, dx, _, _, rfl, ea, T.c_Ratio, T.n_Ratio_top, rF_top n d, ?_⟩
  refine ⟨_, rfl, a, _, dx, _, _, rfl, ea, T.c_Ratio, T.n_Ratio_bottom, rF_bot n d, _, rfl, _, _, rfl, rfl, wide_mul b2 bi (by decide) (by decide) (by decide), ?_⟩
  refine mk_rat (Int.mul_pos (rB_pos pd) pi) (b1.le (by omega)) ((b2.mul bi).le (by omega)) fun v H' s r => q v H' s (r.eq (Int.mul_pos pd pi) ?_)
  exact r_over_int pd
theorem ok_RL (T : Fx K mg) : OkD P w K mg base 1 (f_RL K) ["self", "other"] [] (sp_cmp (cR K) fun n d i => decide (n < i * d)) := by
  refine okF T.d_RL sc_RL (fun _ _ _ _ _ _ us hl => match us, hl with | [_, _], _ => rfl) (fun vs H Q E h => ?_) (fun cdv A outer s H vs Q E hr h => ?_)
  · obtain ⟨x, n, d, i, rfl, _⟩ := h
    rfl
  refine ⟨_, pss_cons (ps_if (pt_val (pe_callB call_isi (by rfl) T.m_isinstance boot_isinstance (pa_cons (pv 1) (pa_cons (pe_bltn (v := .ty "int") (by rfl) T.m_int (by decide +kernel) rfl) pa_nil))))
        (pss_one (ps_ret (pe_cmpR op_lt (pe_fld (pv 0) rfl) (pe_op op_mulW (pv 1) (pe_fld (pv 0) rfl)) (nomark _)))) pss_nil) pss_never, ?_⟩
  obtain ⟨x, n, d, i, rfl, rx, bn, bd, bi, q⟩ := h
  obtain ⟨⟨a, dx, rfl, ea⟩, pd⟩ := id rx
  have b2 := bd.rB (n := n) pd
  refine ⟨_, rfl, _, .ty "int", _, _, true, rfl, .ty "int", .base (.int i), kit_ty (by decide +kernel), _, rfl, ?_⟩
  refine iteT ?_
  refine ⟨_, rfl, a, _, dx, _, _, rfl, ea, T.c_Ratio, T.n_Ratio_top, rF_top n d, _, rfl, _, rfl, a, _, dx, _, _, rfl, ea, T.c_Ratio, T.n_Ratio_bottom, rF_bot n d, _, _, rfl, rfl, wide_mul bi b2 (by decide) (by decide) (by decide), _, _, rfl, rfl, ?_⟩
  have e : decide (rT n d < i * rB n d) = decide (n < i * d) := decide_eq_decide.mpr (r_lt_iff pd)
  show Q (.bl (decide (rT n d < i * rB n d))) H
  rw [e]
  exact q
theorem ok_RG (T : Fx K mg) : OkD P w K mg base 1 (f_RG K) ["self", "other"] [] (sp_cmp (cR K) fun n d i => decide (i * d ≤ n)) := by
  refine okF T.d_RG sc_RG (fun _ _ _ _ _ _ us hl => match us, hl with | [_, _], _ => rfl) (fun vs H Q E h => ?_) (fun cdv A outer s H vs Q E hr h => ?_)
  · obtain ⟨x, n, d, i, rfl, _⟩ := h
    rfl
  refine ⟨_, pss_cons (ps_if (pt_val (pe_callB call_isi (by rfl) T.m_isinstance boot_isinstance (pa_cons (pv 1) (pa_cons (pe_bltn (v := .ty "int") (by rfl) T.m_int (by decide +kernel) rfl) pa_nil))))
        (pss_one (ps_ret (pe_cmpR op_ge (pe_fld (pv 0) rfl) (pe_op op_mulW (pv 1) (pe_fld (pv 0) rfl)) (nomark _)))) pss_nil) pss_never, ?_⟩
  obtain ⟨x, n, d, i, rfl, rx, bn, bd, bi, q⟩ := h
  obtain ⟨⟨a, dx, rfl, ea⟩, pd⟩ := id rx
  have b2 := bd.rB (n := n) pd
  refine ⟨_, rfl, _, .ty "int", _, _, true, rfl, .ty "int", .base (.int i), kit_ty (by decide +kernel), _, rfl, ?_⟩
  refine iteT ?_
  refine ⟨_, rfl, a, _, dx, _, _, rfl, ea, T.c_Ratio, T.n_Ratio_top, rF_top n d, _, rfl, _, rfl, a, _, dx, _, _, rfl, ea, T.c_Ratio, T.n_Ratio_bottom, rF_bot n d, _, _, rfl, rfl, wide_mul bi b2 (by decide) (by decide) (by decide), _, _, rfl, rfl, ?_⟩
  have e : decide (i * rB n d ≤ rT n d) = decide (i * d ≤ n) := decide_eq_decide.mpr (r_ge_iff pd)
  show Q (.bl (decide (i * rB n d ≤ rT n d))) H
  rw [e]
  exact q
end
end K45W
end JK45Rops
section JK45Lots
set_option Elab.async false
set_option linter.all false
set_option maxRecDepth 100000
set_option maxHeartbeats 4000000
namespace K45W
open PySem PySem.Spec PyProof.Rows L2 K45R K45T K45
/-! ### lists of numbers, lots -/
def iv (ns : List Int) : List V := ns.map V.int
def tv (L : List Nat) : List V := L.map fun t : Nat => V.int (t : Int)
theorem iv_len (ns : List Int) : (iv ns).length = ns.length := List.length_map ..
theorem tv_len (L : List Nat) : (tv L).length = L.length := List.length_map ..
theorem iv_get {ns : List Int} {i : Nat} {x : Int} (h : ns[i]? = some x) : (iv ns)[i]? = some (.int x) := by unfold iv; rw [List.getElem?_map, h]; rfl
theorem tv_get {L : List Nat} {i t : Nat} (h : L[i]? = some t) : (tv L)[i]? = some (.int (t : Int)) := by unfold tv; rw [List.getElem?_map, h]; rfl
theorem iv_at {ns : List Int} {i : Nat} {v : V} (h : (iv ns)[i]? = some v) : ∃ x, ns[i]? = some x ∧ v = .int x := by
  unfold iv at h
  rw [List.getElem?_map] at h
  cases e : ns[i]? with
  | none => rw [e] at h; cases h
  | some x => rw [e] at h; exact ⟨x, rfl, (Option.some.inj h).symm⟩
theorem tv_at {L : List Nat} {i : Nat} {v : V} (h : (tv L)[i]? = some v) : ∃ t, L[i]? = some t ∧ v = .int (t : Int) := by
  unfold tv at h
  rw [List.getElem?_map] at h
  cases e : L[i]? with
  | none => rw [e] at h; cases h
  | some x => rw [e] at h; exact ⟨x, rfl, (Option.some.inj h).symm⟩
theorem tv_app (L L' : List Nat) : tv (L ++ L') = tv L ++ tv L' := List.map_append
theorem iv_app (L L' : List Int) : iv (L ++ L') = iv L ++ iv L' := List.map_append
theorem sq_l {K : PySem.W.Frag} {H : Hp} {a : Addr} {xs : List V} (h : H a = some (.lst xs)) : SqL K H a xs := .inl (.inl h)
theorem sq_t {K : PySem.W.Frag} {H : Hp} {a : Addr} {xs : List V} (h : H a = some (.tup xs)) : SqT K H a xs := .inl (.inl h)
def sp_cl : Sp := fun vs H Q _ => ∃ (a : Addr) (m : Nat) (L : List Nat), vs = [.ref a, .int (m : Int)] ∧ H a = some (.tup (tv L)) ∧ L.Pairwise (· < ·) ∧ (∀ t ∈ L, t < m) ∧ Q .non H
def sp_cp : Sp := fun vs H Q _ => ∃ (a : Addr) (ps : List Int), vs = [.ref a, .int (ps.length : Int)] ∧ H a = some (.lst (iv ps)) ∧ (∀ p ∈ ps, 0 ≤ p) ∧ ∀ H', Same H H' → Q .non H'
section
variable {P : Program} {w : World} {K : PySem.W.Frag} {mg : Str → Option Value} {base : Heap} {k : Nat}
theorem ok_cl (T : Fx K mg) : OkD P w K mg base 1 (f_cl K) ["lot", "many"] [] sp_cl := by
  refine okF T.d_cl sc_cl (fun _ _ _ _ _ _ us hl => match us, hl with | [_, _], _ => rfl) (fun vs H Q E h => ?_) (fun cdv A outer s H vs Q E hr h => ?_)
  · obtain ⟨a, m, L, rfl, _⟩ := h
    rfl
  obtain ⟨a, m, L, rfl, ha, hs, hm, q⟩ := h
  refine ⟨_, pss_cons (ps_set (i := 2) sc_cl.nd rfl (.inl rfl) (pe_un un_neg pe_int))
    (pss_one (ps_for PassesOwn.never rfl (pi_tup (pv 0)) (pg_name (i := 3) sc_cl.nd rfl (.inl rfl))
      (pss_cons (ps_if (PW.pt (pw_or (pt_cmpR op_le (pv 3) (pv 2) (nomark _)) (pw_or1 (pt_cmpR op_ge (pv 3) (pv 1) (nomark _))))) pss_never pss_nil)
      (pss_one (ps_set (i := 2) sc_cl.nd rfl (.inl rfl) (pv 3)))))), ?_⟩
  refine ⟨1, rfl, _, rfl, a, rfl, ⟨_, sq_t ha⟩, for_it (walk_tup (K := K) (a := a) (xs := tv L)) (fun i σ H' => H' = H ∧ ∃ b v, σ = [some (.ref a), some (.int (m : Int)), some (.int b), v] ∧ ∀ t, L[i]? = some t → b < (t : Int)) ⟨rfl, -1, none, rfl, fun t _ => by omega⟩ (fun i σ H' hi ⟨e, _⟩ => by rw [e]; exact sq_t ha) ?_ ?_⟩
  · rintro i x σ H1 H2 hi ⟨rfl, b, v, rfl, hb⟩ ⟨rfl, hx⟩
    obtain ⟨t, ht, rfl⟩ := tv_at hx
    have h1 := hb t ht
    have h2 := hm t (List.mem_of_getElem? ht)
    refine ⟨_, rfl, _, rfl, _, _, rfl, rfl, _, rfl, ?_⟩
    rw [decide_eq_false (by omega)]
    refine iteF ?_
    refine ⟨_, rfl, _, rfl, _, _, rfl, rfl, _, rfl, ?_⟩
    rw [decide_eq_false (by omega)]
    refine iteF ?_
    refine ⟨_, rfl, rfl, (t : Int), _, rfl, fun t' ht' => ?_⟩
    have hi1 : i < L.length := (List.getElem?_eq_some_iff.mp ht).1
    have hi2 : i + 1 < L.length := (List.getElem?_eq_some_iff.mp ht').1
    have c := List.pairwise_iff_getElem.mp hs i (i + 1) hi1 hi2 (by omega)
    have e1 := (List.getElem?_eq_some_iff.mp ht).2
    have e2 := (List.getElem?_eq_some_iff.mp ht').2
    omega
  · rintro σ H2 ⟨rfl, _⟩
    exact q
theorem ok_cp (T : Fx K mg) : OkD P w K mg base 1 (f_cp K) ["prices", "many"] [] sp_cp := by
  refine okF T.d_cp sc_cp (fun _ _ _ _ _ _ us hl => match us, hl with | [_, _], _ => rfl) (fun vs H Q E h => ?_) (fun cdv A outer s H vs Q E hr h => ?_)
  · obtain ⟨a, ps, rfl, _⟩ := h
    rfl
  obtain ⟨a, ps, rfl, ha, hp, q⟩ := h
  refine ⟨_, pss_cons (ps_if (pt_cmpR op_ne (pe_callB call_len_seq (by rfl) T.m_len PySem.boot_len (pa_cons (pv 0) pa_nil)) (pv 1) (nomark _)) pss_never pss_nil)
    (pss_one (ps_for PassesOwn.never rfl (pi_enum (by rfl) T.m_enumerate (pa_cons (pv 0) pa_nil)) (pg_tup rfl (pgs_cons (pg_name (i := 2) sc_cp.nd rfl (.inl rfl)) (pgs_cons (pg_name (i := 3) sc_cp.nd rfl (.inl rfl)) pgs_nil)))
      (pss_one (ps_if (pt_cmpR op_lt (pv 3) pe_int (nomark _)) pss_never pss_nil)))), ?_⟩
  refine ⟨_, rfl, a, _, rfl, .inl (sq_l ha), _, rfl, rfl, _, rfl, ?_⟩
  rw [iv_len]
  refine iteNS rfl ?_
  refine ⟨_, rfl, a, _, rfl, sq_l ha, for_it (walk_enum (K := K) (a := a) (xs := iv ps)) (fun i σ H' => Same H H' ∧ ∃ v2 v3, σ = [some (.ref a), some (.int (ps.length : Int)), v2, v3]) ⟨.refl _, none, none, rfl⟩ (fun i σ H' hi ⟨s, _⟩ => sq_l (s _ _ ha)) ?_ ?_⟩
  · rintro i x σ H1 H2 hi ⟨s1, v2, v3, rfl⟩ ⟨U, x1, x2, rfl, nU, rfl, e1, e2⟩
    obtain ⟨p, hp2, rfl⟩ := iv_at e2
    have h1 := hp p (List.mem_of_getElem? hp2)
    refine ⟨U, [x1, .int p], rfl, .inl (.inl upd_same), rfl, x1, [.int p], rfl, .int p, [], rfl, rfl, ?_⟩
    refine ⟨_, rfl, _, _, rfl, rfl, _, rfl, ?_⟩
    rw [decide_eq_false (by omega)]
    refine iteF ?_
    exact ⟨s1.trans (same_upd nU), _, _, rfl⟩
  · rintro σ H2 ⟨s2, _⟩
    exact q _ s2
end
end K45W
end JK45Lots
section JK45Order
set_option Elab.async false
set_option linter.all false
set_option maxRecDepth 100000
set_option maxHeartbeats 4000000
namespace K45W
open PySem PySem.Spec PyProof.Rows L2 K45R K45T K45
/-- all things, the dearest first -/
structure Dear (ps : List Int) (n : Nat) (L : List Nat) : Prop where
  perm : L.Perm (List.range n)
  fall : L.Pairwise fun a b => nth ps b ≤ nth ps a
def sp_do : Sp := fun vs H Q _ => ∃ (a : Addr) (ps : List Int), vs = [.ref a] ∧ H a = some (.lst (iv ps)) ∧ ps.length ≤ 900 ∧ ∀ H' t L, Same H H' → H' t = some (.tup (tv L)) → Dear ps ps.length L → Q (.ref t) H'
section
variable {P : Program} {w : World} {K : PySem.W.Frag} {mg : Str → Option Value} {base : Heap} {k : Nat}
theorem ok_do (T : Fx K mg) : OkD P w K mg base 1 (f_do K) ["prices"] [] sp_do := by
  refine okF T.d_do sc_do (fun _ _ _ _ _ _ us hl => match us, hl with | [_], _ => rfl) (fun vs H Q E h => ?_) (fun cdv A outer s H vs Q E hr h => ?_)
  · obtain ⟨a, ps, rfl, _⟩ := h
    rfl
  obtain ⟨a, ps, rfl, ha, hl, q⟩ := h
  refine ⟨_, pss_cons (ps_set (i := 1) sc_do.nd rfl (.inl rfl) (pe_lst pa_nil))
    (pss_cons (ps_for PassesOwn.never rfl (pi_enum (by rfl) T.m_enumerate (pa_cons (pv 0) pa_nil)) (pg_tup rfl (pgs_cons (pg_name (i := 2) sc_do.nd rfl (.inl rfl)) (pgs_cons (pg_name (i := 3) sc_do.nd rfl (.inl rfl)) pgs_nil)))
      (pss_cons (ps_set (i := 4) sc_do.nd rfl (.inl rfl) (pe_callB call_len_seq (by rfl) T.m_len PySem.boot_len (pa_cons (pv 1) pa_nil)))
      (pss_cons (ps_while PassesOwn.never (PW.pt (pw_and (pt_cmpR op_gt (pv 4) pe_int (nomark _)) (pw_and1 (pt_cmpR op_lt (pe_ix ix_list (pv 0) (pe_ix ix_list (pv 1) (pe_op op_sub (pv 4) pe_int) (fun _ _ => rfl)) (fun _ _ => rfl)) (pv 3) (nomark _)))))
        (pss_one (ps_aug (i := 4) sc_do.nd rfl (.inl rfl) pe_int ip_sub)))
      (pss_one (ps_expr (pe_bm PySem.F.plainAttrs_list PySem.F.slot_list_insert PySem.F.type_list_insert mt_insert (pv 1) (pa_cons (pv 4) (pa_cons (pv 2) pa_nil))))))))
    (pss_one (ps_ret (pe_callTy call_tuple_of (by rfl) T.m_tuple (by decide +kernel) (pa_cons (pv 1) pa_nil))))), ?_⟩
  refine ⟨Nat.zero_le _, fun D nD => ?_⟩
  have sD := same_upd (o := HO.lst []) nD
  have naD : a ≠ D := ne_of_none ha nD
  refine ⟨_, rfl, a, _, rfl, sq_l (sD _ _ ha), for_it (walk_enum (K := K) (a := a) (xs := iv ps)) (fun i σ H' => ∃ v2 v3 v4 L, σ = [some (.ref a), some (.ref D), v2, v3, v4] ∧ Same H H' ∧ H' D = some (.lst (tv L)) ∧ Dear ps i L)
    ⟨none, none, none, [], rfl, sD, upd_same, .refl _, List.Pairwise.nil⟩ (fun i σ H' hi ⟨_, _, _, _, _, s, _⟩ => sq_l (s _ _ ha)) ?_ ?_⟩
  · rintro i x σ H1 H2 hi ⟨v2, v3, v4, L, rfl, s1, eD, dL⟩ ⟨U, x1, x2, rfl, nU, rfl, e1, e2⟩
    obtain ⟨p, hp, rfl⟩ := iv_at e2
    cases (show V.int (i : Int) = x1 from Option.some.inj e1)
    rw [iv_len] at hi
    have lL : L.length = i := by rw [dL.perm.length_eq, List.length_range]
    have pi : nth ps i = p := nth_of hp
    have sU : Same H1 (upd H1 U (.tup [.int (i : Int), .int p])) := same_upd nU
    refine ⟨U, [.int (i : Int), .int p], rfl, .inl (.inl upd_same), rfl, .int (i : Int), [.int p], rfl, .int p, [], rfl, rfl, ?_⟩
    have eD2 := sU _ _ eD
    have ea2 := sU _ _ (s1 _ _ ha)
    refine ⟨_, rfl, D, _, rfl, .inl (sq_l eD2), ?_⟩
    rw [tv_len]
    refine ⟨fun m σ H' => H' = upd H1 U (.tup [.int (i : Int), .int p]) ∧ σ = [some (.ref a), some (.ref D), some (.int (i : Int)), some (.int p), some (.int (m : Int))] ∧ m ≤ L.length ∧ ∀ j t, m ≤ j → L[j]? = some t → nth ps t < p,
      ⟨L.length, rfl, rfl, Nat.le_refl _, fun j t hj ht => by rw [List.getElem?_eq_none hj] at ht; cases ht⟩, ?_⟩
    rintro m σ H3 ⟨rfl, rfl, hm, hlt⟩
    -- order.insert(place, thing)
    have fin : (∀ t, m ≠ 0 → L[m - 1]? = some t → p ≤ nth ps t) → ∃ v2 v3 v4 L', [some (V.ref a), some (V.ref D), some (V.int (i : Int)), some (V.int p), some (V.int (m : Int))] = [some (V.ref a), some (V.ref D), v2, v3, v4] ∧
        Same H (upd (upd H1 U (.tup [.int (i : Int), .int p])) D (.lst ((tv L).take (m : Int).toNat ++ [.int (i : Int)] ++ (tv L).drop (m : Int).toNat))) ∧
        (upd (upd H1 U (.tup [.int (i : Int), .int p])) D (.lst ((tv L).take (m : Int).toNat ++ [.int (i : Int)] ++ (tv L).drop (m : Int).toNat))) D = some (.lst (tv L')) ∧ Dear ps (i + 1) L' := fun hge => by
      refine ⟨_, _, _, L.take m ++ [i] ++ L.drop m, rfl, fun b o e => ?_, ?_, ?_⟩
      · rw [upd_ne (ne_of_none e nD)]
        exact sU _ _ (s1 _ _ e)
      · rw [upd_same]
        congr 2
        rw [Int.toNat_natCast, tv_app, tv_app]
        unfold tv
        rw [List.map_take, List.map_drop]
        rfl
      · refine ⟨ins_perm dL.perm rfl, ins_sorted hm dL.fall (fun j t hj ht => ?_) (fun t h0 ht => ?_)⟩
        · rw [pi]; exact hlt j t hj ht
        · rw [pi]; exact hge t h0 ht
    refine ⟨_, rfl, _, _, rfl, rfl, _, rfl, ?_⟩
    by_cases c0 : m = 0
    · rw [decide_eq_false (by omega)]
      refine iteF (iteF ?_)
      refine ⟨_, rfl, .inl ⟨rfl, _, .inl (.inl eD2)⟩, _, rfl, _, rfl, D, _, _, _, rfl, rfl, eD2, ?_, by omega, by omega, fin fun t h0 _ => absurd c0 h0⟩
      rw [tv_len]
      exact small1000 (by omega)
    · rw [decide_eq_true (by omega)]
      refine iteT ?_
      have hm1 : m - 1 < L.length := by omega
      have em : ((m : Int) - 1) = ((m - 1 : Nat) : Int) := by omega
      have g1 : L[m - 1]? = some L[m - 1] := List.getElem?_eq_getElem hm1
      have hmem : L[m - 1] < i := by
        have := dL.perm.mem_iff.mp (List.getElem_mem hm1)
        simpa using this
      have g2 : ps[L[m - 1]]? = some (nth ps L[m - 1]) := nth_get (by omega)
      refine ⟨_, rfl, _, rfl, _, rfl, _, _, rfl, rfl, D, _, _, _, rfl, rfl, sq_l eD2, (by rw [em]; exact atI_nat (tv_get g1)), a, _, _, _, rfl, rfl, sq_l ea2, atI_nat (iv_get g2), _, rfl, _, _, rfl, rfl, _, rfl, ?_⟩
      by_cases c1 : nth ps L[m - 1] < p
      · rw [decide_eq_true c1]
        refine iteT ⟨fun σ' H' => H' = upd H1 U (.tup [.int (i : Int), .int p]) ∧ σ' = [some (.ref a), some (.ref D), some (.int (i : Int)), some (.int p), some (.int ((m - 1 : Nat) : Int))], fun σ' H' ⟨eH, eσ⟩ => ⟨m - 1, by omega, eH, eσ, by omega, fun j t hj ht => ?_⟩, ?_⟩
        · by_cases cj : j = m - 1
          · rw [cj, g1] at ht
            cases ht
            exact c1
          · exact hlt j t (by omega) ht
        · refine ⟨_, rfl, _, _, rfl, rfl, rfl, ?_⟩
          show [some (V.ref a), some (V.ref D), some (V.int (i : Int)), some (V.int p), some (V.int ((m : Int) - 1))] = _
          rw [em]
      · rw [decide_eq_false c1]
        refine iteF ?_
        refine ⟨_, rfl, .inl ⟨rfl, _, .inl (.inl eD2)⟩, _, rfl, _, rfl, D, _, _, _, rfl, rfl, eD2, ?_, by omega, by omega, fin fun t h0 ht => ?_⟩
        · rw [tv_len]
          exact small1000 (by omega)
        · rw [g1] at ht
          cases ht
          omega
  · rintro σ H2 ⟨v2, v3, v4, L, rfl, s2, eD, dL⟩
    refine ⟨_, rfl, D, _, rfl, .inl ⟨sq_l eD, fun t nt => ?_⟩⟩
    rw [iv_len] at dL
    exact q _ t L (s2.trans (same_upd nt)) upd_same dL
end
end K45W
end JK45Order
section JK45Solve
set_option Elab.async false
set_option linter.all false
set_option maxRecDepth 100000
set_option maxHeartbeats 4000000
namespace K45W
open PySem PySem.Spec PyProof.Rows L2 K45R K45T K45
/-! ### lists told item by item -/
def Each {α : Type} (p : V → α → Prop) (vs : List V) (xs : List α) : Prop := vs.length = xs.length ∧ ∀ (i : Nat) (v : V) (x : α), vs[i]? = some v → xs[i]? = some x → p v x
theorem Each.nil {α : Type} {p : V → α → Prop} : Each p [] [] := ⟨rfl, fun i v x h => by simp at h⟩
theorem Each.snoc {α : Type} {p : V → α → Prop} {vs : List V} {xs : List α} {v : V} {x : α} (h : Each p vs xs) (hp : p v x) : Each p (vs ++ [v]) (xs ++ [x]) := by
  obtain ⟨hl, h⟩ := h
  refine ⟨by simp [hl], fun i v' x' e1 e2 => ?_⟩
  by_cases c : i < vs.length
  · rw [List.getElem?_append_left c] at e1
    rw [List.getElem?_append_left (by omega)] at e2
    exact h i _ _ e1 e2
  · rw [List.getElem?_append_right (by omega)] at e1
    rw [List.getElem?_append_right (by omega)] at e2
    have e : i - vs.length = i - xs.length := by omega
    rw [e] at e1
    cases q : i - xs.length with
    | zero =>
      rw [q] at e1 e2
      cases e1; cases e2
      exact hp
    | succ z => rw [q] at e1; simp at e1
theorem Each.get {α : Type} {p : V → α → Prop} {vs : List V} {xs : List α} {i : Nat} {x : α} (h : Each p vs xs) (e : xs[i]? = some x) : ∃ v, vs[i]? = some v ∧ p v x := by
  have hi : i < xs.length := (List.getElem?_eq_some_iff.mp e).1
  have hl : i < vs.length := Nat.lt_of_lt_of_eq hi h.1.symm
  have hv : vs[i]? = some vs[i] := List.getElem?_eq_getElem hl
  exact ⟨_, hv, h.2 i _ _ hv e⟩
theorem Each.mono {α : Type} {p q : V → α → Prop} {vs : List V} {xs : List α} (h : Each p vs xs) (m : ∀ v x, v ∈ vs → x ∈ xs → p v x → q v x) : Each q vs xs :=
  ⟨h.1, fun i v x e1 e2 => m v x (List.mem_of_getElem? e1) (List.mem_of_getElem? e2) (h.2 i v x e1 e2)⟩
theorem Each.set {α : Type} {p : V → α → Prop} {vs : List V} {xs : List α} {i : Nat} {v : V} {x : α} (h : Each p vs xs) (hp : p v x) : Each p (vs.set i v) (xs.set i x) := by
  refine ⟨by simp [h.1], fun j v' x' e1 e2 => ?_⟩
  by_cases c : i = j
  · subst c
    have h1 : i < vs.length := by
      have := (List.getElem?_eq_some_iff.mp e1).1
      simpa using this
    rw [List.getElem?_set_self h1] at e1
    rw [List.getElem?_set_self (by rw [← h.1]; exact h1)] at e2
    cases e1; cases e2
    exact hp
  · rw [List.getElem?_set_ne c] at e1 e2
    exact h.2 j _ _ e1 e2
theorem upd_self {H : Hp} {t : Addr} {o : HO} (h : H t = some o) : upd H t o = H := by
  funext b
  by_cases c : b = t
  · rw [c, upd_same, h]
  · rw [upd_ne c]
/-- at v a list of the numbers r -/
def RowAt (H : Hp) (v : V) (r : List Int) : Prop := ∃ a, v = .ref a ∧ H a = some (.lst (iv r))
theorem RowAt.same {H H' : Hp} {v : V} {r : List Int} (s : Same H H') (h : RowAt H v r) : RowAt H' v r := let ⟨a, e, q⟩ := h; ⟨a, e, s _ _ q⟩
def TabAt (H : Hp) (t : Addr) (rs : List (List Int)) : Prop := ∃ vs, H t = some (.lst vs) ∧ Each (RowAt H) vs rs
theorem TabAt.same {H H' : Hp} {t : Addr} {rs : List (List Int)} (s : Same H H') (h : TabAt H t rs) : TabAt H' t rs := by
  obtain ⟨vs, e, q⟩ := h
  exact ⟨vs, s _ _ e, q.mono fun _ _ _ _ z => z.same s⟩
theorem no_ref_iv {a : Addr} {r : List Int} : V.ref a ∉ iv r := fun h => by
  obtain ⟨x, _, e⟩ := List.mem_map.mp h
  cases e
/-- one more row -/
theorem TabAt.snoc {H : Hp} {t a : Addr} {vs : List V} {rs : List (List Int)} {r : List Int} (e : H t = some (.lst vs)) (h : Each (RowAt H) vs rs) (ea : H a = some (.lst (iv r))) (na : a ≠ t) : TabAt (upd H t (.lst (vs ++ [.ref a]))) t (rs ++ [r]) := by
  refine ⟨_, upd_same, Each.snoc (h.mono fun v x hv hx z => ?_) ⟨a, rfl, by rw [upd_ne na]; exact ea⟩⟩
  obtain ⟨b, rfl, eb⟩ := z
  refine ⟨b, rfl, ?_⟩
  have nb : b ≠ t := fun q => by
    rw [q, e] at eb
    have z := HO.lst.inj (Option.some.inj eb)
    rw [z] at hv
    exact no_ref_iv hv
  rw [upd_ne nb]
  exact eb
section
variable {P : Program} {w : World} {K : PySem.W.Frag} {mg : Str → Option Value} {base : Heap} {k : Nat}
def sp_piv : Sp := fun vs H Q _ => ∃ (t : Addr) (T b : Int) (u v : Nat → Int) (m k : Nat), vs = [.ref t, .int (k : Int), .int (k : Int), .int (dg T u v k)] ∧ TabAt H t (tab T b u v m k) ∧ k < m ∧ Good T u v m ∧ Sized T b u v m ∧
  ∀ H' t', Same H H' → TabAt H' t' (tab T b u v m (k + 1)) → Q (.ref t') H'
theorem ok_piv (T : Fx K mg) : OkD P w K mg base 1 (f_piv K) ["rows", "row", "column", "scale"] [] sp_piv := by
  refine okF T.d_piv sc_piv (fun _ _ _ _ _ _ us hl => match us, hl with | [_, _, _, _], _ => rfl) (fun vs H Q E h => ?_) (fun cdv A outer s H vs Q E hr h => ?_)
  · obtain ⟨t, T, b, u, v, m, k, rfl, _⟩ := h
    rfl
  obtain ⟨t, T', b, u, v, m, k, rfl, ht, hk, g, z, q⟩ := h
  refine ⟨_, pss_cons (ps_set (i := 4) sc_piv.nd rfl (.inl rfl) (pe_ix ix_list (pv 0) (pv 1) (fun _ _ => rfl)))
    (pss_cons (ps_set (i := 5) sc_piv.nd rfl (.inr rfl) (pe_ix ix_list (pv 4) (pv 2) (fun _ _ => rfl)))
    (pss_cons (ps_set (i := 6) sc_piv.nd rfl (.inl rfl) (pe_lst pa_nil))
    (pss_cons (ps_for PassesOwn.never rfl (pi_enum (by rfl) T.m_enumerate (pa_cons (pv 0) pa_nil)) (pg_tup rfl (pgs_cons (pg_name (i := 7) sc_piv.nd rfl (.inl rfl)) (pgs_cons (pg_name (i := 8) sc_piv.nd rfl (.inl rfl)) pgs_nil)))
      (pss_one (ps_if (pt_cmpR op_eq (pv 7) (pv 1) (nomark _))
        (pss_one (ps_expr (pe_bm PySem.F.plainAttrs_list PySem.F.slot_list_append PySem.F.type_list_append mt_append (pv 6) (pa_cons (pe_callTy call_list_of (by rfl) T.m_list (by decide +kernel) (pa_cons (pv 8) pa_nil)) pa_nil))))
        (pss_cons (ps_set (i := 9) sc_piv.nd rfl (.inr rfl) (pe_ix ix_list (pv 8) (pv 2) (fun _ _ => rfl)))
        (pss_one (ps_expr (pe_bm PySem.F.plainAttrs_list PySem.F.slot_list_append PySem.F.type_list_append mt_append (pv 6) (pa_cons
          (pe_lc (own := [("x", 10), ("y", 11)]) (g := gTup K 2 (gCons (gName 10) (gCons (gName 11) gNil))) (tt := tYes) rfl sc_piv.nd (pi_zip (by rfl) T.m_zip (pa_cons (pv 8) (pa_cons (pv 4) pa_nil))) (blkOk_by (N := ns_piv) (sc := defScope s_piv) (by decide +kernel))
            (fun _ _ _ _ _ => pg_two (i := 10) (j := 11) rfl sc_piv.nd rfl rfl (.inl rfl) (.inl rfl) (.inr rfl) (.inr rfl)) (fun _ _ _ _ _ => pts_nil)
            (fun _ _ _ _ _ => pe_op op_fdivW (pe_op op_sub (pe_op op_mulW (pv 10) (pv 5)) (pe_op op_mulW (pv 9) (pv 11))) (pv 3))) pa_nil))))))))
    (pss_one (ps_ret (pv 6)))))), ?_⟩
  obtain ⟨vs, et, ev⟩ := id ht
  have gc : (tab T' b u v m k)[k]? = some (erow T' b u v m k k) := tab_get hk
  obtain ⟨vc, hvc, ac, rfl, hac⟩ := ev.get gc
  have gp : (erow T' b u v m k k)[k]? = some (ent T' b u v m k k k) := erow_get (by omega)
  refine ⟨_, rfl, _, rfl, t, _, _, _, rfl, rfl, sq_l et, atI_nat hvc, ?_⟩
  refine ⟨_, rfl, _, rfl, ac, _, _, _, rfl, rfl, sq_l hac, atI_nat (iv_get gp), ?_⟩
  refine ⟨Nat.zero_le _, fun F nF => ?_⟩
  have sF := same_upd (o := HO.lst []) nF
  have lm : vs.length = m := ev.1.trans tab_len
  refine ⟨_, rfl, t, _, rfl, sq_l (sF _ _ et), for_it (walk_enum (K := K) (a := t) (xs := vs))
    (fun i σ H' => ∃ v7 v8 v9, σ = [some (.ref t), some (.int (k : Int)), some (.int (k : Int)), some (.int (dg T' u v k)), some (.ref ac), some (.int (ent T' b u v m k k k)), some (.ref F), v7, v8, v9, none, none] ∧
      Same H H' ∧ TabAt H' F ((tab T' b u v m (k + 1)).take i))
    ⟨none, none, none, rfl, sF, [], upd_same, by rw [List.take_zero]; exact .nil⟩ (fun i σ H' hi ⟨_, _, _, _, s, _⟩ => sq_l (s _ _ et)) ?_ ?_⟩
  · rintro i x σ H1 H2 hi ⟨v7, v8, v9, rfl, s1, vF, eF, hF⟩ ⟨U, x1, x2, rfl, nU, rfl, e1, e2⟩
    rw [lm] at hi
    cases (show V.int (i : Int) = x1 from Option.some.inj e1)
    have gi : (tab T' b u v m k)[i]? = some (erow T' b u v m k i) := tab_get hi
    obtain ⟨vi, hvi, ai, rfl, hai⟩ := ev.get gi
    cases (show V.ref ai = x2 from Option.some.inj (hvi.symm.trans e2))
    have gi1 : (tab T' b u v m (k + 1))[i]? = some (erow T' b u v m (k + 1) i) := tab_get hi
    have sU : Same H1 (upd H1 U (.tup [.int (i : Int), .ref ai])) := same_upd nU
    have eF2 := sU _ _ eF
    have hF2 : Each (RowAt (upd H1 U (.tup [.int (i : Int), .ref ai]))) vF ((tab T' b u v m (k + 1)).take i) := hF.mono fun _ _ _ _ z => z.same sU
    have hai2 := sU _ _ (s1 _ _ hai)
    have hac2 := sU _ _ (s1 _ _ hac)
    have hlF : vF.length < sizeLine := by
      have := hF.1
      rw [List.length_take, tab_len] at this
      have := z.m8
      exact small1000 (by omega)
    refine ⟨U, [.int (i : Int), .ref ai], rfl, .inl (.inl upd_same), rfl, .int (i : Int), [.ref ai], rfl, .ref ai, [], rfl, rfl, ?_⟩
    refine ⟨_, rfl, _, rfl, rfl, _, rfl, ?_⟩
    -- the row that is put behind
    have fin : ∀ {G : Hp} {R : Addr}, Same (upd H1 U (.tup [.int (i : Int), .ref ai])) G → upd H1 U (.tup [.int (i : Int), .ref ai]) R = none → G R = some (.lst (iv (erow T' b u v m (k + 1) i))) →
        Same H (upd G F (.lst (vF ++ [.ref R]))) ∧ TabAt (upd G F (.lst (vF ++ [.ref R]))) F ((tab T' b u v m (k + 1)).take (i + 1)) := fun {G R} sG nR eR => by
      refine ⟨fun c o e => ?_, ?_⟩
      · rw [upd_ne (ne_of_none e nF)]
        exact sG _ _ (sU _ _ (s1 _ _ e))
      · rw [List.take_add_one, gi1]
        exact TabAt.snoc (sG _ _ eF2) (hF2.mono fun _ _ _ _ z => z.same sG) eR (fun q => by rw [q, eF2] at nR; cases nR)
    by_cases c : i = k
    · subst c
      rw [decide_eq_true rfl]
      refine iteT ?_
      refine ⟨_, rfl, .inl ⟨rfl, _, .inl (.inl eF2)⟩, _, rfl, ai, _, rfl, .inl (sq_l hai2), fun R nR => ?_⟩
      have sR := same_upd (o := HO.lst (iv (erow T' b u v m i i))) nR
      refine ⟨F, _, _, rfl, rfl, sR _ _ eF2, hlF, ?_⟩
      obtain ⟨r1, r2⟩ := fin sR nR (by rw [upd_same, erow_keep hk])
      exact ⟨_, _, _, rfl, r1, r2⟩
    · have ne : ¬ (V.int (i : Int) = V.int (k : Int)) := fun e => by cases e; omega
      rw [decide_eq_false ne]
      refine iteF ?_
      have gf : (erow T' b u v m k i)[k]? = some (ent T' b u v m k i k) := erow_get (by omega)
      refine ⟨_, rfl, _, rfl, ai, _, _, _, rfl, rfl, sq_l hai2, atI_nat (iv_get gf), ?_⟩
      refine ⟨_, rfl, .inl ⟨rfl, _, .inl (.inl eF2)⟩, _, rfl, _, rfl, ai, ac, _, _, rfl, sq_l hai2, sq_l hac2, fun D nD => ?_⟩
      have sD := same_upd (o := HO.lst []) nD
      have len : min (iv (erow T' b u v m k i)).length (iv (erow T' b u v m k k)).length = m + 1 := by rw [iv_len, iv_len, erow_len, erow_len]; omega
      refine lc_it (walk_zip (K := K) (a := ai) (b := ac) (xs := iv (erow T' b u v m k i)) (ys := iv (erow T' b u v m k k)) len.symm)
        (fun j H' => Same (upd H1 U (.tup [.int (i : Int), .ref ai])) H' ∧ H' D = some (.lst (iv ((erow T' b u v m (k + 1) i).take j)))) ⟨sD, upd_same⟩ (fun j H' hj ⟨s3, _⟩ => ⟨sq_l (s3 _ _ hai2), sq_l (s3 _ _ hac2)⟩) ?_ ?_
      · rintro j x Ha Hb hj ⟨s3, eD⟩ ⟨U2, y1, y2, rfl, nU2, rfl, f1, f2⟩
        obtain ⟨x', hx', rfl⟩ := iv_at f1
        obtain ⟨y', hy', rfl⟩ := iv_at f2
        have hj' : j ≤ m := by omega
        rw [erow_get hj'] at hx' hy'
        cases hx'; cases hy'
        have sU2 : Same Ha (upd Ha U2 (.tup [.int (ent T' b u v m k i j), .int (ent T' b u v m k k j)])) := same_upd nU2
        refine ⟨U2, _, rfl, .inl (.inl upd_same), rfl, _, [_], rfl, _, [], rfl, rfl, rfl, ?_⟩
        have dp := dg_pos g (Nat.le_of_lt hk)
        have db := dg_bd z (Nat.le_of_lt hk)
        have b1 := ent_bd z (Nat.le_of_lt hk) hi hj'
        have b2 := ent_bd z (Nat.le_of_lt hk) hk (Nat.le_of_lt hk)
        have b3 := ent_bd z (Nat.le_of_lt hk) hi (Nat.le_of_lt hk)
        have b4 := ent_bd z (Nat.le_of_lt hk) hk hj'
        refine ⟨_, rfl, _, rfl, _, _, rfl, rfl, wide_mul b1 b2 (by decide) (by decide) (by decide), _, rfl, _, rfl, _, _, rfl, rfl, wide_mul b3 b4 (by decide) (by decide) (by decide), _, _, rfl, rfl, _, rfl, _, _, rfl, rfl, wide_div dp db (by decide) (by decide), ?_⟩
        refine ⟨_, sU2 _ _ eD, ?_, fun c o e => ?_, ?_⟩
        · rw [iv_len, List.length_take]
          have := z.m8
          exact small1000 (by omega)
        · rw [upd_ne (ne_of_none e nD)]
          exact sU2 _ _ (s3 _ _ e)
        · rw [upd_same, List.take_add_one, erow_get hj', iv_app]
          rw [← ent_div (b := b) g hk hi hj' c]
          rfl
      · rintro Hz ⟨s3, eD⟩
        rw [List.take_of_length_le (by rw [erow_len]; omega)] at eD
        refine ⟨F, _, _, rfl, rfl, s3 _ _ eF2, hlF, ?_⟩
        obtain ⟨r1, r2⟩ := fin s3 nD eD
        exact ⟨_, _, _, rfl, r1, r2⟩
  · rintro σ H2 ⟨v7, v8, v9, rfl, s2, hF⟩
    rw [lm, List.take_of_length_le (by rw [tab_len]; omega)] at hF
    exact ⟨_, rfl, q _ _ s2 hF⟩
end
end K45W
end JK45Solve
section JK45Solve2
set_option Elab.async false
set_option linter.all false
set_option maxRecDepth 100000
set_option maxHeartbeats 4000000
namespace K45W
open PySem PySem.Spec PyProof.Rows L2 K45R K45T K45
/-- at v a list of quotients -/
def RatL (C : Addr) (H : Hp) (t : Addr) (qs : List (Int × Int)) : Prop := ∃ vs, H t = some (.lst vs) ∧ Each (fun v q => RatAt C H v q.1 q.2) vs qs
theorem RatL.same {C : Addr} {H H' : Hp} {t : Addr} {qs : List (Int × Int)} (s : Same H H') (h : RatL C H t qs) : RatL C H' t qs := by
  obtain ⟨vs, e, q⟩ := h
  exact ⟨vs, s _ _ e, q.mono fun _ _ _ _ z => z.same s⟩
theorem RatAt.upd {C : Addr} {H : Hp} {t : Addr} {xs ys : List V} {v : V} {n d : Int} (r : RatAt C H v n d) (e : H t = some (.lst xs)) : RatAt C (upd H t (.lst ys)) v n d := by
  obtain ⟨⟨a, dx, ev, ea⟩, p⟩ := r
  refine ⟨⟨a, dx, ev, ?_⟩, p⟩
  rw [upd_ne (fun q => by rw [q, e] at ea; cases ea)]
  exact ea
theorem RatL.snoc {C : Addr} {H : Hp} {t : Addr} {vs : List V} {v : V} {qs : List (Int × Int)} {n d : Int} (e : H t = some (.lst vs)) (h : Each (fun v q => RatAt C H v q.1 q.2) vs qs) (r : RatAt C H v n d) :
    RatL C (upd H t (.lst (vs ++ [v]))) t (qs ++ [(n, d)]) := ⟨_, upd_same, Each.snoc (h.mono fun _ _ _ _ z => z.upd e) (r.upd e)⟩
theorem RatL.set {C : Addr} {H : Hp} {t : Addr} {vs : List V} {v : V} {qs : List (Int × Int)} {n d : Int} {i : Nat} (e : H t = some (.lst vs)) (h : Each (fun v q => RatAt C H v q.1 q.2) vs qs) (r : RatAt C H v n d) :
    RatL C (upd H t (.lst (vs.set i v))) t (qs.set i (n, d)) := ⟨_, upd_same, Each.set (p := fun w (q : Int × Int) => RatAt C (upd H t (.lst (vs.set i v))) w q.1 q.2) (h.mono fun _ _ _ _ z => z.upd e) (r.upd e)⟩
def crow (T b : Int) (u v : Nat → Int) (m i : Nat) : List Int := (List.range m).map fun j => ent T b u v m 0 i j
theorem crow_last {T b : Int} {u v : Nat → Int} {m i : Nat} : crow T b u v m i ++ [b * u i] = erow T b u v m 0 i := by
  unfold crow erow
  rw [List.range_succ, List.map_append]
  congr 1
  show [b * u i] = [ent T b u v m 0 i m]
  unfold ent
  rw [if_neg (by omega), if_pos rfl, Int.pow_zero, Int.one_mul]
def sol (T b : Int) (u v : Nat → Int) (m : Nat) : List (Int × Int) := (List.range m).map fun i => (b * u i, T - SS u v m)
theorem sol_get {T b : Int} {u v : Nat → Int} {m i : Nat} (h : i < m) : (sol T b u v m)[i]? = some (b * u i, T - SS u v m) := by
  unfold sol
  rw [List.getElem?_map, List.getElem?_range h]
  rfl
theorem sol_len {T b : Int} {u v : Nat → Int} {m : Nat} : (sol T b u v m).length = m := by simp [sol]
section
variable {P : Program} {w : World} {K : PySem.W.Frag} {mg : Str → Option Value} {base : Heap} {k : Nat}
def sp_sol (C : Addr) : Sp := fun vs H Q _ => ∃ (a r : Addr) (T b : Int) (u v : Nat → Int) (m : Nat), vs = [.ref a, .ref r] ∧ TabAt H a ((List.range m).map fun i => crow T b u v m i) ∧ H r = some (.lst (iv ((List.range m).map fun i => b * u i))) ∧ Good T u v m ∧ Sized T b u v m ∧
  ∀ H' t, Same H H' → H t = none → RatL C H' t (sol T b u v m) → Q (.ref t) H'
theorem ok_sol (T : Fx K mg) : OkD P w K mg base 3 (f_sol K) ["rows", "right"] [] (sp_sol (cR K)) := by
  obtain ⟨⟨fdI, dsI, GI, bI, dI⟩, kpI⟩ := ok_RI (P := P) (w := w) (base := base) T [] (.inl rfl)
  obtain ⟨⟨fdP, dsP, GP, bP, dP⟩, kpP⟩ := (ok_piv (P := P) (w := w) (base := base) T).mono (k := 2) (by decide)
  refine okF T.d_sol sc_sol (fun _ _ _ _ _ _ us hl => match us, hl with | [_, _], _ => rfl) (fun vs H Q E h => ?_) (fun cdv A outer s H vs Q E hr h => ?_)
  · obtain ⟨a, r, T, b, u, v, m, rfl, _⟩ := h
    rfl
  obtain ⟨a, r, T', b, u, v, m, rfl, ha, hb, g, z, q⟩ := h
  refine ⟨_, pss_cons (ps_set (i := 2) sc_sol.nd rfl (.inr rfl) (pe_callB call_len_seq (by rfl) T.m_len PySem.boot_len (pa_cons (pv 0) pa_nil)))
    (pss_cons (ps_setLc (i := 3) (own := [("line", 7), ("last", 8)]) (g := gTup K 2 (gCons (gName 7) (gCons (gName 8) gNil))) (tt := tYes) rfl sc_sol.nd rfl rfl (sw_true rfl rfl rfl (by decide +kernel)) (pi_zip (by rfl) T.m_zip (pa_cons (pv 0) (pa_cons (pv 1) pa_nil))) (blkOk_by (N := ns_sol) (sc := defScope s_sol) (by decide +kernel))
        (fun _ _ _ _ _ => pg_two (i := 7) (j := 8) rfl sc_sol.nd rfl rfl (.inl rfl) (.inl rfl) (.inr rfl) (.inr rfl)) (fun _ _ _ _ _ => pts_nil)
        (fun _ _ _ _ _ => pe_op op_cat (pe_callTy (cLst K) (by rfl) T.m_list (by decide +kernel) (pa_cons (pv 7) pa_nil)) (pe_lst (pa_cons (pv 8) pa_nil))))
    (pss_cons (ps_set (i := 4) sc_sol.nd rfl (.inr rfl) pe_int)
    (pss_cons (ps_for PassesOwn.never rfl (pi_range1 (by rfl) T.m_range (pa_cons (pv 2) pa_nil)) (pg_name (i := 5) sc_sol.nd rfl (.inl rfl))
      (pss_cons (ps_set (i := 6) sc_sol.nd rfl (.inl rfl) (pv 5))
      (pss_cons (ps_while PassesOwn.never (pt_cmpR op_eq (pe_ix ix_list (pe_ix ix_list (pv 3) (pv 6) (fun _ _ => rfl)) (pv 5) (fun _ _ => rfl)) pe_int (nomark _)) (pss_one (ps_aug (i := 6) sc_sol.nd rfl (.inl rfl) pe_int ip_add)))
      (pss_cons (ps_asg (pe_tup (pa_cons (pe_ix ix_list (pv 3) (pv 6) (fun _ _ => rfl)) (pa_cons (pe_ix ix_list (pv 3) (pv 5) (fun _ _ => rfl)) pa_nil))) (pg_tup rfl (pgs_cons (pg_sub (pv 3) (pv 5) set_list) (pgs_cons (pg_sub (pv 3) (pv 6) set_list) pgs_nil))))
      (pss_cons (ps_set (i := 3) sc_sol.nd rfl (.inl rfl) (pe_call GP hr (by rfl) T.g_piv kpP bP dP pass0 (pa_cons (pv 3) (pa_cons (pv 5) (pa_cons (pv 5) (pa_cons (pv 4) pa_nil))))))
      (pss_one (ps_set (i := 4) sc_sol.nd rfl (.inr rfl) (pe_ix ix_list (pe_ix ix_list (pv 3) (pv 5) (fun _ _ => rfl)) (pv 5) (fun _ _ => rfl)))))))))
    (pss_one (ps_ret (pe_lc (own := [("line", 7)]) (g := gName 7) (tt := tYes) rfl sc_sol.nd (pi_list (pv 3)) (blkOk_by (N := ns_sol) (sc := defScope s_sol) (by decide +kernel))
      (fun _ _ _ _ _ => pg_name (i := 7) sc_sol.nd rfl (.inl rfl) (.inr rfl)) (fun _ _ _ _ _ => pts_nil)
      (fun _ _ _ _ _ => pe_make T.k_Ratio GI hr (by rfl) T.g_Ratio bI dI pass0 (pa_cons (pe_ix (ixL K) (pv 7) (pv 2) (fun _ _ => rfl)) (pa_cons (pv 4) pa_nil))))))))), ?_⟩
  obtain ⟨vs, ea, ev⟩ := id ha
  have lm : vs.length = m := by rw [ev.1, List.length_map, List.length_range]
  have m8 := z.m8
  refine ⟨_, rfl, a, _, rfl, .inl (sq_l ea), ?_⟩
  rw [lm]
  have lr : (iv ((List.range m).map fun i => b * u i)).length = m := by rw [iv_len, List.length_map, List.length_range]
  have gr : ∀ {i : Nat}, i < m → ((List.range m).map fun i => b * u i)[i]? = some (b * u i) := fun {i} hi => by rw [List.getElem?_map, List.getElem?_range hi]; rfl
  have gw : ∀ {i : Nat}, i < m → ((List.range m).map fun i => crow T' b u v m i)[i]? = some (crow T' b u v m i) := fun {i} hi => by rw [List.getElem?_map, List.getElem?_range hi]; rfl
  refine ⟨_, rfl, _, rfl, a, r, _, _, rfl, sq_l ea, sq_l hb, fun D nD => lc_it (walk_zip (K := K) (a := a) (b := r) (xs := vs) (ys := iv ((List.range m).map fun i => b * u i)) (n := m) (by omega))
    (fun j H' => Same H H' ∧ TabAt H' D ((tab T' b u v m 0).take j)) ⟨same_upd nD, [], upd_same, by rw [List.take_zero]; exact .nil⟩ (fun j H' hj ⟨s1, _⟩ => ⟨sq_l (s1 _ _ ea), sq_l (s1 _ _ hb)⟩) ?_ ?_⟩
  · rintro j x H1 H2 hj ⟨s1, vD, eD, hD⟩ ⟨U, x1, x2, rfl, nU, rfl, e1, e2⟩
    obtain ⟨vi, hvi, ai, rfl, hai⟩ := ev.get (gw hj)
    cases (show V.ref ai = x1 from Option.some.inj (hvi.symm.trans e1))
    obtain ⟨y, hy, rfl⟩ := iv_at e2
    rw [gr hj] at hy
    cases hy
    have sU : Same H1 (upd H1 U (.tup [.ref ai, .int (b * u j)])) := same_upd nU
    refine ⟨U, _, rfl, .inl (.inl upd_same), rfl, _, [_], rfl, _, [], rfl, rfl, rfl, ?_⟩
    refine ⟨_, rfl, ai, _, rfl, .inl (sq_l (sU _ _ (s1 _ _ hai))), fun l1 n1 => ?_⟩
    have sl : Same _ (upd (upd H1 U (.tup [.ref ai, .int (b * u j)])) l1 (.lst (iv (crow T' b u v m j)))) := same_upd n1
    refine ⟨_, rfl, (by show 1 ≤ sizeLine; decide), fun l2 n2 => ?_⟩
    have sl2 : Same _ (upd (upd (upd H1 U (.tup [.ref ai, .int (b * u j)])) l1 (.lst (iv (crow T' b u v m j)))) l2 (.lst [.int (b * u j)])) := same_upd n2
    have lc : (iv (crow T' b u v m j)).length = m := by rw [iv_len]; unfold crow; rw [List.length_map, List.length_range]
    refine ⟨l1, l2, _, _, rfl, rfl, sl2 _ _ upd_same, upd_same, ?_, fun l3 n3 => ?_⟩
    · rw [lc]
      exact Nat.le_of_lt (small1000 (by show m + 1 ≤ 1000; omega))
    · have sl3 : Same _ (upd (upd (upd (upd H1 U (.tup [.ref ai, .int (b * u j)])) l1 (.lst (iv (crow T' b u v m j)))) l2 (.lst [.int (b * u j)])) l3 (.lst (iv (crow T' b u v m j) ++ [.int (b * u j)]))) := same_upd n3
      have s4 : Same H1 _ := ((sU.trans sl).trans sl2).trans sl3
      refine ⟨vD, s4 _ _ eD, ?_, fun c o e => ?_, ?_⟩
      · have := hD.1
        rw [List.length_take, tab_len] at this
        exact small1000 (by omega)
      · rw [upd_ne (ne_of_none e nD)]
        exact s4 _ _ (s1 _ _ e)
      · rw [List.take_add_one, tab_get hj]
        refine TabAt.snoc (s4 _ _ eD) (hD.mono fun _ _ _ _ z => z.same s4) ?_ (fun q => ?_)
        · rw [upd_same, ← crow_last, iv_app]
          rfl
        · rw [q] at n3
          rw [(((sU.trans sl).trans sl2) _ _ eD)] at n3
          cases n3
  · rintro H1 ⟨s1, hT⟩
    rw [List.take_of_length_le (by rw [tab_len]; omega)] at hT
    refine ⟨_, rfl, _, rfl, by omega, by omega, for_range (lo := 0) (n := m) (fun i σ H' => ∃ tt v5 v6, σ = [some (.ref a), some (.ref r), some (.int (m : Int)), some (.ref tt), some (.int (dg T' u v i)), v5, v6, none, none] ∧ Same H H' ∧ TabAt H' tt (tab T' b u v m i))
      ⟨D, none, none, rfl, s1, hT⟩ ?_ ?_⟩
    · rintro i σ H1 hi ⟨tt, v5, v6, rfl, s2, hT⟩
      rw [show (0 : Int) + (i : Int) = (i : Int) from Int.zero_add _]
      obtain ⟨vt, et, evt⟩ := id hT
      obtain ⟨vi, hvi, ri, rfl, hri⟩ := evt.get (tab_get (T := T') (b := b) (u := u) (v := v) (k := i) hi)
      have hii : (erow T' b u v m i i)[i]? = some (dg T' u v (i + 1)) := by rw [← ent_diag (b := b) hi]; exact erow_get (by omega)
      have dp := dg_pos g (show i + 1 ≤ m by omega)
      have lt : vt.length = m := evt.1.trans tab_len
      refine ⟨_, rfl, ?_⟩
      refine ⟨fun mm σ H' => mm = 0 ∧ H' = H1 ∧ σ = [some (.ref a), some (.ref r), some (.int (m : Int)), some (.ref tt), some (.int (dg T' u v i)), some (.int (i : Int)), some (.int (i : Int)), none, none], ⟨0, rfl, rfl, rfl⟩, ?_⟩
      rintro mm σ H' ⟨rfl, rfl, rfl⟩
      refine ⟨_, rfl, _, rfl, tt, _, _, _, rfl, rfl, sq_l et, atI_nat hvi, _, rfl, ri, _, _, _, rfl, rfl, sq_l hri, atI_nat (iv_get hii), rfl, _, rfl, ?_⟩
      have ne : ¬ (V.int (dg T' u v (i + 1)) = V.int 0) := fun e => by have := V.int.inj e; omega
      rw [decide_eq_false ne]
      refine iteF ?_
      refine ⟨_, rfl, _, rfl, tt, _, _, _, rfl, rfl, sq_l et, atI_nat hvi, _, rfl, _, rfl, tt, _, _, _, rfl, rfl, sq_l et, atI_nat hvi, (by show 2 ≤ sizeLine; decide), fun U nU => ?_⟩
      have sU : Same H' (upd H' U (.tup [.ref ri, .ref ri])) := same_upd nU
      have ix : ixN vt.length (i : Int) = some i := by
        unfold ixN
        rw [if_pos (by omega), if_pos (by omega)]
        simp
      have se : vt.set i (.ref ri) = vt := by
        have hil : i < vt.length := by omega
        have : vt[i] = .ref ri := (List.getElem?_eq_some_iff.mp hvi).2
        rw [← this]
        exact List.set_getElem_self hil
      have ue : ∀ G : Hp, G tt = some (.lst vt) → upd G tt (.lst (vt.set i (.ref ri))) = G := fun G hG => by rw [se]; exact upd_self hG
      refine ⟨U, [.ref ri, .ref ri], rfl, .inl (.inl upd_same), rfl, .ref ri, [.ref ri], rfl, _, rfl, _, rfl, tt, vt, _, i, rfl, rfl, sU _ _ et, ix, ?_⟩
      rw [ue _ (sU _ _ et)]
      refine ⟨.ref ri, [], rfl, _, rfl, _, rfl, tt, vt, _, i, rfl, rfl, sU _ _ et, ix, ?_⟩
      rw [ue _ (sU _ _ et)]
      refine ⟨rfl, ?_⟩
      refine ⟨_, rfl, _, rfl, _, rfl, _, rfl, tt, T', b, u, v, m, i, rfl, hT.same sU, hi, g, z, fun H3 t3 s3 hT3 => ?_⟩
      obtain ⟨v3, e3, ev3⟩ := id hT3
      obtain ⟨vi3, hvi3, ri3, rfl, hri3⟩ := ev3.get (tab_get (T := T') (b := b) (u := u) (v := v) (k := i + 1) hi)
      have hii3 : (erow T' b u v m (i + 1) i)[i]? = some (dg T' u v (i + 1)) := by rw [erow_keep hi]; exact hii
      refine ⟨_, rfl, _, rfl, t3, _, _, _, rfl, rfl, sq_l e3, atI_nat hvi3, _, rfl, ri3, _, _, _, rfl, rfl, sq_l hri3, atI_nat (iv_get hii3), ?_⟩
      exact ⟨t3, _, _, rfl, (s2.trans sU).trans s3, hT3⟩
    · rintro σ H1 ⟨tt, v5, v6, rfl, s2, hT⟩
      obtain ⟨vt, et, evt⟩ := id hT
      have lt : vt.length = m := evt.1.trans tab_len
      have dp := dg_pos g (Nat.le_refl m)
      have db := dg_bd z (Nat.le_refl m)
      have sp := g.pos m (Nat.le_refl m)
      refine ⟨_, rfl, tt, rfl, ⟨_, sq_l et⟩, fun D2 nD2 => lc_list (K := K) (a := tt) (xs := vt) (fun j H' => Same H1 H' ∧ RatL (cR K) H' D2 ((sol T' b u v m).take j)) ⟨same_upd nD2, [], upd_same, by rw [List.take_zero]; exact .nil⟩
        (fun j H' hj ⟨s3, _⟩ => sq_l (s3 _ _ et)) ?_ ?_⟩
      · rintro j x H2 hx ⟨s3, vD, eD, hD⟩
        have hj : j < m := by have := (List.getElem?_eq_some_iff.mp hx).1; omega
        obtain ⟨vj, hvj, rj, rfl, hrj⟩ := evt.get (tab_get (T := T') (b := b) (u := u) (v := v) (k := m) hj)
        cases (show V.ref rj = x from Option.some.inj (hvj.symm.trans hx))
        have gm : (erow T' b u v m m j)[m]? = some (ent T' b u v m m j m) := erow_get (Nat.le_refl m)
        refine ⟨rfl, ?_⟩
        refine ⟨_, rfl, _, rfl, rj, _, _, _, rfl, rfl, sq_l (s3 _ _ hrj), atI_nat (iv_get gm), _, rfl, ?_⟩
        intro y dy ny ndy ney
        refine ⟨y, dy, _, _, rfl, upd_same, dp, (ent_bd z (Nat.le_refl m) hj (Nat.le_refl m)).le (by omega), db.le (by omega), fun H3 k3 e3 => ⟨rfl, ?_⟩⟩
        obtain ⟨s4, ry⟩ := made_rat ny ndy dp k3 e3
        have ry2 : RatAt (cR K) H3 (.ref y) (b * u j) (T' - SS u v m) := ry.eq (by omega) (last_quot g hj)
        refine ⟨vD, s4 _ _ eD, ?_, fun c o e => ?_, ?_⟩
        · have := hD.1
          rw [List.length_take, sol_len] at this
          exact small1000 (by omega)
        · rw [upd_ne (ne_of_none e nD2)]
          exact s4 _ _ (s3 _ _ e)
        · rw [List.take_add_one, sol_get hj]
          exact RatL.snoc (s4 _ _ eD) (hD.mono fun _ _ _ _ z => z.same s4) ry2
      · rintro H2 ⟨s3, hR⟩
        rw [List.take_of_length_le (by rw [sol_len]; omega)] at hR
        exact q _ D2 (s2.trans s3) (s2.free nD2) hR
end
end K45W
end JK45Solve2
section JK45Rule
set_option Elab.async false
set_option linter.all false
set_option maxRecDepth 100000
set_option maxHeartbeats 4000000
namespace K45W
open PySem PySem.Spec PyProof.Rows L2 K45R K45T K45
abbrev PW : Program := PySem.Challenge.pw_dearestshelf_k45_whole_like_weights
/-! ### a def that says super() -/
section
variable {w : World} {K : PySem.W.Frag} {mg : Str → Option Value} {base : Heap} {k : Nat} {f D : Addr} {ps : List Str} {sp : Sp}
theorem okS {CX : CXT} {x qual : Str} {st : Stmt} {N : List Str} (T : Fx K mg) (F : ∃ cc cda file fd, FunS K x qual st f cc cda D file fd ∧ ((PW.main.file : Str) == file) = true ∧ PySem.W.clsIn K D ≠ none) (S : FnScopeS N ps (defScope st))
    (hb : ∀ (cc cda : Addr) (kV doc pm : Value) (an : Option Addr) (ct : Value) (us : List Value), us.length = ps.length → bindArgs (PySem.W.fnX x qual (defArgs st) (defBody st) (defScope st) [("__class__", cc)] .none kV doc pm an (.ref cda) ct) ⟨us, []⟩ = pure (ps.zip us))
    (hs : (defScope st).names.lookup ("super" : Str) = some .globalImplicit) (hc : (defScope st).names.lookup ("__class__" : Str) = some .free) (hce : ∀ (L cc : Addr), (cellsFrom (L + 1) (defScope st).names [("__class__", cc)]).lookup ("__class__" : Str) = some cc)
    (har : ∃ ar, ((defArgs st).posonlyargs ++ (defArgs st).args).head? = some ar ∧ N[0]? = some ar.arg ∧ Loc (defScope st) ar.arg) (len : ∀ vs H Q E, sp vs H Q E → vs.length = ps.length)
    (hbody : ∀ (cc cda : Addr) (A : Around) (outer : List Env) (s : Shared) (H : Hp) (vs : List V) (Q : VK) (E : XK), Room k (A.deeper (envS qual (defScope st) s.heap.objs.size f (.ref cda) cc)) →
      SupEnv (cxS CX PW w K mg base N qual (defScope st) f (.ref cda) cc A outer s H E) f cc cda D → sp vs H Q E →
      ∃ t, PSsA (cxS CX PW w K mg base N qual (defScope st) f (.ref cda) cc A outer s H E) (.func (defBody st) (envS qual (defScope st) s.heap.objs.size f (.ref cda) cc)) (defBody st) t ∧ t { nx := fun _ H' => Q .non H', rt := Q } (L2.start N vs) H) :
    (∃ fd, FnOk PW w K mg base CX (k + 1) f fd ps sp ∧ Binds K fd ps []) ∧ PySem.W.keepIn K (.ref f) = true := by
  obtain ⟨cc, cda, file, fd, F, hf, hD⟩ := F
  refine ⟨⟨fd, F.ok S len fun A outer s H vs Q E hr h => ?_, ?_⟩, F.kp⟩
  · refine hbody cc cda A outer s H vs Q E hr ?_ h
    obtain ⟨oc, od, kV, doc, pm, an, ct, osl, e, lk⟩ := F.ex
    obtain ⟨ccl, cdd, vs', ccs, tf, l1, l2⟩ := F.code
    obtain ⟨ar, a1, a2, a3⟩ := har
    refine ⟨rfl, rfl, hs, hc, hce _ _, F.cell, ⟨ccl, cdd, vs', ccs, tf, file, l1, l2, hf⟩, ⟨oc, od, fd, osl, ar, lk, ?_, a2, a3⟩, T.m_super, by kernel_rfl, Option.isSome_iff_exists.mp (Option.isSome_iff_ne_none.mpr hD)⟩
    subst e
    exact a1
  · obtain ⟨oc, od, kV, doc, pm, an, ct, osl, e, lk⟩ := F.ex
    subst e
    exact .all fun us hl => hb cc cda kV doc pm an ct us hl
theorem OkD.of (h : (∃ fd, FnOk PW w K mg base CX0 k f fd ps sp ∧ Binds K fd ps []) ∧ PySem.W.keepIn K (.ref f) = true) : OkD PW w K mg base k f ps [] sp := by
  obtain ⟨⟨fd, F, b⟩, kp⟩ := h
  exact ⟨⟨fd, [], F, b, .nil⟩, kp⟩
end
theorem SupEnv.nox {X : Cx} {f cc cda D : Addr} (S : SupEnv X f cc cda D) : SupEnv X.nox f cc cda D := ⟨S.fu, S.co, S.ks, S.kc, S.ce, S.cell, S.code, S.fn, S.mg, S.top, S.dc⟩
theorem putF_new {f : Str} {y : V} : ∀ {fs : List (Str × V)}, f ∉ fs.map (·.1) → putF f y fs = fs ++ [(f, y)]
  | [], _ => rfl
  | (g, z) :: r, h => by
    have h1 : ¬ g = f := fun e => h (by rw [e]; exact List.mem_cons_self ..)
    show (if g = f then _ else _) = _
    rw [if_neg h1, putF_new (fs := r) fun q => h (List.mem_cons_of_mem _ q)]
    rfl
theorem lk_no {m : Str} : ∀ {fs : List (Str × V)}, m ∉ fs.map (·.1) → fs.lookup m = none
  | [], _ => rfl
  | (g, z) :: r, h => by
    rw [lk_cons, if_neg fun e => h (by rw [e]; exact List.mem_cons_self ..)]
    exact lk_no fun q => h (List.mem_cons_of_mem _ q)
/-! ### Rule -/
def sp_UI (K : PySem.W.Frag) : Sp := fun vs H Q _ => ∃ (C p dx : Addr) (n most : Int) (u : Value), vs = [.ref p, .int n] ∧ H p = some (.ins C dx []) ∧ Cls K C ∧ NoAttr K C "many" ∧ Con K C "MOST" (.int most) u ∧ n ≤ most ∧
  Q .non (upd H p (.ins C dx [("many", .int n)]))
def zeros (m : Nat) : List (Int × Int) := List.replicate m (0, 1)
def sp_US (K : PySem.W.Frag) : Sp := fun vs H Q _ => ∃ (C p dx : Addr) (fs : List (Str × V)) (a : Addr) (m : Nat) (L : List Nat), vs = [.ref p, .ref a] ∧ H p = some (.ins C dx fs) ∧ Cls K C ∧ NoAttr K C "many" ∧ fs.lookup ("many" : Str) = some (.int (m : Int)) ∧
  H a = some (.tup (tv L)) ∧ L.Pairwise (· < ·) ∧ (∀ t ∈ L, t < m) ∧ m ≤ 900 ∧ ∀ H' t, Same H H' → H t = none → RatL (cR K) H' t (zeros m) → Q (.ref t) H'
section
variable {P : Program} {w : World} {K : PySem.W.Frag} {mg : Str → Option Value} {base : Heap} {k : Nat}
theorem ok_UI (T : Fx K mg) : OkD P w K mg base 1 (f_UI K) ["self", "many"] [] (sp_UI K) := by
  refine okF T.d_UI sc_UI (fun _ _ _ _ _ _ us hl => match us, hl with | [_, _], _ => rfl) (fun vs H Q E h => ?_) (fun cdv A outer s H vs Q E hr h => ?_)
  · obtain ⟨C, p, dx, n, most, u, rfl, _⟩ := h
    rfl
  obtain ⟨C, p, dx, n, most, u, rfl, hp, c, no, con, hn, q⟩ := h
  refine ⟨_, pss_cons (ps_if (pt_cmpR op_gt (pv 1) (pe_con (pv 0) rfl) (nomark _)) pss_never pss_nil) (pss_one (ps_fld (pv 0) (pv 1) rfl)), ?_⟩
  refine ⟨_, rfl, _, rfl, p, C, dx, [], _, u, rfl, hp, c, con, rfl, _, _, rfl, rfl, _, rfl, ?_⟩
  rw [decide_eq_false (by omega)]
  refine iteF ?_
  exact ⟨_, rfl, _, rfl, p, C, dx, [], rfl, hp, c, no, (by show 0 < 1000; decide), q⟩
theorem ok_US (T : Fx K mg) : OkD P w K mg base 3 (f_US K) ["self", "lot"] [] (sp_US K) := by
  obtain ⟨⟨fdI, dsI, GI, bI, dI⟩, kpI⟩ := ok_RI (P := P) (w := w) (base := base) T [.int 1] (.inr rfl)
  obtain ⟨⟨fdL, dsL, GL, bL, dL⟩, kpL⟩ := (ok_cl (P := P) (w := w) (base := base) T).mono (k := 2) (by decide)
  refine okF T.d_US sc_US (fun _ _ _ _ _ _ us hl => match us, hl with | [_, _], _ => rfl) (fun vs H Q E h => ?_) (fun cdv A outer s H vs Q E hr h => ?_)
  · obtain ⟨C, p, dx, fs, a, m, L, rfl, _⟩ := h
    rfl
  obtain ⟨C, p, dx, fs, a, m, L, rfl, hp, c, no, hf, ha, hs, hm, m9, q⟩ := h
  refine ⟨_, pss_cons (ps_expr (pe_call GL hr (by rfl) T.g_cl kpL bL dL pass0 (pa_cons (pv 1) (pa_cons (pe_fld (pv 0) rfl) pa_nil))))
    (pss_one (ps_ret (pe_lc (own := [("_", 2)]) (g := gName 2) (tt := tYes) rfl sc_US.nd (pi_range1 (by rfl) T.m_range (pa_cons (pe_fld (pv 0) rfl) pa_nil)) (blkOk_by (N := ns_US) (sc := defScope s_US) (by decide +kernel))
      (fun _ _ _ _ _ => pg_name (i := 2) sc_US.nd rfl (.inl rfl) (.inr rfl)) (fun _ _ _ _ _ => pts_nil) (fun _ _ _ _ _ => pe_make T.k_Ratio GI hr (by rfl) T.g_Ratio bI dI pass0 (pa_cons pe_int pa_nil))))), ?_⟩
  refine ⟨_, rfl, _, rfl, p, C, dx, fs, _, rfl, hp, c, no, hf, a, m, L, rfl, ha, hs, hm, ?_⟩
  refine ⟨_, rfl, p, C, dx, fs, _, rfl, hp, c, no, hf, _, rfl, by omega, by omega, fun D nD => lc_range (lo := 0) (n := m) (fun j H' => Same H H' ∧ RatL (cR K) H' D (zeros j)) ⟨same_upd nD, [], upd_same, .nil⟩ ?_ ?_⟩
  · rintro j H1 hj ⟨s1, vD, eD, hD⟩
    refine ⟨rfl, ?_⟩
    intro y dy ny ndy ney
    refine ⟨y, dy, _, _, rfl, upd_same, by decide, Bd.zero _, Bd.one (by decide), fun H3 k3 e3 => ⟨rfl, ?_⟩⟩
    obtain ⟨s4, ry⟩ := made_rat ny ndy (by decide) k3 e3
    refine ⟨vD, s4 _ _ eD, ?_, fun b o e => ?_, ?_⟩
    · have := hD.1
      unfold zeros at this
      rw [List.length_replicate] at this
      exact small1000 (by omega)
    · rw [upd_ne (ne_of_none e nD)]
      exact s4 _ _ (s1 _ _ e)
    · have e : zeros (j + 1) = zeros j ++ [(0, 1)] := by unfold zeros; rw [List.replicate_succ']
      rw [e]
      exact RatL.snoc (s4 _ _ eD) (hD.mono fun _ _ _ _ z => z.same s4) ry
  · rintro H1 ⟨s1, hR⟩
    exact q H1 D s1 nD hR
end
end K45W
end JK45Rule
section JK45Wgt
set_option Elab.async false
set_option linter.all false
set_option maxRecDepth 100000
set_option maxHeartbeats 4000000
namespace K45W
open PySem PySem.Spec PyProof.Rows L2 K45R K45T K45
/-- all but the object at p stands as it did -/
def Keep (p : Addr) (H H' : Hp) : Prop := ∀ b o, b ≠ p → H b = some o → H' b = some o
theorem Keep.upd {p : Addr} {H : Hp} {o : HO} : Keep p H (upd H p o) := fun b x nb e => by rw [upd_ne nb]; exact e
theorem Keep.trans {p : Addr} {H H1 H2 : Hp} (a : Keep p H H1) (b : Keep p H1 H2) : Keep p H H2 := fun c o n e => b c o n (a c o n e)
theorem Same.keep {p : Addr} {H H1 : Hp} (a : Same H H1) : Keep p H H1 := fun c o _ e => a c o e
/-! ### buyers by weights -/
def wF (n : Int) (wa : Addr) (a : Int) : List (Str × V) := [("many", .int n), ("weights", .ref wa), ("aside", .int a)]
theorem wF_many {n a : Int} {wa : Addr} : (wF n wa a).lookup ("many" : Str) = some (.int n) := by unfold wF; rw [lk_cons, if_pos rfl]
theorem wF_weights {n a : Int} {wa : Addr} : (wF n wa a).lookup ("weights" : Str) = some (.ref wa) := by unfold wF; rw [lk_cons, if_neg (by decide +kernel), lk_cons, if_pos rfl]
theorem wF_aside {n a : Int} {wa : Addr} : (wF n wa a).lookup ("aside" : Str) = some (.int a) := by unfold wF; rw [lk_cons, if_neg (by decide +kernel), lk_cons, if_neg (by decide +kernel), lk_cons, if_pos rfl]
theorem wF_no {n a : Int} {wa : Addr} {m : Str} (h : m ∉ (["many", "weights", "aside"] : List Str)) : (wF n wa a).lookup m = none := lk_no h
structure WAt (K : PySem.W.Frag) (H : Hp) (v : V) (ws : List Int) (a : Int) : Prop where
  ex : ∃ p dx wa, v = .ref p ∧ H p = some (.ins (cW K) dx (wF (ws.length : Int) wa a)) ∧ H wa = some (.tup (iv ws))
theorem WAt.same {K : PySem.W.Frag} {H H' : Hp} {v : V} {ws : List Int} {a : Int} (s : Same H H') (h : WAt K H v ws a) : WAt K H' v ws a := by
  obtain ⟨p, dx, wa, e, h1, h2⟩ := h
  exact ⟨p, dx, wa, e, s _ _ h1, s _ _ h2⟩
def sp_WI (K : PySem.W.Frag) : Sp := fun vs H Q _ => ∃ (p dx l : Addr) (ws : List Int) (a : Int), vs = [.ref p, .ref l, .int a] ∧ H p = some (.ins (cW K) dx []) ∧ H l = some (.lst (iv ws)) ∧ ws.length ≤ 24 ∧ (∀ x ∈ ws, 1 ≤ x) ∧ 1 ≤ a ∧
  ∀ H', Keep p H H' → WAt K H' (.ref p) ws a → Q .non H'
section
variable {w : World} {K : PySem.W.Frag} {mg : Str → Option Value} {base : Heap} {k : Nat}
theorem ok_WI (T : Fx K mg) : OkD PW w K mg base 2 (f_WI K) ["self", "weights", "aside"] [] (sp_WI K) := by
  have GU := (ok_UI (P := PW) (w := w) (base := base) T).raw0
  refine OkD.of (okS T T.d_WI sc_WI (fun _ _ _ _ _ _ _ us hl => match us, hl with | [_, _, _], _ => rfl) rfl rfl (fun _ _ => rfl) ⟨_, rfl, rfl, .inl rfl⟩ (fun vs H Q E h => ?_) fun cc cda A outer s H vs Q E hr S h => ?_)
  · obtain ⟨p, dx, l, ws, a, rfl, _⟩ := h
    rfl
  obtain ⟨p, dx, l, ws, a, rfl, hp, hl, h24, h1, ha, q⟩ := h
  obtain ⟨um, con⟩ := T.most_W
  refine ⟨_, PSsA.nox (psa_cons (psa_superE (SupEnv.nox S) T.u_WI GU hr pass0 (pa_cons (pe_callB call_len_seq (by rfl) T.m_len PySem.boot_len (pa_cons (pv 1) pa_nil)) pa_nil))
    (pss_cons (ps_for PassesOwn.never rfl (pi_enum (by rfl) T.m_enumerate (pa_cons (pv 1) pa_nil)) (pg_tup rfl (pgs_cons (pg_name (i := 3) sc_WI.nd rfl (.inl rfl)) (pgs_cons (pg_name (i := 4) sc_WI.nd rfl (.inl rfl)) pgs_nil)))
      (pss_one (ps_if (pt_cmpR op_lt (pv 4) pe_int (nomark _)) pss_never pss_nil)))
    (pss_cons (ps_if (pt_cmpR op_lt (pv 2) pe_int (nomark _)) pss_never pss_nil)
    (pss_cons (ps_fld (pv 0) (pe_callTy call_tuple_of (by rfl) T.m_tuple (by decide +kernel) (pa_cons (pv 1) pa_nil)) rfl)
    (pss_one (ps_fld (pv 0) (pv 2) rfl)))))), ?_⟩
  have npl : l ≠ p := (ne_of hp hl (by intro z; cases z)).symm
  refine ⟨p, dx, [], rfl, hp, _, rfl, l, _, rfl, .inl (sq_l hl), ?_⟩
  rw [iv_len]
  refine ⟨cW K, p, dx, _, 24, um, rfl, hp, T.c_Weighted, T.n_Weighted_many, con, by omega, ?_⟩
  have hl1 : (upd H p (.ins (cW K) dx [("many", .int (ws.length : Int))])) l = some (.lst (iv ws)) := by rw [upd_ne npl]; exact hl
  refine ⟨_, rfl, l, _, rfl, sq_l hl1, for_it (walk_enum (K := K) (a := l) (xs := iv ws)) (fun i σ H' => Same (upd H p (.ins (cW K) dx [("many", .int (ws.length : Int))])) H' ∧ ∃ v3 v4, σ = [some (.ref p), some (.ref l), some (.int a), v3, v4])
    ⟨.refl _, none, none, rfl⟩ (fun i σ H' hi ⟨s1, _⟩ => sq_l (s1 _ _ hl1)) ?_ ?_⟩
  · rintro i x σ H1 H2 hi ⟨s1, v3, v4, rfl⟩ ⟨U, x1, x2, rfl, nU, rfl, e1, e2⟩
    obtain ⟨y, hy, rfl⟩ := iv_at e2
    have hy1 := h1 y (List.mem_of_getElem? hy)
    refine ⟨U, [x1, .int y], rfl, .inl (.inl upd_same), rfl, x1, [.int y], rfl, .int y, [], rfl, rfl, ?_⟩
    refine ⟨_, rfl, _, _, rfl, rfl, _, rfl, ?_⟩
    rw [decide_eq_false (by omega)]
    refine iteF ?_
    exact ⟨s1.trans (same_upd nU), _, _, rfl⟩
  · rintro σ H1 ⟨s1, v3, v4, rfl⟩
    refine ⟨_, rfl, _, _, rfl, rfl, _, rfl, ?_⟩
    rw [decide_eq_false (by omega)]
    refine iteF ?_
    have hp1 := s1 _ _ (upd_same (H := H) (a := p) (o := .ins (cW K) dx [("many", .int (ws.length : Int))]))
    refine ⟨_, rfl, l, _, rfl, .inl ⟨sq_l (s1 _ _ hl1), fun wa nwa => ?_⟩⟩
    have sw : Same H1 (upd H1 wa (.tup (iv ws))) := same_upd nwa
    have np : p ≠ wa := ne_of_none hp1 nwa
    refine ⟨_, rfl, p, _, dx, _, rfl, sw _ _ hp1, T.c_Weighted, T.n_Weighted_weights, (by show 1 < 1000; decide), ?_⟩
    refine ⟨_, rfl, _, rfl, p, _, dx, _, rfl, upd_same, T.c_Weighted, T.n_Weighted_aside, ?_, ?_⟩
    · rw [putF_new (by show ("weights" : Str) ∉ (["many"] : List Str); decide +kernel)]
      show 2 < 1000
      decide
    · refine q _ (fun b o nb e => ?_) ⟨p, dx, wa, rfl, ?_, ?_⟩
      · rw [upd_ne nb, upd_ne nb]
        exact sw _ _ (s1 _ _ (by rw [upd_ne nb]; exact e))
      · rw [upd_same, putF_new (f := "weights") (by show ("weights" : Str) ∉ (["many"] : List Str); decide +kernel), putF_new (by show ("aside" : Str) ∉ (["many", "weights"] : List Str); decide +kernel)]
        rfl
      · rw [upd_ne np.symm, upd_ne np.symm, upd_same]
end
end K45W
end JK45Wgt
section JK45Wgt2
set_option Elab.async false
set_option linter.all false
set_option maxRecDepth 100000
set_option maxHeartbeats 4000000
namespace K45W
open PySem PySem.Spec PyProof.Rows L2 K45R K45T K45
def sp_WT (K : PySem.W.Frag) : Sp := fun vs H Q _ => ∃ (v : V) (la : Addr) (ws : List Int) (a : Int) (L : List Nat), vs = [v, .ref la] ∧ WAt K H v ws a ∧ H la = some (.tup (tv L)) ∧ (∀ t ∈ L, t < ws.length) ∧ L.length ≤ 900 ∧
  ∀ H', Same H H' → Q (.int (tot (nth ws) a L)) H'
/-- numbers of less than 62 bits -/
def Small (ws : List Int) : Prop := ∀ x ∈ ws, Bd 62 x
theorem small_nth {ws : List Int} (h : Small ws) (t : Nat) : Bd 62 (nth ws t) := by
  by_cases c : t < ws.length
  · exact h _ (List.mem_of_getElem? (nth_get c))
  · have : nth ws t = 0 := by unfold nth; rw [List.getD_eq_getElem?_getD, List.getElem?_eq_none (by omega)]; rfl
    rw [this]
    exact Bd.zero _
theorem sm_bd {f : Nat → Int} {b : Nat} (h : ∀ t, Bd b (f t)) : ∀ (L : List Nat) (c : Nat), L.length ≤ 2 ^ c → Bd (b + c) (sm f L) := fun L c hc => by
  have key : ∀ L : List Nat, (sm f L).natAbs ≤ L.length * (2 ^ b - 1) := by
    intro L
    induction L with
    | nil => simp [sm]
    | cons x L ih =>
      rw [sm_cons, List.length_cons, Nat.succ_mul]
      have hx : (f x).natAbs < 2 ^ b := h x
      have := Int.natAbs_add_le (f x) (sm f L)
      omega
  have k := key L
  unfold Bd
  have hb : 0 < 2 ^ b := Nat.two_pow_pos b
  rw [Nat.pow_add, Nat.mul_comm]
  have h2 : L.length * (2 ^ b - 1) ≤ 2 ^ c * (2 ^ b - 1) := Nat.mul_le_mul_right _ hc
  have h3 : 2 ^ c * (2 ^ b - 1) < 2 ^ c * 2 ^ b := Nat.mul_lt_mul_of_pos_left (by omega) (Nat.two_pow_pos c)
  omega
theorem tot_bd {ws : List Int} {a : Int} {L : List Nat} (h : Small ws) (ha : Bd 62 a) (hl : L.length ≤ 32) : Bd 68 (tot (nth ws) a L) := by
  have := sm_bd (fun t => small_nth h t) L 5 (by simpa using hl)
  exact (Bd.add (ha.le (by omega : 62 ≤ 67)) (this.le (by omega))).le (by omega)
theorem bro_bd {ws ps : List Int} {L : List Nat} (h : Small ws) (hp : Small ps) (hl : L.length ≤ 32) : Bd 130 (bro (nth ws) (nth ps) L) := by
  have := sm_bd (f := fun i => nth ws i * nth ps i) (b := 124) (fun t => (small_nth h t).mul (small_nth hp t)) L 5 (by simpa using hl)
  exact this.le (by omega)
section
variable {w : World} {K : PySem.W.Frag} {mg : Str → Option Value} {base : Heap} {k : Nat} {P : Program}
theorem ok_WT (T : Fx K mg) : OkD P w K mg base 1 (f_WT K) ["self", "lot"] [] (sp_WT K) := by
  refine okF T.d_WT sc_WT (fun _ _ _ _ _ _ us hl => match us, hl with | [_, _], _ => rfl) (fun vs H Q E h => ?_) (fun cdv A outer s H vs Q E hr h => ?_)
  · obtain ⟨v, la, ws, a, L, rfl, _⟩ := h
    rfl
  obtain ⟨v, la, ws, a, L, rfl, hW, hL, hlt, h9, q⟩ := h
  obtain ⟨p, dx, wa, rfl, hp, hw⟩ := hW.ex
  refine ⟨_, pss_one (ps_ret (pe_op op_add (pe_fld (pv 0) rfl) (pe_callB (cr_sum rfl) (by rfl) T.m_sum (by decide +kernel) (pa_cons
    (pe_lc (own := [("thing", 2)]) (g := gName 2) (tt := tYes) rfl sc_WT.nd (pi_tup (pv 1)) (blkOk_by (N := ns_WT) (sc := defScope s_WT) (by decide +kernel)) (fun _ _ _ _ _ => pg_name (i := 2) sc_WT.nd rfl (.inl rfl) (.inr rfl)) (fun _ _ _ _ _ => pts_nil)
      (fun _ _ _ _ _ => pe_ix (ixT K) (pFld K (pv 0) rfl) (pv 2) (fun _ _ => rfl))) pa_nil)))), ?_⟩
  refine ⟨_, rfl, p, _, dx, _, _, rfl, hp, T.c_Weighted, T.n_Weighted_aside, wF_aside, ?_⟩
  refine ⟨_, rfl, la, rfl, ⟨_, sq_t hL⟩, fun D nD => lc_it (walk_tup (K := K) (a := la) (xs := tv L)) (fun j H' => Same H H' ∧ H' D = some (.lst (iv ((L.take j).map (nth ws))))) ⟨same_upd nD, upd_same⟩ (fun j H' hj ⟨s1, _⟩ => sq_t (s1 _ _ hL)) ?_ ?_⟩
  · rintro j x H1 H2 hj ⟨s1, eD⟩ ⟨rfl, hx⟩
    obtain ⟨t, ht, rfl⟩ := tv_at hx
    have hn : ws[t]? = some (nth ws t) := nth_get (hlt t (List.mem_of_getElem? ht))
    refine ⟨rfl, ?_⟩
    refine ⟨_, rfl, p, _, dx, _, _, rfl, s1 _ _ hp, T.c_Weighted, T.n_Weighted_weights, wF_weights, _, rfl, wa, _, _, _, rfl, rfl, sq_t (s1 _ _ hw), atI_nat (iv_get hn), ?_⟩
    refine ⟨_, eD, ?_, fun b o e => ?_, ?_⟩
    · rw [iv_len, List.length_map, List.length_take]
      exact small1000 (by omega)
    · rw [upd_ne (ne_of_none e nD)]
      exact s1 _ _ e
    · rw [upd_same, List.take_add_one, ht, List.map_append, iv_app]
      rfl
  · rintro H1 ⟨s1, eD⟩
    rw [tv_len, List.take_length] at eD
    refine ⟨D, _, rfl, sq_l eD, _, _, rfl, rfl, ?_⟩
    exact q H1 s1
def sp_WS (K : PySem.W.Frag) : Sp := fun vs H Q _ => ∃ (v : V) (la : Addr) (ws : List Int) (a : Int) (L : List Nat), vs = [v, .ref la] ∧ WAt K H v ws a ∧ H la = some (.tup (tv L)) ∧ L.Pairwise (· < ·) ∧ (∀ t ∈ L, t < ws.length) ∧ ws.length ≤ 24 ∧ Small ws ∧ Bd 62 a ∧ (∀ x ∈ ws, 1 ≤ x) ∧ 1 ≤ a ∧
  ∀ H' t, Same H H' → RatL (cR K) H' t (lotrow (nth ws) (tot (nth ws) a L) L ws.length) → Q (.ref t) H'
theorem zeros_row {C : Addr} {H : Hp} {t : Addr} {f : Nat → Int} {D : Int} {n : Nat} (h : RatL C H t (zeros n)) (hD : 0 < D) : RatL C H t (lotrow f D [] n) := by
  obtain ⟨vs, e, hl, h⟩ := h
  refine ⟨vs, e, by rw [hl, lotrow_len]; simp [zeros], fun i v x h1 h2 => ?_⟩
  have hi : i < n := by have := (List.getElem?_eq_some_iff.mp h2).1; rwa [lotrow_len] at this
  rw [lotrow_get hi] at h2
  cases h2
  have z : (zeros n)[i]? = some (0, 1) := by unfold zeros; rw [List.getElem?_replicate, if_pos hi]
  have r := h i v _ h1 z
  refine r.eq hD ?_
  simp
theorem sorted_len {L : List Nat} {n : Nat} (h : L.Pairwise (· < ·)) (hl : ∀ t ∈ L, t < n) : L.length ≤ n := by
  have nd : L.Nodup := h.imp fun q => by omega
  have := List.Nodup.length_le_of_subset nd (l₂ := List.range n) fun t ht => List.mem_range.mpr (hl t ht)
  simpa using this
theorem ok_WS (T : Fx K mg) : OkD PW w K mg base 4 (f_WS K) ["self", "lot"] [] (sp_WS K) := by
  have GU := (ok_US (P := PW) (w := w) (base := base) T).raw0
  obtain ⟨⟨fdI, dsI, GI, bI, dI⟩, kpI⟩ := ok_RI (P := PW) (w := w) (base := base) T [] (.inl rfl)
  obtain ⟨⟨fdT, dsT, GT, bT, dT⟩, kpT⟩ := (ok_WT (P := PW) (w := w) (base := base) T).mono (k := 3) (by decide)
  refine OkD.of (okS T T.d_WS sc_WS (fun _ _ _ _ _ _ _ us hl => match us, hl with | [_, _], _ => rfl) rfl rfl (fun _ _ => rfl) ⟨_, rfl, rfl, .inl rfl⟩ (fun vs H Q E h => ?_) fun cc cda A outer s H vs Q E hr S h => ?_)
  · obtain ⟨v, la, ws, a, L, rfl, _⟩ := h
    rfl
  obtain ⟨v, la, ws, a, L, rfl, hW, hL, hs, hlt, h24, sw, sa, h1, ha, q⟩ := h
  have hr2 : Room 2 _ := hr.mono (by decide)
  refine ⟨_, PSsA.nox (psa_cons (psa_superN (i := 2) (SupEnv.nox S) T.u_WS GU hr pass0 sc_WS.nd rfl (.inl rfl) (pa_cons (pv 1) pa_nil))
    (pss_cons (ps_set (i := 3) sc_WS.nd rfl (.inl rfl) (pe_meth (pv 0) T.c_Weighted T.t_WT GT hr bT dT pass0 (pa_cons (pv 1) pa_nil)))
    (pss_cons (ps_for PassesOwn.never rfl (pi_tup (pv 1)) (pg_name (i := 4) sc_WS.nd rfl (.inl rfl))
      (pss_one (ps_asg (pe_make T.k_Ratio GI hr2 (by rfl) T.g_Ratio bI dI pass0 (pa_cons (pe_ix ix_tup (pe_fld (pv 0) rfl) (pv 4) (fun _ _ => rfl)) (pa_cons (pv 3) pa_nil))) (pg_sub (pv 2) (pv 4) set_list))))
    (pss_one (ps_ret (pv 2)))))), ?_⟩
  obtain ⟨p, dx, wa, rfl, hp, hw⟩ := hW.ex
  have hLn := sorted_len hs hlt
  refine ⟨p, dx, _, rfl, hp, _, rfl, cW K, p, dx, _, la, ws.length, L, rfl, hp, T.c_Weighted, T.n_Weighted_many, wF_many, hL, hs, hlt, by omega, fun H1 R s1 nR hR => ?_⟩
  refine ⟨_, rfl, p, dx, _, rfl, s1 _ _ hp, wF_no (by decide +kernel), _, rfl, .ref p, la, ws, a, L, rfl, hW.same s1, s1 _ _ hL, hlt, by omega, fun H2 s2 => ?_⟩
  have tp : 0 < tot (nth ws) a L := by
    have : 0 ≤ sm (nth ws) L := sm_nonneg fun t ht => by have := h1 _ (List.mem_of_getElem? (nth_get (hlt t ht))); omega
    unfold tot
    omega
  have tb := tot_bd (L := L) sw sa (by omega)
  refine ⟨_, rfl, la, rfl, ⟨_, sq_t (s2 _ _ (s1 _ _ hL))⟩, for_it (walk_tup (K := K) (a := la) (xs := tv L)) (fun i σ H' => ∃ v4, σ = [some (.ref p), some (.ref la), some (.ref R), some (.int (tot (nth ws) a L)), v4] ∧ Same H H' ∧ RatL (cR K) H' R (lotrow (nth ws) (tot (nth ws) a L) (L.take i) ws.length))
    ⟨none, rfl, s1.trans s2, zeros_row (hR.same s2) tp⟩ (fun i σ H' hi ⟨_, _, s3, _⟩ => sq_t (s3 _ _ hL)) ?_ ?_⟩
  · rintro i x σ H3 H4 hi ⟨v4, rfl, s3, vR, eR, hR3⟩ ⟨rfl, hx⟩
    obtain ⟨t, ht, rfl⟩ := tv_at hx
    have htn := hlt t (List.mem_of_getElem? ht)
    have hn : ws[t]? = some (nth ws t) := nth_get htn
    refine ⟨_, rfl, p, _, dx, _, _, rfl, s3 _ _ hp, T.c_Weighted, T.n_Weighted_weights, wF_weights, _, rfl, wa, _, _, _, rfl, rfl, sq_t (s3 _ _ hw), atI_nat (iv_get hn), _, rfl, ?_⟩
    intro y dy ny ndy ney
    refine ⟨y, dy, _, _, rfl, upd_same, tp, (small_nth sw t).le (by omega), tb.le (by omega), fun H5 k5 e5 => ⟨rfl, ?_⟩⟩
    obtain ⟨s5, ry⟩ := made_rat ny ndy tp k5 e5
    have lR : vR.length = ws.length := hR3.1.trans lotrow_len
    have ix : ixN vR.length (t : Int) = some t := by
      unfold ixN
      rw [if_pos (by omega), if_pos (by omega)]
      simp
    refine ⟨_, rfl, _, rfl, R, vR, _, t, rfl, rfl, s5 _ _ eR, ix, ?_⟩
    refine ⟨_, rfl, fun b o e => ?_, ?_⟩
    · rw [upd_ne (ne_of_none e nR)]
      exact s5 _ _ (s3 _ _ e)
    · have e : L.take (i + 1) = L.take i ++ [t] := by rw [List.take_add_one, ht]; rfl
      rw [e, ← lotrow_set htn]
      exact RatL.set (s5 _ _ eR) (hR3.mono fun _ _ _ _ z => z.same s5) ry
  · rintro σ H3 ⟨v4, rfl, s3, hR3⟩
    rw [tv_len, List.take_length] at hR3
    exact ⟨_, rfl, q _ _ s3 hR3⟩
end
end K45W
end JK45Wgt2
section JK45Dear
set_option Elab.async false
set_option linter.all false
set_option maxRecDepth 100000
set_option maxHeartbeats 4000000
namespace K45W
open PySem PySem.Spec PyProof.Rows L2 K45R K45T K45
theorem d_add : PySem.dunder (Operator.info .Add).2 = ("__add__" : Str) := by decide +kernel
theorem d_mul : PySem.dunder (Operator.info .Mult).2 = ("__mul__" : Str) := by decide +kernel
theorem d_radd : PySem.dunderR (Operator.info .Add).2 = ("__radd__" : Str) := by decide +kernel
theorem d_rmul : PySem.dunderR (Operator.info .Mult).2 = ("__rmul__" : Str) := by decide +kernel
section
variable {P : Program} {w : World} {K : PySem.W.Frag} {mg : Str → Option Value} {base : Heap} {k : Nat} {X : Cx}
/-- the operators of ratios, in a def of room 3 -/
theorem o_add (T : Fx X.K X.mg) (hr : Room 3 X.A) : OpR X (binaryOp .Add) (rOwnR (cR X.K) (sp_RA (cR X.K)) E0) :=
  op_ownR (CX := CX0) T.o_first (by rw [d_add]; exact T.t_RA.at_) T.t_RA.fn (ok_RA (P := X.prog) (w := X.w) (base := X.base) T).raw0 hr pass0
theorem o_addI (T : Fx X.K X.mg) (hr : Room 3 X.A) : OpR X (binaryOp .Add) (rOwnI (cR X.K) (sp_RA (cR X.K)) E0) := by
  obtain ⟨rc, h0, hp⟩ := T.o_radd
  obtain ⟨fo, h1⟩ := T.o_iadd
  obtain ⟨ro, h2⟩ := T.o_iradd
  exact op_ownI (CX := CX0) T.o_first (by rw [d_add]; exact T.t_RA.at_) T.t_RA.fn (by rw [d_radd]; exact h0) hp (by rw [d_add]; exact h1) (by rw [d_radd]; exact h2) T.o_sub (ok_RA (P := X.prog) (w := X.w) (base := X.base) T).raw0 hr pass0
theorem o_mulI (T : Fx X.K X.mg) (hr : Room 3 X.A) : OpR X (binaryOp .Mult) (rOwnI (cR X.K) (sp_int (cR X.K) fun n d i => (n * i, d)) E0) := by
  obtain ⟨rc, h0, hp⟩ := T.o_rmul
  obtain ⟨fo, h1⟩ := T.o_imul
  obtain ⟨ro, h2⟩ := T.o_irmul
  exact op_ownI (CX := CX0) T.o_first (by rw [d_mul]; exact T.t_RM.at_) T.t_RM.fn (by rw [d_rmul]; exact h0) hp (by rw [d_mul]; exact h1) (by rw [d_rmul]; exact h2) T.o_sub (ok_RM (P := X.prog) (w := X.w) (base := X.base) T).raw0 hr pass0
theorem o_ge (T : Fx X.K X.mg) (hr : Room 3 X.A) : OpR X (compareOp .GtE) (rOwnI (cR X.K) (sp_cmp (cR X.K) fun n d i => decide (i * d ≤ n)) E0) :=
  cmp_ownI (CX := CX0) (fun _ _ => rfl) T.o_not T.t_RG.at_ T.t_RG.fn (ok_RG (P := X.prog) (w := X.w) (base := X.base) T).raw0 (hr.mono (by decide)) pass0
theorem o_lt (T : Fx X.K X.mg) (hr : Room 3 X.A) : OpR X (compareOp .Lt) (rOwnI (cR X.K) (sp_cmp (cR X.K) fun n d i => decide (n < i * d)) E0) :=
  cmp_ownI (CX := CX0) (fun _ _ => rfl) T.o_not T.t_RL.at_ T.t_RL.fn (ok_RL (P := X.prog) (w := X.w) (base := X.base) T).raw0 (hr.mono (by decide)) pass0
end
theorem iteTb {b : Bool} {A B : Prop} (h : b = true) (x : A) : if b = true then A else B := by rw [if_pos h]; exact x
theorem iteFb {b : Bool} {A B : Prop} (h : b = false) (x : B) : if b = true then A else B := by rw [h, if_neg Bool.false_ne_true]; exact x
def sp_dw (K : PySem.W.Frag) : Sp := fun vs H Q _ => ∃ (v : V) (pa : Addr) (ws ps : List Int) (a : Int), vs = [v, .ref pa] ∧ WAt K H v ws a ∧ H pa = some (.lst (iv ps)) ∧ ps.length = ws.length ∧ ws.length ≤ 24 ∧ Ok (nth ws) (nth ps) a ws.length ∧ Small ws ∧ Small ps ∧ Bd 62 a ∧
  ∀ H' t lt x L, Same H H' → H' t = some (.tup [.ref lt, x]) → H' lt = some (.tup (tv L)) → Fix (nth ws) (nth ps) a ws.length L → RatAt (cR K) H' x (bro (nth ws) (nth ps) L) (tot (nth ws) a L) → Q (.ref t) H'
section
variable {P : Program} {w : World} {K : PySem.W.Frag} {mg : Str → Option Value} {base : Heap} {k : Nat}
theorem ok_dw (T : Fx K mg) : OkD P w K mg base 4 (f_dw K) ["rule", "prices"] [] (sp_dw K) := by
  obtain ⟨⟨fdI, dsI, GI, bI, dI⟩, kpI⟩ := ok_RI (P := P) (w := w) (base := base) T [.int 1] (.inr rfl)
  obtain ⟨⟨fdD, dsD, GD, bD, dD⟩, kpD⟩ := (ok_do (P := P) (w := w) (base := base) T).mono (k := 3) (by decide)
  obtain ⟨⟨fdO, dsO, GO, bO, dO⟩, kpO⟩ := ok_RO (P := P) (w := w) (base := base) T
  refine okF T.d_dw sc_dw (fun _ _ _ _ _ _ us hl => match us, hl with | [_, _], _ => rfl) (fun vs H Q E h => ?_) (fun cdv A outer s H vs Q E hr h => ?_)
  · obtain ⟨v, pa, ws, ps, a, rfl, _⟩ := h
    rfl
  obtain ⟨v, pa, ws, ps, a, rfl, hW, hp, el, h24, ok, sw, sp, sa, q⟩ := h
  have hr2 : Room 2 _ := hr.mono (by decide)
  obtain ⟨tR, hR, rR⟩ : ∃ tR, PSs (cxOf CX0 P w K mg base ns_dw "dearer_than_worth" (defScope s_dw) (f_dw K) cdv A outer s H E).nox ((defBody s_dw).drop 5) tR ∧
      ∀ σ H', (∃ L D x v3 v4 v6, σ = [some v, some (.ref pa), some (.ref D), v3, v4, some x, v6] ∧ Same H H' ∧ H' D = some (.lst (tv L)) ∧ RatAt (cR K) H' x (bro (nth ws) (nth ps) L) (tot (nth ws) a L) ∧ Ends_ (nth ws) (nth ps) a ws.length L) → tR { nx := fun _ H' => Q .non H', rt := Q } σ H' := by
    refine ⟨_, pss_one (ps_ret (pe_tup (pa_cons (pe_callTy call_tuple_of (by rfl) T.m_tuple (by decide +kernel) (pa_cons (pe_callB cr_sorted (by rfl) T.m_sorted (by decide +kernel) (pa_cons
      (pe_lc (own := [("thing", 6)]) (g := gName 6) (tt := tYes) rfl sc_dw.nd (pi_list (pv 2)) (blkOk_by (N := ns_dw) (sc := defScope s_dw) (by decide +kernel)) (fun _ _ _ _ _ => pg_name (i := 6) sc_dw.nd rfl (.inl rfl) (.inr rfl)) (fun _ _ _ _ _ => pts_nil)
        (fun _ _ _ _ _ => pe_callTy call_int1 (by rfl) T.m_int (by decide +kernel) (pa_cons (pv 6) pa_nil))) pa_nil)) pa_nil)) (pa_cons (pv 5) pa_nil)))), ?_⟩
    rintro σ H1 ⟨L, D, x, v3, v4, v6, rfl, s1, eD, rx, e⟩
    have hl : L.length ≤ 24 := by
      have := List.Nodup.length_le_of_subset e.nd (l₂ := List.range ws.length) fun t ht => List.mem_range.mpr (e.lt t ht)
      rw [List.length_range] at this
      omega
    refine ⟨_, rfl, D, rfl, ⟨_, sq_l eD⟩, fun F nF => lc_list (K := K) (a := D) (xs := tv L) (fun j H' => Same H1 H' ∧ H' F = some (.lst (tv (L.take j)))) ⟨same_upd nF, upd_same⟩ (fun j H' hj ⟨s2, _⟩ => sq_l (s2 _ _ eD)) ?_ ?_⟩
    · rintro j x H2 hx ⟨s2, eF⟩
      obtain ⟨t, ht, rfl⟩ := tv_at hx
      refine ⟨rfl, ?_⟩
      refine ⟨_, rfl, .inl ⟨_, rfl, ?_⟩⟩
      refine ⟨_, eF, ?_, fun b o e => ?_, ?_⟩
      · rw [tv_len, List.length_take]
        exact small1000 (by omega)
      · rw [upd_ne (ne_of_none e nF)]
        exact s2 _ _ e
      · rw [upd_same, List.take_add_one, ht, tv_app]
        rfl
    · rintro H2 ⟨s2, eF⟩
      rw [tv_len, List.take_length] at eF
      have eI : tv L = (L.map fun t : Nat => (t : Int)).map V.int := by unfold tv; rw [List.map_map]; rfl
      refine ⟨F, L.map fun t : Nat => (t : Int), rfl, sq_l (by rw [eF, eI]), by rw [List.length_map]; omega, fun ns' G pm rs nG => ?_⟩
      obtain ⟨pL, fx⟩ := ends_fix e
      have en := sorted_ints pL lotq_sorted pm rs
      have sG : Same H2 (upd H2 G (.lst (ns'.map V.int))) := same_upd nG
      refine ⟨G, _, rfl, .inl ⟨sq_l upd_same, fun U nU => ?_⟩⟩
      have sU : Same _ (upd (upd H2 G (.lst (ns'.map V.int))) U (.tup (ns'.map V.int))) := same_upd nU
      refine ⟨_, rfl, (by show 2 ≤ sizeLine; decide), fun R nR => ?_⟩
      have sR : Same _ (upd (upd (upd H2 G (.lst (ns'.map V.int))) U (.tup (ns'.map V.int))) R (.tup [.ref U, x])) := same_upd nR
      have s5 : Same H1 _ := ((s2.trans sG).trans sU).trans sR
      refine q _ R U x (lotq ws.length (keepq (nth ws) (nth ps) a L)) (s1.trans s5) upd_same ?_ fx ?_
      · rw [sR _ _ upd_same, en, List.map_map]
        rfl
      · have r2 := rx.same s5
        have e1 : bro (nth ws) (nth ps) (lotq ws.length (keepq (nth ws) (nth ps) a L)) = bro (nth ws) (nth ps) L := sm_perm pL
        have e2 : tot (nth ws) a (lotq ws.length (keepq (nth ws) (nth ps) a L)) = tot (nth ws) a L := by unfold tot; rw [sm_perm pL]
        rw [e1, e2]
        exact r2
  refine ⟨_, pss_cons (ps_set (i := 2) sc_dw.nd rfl (.inl rfl) (pe_lst pa_nil))
    (pss_cons (ps_set (i := 3) sc_dw.nd rfl (.inl rfl) (pe_make T.k_Ratio GI hr2 (by rfl) T.g_Ratio bI dI pass0 (pa_cons pe_int pa_nil)))
    (pss_cons (ps_set (i := 4) sc_dw.nd rfl (.inl rfl) (pe_fld (pv 0) rfl))
    (pss_cons (ps_set (i := 5) sc_dw.nd rfl (.inl rfl) (pe_make T.k_Ratio GI hr2 (by rfl) T.g_Ratio bI dI pass0 (pa_cons pe_int pa_nil)))
    (pss_cons (ps_for PassesOwn.never rfl (pi_tup (pe_call GD hr (by rfl) T.g_do kpD bD dD pass0 (pa_cons (pv 1) pa_nil))) (pg_name (i := 6) sc_dw.nd rfl (.inl rfl))
      (pss_cons (ps_if (pt_cmpR (o_ge T hr) (pv 5) (pe_ix ix_list (pv 1) (pv 6) (fun _ _ => rfl)) (nomark _)) (pss_one ps_break) pss_nil)
      (pss_cons (ps_expr (pe_bm PySem.F.plainAttrs_list PySem.F.slot_list_append PySem.F.type_list_append mt_append (pv 2) (pa_cons (pv 6) pa_nil)))
      (pss_cons (ps_set (i := 3) sc_dw.nd rfl (.inl rfl) (pe_op (o_addI T hr) (pv 3) (pe_op op_mulW (pe_ix ix_tup (pe_fld (pv 0) rfl) (pv 6) (fun _ _ => rfl)) (pe_ix ix_list (pv 1) (pv 6) (fun _ _ => rfl)))))
      (pss_cons (ps_aug (i := 4) sc_dw.nd rfl (.inl rfl) (pe_ix ix_tup (pe_fld (pv 0) rfl) (pv 6) (fun _ _ => rfl)) ip_add)
      (pss_one (ps_set (i := 5) sc_dw.nd rfl (.inl rfl) (pe_meth (pv 3) T.c_Ratio T.t_RO GO hr bO dO pass0 (pa_cons (pv 4) pa_nil))))))))) hR)))), ?_⟩
  obtain ⟨p, dx, wa, rfl, hpp, hw⟩ := hW.ex
  have pos1 : (0 : Int) < 1 := by decide
  have a1 := ok.a1
  refine ⟨Nat.zero_le _, fun D nD => ?_⟩
  have s0 : Same H (upd H D (.lst [])) := same_upd nD
  intro y3 d3 n3 nd3 ne3
  refine ⟨y3, d3, _, _, rfl, upd_same, pos1, Bd.zero _, Bd.one (by decide), fun H1 k1 e1 => ⟨rfl, ?_⟩⟩
  obtain ⟨s1, r3⟩ := made_rat n3 nd3 pos1 k1 e1
  refine ⟨_, rfl, p, _, dx, _, _, rfl, s1 _ _ (s0 _ _ hpp), T.c_Weighted, T.n_Weighted_aside, wF_aside, ?_⟩
  intro y5 d5 n5 nd5 ne5
  refine ⟨y5, d5, _, _, rfl, upd_same, pos1, Bd.zero _, Bd.one (by decide), fun H2 k2 e2 => ⟨rfl, ?_⟩⟩
  obtain ⟨s2, r5⟩ := made_rat n5 nd5 pos1 k2 e2
  have s02 := (s0.trans s1).trans s2
  refine ⟨_, rfl, pa, ps, rfl, s02 _ _ hp, by omega, fun H3 t O s3 eO dO => ?_⟩
  have s03 := s02.trans s3
  have z1 : tot (nth ws) a [] = a := by unfold tot; rw [sm_nil]; omega
  have z2 : bro (nth ws) (nth ps) [] = 0 := rfl
  have lO : O.length = ws.length := by rw [dO.perm.length_eq, List.length_range, el]
  have mO : ∀ {x : Nat}, x ∈ O ↔ x < ws.length := fun {x} => by rw [dO.perm.mem_iff, List.mem_range, el]
  have ndO : O.Nodup := dO.perm.nodup_iff.mpr List.nodup_range
  refine ⟨t, rfl, ⟨_, sq_t eO⟩, for_it (walk_tup (K := K) (a := t) (xs := tv O)) (fun i σ H' => ∃ v3 v5 v6, σ = [some (.ref p), some (.ref pa), some (.ref D), some v3, some (.int (tot (nth ws) a (O.take i))), some v5, v6] ∧ Same H H' ∧ H' t = some (.tup (tv O)) ∧ H' D = some (.lst (tv (O.take i))) ∧
      RatAt (cR K) H' v3 (bro (nth ws) (nth ps) (O.take i)) 1 ∧ RatAt (cR K) H' v5 (bro (nth ws) (nth ps) (O.take i)) (tot (nth ws) a (O.take i)) ∧ Add (nth ws) (nth ps) a (O.take i))
    ⟨.ref y3, .ref y5, none, by rw [List.take_zero, z1]; rfl, s03, eO, ?_, ?_, ?_, by rw [List.take_zero]; exact add_nil⟩ (fun i σ H' hi ⟨_, _, _, _, _, e, _⟩ => sq_t e) ?_ ?_⟩
  · rw [List.take_zero]
    exact s3 _ _ (s2 _ _ (s1 _ _ upd_same))
  · rw [List.take_zero, z2]
    exact (r3.same s2).same s3
  · rw [List.take_zero, z1, z2]
    exact (r5.same s3).eq (by omega) (by omega)
  · rintro i x σ Hq H4 hi ⟨v3, v5, v6, rfl, s4, eO4, eD, q3, q5, ad⟩ ⟨rfl, hx⟩
    obtain ⟨c, hc, rfl⟩ := tv_at hx
    rw [tv_len, lO] at hi
    have hcn : c < ws.length := mO.mp (List.mem_of_getElem? hc)
    have gp : ps[c]? = some (nth ps c) := nth_get (by omega)
    have gw : ws[c]? = some (nth ws c) := nth_get hcn
    have lt24 : (O.take i).length ≤ 24 := by rw [List.length_take]; omega
    have ltO : ∀ x ∈ O.take i, x < ws.length := fun x hx => mO.mp (List.mem_of_mem_take hx)
    have tp := tot_pos ok ltO
    have bb := bro_bd (L := O.take i) sw sp (by omega)
    have tb := tot_bd (L := O.take i) sw sa (by omega)
    have eT : O.take (i + 1) = O.take i ++ [c] := by rw [List.take_add_one, hc]; rfl
    have hpa := s4 _ _ hp
    obtain ⟨⟨b5, x5, rfl, e5⟩, p5⟩ := id q5
    refine ⟨_, rfl, _, rfl, _, rfl, pa, _, _, _, rfl, rfl, sq_l hpa, atI_nat (iv_get gp), b5, x5, _, _, rfl, rfl, e5, _, _, _, _, rfl, q5, bb.le (by omega), tb.le (by omega), (small_nth sp c).le (by omega), _, rfl, ?_⟩
    by_cases cmp : nth ps c * tot (nth ws) a (O.take i) ≤ bro (nth ws) (nth ps) (O.take i)
    · refine iteTb (decide_eq_true cmp) ?_
      refine rR _ _ ⟨O.take i, D, _, _, _, _, rfl, s4, eD, q5, ?_⟩
      refine ⟨ndO.sublist (List.take_sublist _ _), ltO, ad.all, fun x hx hn => ?_⟩
      refine le_drop cmp ?_ tp
      have hxO : x ∈ O := mO.mpr hx
      rw [← List.take_append_drop i O] at hxO
      rcases List.mem_append.mp hxO with z | z
      · exact absurd z hn
      · obtain ⟨j, hj⟩ := List.mem_iff_getElem?.mp z
        rw [List.getElem?_drop] at hj
        by_cases j0 : j = 0
        · rw [j0, Nat.add_zero, hc] at hj
          cases hj
          exact Int.le_refl _
        · have h1 : i < O.length := by omega
          have h2 : i + j < O.length := (List.getElem?_eq_some_iff.mp hj).1
          have f := List.pairwise_iff_getElem.mp dO.fall i (i + j) h1 h2 (by omega)
          rw [(List.getElem?_eq_some_iff.mp hj).2, (List.getElem?_eq_some_iff.mp hc).2] at f
          exact f
    · refine iteFb (decide_eq_false cmp) ?_
      refine ⟨_, rfl, .inl ⟨rfl, _, .inl (.inl eD)⟩, _, rfl, D, _, _, rfl, rfl, eD, ?_, ?_⟩
      · rw [tv_len]
        exact small1000 (by omega)
      have nDH : H D = none := nD
      have keepD : ∀ {b : Addr} {o : HO}, (∀ xs, o ≠ .lst xs) → H4 b = some o → (upd H4 D (.lst (tv (O.take i) ++ [.int (c : Int)]))) b = some o := fun {b o} nl e => by
        rw [upd_ne (fun z => by rw [z, eD] at e; exact nl _ (Option.some.inj e).symm)]
        exact e
      have q3' := q3.upd (ys := tv (O.take i) ++ [.int (c : Int)]) eD
      have sH : Same H (upd H4 D (.lst (tv (O.take i) ++ [.int (c : Int)]))) := fun b o e => by
        rw [upd_ne (ne_of_none e nDH)]
        exact s4 _ _ e
      have hpp4 := sH _ _ hpp
      have hw4 := sH _ _ hw
      have hp4 := sH _ _ hp
      obtain ⟨⟨b3, x3, rfl, e3⟩, p3⟩ := id q3'
      have bw := small_nth sw c
      have bp := small_nth sp c
      refine ⟨_, rfl, _, rfl, p, _, dx, _, _, rfl, hpp4, T.c_Weighted, T.n_Weighted_weights, wF_weights, _, rfl, wa, _, _, _, rfl, rfl, sq_t hw4, atI_nat (iv_get gw), _, rfl, _, rfl, pa, _, _, _, rfl, rfl, sq_l hp4, atI_nat (iv_get gp), _, _, rfl, rfl, wide_mul bw bp (by decide) (by decide) (by decide),
        b3, x3, _, _, rfl, rfl, e3, .inr ⟨_, _, _, _, rfl, q3', bb.le (by omega), Bd.one (by decide), (bw.mul bp).le (by omega), fun v H6 s6 r6 => ?_⟩⟩
      have eb : bro (nth ws) (nth ps) (O.take (i + 1)) = bro (nth ws) (nth ps) (O.take i) + nth ws c * nth ps c := by rw [eT]; unfold bro; rw [sm_append, sm_one]
      have et : tot (nth ws) a (O.take (i + 1)) = tot (nth ws) a (O.take i) + nth ws c := by rw [eT]; unfold tot; rw [sm_append, sm_one]; omega
      have r6' : RatAt (cR K) H6 v (bro (nth ws) (nth ps) (O.take (i + 1))) 1 := r6.eq pos1 (by rw [eb]; show (bro (nth ws) (nth ps) (O.take i) + nth ws c * nth ps c * 1) * 1 = (bro (nth ws) (nth ps) (O.take i) + nth ws c * nth ps c) * 1; omega)
      refine ⟨_, rfl, _, rfl, p, _, dx, _, _, rfl, s6 _ _ hpp4, T.c_Weighted, T.n_Weighted_weights, wF_weights, _, rfl, wa, _, _, _, rfl, rfl, sq_t (s6 _ _ hw4), atI_nat (iv_get gw), _, _, rfl, rfl, ?_⟩
      obtain ⟨⟨b6, x6, rfl, e6⟩, p6⟩ := id r6'
      have ltO1 : ∀ x ∈ O.take (i + 1), x < ws.length := fun x hx => mO.mp (List.mem_of_mem_take hx)
      have tp1 := tot_pos ok ltO1
      have lt25 : (O.take (i + 1)).length ≤ 32 := by rw [List.length_take]; omega
      have bb1 := bro_bd (L := O.take (i + 1)) sw sp lt25
      have tb1 := tot_bd (L := O.take (i + 1)) sw sa lt25
      refine ⟨_, rfl, b6, x6, _, rfl, e6, rF_no _ _ (by decide +kernel) (by decide +kernel), _, rfl, _, _, _, tot (nth ws) a (O.take (i + 1)), ?_, r6', bb1.le (by omega), Bd.one (by decide), tp1, tb1.le (by omega), fun v7 H7 s7 r7 => ?_⟩
      · rw [et]
        rfl
      · refine ⟨.ref b6, v7, _, by rw [et]; rfl, sH.trans (s6.trans s7), s7 _ _ (s6 _ _ (keepD (fun xs z => by cases z) eO4)), ?_, r6'.same s7, r7.eq tp1 (by rw [Int.one_mul]), ?_⟩
        · rw [s7 _ _ (s6 _ _ upd_same), eT, tv_app]
          rfl
        · rw [eT]
          refine add_step (fun x hx => ?_) (by omega) (by rw [← eT]; exact tp1)
          obtain ⟨j, hj⟩ := List.mem_iff_getElem?.mp hx
          have hji : j < i := by
            have := (List.getElem?_eq_some_iff.mp hj).1
            rw [List.length_take] at this
            omega
          rw [List.getElem?_take_of_lt hji] at hj
          have h1 : j < O.length := by omega
          have h2 : i < O.length := by omega
          have f := List.pairwise_iff_getElem.mp dO.fall j i h1 h2 hji
          rw [(List.getElem?_eq_some_iff.mp hj).2, (List.getElem?_eq_some_iff.mp hc).2] at f
          exact f
  · rintro σ H4 ⟨v3, v5, v6, rfl, s4, eO4, eD, q3, q5, ad⟩
    have e : O.take (tv O).length = O := by rw [tv_len, List.take_length]
    rw [e] at eD q5 ad
    exact rR _ _ ⟨O, D, _, _, _, _, rfl, s4, eD, q5, ndO, fun x hx => mO.mp hx, ad.all, fun x hx hn => absurd (mO.mpr hx) hn⟩
def sp_WB (K : PySem.W.Frag) : Sp := sp_dw K
end
end K45W
end JK45Dear
section JK45Step
set_option Elab.async false
set_option linter.all false
set_option maxRecDepth 100000
set_option maxHeartbeats 4000000
namespace K45W
open PySem PySem.Spec PyProof.Rows L2 K45R K45T K45
section
variable {P : Program} {w : World} {K : PySem.W.Frag} {mg : Str → Option Value} {base : Heap} {k : Nat}
theorem ok_WB (T : Fx K mg) : OkD P w K mg base 5 (f_WB K) ["self", "prices"] [] (sp_dw K) := by
  obtain ⟨⟨fdC, dsC, GC, bC, dC⟩, kpC⟩ := (ok_cp (P := P) (w := w) (base := base) T).mono (k := 4) (by decide)
  obtain ⟨⟨fdD, dsD, GD, bD, dD⟩, kpD⟩ := ok_dw (P := P) (w := w) (base := base) T
  refine okF T.d_WB sc_WB (fun _ _ _ _ _ _ us hl => match us, hl with | [_, _], _ => rfl) (fun vs H Q E h => ?_) (fun cdv A outer s H vs Q E hr h => ?_)
  · obtain ⟨v, pa, ws, ps, a, rfl, _⟩ := h
    rfl
  obtain ⟨v, pa, ws, ps, a, rfl, hW, hp, el, h24, ok, sw, sp, sa, q⟩ := h
  refine ⟨_, pss_cons (ps_expr (pe_call GC hr (by rfl) T.g_cp kpC bC dC pass0 (pa_cons (pv 1) (pa_cons (pe_fld (pv 0) rfl) pa_nil))))
    (pss_one (ps_ret (pe_call GD hr (by rfl) T.g_dw kpD bD dD pass0 (pa_cons (pv 0) (pa_cons (pv 1) pa_nil))))), ?_⟩
  obtain ⟨p, dx, wa, rfl, hpp, hw⟩ := id hW.ex
  refine ⟨_, rfl, _, rfl, p, _, dx, _, _, rfl, hpp, T.c_Weighted, T.n_Weighted_many, wF_many, pa, ps, by rw [el]; rfl, hp, fun x hx => ?_, fun H1 s1 => ?_⟩
  · obtain ⟨i, hi⟩ := List.mem_iff_getElem?.mp hx
    have := ok.p0 i (by have := (List.getElem?_eq_some_iff.mp hi).1; omega)
    rw [nth_of hi] at this
    exact this
  · exact ⟨_, rfl, _, rfl, .ref p, pa, ws, ps, a, rfl, hW.same s1, s1 _ _ hp, el, h24, ok, sw, sp, sa, fun H' t lt x L s2 => q H' t lt x L (s1.trans s2)⟩
end
/-! ### stepping buyers -/
def srow (ws : List Int) (i : Nat) : List Int := (List.range ws.length).map fun j => if j = i then 0 else nth ws j
theorem srow_len {ws : List Int} {i : Nat} : (srow ws i).length = ws.length := by simp [srow]
theorem srow_get {ws : List Int} {i j : Nat} (h : j < ws.length) : (srow ws i)[j]? = some (if j = i then 0 else nth ws j) := by
  unfold srow
  rw [List.getElem?_map, List.getElem?_range h]
  rfl
def srows (ws : List Int) : List (List Int) := (List.range ws.length).map (srow ws)
theorem srows_len {ws : List Int} : (srows ws).length = ws.length := by simp [srows]
theorem srows_get {ws : List Int} {i : Nat} (h : i < ws.length) : (srows ws)[i]? = some (srow ws i) := by
  unfold srows
  rw [List.getElem?_map, List.getElem?_range h]
  rfl
def lvs (ws : List Int) (a : Int) : List Int := List.replicate ws.length a
def sF (n : Int) (fa : Addr) (a : Int) (sa la : Addr) : List (Str × V) := [("many", .int n), ("first", .ref fa), ("aside", .int a), ("steps", .ref sa), ("leaves", .ref la)]
section
variable {n a : Int} {fa sa la : Addr}
theorem sF_many : (sF n fa a sa la).lookup ("many" : Str) = some (.int n) := by unfold sF; rw [lk_cons, if_pos rfl]
theorem sF_first : (sF n fa a sa la).lookup ("first" : Str) = some (.ref fa) := by unfold sF; rw [lk_cons, if_neg (by decide +kernel), lk_cons, if_pos rfl]
theorem sF_aside : (sF n fa a sa la).lookup ("aside" : Str) = some (.int a) := by unfold sF; rw [lk_cons, if_neg (by decide +kernel), lk_cons, if_neg (by decide +kernel), lk_cons, if_pos rfl]
theorem sF_steps : (sF n fa a sa la).lookup ("steps" : Str) = some (.ref sa) := by unfold sF; rw [lk_cons, if_neg (by decide +kernel), lk_cons, if_neg (by decide +kernel), lk_cons, if_neg (by decide +kernel), lk_cons, if_pos rfl]
theorem sF_leaves : (sF n fa a sa la).lookup ("leaves" : Str) = some (.ref la) := by unfold sF; rw [lk_cons, if_neg (by decide +kernel), lk_cons, if_neg (by decide +kernel), lk_cons, if_neg (by decide +kernel), lk_cons, if_neg (by decide +kernel), lk_cons, if_pos rfl]
theorem sF_no {m : Str} (h : m ∉ (["many", "first", "aside", "steps", "leaves"] : List Str)) : (sF n fa a sa la).lookup m = none := lk_no h
end
def TupR (H : Hp) (v : V) (r : List Int) : Prop := ∃ a, v = .ref a ∧ H a = some (.tup (iv r))
theorem TupR.same {H H' : Hp} {v : V} {r : List Int} (s : Same H H') (h : TupR H v r) : TupR H' v r := let ⟨a, e, q⟩ := h; ⟨a, e, s _ _ q⟩
structure SFld (K : PySem.W.Frag) (H : Hp) (p dx fa sa la : Addr) (ss : List V) (ws : List Int) (a : Int) : Prop where
  ob : H p = some (.ins (cS K) dx (sF (ws.length : Int) fa a sa la))
  first : H fa = some (.tup (iv ws))
  steps : H sa = some (.tup ss)
  rows : Each (TupR H) ss (srows ws)
  leaves : H la = some (.tup (iv (lvs ws a)))
theorem SFld.same {K : PySem.W.Frag} {H H' : Hp} {p dx fa sa la : Addr} {ss : List V} {ws : List Int} {a : Int} (s : Same H H') (h : SFld K H p dx fa sa la ss ws a) : SFld K H' p dx fa sa la ss ws a :=
  ⟨s _ _ h.ob, s _ _ h.first, s _ _ h.steps, h.rows.mono fun _ _ _ _ z => z.same s, s _ _ h.leaves⟩
def SAt (K : PySem.W.Frag) (H : Hp) (v : V) (ws : List Int) (a : Int) : Prop := ∃ p dx fa sa la ss, v = .ref p ∧ SFld K H p dx fa sa la ss ws a
theorem SAt.same {K : PySem.W.Frag} {H H' : Hp} {v : V} {ws : List Int} {a : Int} (s : Same H H') (h : SAt K H v ws a) : SAt K H' v ws a := by
  obtain ⟨p, dx, fa, sa, la, ss, e, h⟩ := h
  exact ⟨p, dx, fa, sa, la, ss, e, h.same s⟩
/-- all the weights together -/
def allw (ws : List Int) (a : Int) : Int := tot (nth ws) a (List.range ws.length)
theorem iv_sum {ws : List Int} : ws.sum = sm (nth ws) (List.range ws.length) := by
  unfold sm
  congr 1
  refine List.ext_getElem? fun j => ?_
  rw [List.getElem?_map]
  by_cases h : j < ws.length
  · rw [List.getElem?_range h, nth_get h]
    rfl
  · rw [List.getElem?_eq_none (by omega), List.getElem?_eq_none (by simpa using h)]
    rfl
theorem srow_sum {ws : List Int} {t : Nat} (h : t < ws.length) : (srow ws t).sum = sm (nth ws) (List.range ws.length) - nth ws t := sm_less (nth ws) h
theorem step_sum {ws : List Int} {a : Int} {t : Nat} (h : t < ws.length) : a + (srow ws t).sum = allw ws a - nth ws t := by
  rw [srow_sum h]
  unfold allw tot
  omega
def sp_ST (K : PySem.W.Frag) : Sp := fun vs H Q _ => ∃ (v : V) (t : Nat) (ws : List Int) (a : Int), vs = [v, .int (t : Int)] ∧ SAt K H v ws a ∧ t < ws.length ∧ Q (.int (allw ws a - nth ws t)) H
section
variable {P : Program} {w : World} {K : PySem.W.Frag} {mg : Str → Option Value} {base : Heap} {k : Nat}
theorem ok_ST (T : Fx K mg) : OkD P w K mg base 1 (f_ST K) ["self", "thing"] [] (sp_ST K) := by
  refine okF T.d_ST sc_ST (fun _ _ _ _ _ _ us hl => match us, hl with | [_, _], _ => rfl) (fun vs H Q E h => ?_) (fun cdv A outer s H vs Q E hr h => ?_)
  · obtain ⟨v, t, ws, a, rfl, _⟩ := h
    rfl
  obtain ⟨v, t, ws, a, rfl, hS, ht, q⟩ := h
  obtain ⟨p, dx, fa, sa, la, ss, rfl, f⟩ := id hS
  refine ⟨_, pss_one (ps_ret (pe_op op_add (pe_ix ix_tup (pe_fld (pv 0) rfl) (pv 1) (fun _ _ => rfl)) (pe_callB (cr_sumT rfl) (by rfl) T.m_sum (by decide +kernel) (pa_cons (pe_ix ix_tup (pe_fld (pv 0) rfl) (pv 1) (fun _ _ => rfl)) pa_nil)))), ?_⟩
  have gl : (lvs ws a)[t]? = some a := by unfold lvs; rw [List.getElem?_replicate, if_pos ht]
  obtain ⟨vr, hvr, ar, rfl, har⟩ := f.rows.get (srows_get ht)
  refine ⟨_, rfl, p, _, dx, _, _, rfl, f.ob, T.c_Stepping, T.n_Stepping_leaves, sF_leaves, _, rfl, la, _, _, _, rfl, rfl, sq_t f.leaves, atI_nat (iv_get gl), ?_⟩
  refine ⟨_, rfl, p, _, dx, _, _, rfl, f.ob, T.c_Stepping, T.n_Stepping_steps, sF_steps, _, rfl, sa, _, _, _, rfl, rfl, sq_t f.steps, atI_nat hvr, ar, srow ws t, rfl, sq_t har, _, _, rfl, rfl, ?_⟩
  show Q (.int (a + (srow ws t).sum)) H
  rw [step_sum ht]
  exact q
end
end K45W
end JK45Step
section JK45StepI
set_option Elab.async false
set_option linter.all false
set_option maxRecDepth 100000
set_option maxHeartbeats 4000000
namespace K45W
open PySem PySem.Spec PyProof.Rows L2 K45R K45T K45
/-- what a new Stepping is made of: lists -/
structure SArgs (H : Hp) (f st lv : Addr) (ws : List Int) (a : Int) : Prop where
  first : H f = some (.lst (iv ws))
  steps : TabAt H st (srows ws)
  leaves : H lv = some (.lst (iv (lvs ws a)))
  w1 : ∀ x ∈ ws, 1 ≤ x
  a1 : 1 ≤ a
theorem SArgs.same {H H' : Hp} {f st lv : Addr} {ws : List Int} {a : Int} (s : Same H H') (h : SArgs H f st lv ws a) : SArgs H' f st lv ws a := ⟨s _ _ h.first, h.steps.same s, s _ _ h.leaves, h.w1, h.a1⟩
def sp_cs : Sp := fun vs H Q _ => ∃ (f st lv : Addr) (ws : List Int) (a : Int), vs = [.ref f, .int a, .ref st, .ref lv] ∧ SArgs H f st lv ws a ∧ ws.length ≤ 24 ∧ ∀ H', Same H H' → Q .non H'
theorem nth_ge {ws : List Int} (h : ∀ x ∈ ws, 1 ≤ x) {t : Nat} (ht : t < ws.length) : 1 ≤ nth ws t := h _ (List.mem_of_getElem? (nth_get ht))
section
variable {P : Program} {w : World} {K : PySem.W.Frag} {mg : Str → Option Value} {base : Heap} {k : Nat}
theorem ok_cs (T : Fx K mg) : OkD P w K mg base 1 (f_cs K) ["first", "aside", "steps", "leaves"] [] sp_cs := by
  refine okF T.d_cs sc_cs (fun _ _ _ _ _ _ us hl => match us, hl with | [_, _, _, _], _ => rfl) (fun vs H Q E h => ?_) (fun cdv A outer s H vs Q E hr h => ?_)
  · obtain ⟨f, st, lv, ws, a, rfl, _⟩ := h
    rfl
  obtain ⟨f, st, lv, ws, a, rfl, z, h24, q⟩ := h
  obtain ⟨vs, est, ev⟩ := id z.steps
  have a1 := z.a1
  refine ⟨_, pss_cons (ps_for PassesOwn.never rfl (pi_enum (by rfl) T.m_enumerate (pa_cons (pv 0) pa_nil)) (pg_tup rfl (pgs_cons (pg_name (i := 4) sc_cs.nd rfl (.inl rfl)) (pgs_cons (pg_name (i := 5) sc_cs.nd rfl (.inl rfl)) pgs_nil)))
      (pss_one (ps_if (pt_cmpR op_lt (pv 5) pe_int (nomark _)) pss_never pss_nil)))
    (pss_cons (ps_if (pt_cmpR op_lt (pv 1) pe_int (nomark _)) pss_never pss_nil)
    (pss_cons (ps_if (pt_cmpR op_ne (pe_callB call_len_seq (by rfl) T.m_len PySem.boot_len (pa_cons (pv 2) pa_nil)) (pe_callB call_len_seq (by rfl) T.m_len PySem.boot_len (pa_cons (pv 0) pa_nil)) (nomark _)) pss_never pss_nil)
    (pss_cons (ps_for PassesOwn.never rfl (pi_enum (by rfl) T.m_enumerate (pa_cons (pv 2) pa_nil)) (pg_tup rfl (pgs_cons (pg_name (i := 4) sc_cs.nd rfl (.inl rfl)) (pgs_cons (pg_name (i := 6) sc_cs.nd rfl (.inl rfl)) pgs_nil)))
      (pss_one (ps_if (PW.pt (pw_or (pt_cmpR op_ne (pe_callB call_len_seq (by rfl) T.m_len PySem.boot_len (pa_cons (pv 6) pa_nil)) (pe_callB call_len_seq (by rfl) T.m_len PySem.boot_len (pa_cons (pv 0) pa_nil)) (nomark _))
        (pw_or (pt_cmpR op_ne (pe_ix ix_list (pv 6) (pv 4) (fun _ _ => rfl)) pe_int (nomark _)) (pw_or1 (pt_val (pe_callB (cr_any rfl) (by rfl) T.m_any (by decide +kernel) (pa_cons
          (pe_lc (own := [("weight", 5)]) (g := gName 5) (tt := tYes) rfl sc_cs.nd (pi_list (pv 6)) (blkOk_by (N := ns_cs) (sc := defScope s_cs) (by decide +kernel)) (fun _ _ _ _ _ => pg_name (i := 5) sc_cs.nd rfl (.inl rfl) (.inr rfl)) (fun _ _ _ _ _ => pts_nil)
            (fun _ _ _ _ _ => pe_cmpR op_lt (pv 5) pe_int (nomark _))) pa_nil))))))) pss_never pss_nil)))
    (pss_cons (ps_if (pt_cmpR op_ne (pe_callB call_len_seq (by rfl) T.m_len PySem.boot_len (pa_cons (pv 3) pa_nil)) (pe_callB call_len_seq (by rfl) T.m_len PySem.boot_len (pa_cons (pv 0) pa_nil)) (nomark _)) pss_never pss_nil)
    (pss_one (ps_for PassesOwn.never rfl (pi_enum (by rfl) T.m_enumerate (pa_cons (pv 3) pa_nil)) (pg_tup rfl (pgs_cons (pg_name (i := 4) sc_cs.nd rfl (.inl rfl)) (pgs_cons (pg_name (i := 5) sc_cs.nd rfl (.inl rfl)) pgs_nil)))
      (pss_one (ps_if (pt_cmpR op_lt (pv 5) pe_int (nomark _)) pss_never pss_nil)))))))), ?_⟩
  have lvs1 : vs.length = ws.length := ev.1.trans srows_len
  refine ⟨_, rfl, f, _, rfl, sq_l z.first, for_it (walk_enum (K := K) (a := f) (xs := iv ws)) (fun i σ H' => Same H H' ∧ ∃ v4 v5, σ = [some (.ref f), some (.int a), some (.ref st), some (.ref lv), v4, v5, none]) ⟨.refl _, none, none, rfl⟩ (fun i σ H' hi ⟨s1, _⟩ => sq_l (s1 _ _ z.first)) ?_ ?_⟩
  · rintro i x σ H1 H2 hi ⟨s1, v4, v5, rfl⟩ ⟨U, x1, x2, rfl, nU, rfl, e1, e2⟩
    obtain ⟨y, hy, rfl⟩ := iv_at e2
    have hy1 := z.w1 y (List.mem_of_getElem? hy)
    refine ⟨U, [x1, .int y], rfl, .inl (.inl upd_same), rfl, x1, [.int y], rfl, .int y, [], rfl, rfl, ?_⟩
    refine ⟨_, rfl, _, _, rfl, rfl, _, rfl, ?_⟩
    refine iteFb (decide_eq_false (by omega)) ?_
    exact ⟨s1.trans (same_upd nU), _, _, rfl⟩
  rintro σ H1 ⟨s1, v4, v5, rfl⟩
  refine ⟨_, rfl, _, _, rfl, rfl, _, rfl, ?_⟩
  refine iteFb (decide_eq_false (by omega)) ?_
  refine ⟨_, rfl, st, _, rfl, .inl (sq_l (s1 _ _ est)), _, rfl, f, _, rfl, .inl (sq_l (s1 _ _ z.first)), rfl, _, rfl, ?_⟩
  refine iteFb ?_ ?_
  · rw [lvs1, iv_len, decide_eq_true rfl]
    rfl
  refine ⟨_, rfl, st, _, rfl, sq_l (s1 _ _ est), for_it (walk_enum (K := K) (a := st) (xs := vs)) (fun i σ H' => Same H H' ∧ ∃ v4 v5 v6, σ = [some (.ref f), some (.int a), some (.ref st), some (.ref lv), v4, v5, v6]) ⟨s1, _, _, _, rfl⟩ (fun i σ H' hi ⟨s1, _⟩ => sq_l (s1 _ _ est)) ?_ ?_⟩
  · rintro i x σ H2 H3 hi ⟨s2, v4, v5, v6, rfl⟩ ⟨U, x1, x2, rfl, nU, rfl, e1, e2⟩
    rw [lvs1] at hi
    cases (show V.int (i : Int) = x1 from Option.some.inj e1)
    obtain ⟨vi, hvi, ai, rfl, hai⟩ := ev.get (srows_get hi)
    cases (show V.ref ai = x2 from Option.some.inj (hvi.symm.trans e2))
    have sU : Same H2 (upd H2 U (.tup [.int (i : Int), .ref ai])) := same_upd nU
    have sH := s2.trans sU
    have g0 : (srow ws i)[i]? = some 0 := by rw [srow_get hi, if_pos rfl]
    refine ⟨U, [.int (i : Int), .ref ai], rfl, .inl (.inl upd_same), rfl, _, [_], rfl, _, [], rfl, rfl, ?_⟩
    refine ⟨_, rfl, ai, _, rfl, .inl (sq_l (sH _ _ hai)), _, rfl, f, _, rfl, .inl (sq_l (sH _ _ z.first)), rfl, _, rfl, ?_⟩
    refine iteFb ?_ ?_
    · rw [iv_len, iv_len, srow_len, decide_eq_true rfl]
      rfl
    refine ⟨_, rfl, _, rfl, ai, _, _, _, rfl, rfl, sq_l (sH _ _ hai), atI_nat (iv_get g0), rfl, _, rfl, ?_⟩
    refine iteFb rfl ?_
    refine ⟨_, rfl, ai, rfl, ⟨_, sq_l (sH _ _ hai)⟩, fun D nD => lc_list (K := K) (a := ai) (xs := iv (srow ws i)) (fun j H' => Same H H' ∧ H' D = some (.lst ((List.replicate j false).map V.bl)))
      ⟨sH.trans (same_upd nD), upd_same⟩ (fun j H' hj ⟨s3, _⟩ => sq_l (s3 _ _ hai)) ?_ ?_⟩
    · rintro j x H4 hx ⟨s4, eD⟩
      obtain ⟨y, hy, rfl⟩ := iv_at hx
      have hj : j < ws.length := by have := (List.getElem?_eq_some_iff.mp hy).1; rwa [srow_len] at this
      have hy0 : ¬ y < 0 := by
        rw [srow_get hj] at hy
        have e := Option.some.inj hy
        have := nth_ge z.w1 hj
        by_cases c : j = i
        · rw [if_pos c] at e; omega
        · rw [if_neg c] at e; omega
      refine ⟨rfl, _, rfl, _, _, rfl, rfl, ?_⟩
      refine ⟨_, eD, ?_, fun b o e => ?_, ?_⟩
      · rw [List.length_map, List.length_replicate]
        exact small1000 (by omega)
      · have nb : b ≠ D := ne_of_none (sH _ _ e) nD
        rw [upd_ne nb]
        exact s4 _ _ e
      · rw [upd_same, List.replicate_succ', List.map_append]
        show some (HO.lst (_ ++ [V.bl (decide (y < 0))])) = _
        rw [decide_eq_false hy0]
        rfl
    · rintro H4 ⟨s4, eD⟩
      refine ⟨D, _, rfl, sq_l eD, _, rfl, ?_⟩
      refine iteFb ?_ ⟨s4, _, _, _, rfl⟩
      simp
  rintro σ H2 ⟨s2, v4, v5, v6, rfl⟩
  refine ⟨_, rfl, lv, _, rfl, .inl (sq_l (s2 _ _ z.leaves)), _, rfl, f, _, rfl, .inl (sq_l (s2 _ _ z.first)), rfl, _, rfl, ?_⟩
  refine iteFb ?_ ?_
  · rw [iv_len, iv_len]
    unfold lvs
    rw [List.length_replicate, decide_eq_true rfl]
    rfl
  refine ⟨_, rfl, lv, _, rfl, sq_l (s2 _ _ z.leaves), for_it (walk_enum (K := K) (a := lv) (xs := iv (lvs ws a))) (fun i σ H' => Same H H' ∧ ∃ v4 v5 v6, σ = [some (.ref f), some (.int a), some (.ref st), some (.ref lv), v4, v5, v6]) ⟨s2, _, _, _, rfl⟩ (fun i σ H' hi ⟨s1, _⟩ => sq_l (s1 _ _ z.leaves)) ?_ ?_⟩
  · rintro i x σ H3 H4 hi ⟨s3, v4, v5, v6, rfl⟩ ⟨U, x1, x2, rfl, nU, rfl, e1, e2⟩
    obtain ⟨y, hy, rfl⟩ := iv_at e2
    have hy1 : y = a := List.eq_of_mem_replicate (List.mem_of_getElem? hy)
    refine ⟨U, [x1, .int y], rfl, .inl (.inl upd_same), rfl, x1, [.int y], rfl, .int y, [], rfl, rfl, ?_⟩
    refine ⟨_, rfl, _, _, rfl, rfl, _, rfl, ?_⟩
    refine iteFb (decide_eq_false (by omega)) ?_
    exact ⟨s3.trans (same_upd nU), _, _, _, rfl⟩
  · rintro σ H3 ⟨s3, _⟩
    exact q _ s3
end
section
variable {p a C dx : Addr} {fs : List (Str × V)} {xs : List V} {G G' : Hp}
theorem Keep.tup (k : Keep p G G') (hp : G p = some (.ins C dx fs)) (h : G a = some (.tup xs)) : G' a = some (.tup xs) := k _ _ (fun z => by rw [z, hp] at h; cases h) h
theorem Keep.lst (k : Keep p G G') (hp : G p = some (.ins C dx fs)) (h : G a = some (.lst xs)) : G' a = some (.lst xs) := k _ _ (fun z => by rw [z, hp] at h; cases h) h
theorem Keep.args {f st lv : Addr} {ws : List Int} {b : Int} (k : Keep p G G') (hp : G p = some (.ins C dx fs)) (z : SArgs G f st lv ws b) : SArgs G' f st lv ws b := by
  obtain ⟨vs, e, ev⟩ := z.steps
  exact ⟨k.lst hp z.first, ⟨vs, k.lst hp e, ev.mono fun _ _ _ _ ⟨a, ea, q⟩ => ⟨a, ea, k.lst hp q⟩⟩, k.lst hp z.leaves, z.w1, z.a1⟩
end
section
variable {w : World} {K : PySem.W.Frag} {mg : Str → Option Value} {base : Heap} {k : Nat}
def sp_SI (K : PySem.W.Frag) : Sp := fun vs H Q _ => ∃ (p dx f st lv : Addr) (ws : List Int) (a : Int), vs = [.ref p, .ref f, .int a, .ref st, .ref lv] ∧ H p = some (.ins (cS K) dx []) ∧ SArgs H f st lv ws a ∧ ws.length ≤ 8 ∧
  ∀ H', Keep p H H' → SAt K H' (.ref p) ws a → Q .non H'
theorem ok_SI (T : Fx K mg) : OkD PW w K mg base 2 (f_SI K) ["self", "first", "aside", "steps", "leaves"] [] (sp_SI K) := by
  have GU := (ok_UI (P := PW) (w := w) (base := base) T).raw0
  obtain ⟨⟨fdC, dsC, GC, bC, dC⟩, kpC⟩ := ok_cs (P := PW) (w := w) (base := base) T
  refine OkD.of (okS T T.d_SI sc_SI (fun _ _ _ _ _ _ _ us hl => match us, hl with | [_, _, _, _, _], _ => rfl) rfl rfl (fun _ _ => rfl) ⟨_, rfl, rfl, .inl rfl⟩ (fun vs H Q E h => ?_) fun cc cda A outer s H vs Q E hr S h => ?_)
  · obtain ⟨p, dx, f, st, lv, ws, a, rfl, _⟩ := h
    rfl
  obtain ⟨p, dx, f, st, lv, ws, a, rfl, hp, z, h8, q⟩ := h
  obtain ⟨um, con⟩ := T.most_S
  refine ⟨_, PSsA.nox (psa_cons (psa_superE (SupEnv.nox S) T.u_SI GU hr pass0 (pa_cons (pe_callB call_len_seq (by rfl) T.m_len PySem.boot_len (pa_cons (pv 1) pa_nil)) pa_nil))
    (pss_cons (ps_expr (pe_call GC hr (by rfl) T.g_cs kpC bC dC pass0 (pa_cons (pv 1) (pa_cons (pv 2) (pa_cons (pv 3) (pa_cons (pv 4) pa_nil))))))
    (pss_cons (ps_fld (pv 0) (pe_callTy call_tuple_of (by rfl) T.m_tuple (by decide +kernel) (pa_cons (pv 1) pa_nil)) rfl)
    (pss_cons (ps_fld (pv 0) (pv 2) rfl)
    (pss_cons (ps_fld (pv 0) (pe_callTy call_tuple_of (by rfl) T.m_tuple (by decide +kernel) (pa_cons
      (pe_lc (own := [("row", 5)]) (g := gName 5) (tt := tYes) rfl sc_SI.nd (pi_list (pv 3)) (blkOk_by (N := ns_SI) (sc := defScope s_SI) (by decide +kernel)) (fun _ _ _ _ _ => pg_name (i := 5) sc_SI.nd rfl (.inl rfl) (.inr rfl)) (fun _ _ _ _ _ => pts_nil)
        (fun _ _ _ _ _ => pe_callTy (cTup K) (by rfl) T.m_tuple (by decide +kernel) (pa_cons (pv 5) pa_nil))) pa_nil)) rfl)
    (pss_one (ps_fld (pv 0) (pe_callTy call_tuple_of (by rfl) T.m_tuple (by decide +kernel) (pa_cons (pv 4) pa_nil)) rfl))))))), ?_⟩
  refine ⟨p, dx, [], rfl, hp, _, rfl, f, _, rfl, .inl (sq_l z.first), ?_⟩
  rw [iv_len]
  refine ⟨cS K, p, dx, _, 8, um, rfl, hp, T.c_Stepping, T.n_Stepping_many, con, by omega, ?_⟩
  have k1 : Keep p H (upd H p (.ins (cS K) dx [("many", .int (ws.length : Int))])) := Keep.upd
  have z1 := k1.args hp z
  refine ⟨_, rfl, _, rfl, _, rfl, _, rfl, f, st, lv, ws, a, rfl, z1, by omega, fun H2 s2 => ?_⟩
  have hp2 := s2 _ _ (upd_same (H := H) (a := p) (o := .ins (cS K) dx [("many", .int (ws.length : Int))]))
  have z2 := z1.same s2
  have k2 : Keep p H H2 := k1.trans (Same.keep s2)
  -- self.first
  refine ⟨_, rfl, f, _, rfl, .inl ⟨sq_l z2.first, fun t1 n1 => ?_⟩⟩
  have s3 : Same H2 (upd H2 t1 (.tup (iv ws))) := same_upd n1
  refine ⟨_, rfl, p, _, dx, _, rfl, s3 _ _ hp2, T.c_Stepping, T.n_Stepping_first, (by show 1 < 1000; decide), ?_⟩
  have p3 := s3 _ _ hp2
  rw [putF_new (f := "first") (by show ("first" : Str) ∉ (["many"] : List Str); decide +kernel)]
  generalize hG4 : upd (upd H2 t1 (.tup (iv ws))) p (.ins (cS K) dx (([("many", .int (ws.length : Int))] : List (Str × V)) ++ ([("first", .ref t1)] : List (Str × V)))) = G4
  have k4 : Keep p (upd H2 t1 (.tup (iv ws))) G4 := by rw [← hG4]; exact Keep.upd
  have p4 : G4 p = some (.ins (cS K) dx [("many", .int (ws.length : Int)), ("first", .ref t1)]) := by rw [← hG4, upd_same]; rfl
  have t14 : G4 t1 = some (.tup (iv ws)) := k4.tup p3 upd_same
  have z4 := k4.args p3 (z2.same s3)
  have k4' : Keep p H G4 := (k2.trans (Same.keep s3)).trans k4
  -- self.aside
  refine ⟨_, rfl, _, rfl, p, _, dx, _, rfl, p4, T.c_Stepping, T.n_Stepping_aside, (by show 2 < 1000; decide), ?_⟩
  rw [putF_new (f := "aside") (by show ("aside" : Str) ∉ (["many", "first"] : List Str); decide +kernel)]
  generalize hG5 : upd G4 p (.ins (cS K) dx (([("many", .int (ws.length : Int)), ("first", .ref t1)] : List (Str × V)) ++ ([("aside", .int a)] : List (Str × V)))) = G5
  have k5 : Keep p G4 G5 := by rw [← hG5]; exact Keep.upd
  have p5 : G5 p = some (.ins (cS K) dx [("many", .int (ws.length : Int)), ("first", .ref t1), ("aside", .int a)]) := by rw [← hG5, upd_same]; rfl
  have t15 := k5.tup p4 t14
  have z5 := k5.args p4 z4
  have k5' := k4'.trans k5
  -- self.steps
  obtain ⟨vs, est, ev⟩ := id z5.steps
  have lv1 : vs.length = ws.length := ev.1.trans srows_len
  refine ⟨_, rfl, st, rfl, ⟨_, sq_l est⟩, fun D nD => lc_list (K := K) (a := st) (xs := vs) (fun j H' => Same G5 H' ∧ ∃ vD, H' D = some (.lst vD) ∧ Each (TupR H') vD ((srows ws).take j))
    ⟨same_upd nD, [], upd_same, by rw [List.take_zero]; exact .nil⟩ (fun j H' hj ⟨s, _⟩ => sq_l (s _ _ est)) ?_ ?_⟩
  · rintro j x G6 hx ⟨s6, vD, eD, hD⟩
    have hj : j < ws.length := by have := (List.getElem?_eq_some_iff.mp hx).1; omega
    obtain ⟨vj, hvj, aj, rfl, haj⟩ := ev.get (srows_get hj)
    cases (show V.ref aj = x from Option.some.inj (hvj.symm.trans hx))
    refine ⟨rfl, ?_⟩
    refine ⟨_, rfl, aj, _, rfl, .inl ⟨sq_l (s6 _ _ haj), fun U nU => ?_⟩⟩
    have sU : Same G6 (upd G6 U (.tup (iv (srow ws j)))) := same_upd nU
    refine ⟨vD, sU _ _ eD, ?_, fun b o e => ?_, vD ++ [.ref U], upd_same, ?_⟩
    · have := hD.1
      rw [List.length_take, srows_len] at this
      exact small1000 (by omega)
    · rw [upd_ne (ne_of_none e nD)]
      exact sU _ _ (s6 _ _ e)
    · rw [List.take_add_one, srows_get hj]
      have mv : ∀ {b : Addr} {ys : List V}, (upd G6 U (.tup (iv (srow ws j)))) b = some (.tup ys) → (upd (upd G6 U (.tup (iv (srow ws j)))) D (.lst (vD ++ [.ref U]))) b = some (.tup ys) := fun {b ys} e => by
        rw [upd_ne (fun q => by rw [q, sU _ _ eD] at e; cases e)]
        exact e
      exact Each.snoc (hD.mono fun _ _ _ _ ⟨b, eb, q⟩ => ⟨b, eb, mv (sU _ _ q)⟩) ⟨U, rfl, mv upd_same⟩
  rintro G6 ⟨s6, vD, eD, hD⟩
  rw [List.take_of_length_le (by rw [srows_len]; omega)] at hD
  refine ⟨D, _, rfl, .inl ⟨sq_l eD, fun t2 n2 => ?_⟩⟩
  have s7 : Same G6 (upd G6 t2 (.tup vD)) := same_upd n2
  have p7 := s7 _ _ (s6 _ _ p5)
  refine ⟨_, rfl, p, _, dx, _, rfl, p7, T.c_Stepping, T.n_Stepping_steps, (by show 3 < 1000; decide), ?_⟩
  rw [putF_new (f := "steps") (by show ("steps" : Str) ∉ (["many", "first", "aside"] : List Str); decide +kernel)]
  generalize hG8 : upd (upd G6 t2 (.tup vD)) p (.ins (cS K) dx (([("many", .int (ws.length : Int)), ("first", .ref t1), ("aside", .int a)] : List (Str × V)) ++ ([("steps", .ref t2)] : List (Str × V)))) = G8
  have k8 : Keep p (upd G6 t2 (.tup vD)) G8 := by rw [← hG8]; exact Keep.upd
  have p8 : G8 p = some (.ins (cS K) dx [("many", .int (ws.length : Int)), ("first", .ref t1), ("aside", .int a), ("steps", .ref t2)]) := by rw [← hG8, upd_same]; rfl
  have s67 := s6.trans s7
  have t18 := k8.tup p7 (s67 _ _ t15)
  have t28 : G8 t2 = some (.tup vD) := k8.tup p7 upd_same
  have z8 := k8.args p7 (z5.same s67)
  have r8 : Each (TupR G8) vD (srows ws) := hD.mono fun _ _ _ _ ⟨b, eb, q⟩ => ⟨b, eb, k8.tup p7 (s7 _ _ q)⟩
  have k8' := (k5'.trans (Same.keep s67)).trans k8
  -- self.leaves
  refine ⟨_, rfl, lv, _, rfl, .inl ⟨sq_l z8.leaves, fun t3 n3 => ?_⟩⟩
  have s9 : Same G8 (upd G8 t3 (.tup (iv (lvs ws a)))) := same_upd n3
  have p9 := s9 _ _ p8
  refine ⟨_, rfl, p, _, dx, _, rfl, p9, T.c_Stepping, T.n_Stepping_leaves, (by show 4 < 1000; decide), ?_⟩
  rw [putF_new (f := "leaves") (by show ("leaves" : Str) ∉ (["many", "first", "aside", "steps"] : List Str); decide +kernel)]
  have kA : Keep p (upd G8 t3 (.tup (iv (lvs ws a)))) (upd (upd G8 t3 (.tup (iv (lvs ws a)))) p (.ins (cS K) dx (([("many", .int (ws.length : Int)), ("first", .ref t1), ("aside", .int a), ("steps", .ref t2)] : List (Str × V)) ++ ([("leaves", .ref t3)] : List (Str × V))))) := Keep.upd
  refine q _ ((k8'.trans (Same.keep s9)).trans kA) ⟨p, dx, t1, t2, t3, vD, rfl, ?_, ?_, ?_, ?_, ?_⟩
  · rw [upd_same]
    rfl
  · exact kA.tup p9 (s9 _ _ t18)
  · exact kA.tup p9 (s9 _ _ t28)
  · exact r8.mono fun _ _ _ _ ⟨b, eb, q⟩ => ⟨b, eb, kA.tup p9 (s9 _ _ q)⟩
  · exact kA.tup p9 upd_same
end
end K45W
end JK45StepI
section JK45Like
set_option Elab.async false
set_option linter.all false
set_option maxRecDepth 100000
set_option maxHeartbeats 4000000
namespace K45W
open PySem PySem.Spec PyProof.Rows L2 K45R K45T K45
theorem iv_set0 {ws : List Int} {t : Nat} : (iv ws).set t (.int 0) = iv (srow ws t) := by
  unfold iv
  rw [show V.int 0 = (fun x : Int => V.int x) 0 from rfl, ← List.map_set]
  congr 1
  refine List.ext_getElem? fun j => ?_
  by_cases h : j < ws.length
  · rw [srow_get h]
    by_cases c : j = t
    · subst c
      rw [List.getElem?_set_self h, if_pos rfl]
    · rw [List.getElem?_set_ne (fun e => c e.symm), if_neg c, nth_get h]
  · rw [List.getElem?_eq_none (by rw [List.length_set]; omega), List.getElem?_eq_none (by rw [srow_len]; omega)]
theorem ixN_nat {n i : Nat} (h : i < n) : ixN n (i : Int) = some i := by
  unfold ixN
  rw [if_pos (by omega), if_pos (by omega)]
  simp
/-- a row behind the others, whatever else changed -/
def sp_SL (K : PySem.W.Frag) : Sp := fun vs H Q _ => ∃ (v : V) (ws : List Int) (a : Int), vs = [.ref (cS K), v] ∧ WAt K H v ws a ∧ ws.length ≤ 8 ∧ (∀ x ∈ ws, 1 ≤ x) ∧ 1 ≤ a ∧ ∀ H' u, Same H H' → SAt K H' u ws a → Q u H'
section
variable {w : World} {K : PySem.W.Frag} {mg : Str → Option Value} {base : Heap} {k : Nat}
theorem ok_SL (T : Fx K mg) : ∃ mc p g, ClX.CRead K (cS K) mc ∧ ClX.CMet K (cS K) mc "like" p g ∧ ∀ w base, OkD PW w K mg base 4 g ["cls", "rule"] [] (sp_SL K) := by
  obtain ⟨mc, p, g, fd, cr, cm, F⟩ := T.d_SL
  refine ⟨mc, p, g, cr, cm, fun w base => ?_⟩
  obtain ⟨⟨fdI, dsI, GI, bI, dI⟩, kpI⟩ := ok_SI (w := w) (base := base) T
  refine okF ⟨fd, F⟩ sc_SL (fun _ _ _ _ _ _ us hl => match us, hl with | [_, _], _ => rfl) (fun vs H Q E h => ?_) (fun cdv A outer s H vs Q E hr h => ?_)
  · obtain ⟨v, ws, a, rfl, _⟩ := h
    rfl
  obtain ⟨v, ws, a, rfl, hW, h8, h1, ha, q⟩ := h
  refine ⟨_, pss_cons (ps_set (i := 2) sc_SL.nd rfl (.inl rfl) (pe_lst pa_nil))
    (pss_cons (ps_for PassesOwn.never rfl (pi_range1 (by rfl) T.m_range (pa_cons (pe_fld (pv 1) rfl) pa_nil)) (pg_name (i := 3) sc_SL.nd rfl (.inl rfl))
      (pss_cons (ps_set (i := 4) sc_SL.nd rfl (.inl rfl) (pe_callTy call_list_of (by rfl) T.m_list (by decide +kernel) (pa_cons (pe_fld (pv 1) rfl) pa_nil)))
      (pss_cons (ps_asg pe_int (pg_sub (pv 4) (pv 3) set_list))
      (pss_one (ps_expr (pe_bm PySem.F.plainAttrs_list PySem.F.slot_list_append PySem.F.type_list_append mt_append (pv 2) (pa_cons (pv 4) pa_nil)))))))
    (pss_cons (ps_setLc (i := 5) (own := [("_", 6)]) (g := gName 6) (tt := tYes) rfl sc_SL.nd rfl rfl (sw_true rfl rfl rfl (by decide +kernel)) (pi_range1 (by rfl) T.m_range (pa_cons (pe_fld (pv 1) rfl) pa_nil)) (blkOk_by (N := ns_SL) (sc := defScope s_SL) (by decide +kernel))
        (fun _ _ _ _ _ => pg_name (i := 6) sc_SL.nd rfl (.inl rfl) (.inr rfl)) (fun _ _ _ _ _ => pts_nil) (fun _ _ _ _ _ => pFld K (pv 1) rfl))
    (pss_one (ps_ret (pe_makeL (i := 0) T.k_Stepping GI hr rfl (.inl rfl) bI dI pass0 (pa_cons (pe_callTy call_list_of (by rfl) T.m_list (by decide +kernel) (pa_cons (pe_fld (pv 1) rfl) pa_nil)) (pa_cons (pe_fld (pv 1) rfl) (pa_cons (pv 2) (pa_cons (pv 5) pa_nil))))))))), ?_⟩
  obtain ⟨p, dx, wa, rfl, hp, hw⟩ := hW.ex
  have cl := T.c_Weighted
  refine ⟨Nat.zero_le _, fun D nD => ?_⟩
  have sD : Same H (upd H D (.lst [])) := same_upd nD
  refine ⟨_, rfl, p, _, dx, _, _, rfl, sD _ _ hp, cl, T.n_Weighted_many, wF_many, _, rfl, by omega, by omega, for_range (lo := 0) (n := ws.length) (fun i σ H' => ∃ v3 v4, σ = [some (.ref (cS K)), some (.ref p), some (.ref D), v3, v4, none, none] ∧ Same H H' ∧ TabAt H' D ((srows ws).take i))
    ⟨none, none, rfl, sD, [], upd_same, by rw [List.take_zero]; exact .nil⟩ ?_ ?_⟩
  · rintro i σ H1 hi ⟨v3, v4, rfl, s1, vD, eD, hD⟩
    rw [show (0 : Int) + (i : Int) = (i : Int) from Int.zero_add _]
    refine ⟨_, rfl, p, _, dx, _, _, rfl, s1 _ _ hp, cl, T.n_Weighted_weights, wF_weights, wa, _, rfl, .inr (sq_t (s1 _ _ hw)), fun R nR => ?_⟩
    have sR : Same H1 (upd H1 R (.lst (iv ws))) := same_upd nR
    have nRD : D ≠ R := ne_of_none eD nR
    refine ⟨_, rfl, _, rfl, R, iv ws, _, i, rfl, rfl, upd_same, ixN_nat (by rw [iv_len]; exact hi), ?_⟩
    rw [iv_set0]
    have s2 : Same H1 (upd (upd H1 R (.lst (iv ws))) R (.lst (iv (srow ws i)))) := fun b o e => by
      rw [upd_ne (ne_of_none e nR)]
      exact sR _ _ e
    refine ⟨_, rfl, .inl ⟨rfl, _, .inl (.inl (s2 _ _ eD))⟩, _, rfl, D, _, _, rfl, rfl, s2 _ _ eD, ?_, ?_⟩
    · have := hD.1
      rw [List.length_take, srows_len] at this
      exact small1000 (by omega)
    · refine ⟨_, _, rfl, fun b o e => ?_, ?_⟩
      · rw [upd_ne (ne_of_none e nD)]
        exact s2 _ _ (s1 _ _ e)
      · rw [List.take_add_one, srows_get hi]
        exact TabAt.snoc (s2 _ _ eD) (hD.mono fun _ _ _ _ z => z.same s2) upd_same nRD.symm
  rintro σ H1 ⟨v3, v4, rfl, s1, hT⟩
  rw [List.take_of_length_le (by rw [srows_len]; omega)] at hT
  refine ⟨_, rfl, p, _, dx, _, _, rfl, s1 _ _ hp, cl, T.n_Weighted_many, wF_many, _, rfl, by omega, by omega, fun F nF => lc_range (lo := 0) (n := ws.length) (fun j H' => Same H1 H' ∧ H' F = some (.lst (iv (List.replicate j a)))) ⟨same_upd nF, upd_same⟩ ?_ ?_⟩
  · rintro j H2 hj ⟨s2, eF⟩
    refine ⟨rfl, ?_⟩
    refine ⟨_, rfl, p, _, dx, _, _, rfl, s2 _ _ (s1 _ _ hp), cl, T.n_Weighted_aside, wF_aside, ?_⟩
    refine ⟨_, eF, ?_, fun b o e => ?_, ?_⟩
    · rw [iv_len, List.length_replicate]
      exact small1000 (by omega)
    · rw [upd_ne (ne_of_none e nF)]
      exact s2 _ _ e
    · rw [upd_same, List.replicate_succ', iv_app]
      rfl
  rintro H2 ⟨s2, eF⟩
  refine ⟨rfl, ?_⟩
  refine ⟨_, rfl, p, _, dx, _, _, rfl, s2 _ _ (s1 _ _ hp), cl, T.n_Weighted_weights, wF_weights, wa, _, rfl, .inr (sq_t (s2 _ _ (s1 _ _ hw))), fun R nR => ?_⟩
  have sR : Same H2 (upd H2 R (.lst (iv ws))) := same_upd nR
  refine ⟨_, rfl, p, _, dx, _, _, rfl, sR _ _ (s2 _ _ (s1 _ _ hp)), cl, T.n_Weighted_aside, wF_aside, _, rfl, _, rfl, ?_⟩
  intro x dx2 nx ndx nex
  have sM : Same (upd H2 R (.lst (iv ws))) (upd (upd (upd H2 R (.lst (iv ws))) dx2 (.own x)) x (.ins (cS K) dx2 [])) := mk_same nx ndx
  refine ⟨x, dx2, R, D, F, ws, a, rfl, upd_same, ⟨sM _ _ upd_same, ((hT.same s2).same sR).same sM, sM _ _ (sR _ _ eF), h1, ha⟩, h8, fun H' kp hS => ⟨rfl, q _ _ (fun b o e => ?_) hS⟩⟩
  have e2 := sR _ _ (s2 _ _ (s1 _ _ e))
  exact kp _ _ (ne_of_none e2 nx) (sM _ _ e2)
end
end K45W
end JK45Like
section JK45Vals
set_option Elab.async false
set_option linter.all false
set_option maxRecDepth 100000
set_option maxHeartbeats 4000000
namespace K45W
open PySem PySem.Spec PyProof.Rows L2 K45R K45T K45
theorem opNotIn {X : Cx} (K : PySem.W.Frag) (h : X.K = K := by rfl) : OpR X (compareOp .NotIn) (rIn K true) := by subst h; exact op_notIn_seq
theorem opIn {X : Cx} (K : PySem.W.Frag) (h : X.K = K := by rfl) : OpR X (compareOp .In) (rIn K false) := by subst h; exact op_in_seq
theorem tv_flat (L : List Nat) : (tv L).all flatV = true := by
  unfold tv
  rw [List.all_map]
  exact List.all_eq_true.mpr fun _ _ => rfl
theorem inV_tv (t : Nat) (L : List Nat) : inV (.int (t : Int)) (tv L) = decide (t ∈ L) := by
  unfold inV tv
  rw [List.any_map]
  by_cases h : t ∈ L
  · rw [decide_eq_true h]
    exact List.any_eq_true.mpr ⟨t, h, by show ((t : Int) == (t : Int)) = true; exact beq_self_eq_true _⟩
  · rw [decide_eq_false h]
    refine List.any_eq_false.mpr fun x hx e => ?_
    have e : ((x : Int) == (t : Int)) = true := e
    have : x = t := by
      have := beq_iff_eq.mp e
      omega
    exact h (this ▸ hx)
/-- a row told apart from the object at S -/
def RowN (S : Addr) (H : Hp) (v : V) (r : List Int) : Prop := ∃ a, v = .ref a ∧ a ≠ S ∧ H a = some (.lst (iv r))
theorem RowN.same {S : Addr} {H H' : Hp} {v : V} {r : List Int} (s : Same H H') (h : RowN S H v r) : RowN S H' v r := let ⟨a, e, n, q⟩ := h; ⟨a, e, n, s _ _ q⟩
theorem allw_bd {ws : List Int} {a : Int} (sw : Small ws) (sa : Bd 62 a) (h8 : ws.length ≤ 8) : Bd 70 (allw ws a) := (tot_bd sw sa (by rw [List.length_range]; omega)).le (by omega)
def valrow (ws ps : List Int) (a : Int) (q : Nat → Bool) : List (Int × Int) := (List.range ws.length).map fun t => (val (nth ws) (nth ps) a q ws.length t, tot (nth ws) a (lotq ws.length q))
theorem valrow_len {ws ps : List Int} {a : Int} {q : Nat → Bool} : (valrow ws ps a q).length = ws.length := by simp [valrow]
theorem valrow_get {ws ps : List Int} {a : Int} {q : Nat → Bool} {t : Nat} (h : t < ws.length) : (valrow ws ps a q)[t]? = some (val (nth ws) (nth ps) a q ws.length t, tot (nth ws) a (lotq ws.length q)) := by
  unfold valrow
  rw [List.getElem?_map, List.getElem?_range h]
  rfl
theorem line_crow {T b : Int} {u v : Nat → Int} {m i : Nat} {raw : List Int} {x : Int} (hl : raw.length = m) (h : ∀ j y, j ≠ i → raw[j]? = some y → y = -(u i * v j)) (ht : x = T - u i * v i) : (iv raw).set i (.int x) = iv (crow T b u v m i) := by
  unfold iv
  rw [← List.map_set]
  congr 1
  refine List.ext_getElem? fun j => ?_
  unfold crow
  rw [List.getElem?_map]
  by_cases hj : j < m
  · rw [List.getElem?_range hj]
    show _ = some (ent T b u v m 0 i j)
    rw [ent0 hj]
    by_cases c : j = i
    · subst c
      rw [List.getElem?_set_self (by omega), if_pos rfl, ht]
    · have e : raw[j]? = some raw[j] := List.getElem?_eq_getElem (by omega)
      rw [List.getElem?_set_ne (fun z => c z.symm), if_neg c, e, h j _ c e]
  · rw [List.getElem?_eq_none (by rw [List.length_set]; omega), List.getElem?_eq_none (by rw [List.length_range]; omega)]
    rfl
/-- the numbers that buyers and prices are made of -/
structure Nums (ws ps : List Int) (a : Int) : Prop where
  w1 : ∀ x ∈ ws, 1 ≤ x
  p0 : ∀ x ∈ ps, 0 ≤ x
  a1 : 1 ≤ a
  sw : Small ws
  sp : Small ps
  sa : Bd 62 a
  el : ps.length = ws.length
  n8 : ws.length ≤ 8
theorem Nums.ok {ws ps : List Int} {a : Int} (z : Nums ws ps a) : Ok (nth ws) (nth ps) a ws.length :=
  ⟨fun i hi => nth_ge z.w1 hi, fun i hi => z.p0 _ (List.mem_of_getElem? (nth_get (by have := z.el; omega))), z.a1⟩
theorem rowN_snoc {S R E : Addr} {H : Hp} {vR : List V} {rs : List (List Int)} {r : List Int} (e : H R = some (.lst vR)) (h : Each (RowN S H) vR rs) (eE : H E = some (.lst (iv r))) (nR : E ≠ R) (nS : E ≠ S) :
    Each (RowN S (upd H R (.lst (vR ++ [.ref E])))) (vR ++ [.ref E]) (rs ++ [r]) := by
  refine Each.snoc (h.mono fun v x hv hx z => ?_) ⟨E, rfl, nS, by rw [upd_ne nR]; exact eE⟩
  obtain ⟨b, rfl, n, eb⟩ := z
  refine ⟨b, rfl, n, ?_⟩
  have nb : b ≠ R := fun q => by
    rw [q, e] at eb
    have z := HO.lst.inj (Option.some.inj eb)
    rw [z] at hv
    exact no_ref_iv hv
  rw [upd_ne nb]
  exact eb
theorem RowN.upd {S : Addr} {H : Hp} {o : HO} {v : V} {r : List Int} (h : RowN S H v r) : RowN S (upd H S o) v r := by
  obtain ⟨b, e, n, q⟩ := h
  exact ⟨b, e, n, by rw [upd_ne n]; exact q⟩
theorem RowN.row {S : Addr} {H : Hp} {v : V} {r : List Int} (h : RowN S H v r) : RowAt H v r := let ⟨b, e, _, q⟩ := h; ⟨b, e, q⟩
theorem row_val {C : Addr} {H : Hp} {t : Addr} {ws ps : List Int} {a : Int} {q : Nat → Bool} (h : RatL C H t (mixrow (fun _ => (bro (nth ws) (nth ps) (lotq ws.length q), tot (nth ws) a (lotq ws.length q))) (fun t => (nth ps t, 1)) (outq ws.length q) ws.length)) (hp : 0 < tot (nth ws) a (lotq ws.length q)) : RatL C H t (valrow ws ps a q) := by
  obtain ⟨vs, e, hl, h⟩ := h
  refine ⟨vs, e, by rw [hl, mixrow_len, valrow_len], fun i v x h1 h2 => ?_⟩
  have hi : i < ws.length := by have := (List.getElem?_eq_some_iff.mp h2).1; rwa [valrow_len] at this
  rw [valrow_get hi] at h2
  cases h2
  have r := h i v _ h1 (mixrow_get hi)
  cases c : q i with
  | true =>
    rw [if_neg fun m => by have := (outq_mem.mp m).2; rw [c] at this; cases this] at r
    refine r.eq hp ?_
    show _ = val (nth ws) (nth ps) a q ws.length i * 1
    unfold val
    rw [if_pos c, Int.mul_one]
  | false =>
    rw [if_pos (outq_mem.mpr ⟨hi, c⟩)] at r
    have e : val (nth ws) (nth ps) a q ws.length i = bro (nth ws) (nth ps) (lotq ws.length q) := by unfold val; rw [if_neg (by rw [c]; exact Bool.false_ne_true)]
    rw [e]
    exact r
def sp_SV (K : PySem.W.Frag) : Sp := fun vs H Q _ => ∃ (v : V) (la pa : Addr) (ws ps : List Int) (a : Int) (q : Nat → Bool), vs = [v, .ref la, .ref pa] ∧ SAt K H v ws a ∧ H la = some (.tup (tv (lotq ws.length q))) ∧ H pa = some (.lst (iv ps)) ∧ Nums ws ps a ∧
  ∀ H' t, Same H H' → RatL (cR K) H' t (valrow ws ps a q) → Q (.ref t) H'
section
variable {P : Program} {w : World} {K : PySem.W.Frag} {mg : Str → Option Value} {base : Heap} {k : Nat}
theorem ok_SV (T : Fx K mg) : OkD P w K mg base 4 (f_SV K) ["self", "lot", "prices"] [] (sp_SV K) := by
  obtain ⟨⟨fdI, dsI, GI, bI, dI⟩, kpI⟩ := ok_RI (P := P) (w := w) (base := base) T [.int 1] (.inr rfl)
  obtain ⟨⟨fdS, dsS, GS, bS, dS⟩, kpS⟩ := ok_sol (P := P) (w := w) (base := base) T
  obtain ⟨⟨fdT, dsT, GT, bT, dT⟩, kpT⟩ := (ok_ST (P := P) (w := w) (base := base) T).mono (k := 3) (by decide)
  refine okF T.d_SV sc_SV (fun _ _ _ _ _ _ us hl => match us, hl with | [_, _, _], _ => rfl) (fun vs H Q E h => ?_) (fun cdv A outer s H vs Q E hr h => ?_)
  · obtain ⟨v, la, pa, ws, ps, a, q, rfl, _⟩ := h
    rfl
  obtain ⟨v, la, pa, ws, ps, a, q, rfl, hS, hL, hP, z, Q0⟩ := h
  have hr2 : Room 2 _ := hr.mono (by decide)
  refine ⟨_, (pss_cons (ps_setLc (i := 4) (own := [("thing", 3)]) (g := gName 3) rfl sc_SV.nd rfl rfl (sw_true rfl rfl rfl (by decide +kernel)) (pi_range1 (by rfl) T.m_range (pa_cons (pe_fld (pv 0) rfl) pa_nil)) (blkOk_by (N := ns_SV) (sc := defScope s_SV) (by decide +kernel))
        (fun _ _ _ _ _ => pg_name (i := 3) sc_SV.nd rfl (.inl rfl) (.inr rfl)) (fun _ _ _ _ _ => pts_one (pt_cmpR (opNotIn K) (pv 3) (pv 1) (by rfl))) (fun _ _ _ _ _ => pv 3))
    (pss_cons (ps_set (i := 5) sc_SV.nd rfl (.inl rfl) (pe_lst pa_nil))
    (pss_cons (ps_set (i := 6) sc_SV.nd rfl (.inl rfl) (pe_lst pa_nil))
    (pss_cons (ps_for PassesOwn.never rfl (pi_enum (by rfl) T.m_enumerate (pa_cons (pv 4) pa_nil)) (pg_tup rfl (pgs_cons (pg_name (i := 7) sc_SV.nd rfl (.inl rfl)) (pgs_cons (pg_name (i := 3) sc_SV.nd rfl (.inr rfl)) pgs_nil)))
      (pss_cons (ps_setLc (i := 8) (own := [("other", 11)]) (g := gName 11) (tt := tYes) rfl sc_SV.nd rfl rfl (sw_true rfl rfl rfl (by decide +kernel)) (pi_list (pv 4)) (blkOk_by (N := ns_SV) (sc := defScope s_SV) (by decide +kernel))
        (fun _ _ _ _ _ => pg_name (i := 11) sc_SV.nd rfl (.inl rfl) (.inr rfl)) (fun _ _ _ _ _ => pts_nil) (fun _ _ _ _ _ => pe_un un_neg (pe_ix (ixT K) (pe_ix (ixT K) (pFld K (pv 0) rfl) (pv 3) (fun _ _ => rfl)) (pv 11) (fun _ _ => rfl))))
    (pss_cons (ps_asg (pe_meth (pv 0) T.c_Stepping T.t_ST GT hr bT dT pass0 (pa_cons (pv 3) pa_nil)) (pg_sub (pv 8) (pv 7) set_list))
    (pss_cons (ps_expr (pe_bm PySem.F.plainAttrs_list PySem.F.slot_list_append PySem.F.type_list_append mt_append (pv 5) (pa_cons (pv 8) pa_nil)))
    (pss_one (ps_expr (pe_bm PySem.F.plainAttrs_list PySem.F.slot_list_append PySem.F.type_list_append mt_append (pv 6) (pa_cons (pe_callB (cr_sum rfl) (by rfl) T.m_sum (by decide +kernel) (pa_cons
        (pe_lc (own := [("other", 11)]) (g := gName 11) (tt := tYes) rfl sc_SV.nd (pi_tup (pv 1)) (blkOk_by (N := ns_SV) (sc := defScope s_SV) (by decide +kernel)) (fun _ _ _ _ _ => pg_name (i := 11) sc_SV.nd rfl (.inl rfl) (.inr rfl)) (fun _ _ _ _ _ => pts_nil)
          (fun _ _ _ _ _ => pe_op op_mulW (pe_ix (ixT K) (pe_ix (ixT K) (pFld K (pv 0) rfl) (pv 3) (fun _ _ => rfl)) (pv 11) (fun _ _ => rfl)) (pe_ix (ixL K) (pv 2) (pv 11) (fun _ _ => rfl)))) pa_nil)) pa_nil))))))))
    (pss_cons (ps_setLc (i := 9) (own := [("price", 12)]) (g := gName 12) (tt := tYes) rfl sc_SV.nd rfl rfl (sw_true rfl rfl rfl (by decide +kernel)) (pi_list (pv 2)) (blkOk_by (N := ns_SV) (sc := defScope s_SV) (by decide +kernel))
        (fun _ _ _ _ _ => pg_name (i := 12) sc_SV.nd rfl (.inl rfl) (.inr rfl)) (fun _ _ _ _ _ => pts_nil) (fun _ _ _ _ _ => pe_make T.k_Ratio GI hr2 (by rfl) T.g_Ratio bI dI pass0 (pa_cons (pv 12) pa_nil)))
    (pss_cons (ps_for PassesOwn.never rfl (pi_zip (by rfl) T.m_zip (pa_cons (pv 4) (pa_cons (pe_call GS hr (by rfl) T.g_sol kpS bS dS pass0 (pa_cons (pv 5) (pa_cons (pv 6) pa_nil))) pa_nil))) (pg_tup rfl (pgs_cons (pg_name (i := 3) sc_SV.nd rfl (.inr rfl)) (pgs_cons (pg_name (i := 10) sc_SV.nd rfl (.inl rfl)) pgs_nil)))
      (pss_one (ps_asg (pv 10) (pg_sub (pv 9) (pv 3) set_list))))
    (pss_one (ps_ret (pv 9))))))))), ?_⟩
  obtain ⟨p, dx, fa, ta, le, ss, rfl, f⟩ := id hS
  have cl := T.c_Stepping
  have n8 := z.n8
  have el := z.el
  have mL : ∀ {t : Nat}, t < ws.length → (t ∈ lotq ws.length q ↔ q t = true) := fun {t} ht => by rw [lotq_mem]; exact ⟨fun e => e.2, fun e => ⟨ht, e⟩⟩
  -- out
  refine ⟨_, rfl, p, _, dx, _, _, rfl, f.ob, cl, T.n_Stepping_many, sF_many, _, rfl, by omega, by omega, fun D nD => lc_range (lo := 0) (n := ws.length) (fun j H' => Same H H' ∧ H' D = some (.lst (tv (outq j q)))) ⟨same_upd nD, upd_same⟩ ?_ ?_⟩
  · rintro j H1 hj ⟨s1, eD⟩
    rw [show (0 : Int) + (j : Int) = (j : Int) from Int.zero_add _]
    refine ⟨rfl, ?_⟩
    refine ⟨_, rfl, _, rfl, la, _, rfl, .inr (sq_t (s1 _ _ hL)), rfl, tv_flat _, _, rfl, ?_⟩
    have eb : (!inV (.int (j : Int)) (tv (lotq ws.length q))) = !q j := by
      rw [inV_tv]
      cases e : q j with
      | true => rw [decide_eq_true ((mL hj).mpr e)]
      | false => rw [decide_eq_false fun h => by have := (mL hj).mp h; rw [e] at this; cases this]
    have es : outq (j + 1) q = if (!q j) = true then outq j q ++ [j] else outq j q := lotq_succ
    by_cases c : q j = true
    · refine iteFb (eb.trans (by rw [c]; rfl)) ⟨s1, ?_⟩
      rw [es, c]
      exact eD
    · have c' : q j = false := by simpa using c
      refine iteTb (eb.trans (by rw [c']; rfl)) ?_
      refine ⟨_, rfl, _, eD, ?_, fun b o e => ?_, ?_⟩
      · rw [tv_len]
        have : (outq j q).length ≤ j := lotq_len
        exact small1000 (by omega)
      · rw [upd_ne (ne_of_none e nD)]
        exact s1 _ _ e
      · rw [upd_same, es, c', if_pos (show (!false) = true from rfl), tv_app]
        rfl
  rintro H1 ⟨s1, eD⟩
  -- rows, right
  refine ⟨Nat.zero_le _, fun R nR => ?_⟩
  have sR : Same H1 (upd H1 R (.lst [])) := same_upd nR
  refine ⟨Nat.zero_le _, fun S nS => ?_⟩
  have sS : Same (upd H1 R (.lst [])) (upd (upd H1 R (.lst [])) S (.lst [])) := same_upd nS
  have dDR : D ≠ R := ne_of_none eD nR
  have dRS : R ≠ S := fun e => by rw [← e, upd_same] at nS; cases nS
  have dDS : D ≠ S := ne_of_none (sR _ _ eD) nS
  have nRH : H R = none := s1.free nR
  have nSH : H S = none := (s1.trans sR).free nS
  have lO : (outq ws.length q).length ≤ ws.length := lotq_len
  refine ⟨_, rfl, D, _, rfl, sq_l (sS _ _ (sR _ _ eD)), for_it (walk_enum (K := K) (a := D) (xs := tv (outq ws.length q)))
    (fun i σ H' => ∃ v3 v7 v8, σ = [some (.ref p), some (.ref la), some (.ref pa), v3, some (.ref D), some (.ref R), some (.ref S), v7, v8, none, none, none, none] ∧ Same H H' ∧ H' D = some (.lst (tv (outq ws.length q))) ∧
      (∃ vR, H' R = some (.lst vR) ∧ Each (RowN S H') vR ((List.range i).map fun i => crow (allw ws a) (bro (nth ws) (nth ps) (lotq ws.length q)) (fun _ => 1) (fun j => nth ws ((outq ws.length q).getD j 0)) (outq ws.length q).length i)) ∧
      H' S = some (.lst (iv ((List.range i).map fun i => bro (nth ws) (nth ps) (lotq ws.length q) * (fun _ => 1 : Nat → Int) i))))
    ⟨none, none, none, rfl, (s1.trans sR).trans sS, sS _ _ (sR _ _ eD), ⟨[], by rw [upd_ne dRS, upd_same], .nil⟩, upd_same⟩ (fun i σ H' hi ⟨_, _, _, _, _, e, _⟩ => sq_l e) ?_ ?_⟩
  · rintro i x σ H2 H3 hi ⟨v3, v7, v8, rfl, s2, eD2, ⟨vR, eR, hR⟩, eS⟩ ⟨U, x1, x2, rfl, nU, rfl, e1, e2⟩
    obtain ⟨t, ht, rfl⟩ := tv_at e2
    cases (show V.int (i : Int) = x1 from Option.some.inj e1)
    obtain ⟨tn, tq⟩ := outq_mem.mp (List.mem_of_getElem? ht)
    rw [tv_len] at hi
    have sU : Same H2 (upd H2 U (.tup [.int (i : Int), .int (t : Int)])) := same_upd nU
    obtain ⟨vr, hvr, ar, rfl, har⟩ := f.rows.get (srows_get tn)
    have f2 := (f.same s2).same sU
    have har2 := sU _ _ (s2 _ _ har)
    refine ⟨U, _, rfl, .inl (.inl upd_same), rfl, _, [_], rfl, _, [], rfl, rfl, ?_⟩
    -- the line
    refine ⟨_, rfl, D, rfl, ⟨_, sq_l (sU _ _ eD2)⟩, fun E nE => lc_list (K := K) (a := D) (xs := tv (outq ws.length q)) (fun j H' => Same (upd H2 U (.tup [.int (i : Int), .int (t : Int)])) H' ∧ H' E = some (.lst (iv (((outq ws.length q).take j).map fun o => -(if o = t then 0 else nth ws o)))))
      ⟨same_upd nE, upd_same⟩ (fun j H' hj ⟨s3, _⟩ => sq_l (s3 _ _ (sU _ _ eD2))) ?_ ?_⟩
    · rintro j x H4 hx ⟨s4, eE⟩
      obtain ⟨o, ho, rfl⟩ := tv_at hx
      obtain ⟨on, oq⟩ := outq_mem.mp (List.mem_of_getElem? ho)
      refine ⟨rfl, _, rfl, p, _, dx, _, _, rfl, s4 _ _ f2.ob, cl, T.n_Stepping_steps, sF_steps, _, rfl, ta, _, _, _, rfl, rfl, sq_t (s4 _ _ f2.steps), atI_nat hvr, _, rfl, ar, _, _, _, rfl, rfl, sq_t (s4 _ _ har2), atI_nat (iv_get (srow_get on)), _, rfl, ?_⟩
      refine ⟨_, eE, ?_, fun b o e => ?_, ?_⟩
      · rw [iv_len, List.length_map, List.length_take]
        exact small1000 (by omega)
      · rw [upd_ne (ne_of_none e nE)]
        exact s4 _ _ e
      · rw [upd_same, List.take_add_one, ho, List.map_append, iv_app]
        rfl
    rintro H4 ⟨s4, eE⟩
    rw [tv_len, List.take_length] at eE
    have f4 := f2.same s4
    refine ⟨_, rfl, p, dx, _, rfl, f4.ob, sF_no (by decide +kernel), _, rfl, .ref p, t, ws, a, rfl, ⟨p, dx, fa, ta, le, ss, rfl, f4⟩, tn, ?_⟩
    refine ⟨_, rfl, _, rfl, E, _, _, i, rfl, rfl, eE, ixN_nat (by rw [iv_len, List.length_map]; exact hi), ?_⟩
    have lcr : (iv ((outq ws.length q).map fun o => -(if o = t then 0 else nth ws o))).set i (.int (allw ws a - nth ws t)) = iv (crow (allw ws a) (bro (nth ws) (nth ps) (lotq ws.length q)) (fun _ => 1) (fun j => nth ws ((outq ws.length q).getD j 0)) (outq ws.length q).length i) := by
      refine line_crow (by rw [List.length_map]) (fun j y nj hy => ?_) ?_
      · rw [List.getElem?_map] at hy
        cases e : (outq ws.length q)[j]? with
        | none => rw [e] at hy; cases hy
        | some o =>
          rw [e] at hy
          have hy : y = -(if o = t then 0 else nth ws o) := (Option.some.inj hy).symm
          have ot : ¬ o = t := fun z => nj (nodup_at outq_nodup (by rw [← z]; exact e) ht)
          rw [if_neg ot] at hy
          show y = -(1 * nth ws ((outq ws.length q).getD j 0))
          rw [getD_of e, Int.one_mul]
          exact hy
      · show _ = allw ws a - 1 * nth ws ((outq ws.length q).getD i 0)
        rw [getD_of ht, Int.one_mul]
    rw [lcr]
    generalize hG5 : upd H4 E (.lst (iv (crow (allw ws a) (bro (nth ws) (nth ps) (lotq ws.length q)) (fun _ => 1) (fun j => nth ws ((outq ws.length q).getD j 0)) (outq ws.length q).length i))) = G5
    have s5 : Same (upd H2 U (.tup [.int (i : Int), .int (t : Int)])) G5 := fun b o e => by
      rw [← hG5, upd_ne (ne_of_none e nE)]
      exact s4 _ _ e
    have eE5 : G5 E = some (.lst (iv (crow (allw ws a) (bro (nth ws) (nth ps) (lotq ws.length q)) (fun _ => 1) (fun j => nth ws ((outq ws.length q).getD j 0)) (outq ws.length q).length i))) := by rw [← hG5, upd_same]
    have nER : E ≠ R := fun z => by rw [z, sU _ _ eR] at nE; cases nE
    have nES : E ≠ S := fun z => by rw [z, sU _ _ eS] at nE; cases nE
    have eR5 := s5 _ _ (sU _ _ eR)
    have hR5 : Each (RowN S G5) vR _ := hR.mono fun _ _ _ _ y => (y.same sU).same s5
    have lR : vR.length = i := by rw [hR.1, List.length_map, List.length_range]
    refine ⟨_, rfl, .inl ⟨rfl, _, .inl (.inl eR5)⟩, _, rfl, R, _, _, rfl, rfl, eR5, small1000 (by omega), ?_⟩
    have hR6 := rowN_snoc eR5 hR5 eE5 nER nES
    generalize hG6 : upd G5 R (.lst (vR ++ [.ref E])) = G6 at hR6
    have s6 : Same H G6 := fun b o e => by
      rw [← hG6, upd_ne (ne_of_none e nRH)]
      exact s5 _ _ (sU _ _ (s2 _ _ e))
    have eR6 : G6 R = some (.lst (vR ++ [.ref E])) := by rw [← hG6, upd_same]
    have eD6 : G6 D = some (.lst (tv (outq ws.length q))) := by rw [← hG6, upd_ne dDR]; exact s5 _ _ (sU _ _ eD2)
    have eS6 : G6 S = some (.lst (iv ((List.range i).map fun i => bro (nth ws) (nth ps) (lotq ws.length q) * (fun _ => 1 : Nat → Int) i))) := by rw [← hG6, upd_ne dRS.symm]; exact s5 _ _ (sU _ _ eS)
    have f6 := f.same s6
    refine ⟨_, rfl, .inl ⟨rfl, _, .inl (.inl eS6)⟩, ?_⟩
    refine ⟨_, rfl, la, rfl, ⟨_, sq_t (s6 _ _ hL)⟩, fun F nF => lc_it (walk_tup (K := K) (a := la) (xs := tv (lotq ws.length q))) (fun j H' => Same G6 H' ∧ H' F = some (.lst (iv (((lotq ws.length q).take j).map fun o => nth ws o * nth ps o)))) ⟨same_upd nF, upd_same⟩ (fun j H' hj ⟨s7, _⟩ => sq_t (s7 _ _ (s6 _ _ hL))) ?_ ?_⟩
    · rintro j x H7 H8 hj ⟨s7, eF⟩ ⟨rfl, hx⟩
      obtain ⟨o, ho, rfl⟩ := tv_at hx
      obtain ⟨on, oq⟩ := lotq_mem.mp (List.mem_of_getElem? ho)
      have hot : ¬ o = t := fun z => by rw [z, tq] at oq; cases oq
      have go : (srow ws t)[o]? = some (nth ws o) := by rw [srow_get on, if_neg hot]
      have gp : ps[o]? = some (nth ps o) := nth_get (by omega)
      have lL : (lotq ws.length q).length ≤ ws.length := lotq_len
      refine ⟨rfl, _, rfl, p, _, dx, _, _, rfl, s7 _ _ f6.ob, cl, T.n_Stepping_steps, sF_steps, _, rfl, ta, _, _, _, rfl, rfl, sq_t (s7 _ _ f6.steps), atI_nat hvr, _, rfl, ar, _, _, _, rfl, rfl, sq_t (s7 _ _ (s6 _ _ har)), atI_nat (iv_get go), _, rfl, _, rfl, pa, _, _, _, rfl, rfl, sq_l (s7 _ _ (s6 _ _ hP)), atI_nat (iv_get gp), _, _, rfl, rfl,
        wide_mul (small_nth z.sw o) (small_nth z.sp o) (by decide) (by decide) (by decide), ?_⟩
      refine ⟨_, eF, ?_, fun b o e => ?_, ?_⟩
      · rw [iv_len, List.length_map, List.length_take]
        exact small1000 (by omega)
      · rw [upd_ne (ne_of_none e nF)]
        exact s7 _ _ e
      · rw [upd_same, List.take_add_one, ho, List.map_append, iv_app]
        rfl
    rintro H7 ⟨s7, eF⟩
    rw [tv_len, List.take_length] at eF
    refine ⟨F, _, rfl, sq_l eF, S, _, _, rfl, rfl, s7 _ _ eS6, ?_, ?_⟩
    · rw [iv_len, List.length_map, List.length_range]
      exact small1000 (by omega)
    refine ⟨_, _, _, rfl, fun b o e => ?_, ?_, ⟨vR ++ [.ref E], ?_, ?_⟩, ?_⟩
    · rw [upd_ne (ne_of_none e nSH)]
      exact s7 _ _ (s6 _ _ e)
    · rw [upd_ne dDS]
      exact s7 _ _ eD6
    · rw [upd_ne dRS]
      exact s7 _ _ eR6
    · rw [List.range_succ, List.map_append]
      exact hR6.mono fun _ _ _ _ y => (y.same s7).upd
    · rw [upd_same, List.range_succ, List.map_append, iv_app]
      show some (HO.lst (_ ++ [V.int (((lotq ws.length q).map fun o => nth ws o * nth ps o).sum)])) = some (HO.lst (_ ++ [V.int (bro (nth ws) (nth ps) (lotq ws.length q) * 1)]))
      rw [Int.mul_one]
      rfl
  rintro σ H2 ⟨v3, v7, v8, rfl, s2, eD2, ⟨vR, eR, hR⟩, eS⟩
  rw [tv_len] at hR eS
  have hv : ∀ j, j < (outq ws.length q).length → (1 : Int) * nth ws ((outq ws.length q).getD j 0) = nth ws ((outq ws.length q).getD j 0) := fun j _ => Int.one_mul _
  have w1 : ∀ t, t < ws.length → 1 ≤ nth ws t := fun t ht => nth_ge z.w1 ht
  have g := good_out (w := nth ws) (a := a) (n := ws.length) (q := q) (u := fun _ => 1) (v := fun j => nth ws ((outq ws.length q).getD j 0)) w1 z.a1 hv
  have so := ss_out (w := nth ws) (a := a) (n := ws.length) (q := q) (u := fun _ => 1) (v := fun j => nth ws ((outq ws.length q).getD j 0)) hv
  have lL : (lotq ws.length q).length ≤ ws.length := lotq_len
  have bb := bro_bd (L := lotq ws.length q) z.sw z.sp (by omega)
  have zz := sized_out (b := bro (nth ws) (nth ps) (lotq ws.length q)) (w := nth ws) (a := a) (n := ws.length) (q := q) (u := fun _ => 1) (v := fun j => nth ws ((outq ws.length q).getD j 0)) w1 z.a1 hv (allw_bd z.sw z.sa n8) (bb.le (by omega)) (fun _ => Bd.one (by decide)) (fun j => (small_nth z.sw _).le (by omega)) n8
  have tp := tot_pos (L := lotq ws.length q) z.ok lot_in
  -- the values of the prices
  refine ⟨_, rfl, pa, rfl, ⟨_, sq_l (s2 _ _ hP)⟩, fun Y nY => lc_list (K := K) (a := pa) (xs := iv ps) (fun j H' => Same H2 H' ∧ RatL (cR K) H' Y ((mixrow (fun _ => (bro (nth ws) (nth ps) (lotq ws.length q), tot (nth ws) a (lotq ws.length q))) (fun t => (nth ps t, 1)) [] ws.length).take j))
    ⟨same_upd nY, [], upd_same, by rw [List.take_zero]; exact .nil⟩ (fun j H' hj ⟨s3, _⟩ => sq_l (s3 _ _ (s2 _ _ hP))) ?_ ?_⟩
  · rintro j x H3 hx ⟨s3, vY, eY, hY⟩
    obtain ⟨pr, hpr, rfl⟩ := iv_at hx
    have hj : j < ws.length := by have := (List.getElem?_eq_some_iff.mp hpr).1; omega
    have ep : nth ps j = pr := nth_of hpr
    refine ⟨rfl, _, rfl, ?_⟩
    intro y dy ny ndy ney
    refine ⟨y, dy, _, _, rfl, upd_same, by decide, (z.sp pr (List.mem_of_getElem? hpr)).le (by omega), Bd.one (by decide), fun H5 k5 e5 => ⟨rfl, ?_⟩⟩
    obtain ⟨s5, ry⟩ := made_rat ny ndy (by decide) k5 e5
    refine ⟨vY, s5 _ _ eY, ?_, fun b o e => ?_, ?_⟩
    · have := hY.1
      rw [List.length_take, mixrow_len] at this
      exact small1000 (by omega)
    · rw [upd_ne (ne_of_none e nY)]
      exact s5 _ _ (s3 _ _ e)
    · rw [List.take_add_one, mixrow_get hj, if_neg (by simp)]
      exact RatL.snoc (s5 _ _ eY) (hY.mono fun _ _ _ _ z => z.same s5) (by rw [ep]; exact ry)
  rintro H3 ⟨s3, hY⟩
  rw [iv_len, List.take_of_length_le (by rw [mixrow_len]; omega)] at hY
  have s23 := s2.trans s3
  refine ⟨_, rfl, _, rfl, _, rfl, R, S, allw ws a, bro (nth ws) (nth ps) (lotq ws.length q), fun _ => 1, fun j => nth ws ((outq ws.length q).getD j 0), (outq ws.length q).length, rfl, ⟨vR, s3 _ _ eR, hR.mono fun _ _ _ _ y => (y.same s3).row⟩, s3 _ _ eS, g, zz, fun H4 F s4 nF hF => ?_⟩
  obtain ⟨ys, eF, hys⟩ := hF
  have nDY : D ≠ Y := ne_of_none eD2 nY
  obtain ⟨vY0, eY0, _⟩ := id hY
  have nFY : F ≠ Y := fun z => by rw [z, eY0] at nF; cases nF
  have lys : ys.length = (outq ws.length q).length := hys.1.trans sol_len
  have nYH : H Y = none := s2.free nY
  refine ⟨D, F, _, _, rfl, sq_l (s4 _ _ (s3 _ _ eD2)), sq_l eF, for_it (walk_zip (K := K) (a := D) (b := F) (xs := tv (outq ws.length q)) (ys := ys) (n := (outq ws.length q).length) (by rw [tv_len]; omega))
    (fun i σ H' => ∃ v3 v7 v8 v10, σ = [some (.ref p), some (.ref la), some (.ref pa), v3, some (.ref D), some (.ref R), some (.ref S), v7, v8, some (.ref Y), v10, none, none] ∧ Same H H' ∧ H' D = some (.lst (tv (outq ws.length q))) ∧ H' F = some (.lst ys) ∧
      Each (fun v x => RatAt (cR K) H' v x.1 x.2) ys (sol (allw ws a) (bro (nth ws) (nth ps) (lotq ws.length q)) (fun _ => 1) (fun j => nth ws ((outq ws.length q).getD j 0)) (outq ws.length q).length) ∧
      RatL (cR K) H' Y (mixrow (fun _ => (bro (nth ws) (nth ps) (lotq ws.length q), tot (nth ws) a (lotq ws.length q))) (fun t => (nth ps t, 1)) ((outq ws.length q).take i) ws.length))
    ⟨_, _, _, none, rfl, s23.trans s4, s4 _ _ (s3 _ _ eD2), eF, hys, by rw [List.take_zero]; exact hY.same s4⟩ (fun i σ H' hi ⟨_, _, _, _, _, _, e1, e2, _⟩ => ⟨sq_l e1, sq_l e2⟩) ?_ ?_⟩
  · rintro i x σ H5 H6 hi ⟨v3', v7', v8', v10, rfl, s5, eD5, eF5, hys5, vY, eY5, hY5⟩ ⟨U, x1, x2, rfl, nU, rfl, e1, e2⟩
    obtain ⟨t, ht, rfl⟩ := tv_at e1
    obtain ⟨tn, tq⟩ := outq_mem.mp (List.mem_of_getElem? ht)
    have sU : Same H5 (upd H5 U (.tup [.int (t : Int), x2])) := same_upd nU
    have r2 := hys5.2 i x2 _ e2 (sol_get hi)
    refine ⟨U, _, rfl, .inl (.inl upd_same), rfl, _, [_], rfl, _, [], rfl, rfl, ?_⟩
    have lY : vY.length = ws.length := hY5.1.trans mixrow_len
    have eY6 := sU _ _ eY5
    refine ⟨_, rfl, _, rfl, _, rfl, Y, vY, _, t, rfl, rfl, eY6, ixN_nat (by omega), ?_⟩
    have eT : (outq ws.length q).take (i + 1) = (outq ws.length q).take i ++ [t] := by rw [List.take_add_one, ht]; rfl
    refine ⟨_, _, _, _, rfl, fun b o e => ?_, ?_, ?_, ?_, ?_⟩
    · rw [upd_ne (ne_of_none e nYH)]
      exact sU _ _ (s5 _ _ e)
    · rw [upd_ne nDY]
      exact sU _ _ eD5
    · rw [upd_ne nFY]
      exact sU _ _ eF5
    · exact hys5.mono fun _ _ _ _ y => (y.same sU).upd eY6
    · rw [eT, ← mixrow_set tn]
      refine RatL.set (n := bro (nth ws) (nth ps) (lotq ws.length q)) (d := tot (nth ws) a (lotq ws.length q)) eY6 (hY5.mono fun _ _ _ _ y => y.same sU) ?_
      have r3 := r2.same sU
      refine r3.eq tp ?_
      show bro (nth ws) (nth ps) (lotq ws.length q) * 1 * tot (nth ws) a (lotq ws.length q) = bro (nth ws) (nth ps) (lotq ws.length q) * (allw ws a - SS (fun _ => 1) (fun j => nth ws ((outq ws.length q).getD j 0)) (outq ws.length q).length)
      rw [Int.mul_one]
      unfold allw
      rw [so]
  · rintro σ H5 ⟨v3', v7', v8', v10, rfl, s5, eD5, eF5, hys5, hY5⟩
    rw [List.take_length] at hY5
    exact ⟨_, rfl, Q0 _ _ s5 (row_val hY5 tp)⟩
end
end K45W
end JK45Vals
section JK45Shares
set_option Elab.async false
set_option linter.all false
set_option maxRecDepth 100000
set_option maxHeartbeats 4000000
namespace K45W
open PySem PySem.Spec PyProof.Rows L2 K45R K45T K45
def sp_SS (K : PySem.W.Frag) : Sp := fun vs H Q _ => ∃ (v : V) (la : Addr) (ws : List Int) (a : Int) (q : Nat → Bool), vs = [v, .ref la] ∧ SAt K H v ws a ∧ H la = some (.tup (tv (lotq ws.length q))) ∧ Nums ws (List.replicate ws.length 0) a ∧
  ∀ H' t, Same H H' → RatL (cR K) H' t (lotrow (nth ws) (tot (nth ws) a (lotq ws.length q)) (lotq ws.length q) ws.length) → Q (.ref t) H'
section
variable {w : World} {K : PySem.W.Frag} {mg : Str → Option Value} {base : Heap} {k : Nat}
theorem ok_SS (T : Fx K mg) : OkD PW w K mg base 4 (f_SS K) ["self", "lot"] [] (sp_SS K) := by
  have GU := (ok_US (P := PW) (w := w) (base := base) T).raw0
  obtain ⟨⟨fdI, dsI, GI, bI, dI⟩, kpI⟩ := ok_RI (P := PW) (w := w) (base := base) T [.int 1] (.inr rfl)
  obtain ⟨⟨fdS, dsS, GS, bS, dS⟩, kpS⟩ := ok_sol (P := PW) (w := w) (base := base) T
  obtain ⟨⟨fdO, dsO, GO, bO, dO⟩, kpO⟩ := ok_RO (P := PW) (w := w) (base := base) T
  obtain ⟨⟨fdT, dsT, GT, bT, dT⟩, kpT⟩ := (ok_ST (P := PW) (w := w) (base := base) T).mono (k := 3) (by decide)
  refine OkD.of (okS T T.d_SS sc_SS (fun _ _ _ _ _ _ _ us hl => match us, hl with | [_, _], _ => rfl) rfl rfl (fun _ _ => rfl) ⟨_, rfl, rfl, .inr rfl⟩ (fun vs H Q E h => ?_) fun cc cda A outer s H vs Q E hr S h => ?_)
  · obtain ⟨v, la, ws, a, q, rfl, _⟩ := h
    rfl
  obtain ⟨v, la, ws, a, q, rfl, hS, hL, z, Q0⟩ := h
  have hr2 : Room 2 _ := hr.mono (by decide)
  refine ⟨_, PSsA.nox (psa_cons (psa_superN (i := 2) (SupEnv.nox S) T.u_SS GU hr pass0 sc_SS.nd rfl (.inl rfl) (pa_cons (pv 1) pa_nil))
    (pss_cons (ps_setLc (i := 4) (own := [("thing", 3)]) (g := gName 3) rfl sc_SS.nd rfl rfl (sw_true rfl rfl rfl (by decide +kernel)) (pi_range1 (by rfl) T.m_range (pa_cons (pe_fld (pv 0) rfl) pa_nil)) (blkOk_by (N := ns_SS) (sc := defScope s_SS) (by decide +kernel))
        (fun _ _ _ _ _ => pg_name (i := 3) sc_SS.nd rfl (.inl rfl) (.inr rfl)) (fun _ _ _ _ _ => pts_one (pt_cmpR (opNotIn K) (pv 3) (pv 1) (by rfl))) (fun _ _ _ _ _ => pv 3))
    (pss_cons (ps_set (i := 5) sc_SS.nd rfl (.inl rfl) (pe_lst pa_nil))
    (pss_cons (ps_for PassesOwn.never rfl (pi_enum (by rfl) T.m_enumerate (pa_cons (pv 4) pa_nil)) (pg_tup rfl (pgs_cons (pg_name (i := 6) sc_SS.nd rfl (.inl rfl)) (pgs_cons (pg_name (i := 3) sc_SS.nd rfl (.inr rfl)) pgs_nil)))
      (pss_cons (ps_setLc (i := 8) (own := [("other", 7)]) (g := gName 7) (tt := tYes) rfl sc_SS.nd rfl rfl (sw_true rfl rfl rfl (by decide +kernel)) (pi_list (pv 4)) (blkOk_by (N := ns_SS) (sc := defScope s_SS) (by decide +kernel))
        (fun _ _ _ _ _ => pg_name (i := 7) sc_SS.nd rfl (.inl rfl) (.inr rfl)) (fun _ _ _ _ _ => pts_nil) (fun _ _ _ _ _ => pe_un un_neg (pe_ix (ixT K) (pe_ix (ixT K) (pFld K (pv 0) rfl) (pv 7) (fun _ _ => rfl)) (pv 3) (fun _ _ => rfl))))
    (pss_cons (ps_asg (pe_meth (pv 0) T.c_Stepping T.t_ST GT hr bT dT pass0 (pa_cons (pv 3) pa_nil)) (pg_sub (pv 8) (pv 6) set_list))
    (pss_one (ps_expr (pe_bm PySem.F.plainAttrs_list PySem.F.slot_list_append PySem.F.type_list_append mt_append (pv 5) (pa_cons (pv 8) pa_nil)))))))
    (pss_cons (ps_set (i := 9) sc_SS.nd rfl (.inl rfl) (pe_call GS hr (by rfl) T.g_sol kpS bS dS pass0 (pa_cons (pv 5) (pa_cons
        (pe_lc (own := [("thing", 3)]) (g := gName 3) (tt := tYes) rfl sc_SS.nd (pi_list (pv 4)) (blkOk_by (N := ns_SS) (sc := defScope s_SS) (by decide +kernel)) (fun _ _ _ _ _ => pg_name (i := 3) sc_SS.nd rfl (.inl rfl) (.inr rfl)) (fun _ _ _ _ _ => pts_nil)
          (fun _ _ _ _ _ => pe_ix (ixT K) (pFld K (pv 0) rfl) (pv 3) (fun _ _ => rfl))) pa_nil))))
    (pss_cons (ps_for PassesOwn.never rfl (pi_tup (pv 1)) (pg_name (i := 3) sc_SS.nd rfl (.inr rfl))
      (pss_cons (ps_set (i := 10) sc_SS.nd rfl (.inl rfl) (pe_make T.k_Ratio GI hr2 (by rfl) T.g_Ratio bI dI pass0 (pa_cons (pe_ix ix_tup (pe_fld (pv 0) rfl) (pv 3) (fun _ _ => rfl)) pa_nil)))
    (pss_cons (ps_for PassesOwn.never rfl (pi_zip (by rfl) T.m_zip (pa_cons (pv 4) (pa_cons (pv 9) pa_nil))) (pg_tup rfl (pgs_cons (pg_name (i := 7) sc_SS.nd rfl (.inl rfl)) (pgs_cons (pg_name (i := 11) sc_SS.nd rfl (.inl rfl)) pgs_nil)))
        (pss_one (ps_set (i := 10) sc_SS.nd rfl (.inl rfl) (pe_op (o_add T hr) (pv 10) (pe_op (o_mulI T hr) (pv 11) (pe_ix ix_tup (pe_ix ix_tup (pe_fld (pv 0) rfl) (pv 7) (fun _ _ => rfl)) (pv 3) (fun _ _ => rfl)))))))
    (pss_one (ps_asg (pe_meth (pv 10) T.c_Ratio T.t_RO GO hr bO dO pass0 (pa_cons (pe_op op_add (pe_fld (pv 0) rfl) (pe_callB (cr_sumT rfl) (by rfl) T.m_sum (by decide +kernel) (pa_cons (pe_fld (pv 0) rfl) pa_nil))) pa_nil)) (pg_sub (pv 2) (pv 3) set_list))))))
    (pss_one (ps_ret (pv 2))))))))), ?_⟩
  obtain ⟨p, dx, fa, ta, le, ss, rfl, f⟩ := id hS
  have cl := T.c_Stepping
  have n8 := z.n8
  have mL : ∀ {t : Nat}, t < ws.length → (t ∈ lotq ws.length q ↔ q t = true) := fun {t} ht => by rw [lotq_mem]; exact ⟨fun e => e.2, fun e => ⟨ht, e⟩⟩
  -- row = super().shares(lot)
  refine ⟨p, dx, _, rfl, f.ob, _, rfl, cS K, p, dx, _, la, ws.length, lotq ws.length q, rfl, f.ob, cl, T.n_Stepping_many, sF_many, hL, lotq_sorted, fun t ht => (lotq_mem.mp ht).1, by omega, fun H0 W s0 nW hW => ?_⟩
  have f0 := f.same s0
  have hL0 := s0 _ _ hL
  -- out
  refine ⟨_, rfl, p, _, dx, _, _, rfl, f0.ob, cl, T.n_Stepping_many, sF_many, _, rfl, by omega, by omega, fun D nD => lc_range (lo := 0) (n := ws.length) (fun j H' => Same H0 H' ∧ H' D = some (.lst (tv (outq j q)))) ⟨same_upd nD, upd_same⟩ ?_ ?_⟩
  · rintro j H1 hj ⟨s1, eD⟩
    rw [show (0 : Int) + (j : Int) = (j : Int) from Int.zero_add _]
    refine ⟨rfl, ?_⟩
    refine ⟨_, rfl, _, rfl, la, _, rfl, .inr (sq_t (s1 _ _ hL0)), rfl, tv_flat _, _, rfl, ?_⟩
    have eb : (!inV (.int (j : Int)) (tv (lotq ws.length q))) = !q j := by
      rw [inV_tv]
      cases e : q j with
      | true => rw [decide_eq_true ((mL hj).mpr e)]
      | false => rw [decide_eq_false fun h => by have := (mL hj).mp h; rw [e] at this; cases this]
    have es : outq (j + 1) q = if (!q j) = true then outq j q ++ [j] else outq j q := lotq_succ
    by_cases c : q j = true
    · refine iteFb (eb.trans (by rw [c]; rfl)) ⟨s1, ?_⟩
      rw [es, c]
      exact eD
    · have c' : q j = false := by simpa using c
      refine iteTb (eb.trans (by rw [c']; rfl)) ?_
      refine ⟨_, rfl, _, eD, ?_, fun b o e => ?_, ?_⟩
      · rw [tv_len]
        have : (outq j q).length ≤ j := lotq_len
        exact small1000 (by omega)
      · rw [upd_ne (ne_of_none e nD)]
        exact s1 _ _ e
      · rw [upd_same, es, c', if_pos (show (!false) = true from rfl), tv_app]
        rfl
  rintro H1 ⟨s1, eD⟩
  refine ⟨Nat.zero_le _, fun R nR => ?_⟩
  have sR : Same H1 (upd H1 R (.lst [])) := same_upd nR
  have dDR : D ≠ R := ne_of_none eD nR
  have nRH0 : H0 R = none := s1.free nR
  have lO : (outq ws.length q).length ≤ ws.length := lotq_len
  refine ⟨_, rfl, D, _, rfl, sq_l (sR _ _ eD), for_it (walk_enum (K := K) (a := D) (xs := tv (outq ws.length q)))
    (fun i σ H' => ∃ v3 v6 v8, σ = [some (.ref p), some (.ref la), some (.ref W), v3, some (.ref D), some (.ref R), v6, none, v8, none, none, none] ∧ Same H0 H' ∧ H' D = some (.lst (tv (outq ws.length q))) ∧
      TabAt H' R ((List.range i).map fun i => crow (allw ws a) 1 (fun j => nth ws ((outq ws.length q).getD j 0)) (fun _ => 1) (outq ws.length q).length i))
    ⟨none, none, none, rfl, s1.trans sR, sR _ _ eD, [], upd_same, .nil⟩ (fun i σ H' hi ⟨_, _, _, _, _, e, _⟩ => sq_l e) ?_ ?_⟩
  · rintro i x σ H2 H3 hi ⟨v3, v6, v8, rfl, s2, eD2, vR, eR, hR⟩ ⟨U, x1, x2, rfl, nU, rfl, e1, e2⟩
    obtain ⟨t, ht, rfl⟩ := tv_at e2
    cases (show V.int (i : Int) = x1 from Option.some.inj e1)
    obtain ⟨tn, tq⟩ := outq_mem.mp (List.mem_of_getElem? ht)
    rw [tv_len] at hi
    have sU : Same H2 (upd H2 U (.tup [.int (i : Int), .int (t : Int)])) := same_upd nU
    have f2 := (f0.same s2).same sU
    refine ⟨U, _, rfl, .inl (.inl upd_same), rfl, _, [_], rfl, _, [], rfl, rfl, ?_⟩
    refine ⟨_, rfl, D, rfl, ⟨_, sq_l (sU _ _ eD2)⟩, fun E nE => lc_list (K := K) (a := D) (xs := tv (outq ws.length q)) (fun j H' => Same (upd H2 U (.tup [.int (i : Int), .int (t : Int)])) H' ∧ H' E = some (.lst (iv (((outq ws.length q).take j).map fun o => -(if t = o then 0 else nth ws t)))))
      ⟨same_upd nE, upd_same⟩ (fun j H' hj ⟨s3, _⟩ => sq_l (s3 _ _ (sU _ _ eD2))) ?_ ?_⟩
    · rintro j x H4 hx ⟨s4, eE⟩
      obtain ⟨o, ho, rfl⟩ := tv_at hx
      obtain ⟨on, oq⟩ := outq_mem.mp (List.mem_of_getElem? ho)
      obtain ⟨vr, hvr, ar, rfl, har⟩ := f2.rows.get (srows_get on)
      refine ⟨rfl, _, rfl, p, _, dx, _, _, rfl, s4 _ _ f2.ob, cl, T.n_Stepping_steps, sF_steps, _, rfl, ta, _, _, _, rfl, rfl, sq_t (s4 _ _ f2.steps), atI_nat hvr, _, rfl, ar, _, _, _, rfl, rfl, sq_t (s4 _ _ har), atI_nat (iv_get (srow_get tn)), _, rfl, ?_⟩
      refine ⟨_, eE, ?_, fun b o e => ?_, ?_⟩
      · rw [iv_len, List.length_map, List.length_take]
        exact small1000 (by omega)
      · rw [upd_ne (ne_of_none e nE)]
        exact s4 _ _ e
      · rw [upd_same, List.take_add_one, ho, List.map_append, iv_app]
        rfl
    rintro H4 ⟨s4, eE⟩
    rw [tv_len, List.take_length] at eE
    have f4 := f2.same s4
    refine ⟨_, rfl, p, dx, _, rfl, f4.ob, sF_no (by decide +kernel), _, rfl, .ref p, t, ws, a, rfl, ⟨p, dx, fa, ta, le, ss, rfl, f4⟩, tn, ?_⟩
    refine ⟨_, rfl, _, rfl, E, _, _, i, rfl, rfl, eE, ixN_nat (by rw [iv_len, List.length_map]; exact hi), ?_⟩
    have lcr : (iv ((outq ws.length q).map fun o => -(if t = o then 0 else nth ws t))).set i (.int (allw ws a - nth ws t)) = iv (crow (allw ws a) 1 (fun j => nth ws ((outq ws.length q).getD j 0)) (fun _ => 1) (outq ws.length q).length i) := by
      refine line_crow (by rw [List.length_map]) (fun j y nj hy => ?_) ?_
      · rw [List.getElem?_map] at hy
        cases e : (outq ws.length q)[j]? with
        | none => rw [e] at hy; cases hy
        | some o =>
          rw [e] at hy
          have hy : y = -(if t = o then 0 else nth ws t) := (Option.some.inj hy).symm
          have ot : ¬ t = o := fun z => nj (nodup_at outq_nodup (by rw [z]; exact e) ht)
          rw [if_neg ot] at hy
          show y = -(nth ws ((outq ws.length q).getD i 0) * 1)
          rw [getD_of ht, Int.mul_one]
          exact hy
      · show _ = allw ws a - nth ws ((outq ws.length q).getD i 0) * 1
        rw [getD_of ht, Int.mul_one]
    rw [lcr]
    generalize hG5 : upd H4 E (.lst (iv (crow (allw ws a) 1 (fun j => nth ws ((outq ws.length q).getD j 0)) (fun _ => 1) (outq ws.length q).length i))) = G5
    have s5 : Same (upd H2 U (.tup [.int (i : Int), .int (t : Int)])) G5 := fun b o e => by
      rw [← hG5, upd_ne (ne_of_none e nE)]
      exact s4 _ _ e
    have eE5 : G5 E = some (.lst (iv (crow (allw ws a) 1 (fun j => nth ws ((outq ws.length q).getD j 0)) (fun _ => 1) (outq ws.length q).length i))) := by rw [← hG5, upd_same]
    have nER : E ≠ R := fun z => by rw [z, sU _ _ eR] at nE; cases nE
    have eR5 := s5 _ _ (sU _ _ eR)
    have lR : vR.length = i := by rw [hR.1, List.length_map, List.length_range]
    refine ⟨_, rfl, .inl ⟨rfl, _, .inl (.inl eR5)⟩, _, rfl, R, _, _, rfl, rfl, eR5, small1000 (by omega), ?_⟩
    refine ⟨_, _, _, rfl, fun b o e => ?_, ?_, ?_⟩
    · rw [upd_ne (ne_of_none e nRH0)]
      exact s5 _ _ (sU _ _ (s2 _ _ e))
    · rw [upd_ne dDR]
      exact s5 _ _ (sU _ _ eD2)
    · rw [List.range_succ, List.map_append]
      exact TabAt.snoc eR5 (hR.mono fun _ _ _ _ y => (y.same sU).same s5) eE5 nER
  rintro σ H2 ⟨v3, v6, v8, rfl, s2, eD2, hTab⟩
  rw [tv_len] at hTab
  have hv : ∀ j, j < (outq ws.length q).length → nth ws ((outq ws.length q).getD j 0) * (1 : Int) = nth ws ((outq ws.length q).getD j 0) := fun j _ => Int.mul_one _
  have w1 : ∀ t, t < ws.length → 1 ≤ nth ws t := fun t ht => nth_ge z.w1 ht
  have g := good_out (w := nth ws) (a := a) (n := ws.length) (q := q) (u := fun j => nth ws ((outq ws.length q).getD j 0)) (v := fun _ => 1) w1 z.a1 hv
  have so := ss_out (w := nth ws) (a := a) (n := ws.length) (q := q) (u := fun j => nth ws ((outq ws.length q).getD j 0)) (v := fun _ => 1) hv
  have zz := sized_out (b := 1) (w := nth ws) (a := a) (n := ws.length) (q := q) (u := fun j => nth ws ((outq ws.length q).getD j 0)) (v := fun _ => 1) w1 z.a1 hv (allw_bd z.sw z.sa n8) (Bd.one (by decide)) (fun j => (small_nth z.sw _).le (by omega)) (fun _ => Bd.one (by decide)) n8
  have lL : (lotq ws.length q).length ≤ ws.length := lotq_len
  have tp := tot_pos (L := lotq ws.length q) z.ok lot_in
  have tb := tot_bd (L := lotq ws.length q) z.sw z.sa (by omega)
  have Tb := allw_bd z.sw z.sa n8
  have Tp : 0 < allw ws a := tot_pos (L := List.range ws.length) z.ok fun t ht => List.mem_range.mp ht
  have f22 := f0.same s2
  -- looks = solve(rows, [..])
  refine ⟨_, rfl, _, rfl, D, rfl, ⟨_, sq_l eD2⟩, fun E nE => lc_list (K := K) (a := D) (xs := tv (outq ws.length q)) (fun j H' => Same H2 H' ∧ H' E = some (.lst (iv ((List.range j).map fun i => 1 * nth ws ((outq ws.length q).getD i 0))))) ⟨same_upd nE, upd_same⟩ (fun j H' hj ⟨s3, _⟩ => sq_l (s3 _ _ eD2)) ?_ ?_⟩
  · rintro j x H3 hx ⟨s3, eE⟩
    obtain ⟨o, ho, rfl⟩ := tv_at hx
    obtain ⟨on, oq⟩ := outq_mem.mp (List.mem_of_getElem? ho)
    have go : ws[o]? = some (nth ws o) := nth_get on
    refine ⟨rfl, _, rfl, p, _, dx, _, _, rfl, s3 _ _ f22.ob, cl, T.n_Stepping_first, sF_first, _, rfl, fa, _, _, _, rfl, rfl, sq_t (s3 _ _ f22.first), atI_nat (iv_get go), ?_⟩
    refine ⟨_, eE, ?_, fun b o e => ?_, ?_⟩
    · rw [iv_len, List.length_map, List.length_range]
      have : j < (tv (outq ws.length q)).length := (List.getElem?_eq_some_iff.mp hx).1
      rw [tv_len] at this
      exact small1000 (by omega)
    · rw [upd_ne (ne_of_none e nE)]
      exact s3 _ _ e
    · rw [upd_same, List.range_succ, List.map_append, iv_app]
      show _ = some (HO.lst (_ ++ [V.int (1 * nth ws ((outq ws.length q).getD j 0))]))
      rw [getD_of ho, Int.one_mul]
  rintro H3 ⟨s3, eE⟩
  rw [tv_len] at eE
  refine ⟨R, E, allw ws a, 1, fun j => nth ws ((outq ws.length q).getD j 0), fun _ => 1, (outq ws.length q).length, rfl, hTab.same s3, eE, g, zz, fun H4 F s4 nF hF => ?_⟩
  obtain ⟨ys, eF, hys⟩ := hF
  have s04 := (s2.trans s3).trans s4
  have sH4 := s0.trans s04
  have eD4 := s4 _ _ (s3 _ _ eD2)
  obtain ⟨vW0, eW0, hW0⟩ := id hW
  have nDW : D ≠ W := fun e => by rw [e, eW0] at nD; cases nD
  have nFW : F ≠ W := fun e => by rw [e, s3 _ _ (s2 _ _ eW0)] at nF; cases nF
  have lys : ys.length = (outq ws.length q).length := hys.1.trans sol_len
  refine ⟨_, rfl, la, rfl, ⟨_, sq_t (sH4 _ _ hL)⟩, for_it (walk_tup (K := K) (a := la) (xs := tv (lotq ws.length q)))
    (fun i σ H' => ∃ v3 v7 v10 v11, σ = [some (.ref p), some (.ref la), some (.ref W), v3, some (.ref D), some (.ref R), v6, v7, v8, some (.ref F), v10, v11] ∧ Same H H' ∧ H' D = some (.lst (tv (outq ws.length q))) ∧ H' F = some (.lst ys) ∧
      Each (fun v x => RatAt (cR K) H' v x.1 x.2) ys (sol (allw ws a) 1 (fun j => nth ws ((outq ws.length q).getD j 0)) (fun _ => 1) (outq ws.length q).length) ∧
      RatL (cR K) H' W (lotrow (nth ws) (tot (nth ws) a (lotq ws.length q)) ((lotq ws.length q).take i) ws.length))
    ⟨_, none, none, none, rfl, sH4, eD4, eF, hys, by rw [List.take_zero]; exact zeros_row (hW.same s04) tp⟩ (fun i σ H' hi ⟨_, _, _, _, _, s5, _⟩ => sq_t (s5 _ _ hL)) ?_ ?_⟩
  · rintro i x σ Hq H5 hi ⟨v3', v7', v10', v11', rfl, s5, eD5, eF5, hys5, vW, eW5, hW5⟩ ⟨rfl, hx⟩
    obtain ⟨t, ht, rfl⟩ := tv_at hx
    obtain ⟨tn, tq⟩ := lotq_mem.mp (List.mem_of_getElem? ht)
    have f5 := f.same s5
    have gw : ws[t]? = some (nth ws t) := nth_get tn
    have bw := small_nth z.sw t
    refine ⟨_, rfl, p, _, dx, _, _, rfl, f5.ob, cl, T.n_Stepping_first, sF_first, _, rfl, fa, _, _, _, rfl, rfl, sq_t f5.first, atI_nat (iv_get gw), ?_⟩
    intro y0 dy ny ndy ney
    refine ⟨y0, dy, _, _, rfl, upd_same, by decide, bw.le (by omega), Bd.one (by decide), fun H6 k6 e6 => ⟨rfl, ?_⟩⟩
    obtain ⟨s6, ry0⟩ := made_rat ny ndy (by decide) k6 e6
    have fin : ∀ {v : V} {G : Hp}, Same H5 G → RatAt (cR K) G v (nth ws t) (tot (nth ws) a (lotq ws.length q)) → Same H (upd G W (.lst (vW.set t v))) ∧ (upd G W (.lst (vW.set t v))) D = some (.lst (tv (outq ws.length q))) ∧ (upd G W (.lst (vW.set t v))) F = some (.lst ys) ∧
        Each (fun e x => RatAt (cR K) (upd G W (.lst (vW.set t v))) e x.1 x.2) ys (sol (allw ws a) 1 (fun j => nth ws ((outq ws.length q).getD j 0)) (fun _ => 1) (outq ws.length q).length) ∧
        RatL (cR K) (upd G W (.lst (vW.set t v))) W (lotrow (nth ws) (tot (nth ws) a (lotq ws.length q)) ((lotq ws.length q).take (i + 1)) ws.length) := fun {v G} sG rv => by
      have eT : (lotq ws.length q).take (i + 1) = (lotq ws.length q).take i ++ [t] := by rw [List.take_add_one, ht]; rfl
      refine ⟨fun b o e => ?_, ?_, ?_, ?_, ?_⟩
      · rw [upd_ne (ne_of_none e nW)]
        exact sG _ _ (s5 _ _ e)
      · rw [upd_ne nDW]
        exact sG _ _ eD5
      · rw [upd_ne nFW]
        exact sG _ _ eF5
      · exact hys5.mono fun _ _ _ _ y => (y.same sG).upd (sG _ _ eW5)
      · rw [eT, ← lotrow_set tn]
        exact RatL.set (sG _ _ eW5) (hW5.mono fun _ _ _ _ y => y.same sG) rv
    refine ⟨_, rfl, _, rfl, D, F, _, _, rfl, sq_l (s6 _ _ eD5), sq_l (s6 _ _ eF5), for_it (walk_zip (K := K) (a := D) (b := F) (xs := tv (outq ws.length q)) (ys := ys) (n := (outq ws.length q).length) (by rw [tv_len]; omega))
      (fun j σ H' => ∃ v7 v11 y, σ = [some (.ref p), some (.ref la), some (.ref W), some (.int (t : Int)), some (.ref D), some (.ref R), v6, v7, v8, some (.ref F), some y, v11] ∧ Same H6 H' ∧
        RatAt (cR K) H' y (nth ws t * (tot (nth ws) a (lotq ws.length q) + sm (nth ws) ((outq ws.length q).take j))) (tot (nth ws) a (lotq ws.length q)))
      ⟨_, _, _, rfl, .refl _, ry0.eq tp (by rw [List.take_zero, sm_nil, Int.add_zero, Int.mul_one])⟩ (fun j σ H' hj ⟨_, _, _, _, s7, _⟩ => ⟨sq_l (s7 _ _ (s6 _ _ eD5)), sq_l (s7 _ _ (s6 _ _ eF5))⟩) ?_ ?_⟩
    · rintro j x σ H7 Hr hj ⟨v7, v11, y, rfl, s7, ry⟩ ⟨U, x1, x2, rfl, nU, rfl, e1, e2⟩
      obtain ⟨o, ho, rfl⟩ := tv_at e1
      obtain ⟨on, oq⟩ := outq_mem.mp (List.mem_of_getElem? ho)
      have sU : Same H7 (upd H7 U (.tup [.int (o : Int), x2])) := same_upd nU
      have s57 := (s6.trans s7).trans sU
      have f7 := f5.same s57
      obtain ⟨vr, hvr, ar, rfl, har⟩ := f7.rows.get (srows_get on)
      have hto : ¬ t = o := fun e => by rw [e, oq] at tq; cases tq
      have go : (srow ws o)[t]? = some (nth ws t) := by rw [srow_get tn, if_neg hto]
      have r2 := ((hys5.2 j x2 _ e2 (sol_get hj)).same s57).eq (n' := nth ws o) tp (by
        show 1 * nth ws ((outq ws.length q).getD j 0) * tot (nth ws) a (lotq ws.length q) = nth ws o * (allw ws a - SS (fun j => nth ws ((outq ws.length q).getD j 0)) (fun _ => 1) (outq ws.length q).length)
        unfold allw
        rw [so, getD_of ho, Int.one_mul])
      have r1 := ry.same sU
      obtain ⟨⟨b2, d2, rfl, q2⟩, p2⟩ := id r2
      obtain ⟨⟨b1, d1, rfl, q1⟩, p1⟩ := id r1
      have bo := small_nth z.sw o
      have bs := sm_bd (fun t => small_nth z.sw t) ((outq ws.length q).take j) 5 (by rw [List.length_take]; show _ ≤ 32; omega)
      have bl := bw.mul (Bd.add tb (bs.le (by omega : 62 + 5 ≤ 68)))
      refine ⟨U, _, rfl, .inl (.inl upd_same), rfl, _, [_], rfl, _, [], rfl, rfl, ?_⟩
      refine ⟨_, rfl, _, rfl, _, rfl, p, _, dx, _, _, rfl, f7.ob, cl, T.n_Stepping_steps, sF_steps, _, rfl, ta, _, _, _, rfl, rfl, sq_t f7.steps, atI_nat hvr, _, rfl, ar, _, _, _, rfl, rfl, sq_t har, atI_nat (iv_get go), b2, d2, _, _, rfl, rfl, q2, _, _, _, _, rfl, r2, bo.le (by omega), tb.le (by omega), bw.le (by omega), fun v H8 s8 r8 => ?_⟩
      obtain ⟨⟨b8, d8, rfl, q8⟩, p8⟩ := id r8
      refine ⟨b1, d1, _, b8, d8, _, rfl, rfl, s8 _ _ q1, q8, .inl ⟨_, _, _, _, _, _, rfl, r1.same s8, r8, bl.le (by omega), tb.le (by omega), (bo.mul bw).le (by omega), tb.le (by omega), fun v9 H9 s9 r9 => ?_⟩⟩
      refine ⟨_, _, v9, rfl, (s7.trans sU).trans (s8.trans s9), r9.eq tp ?_⟩
      have eS : sm (nth ws) ((outq ws.length q).take (j + 1)) = sm (nth ws) ((outq ws.length q).take j) + nth ws o := by rw [sm_take _ _ _ hj, getD_of ho]
      rw [eS]
      generalize sm (nth ws) ((outq ws.length q).take j) = c1
      generalize tot (nth ws) a (lotq ws.length q) = c2
      generalize nth ws t = c3
      generalize nth ws o = c4
      show (c3 * (c2 + c1) * c2 + c4 * c3 * c2) * c2 = c3 * (c2 + (c1 + c4)) * (c2 * c2)
      grind
    · rintro σ H7 ⟨v7, v11, y, rfl, s7, ry⟩
      rw [List.take_length] at ry
      have s57 := s6.trans s7
      have f7 := f5.same s57
      obtain ⟨⟨b1, d1, rfl, q1⟩, p1⟩ := id ry
      have ea : a + ws.sum = allw ws a := by rw [iv_sum]; rfl
      have eA : tot (nth ws) a (lotq ws.length q) + sm (nth ws) (outq ws.length q) = allw ws a := by
        have := out_sum (nth ws) ws.length q
        unfold allw tot
        omega
      rw [eA] at ry
      have bl := bw.mul Tb
      refine ⟨_, rfl, b1, d1, _, rfl, q1, rF_no _ _ (by decide +kernel) (by decide +kernel), _, rfl, p, _, dx, _, _, rfl, f7.ob, cl, T.n_Stepping_aside, sF_aside, _, rfl, p, _, dx, _, _, rfl, f7.ob, cl, T.n_Stepping_first, sF_first, fa, ws, rfl, sq_t f7.first, _, _, rfl, rfl, ?_⟩
      show sp_over (cR K) [.ref b1, .int (a + ws.sum)] H7 _ E0
      rw [ea]
      refine ⟨_, _, _, _, rfl, ry, bl.le (by omega), tb.le (by omega), Tp, Tb.le (by omega), fun v H8 s8 r8 => ?_⟩
      have lW : vW.length = ws.length := hW5.1.trans lotrow_len
      refine ⟨_, rfl, _, rfl, W, vW, _, t, rfl, rfl, s8 _ _ (s57 _ _ eW5), ixN_nat (by omega), ?_⟩
      obtain ⟨c1, c2, c3, c4, c5⟩ := fin (s57.trans s8) (r8.eq tp (by
        generalize tot (nth ws) a (lotq ws.length q) = c2
        generalize allw ws a = c1
        grind))
      exact ⟨_, _, _, _, rfl, c1, c2, c3, c4, c5⟩
  · rintro σ H5 ⟨v3', v7', v10', v11', rfl, s5, eD5, eF5, hys5, hW5⟩
    rw [tv_len, List.take_length] at hW5
    exact ⟨_, rfl, Q0 _ _ s5 hW5⟩
end
end K45W
end JK45Shares
section JK45Best
set_option Elab.async false
set_option linter.all false
set_option maxRecDepth 100000
set_option maxHeartbeats 4000000
namespace K45W
open PySem PySem.Spec PyProof.Rows L2 K45R K45T K45
theorem val_bd {ws ps : List Int} {a : Int} (z : Nums ws ps a) (q : Nat → Bool) (t : Nat) : Bd 131 (val (nth ws) (nth ps) a q ws.length t) := by
  have n8 := z.n8
  have lL : (lotq ws.length q).length ≤ ws.length := lotq_len
  unfold val
  by_cases c : q t = true
  · rw [if_pos c]
    exact ((small_nth z.sp t).mul (tot_bd z.sw z.sa (by omega))).le (by omega)
  · rw [if_neg c]
    exact (bro_bd z.sw z.sp (by omega)).le (by omega)
def onw (ws ps : List Int) (a : Int) (q : Nat → Bool) (t : Nat) (j : Nat) : Int := if j = t then 0 else nth ws j * val (nth ws) (nth ps) a q ws.length j
def sp_SO (K : PySem.W.Frag) : Sp := fun vs H Q _ => ∃ (v : V) (t : Nat) (va : Addr) (ws ps : List Int) (a : Int) (q : Nat → Bool), vs = [v, .int (t : Int), .ref va] ∧ SAt K H v ws a ∧ RatL (cR K) H va (valrow ws ps a q) ∧ t < ws.length ∧ Nums ws ps a ∧
  ∀ H' x, Same H H' → RatAt (cR K) H' x (sm (onw ws ps a q t) (List.range ws.length)) (tot (nth ws) a (lotq ws.length q) * (allw ws a - nth ws t)) → Q x H'
theorem step_pos {ws ps : List Int} {a : Int} (z : Nums ws ps a) {t : Nat} (h : t < ws.length) : 0 < allw ws a - nth ws t := by
  rw [← step_sum h, srow_sum h, ← sm_less (nth ws) h]
  have := sm_nonneg (f := fun j => if j = t then 0 else nth ws j) (L := List.range ws.length) fun j hj => by
    show 0 ≤ if j = t then 0 else nth ws j
    by_cases c : j = t
    · rw [if_pos c]; omega
    · rw [if_neg c]
      have := nth_ge z.w1 (List.mem_range.mp hj)
      omega
  have := z.a1
  omega
section
variable {P : Program} {w : World} {K : PySem.W.Frag} {mg : Str → Option Value} {base : Heap} {k : Nat}
theorem ok_SO (T : Fx K mg) : OkD P w K mg base 4 (f_SO K) ["self", "thing", "values"] [] (sp_SO K) := by
  obtain ⟨⟨fdI, dsI, GI, bI, dI⟩, kpI⟩ := ok_RI (P := P) (w := w) (base := base) T [.int 1] (.inr rfl)
  obtain ⟨⟨fdO, dsO, GO, bO, dO⟩, kpO⟩ := ok_RO (P := P) (w := w) (base := base) T
  obtain ⟨⟨fdT, dsT, GT, bT, dT⟩, kpT⟩ := (ok_ST (P := P) (w := w) (base := base) T).mono (k := 3) (by decide)
  refine okF T.d_SO sc_SO (fun _ _ _ _ _ _ us hl => match us, hl with | [_, _, _], _ => rfl) (fun vs H Q E h => ?_) (fun cdv A outer s H vs Q E hr h => ?_)
  · obtain ⟨v, t, va, ws, ps, a, q, rfl, _⟩ := h
    rfl
  obtain ⟨v, t, va, ws, ps, a, q, rfl, hS, hV, tn, z, Q0⟩ := h
  have hr2 : Room 2 _ := hr.mono (by decide)
  refine ⟨_, (pss_cons (ps_set (i := 3) sc_SO.nd rfl (.inl rfl) (pe_make T.k_Ratio GI hr2 (by rfl) T.g_Ratio bI dI pass0 (pa_cons pe_int pa_nil)))
    (pss_cons (ps_for PassesOwn.never rfl (pi_pair (by rfl) T.m_zip (pa_cons (pe_ix ix_tup (pe_fld (pv 0) rfl) (pv 1) (fun _ _ => rfl)) (pa_cons (pv 2) pa_nil))) (pg_tup rfl (pgs_cons (pg_name (i := 4) sc_SO.nd rfl (.inl rfl)) (pgs_cons (pg_name (i := 5) sc_SO.nd rfl (.inl rfl)) pgs_nil)))
      (pss_one (ps_set (i := 3) sc_SO.nd rfl (.inl rfl) (pe_op (o_add T hr) (pv 3) (pe_op (o_mulI T hr) (pv 5) (pv 4))))))
    (pss_one (ps_ret (pe_meth (pv 3) T.c_Ratio T.t_RO GO hr bO dO pass0 (pa_cons (pe_meth (pv 0) T.c_Stepping T.t_ST GT hr bT dT pass0 (pa_cons (pv 1) pa_nil)) pa_nil)))))), ?_⟩
  obtain ⟨p, dx, fa, ta, le, ss, rfl, f⟩ := id hS
  have cl := T.c_Stepping
  have n8 := z.n8
  have lL : (lotq ws.length q).length ≤ ws.length := lotq_len
  have tp := tot_pos (L := lotq ws.length q) z.ok lot_in
  have tb := tot_bd (L := lotq ws.length q) z.sw z.sa (by omega)
  have bw := fun j => small_nth z.sw j
  have bon : ∀ j, Bd 193 (onw ws ps a q t j) := fun j => by
    unfold onw
    by_cases c : j = t
    · rw [if_pos c]; exact Bd.zero _
    · rw [if_neg c]
      exact ((bw j).mul (val_bd z q j)).le (by omega)
  obtain ⟨vv, eV, hVe⟩ := id hV
  have lV : vv.length = ws.length := hVe.1.trans valrow_len
  obtain ⟨vr, hvr, ar, rfl, har⟩ := f.rows.get (srows_get tn)
  intro y0 dy ny ndy ney
  refine ⟨y0, dy, _, _, rfl, upd_same, by decide, Bd.zero _, Bd.one (by decide), fun H1 k1 e1 => ⟨rfl, ?_⟩⟩
  obtain ⟨s1, ry0⟩ := made_rat ny ndy (by decide) k1 e1
  refine ⟨_, rfl, p, _, dx, _, _, rfl, s1 _ _ f.ob, cl, T.n_Stepping_steps, sF_steps, _, rfl, ta, _, _, _, rfl, rfl, sq_t (s1 _ _ f.steps), atI_nat hvr, _, rfl, ar, va, _, _, rfl, sq_t (s1 _ _ har), sq_l (s1 _ _ eV), ?_⟩
  have lm : min (iv (srow ws t)).length vv.length = ws.length := by rw [iv_len, srow_len, lV]; omega
  refine for_it (walk_pair (K := K) (a := ar) (b := va) (xs := iv (srow ws t)) (ys := vv))
    (fun i σ H' => ∃ x v4 v5, σ = [some (.ref p), some (.int (t : Int)), some (.ref va), some x, v4, v5] ∧ Same H H' ∧ RatAt (cR K) H' x (sm (onw ws ps a q t) (List.range i)) (tot (nth ws) a (lotq ws.length q)))
    ⟨.ref y0, none, none, rfl, s1, ry0.eq tp (by show 0 * _ = 0 * 1; omega)⟩ (fun i σ H' hi ⟨_, _, _, _, s, _⟩ => ⟨sq_t (s _ _ har), sq_l (s _ _ eV)⟩) ?_ ?_
  · rintro i x σ H2 H3 hi ⟨y, v4, v5, rfl, s2, ry⟩ ⟨U, x1, x2, rfl, nU, rfl, g1, g2⟩
    rw [lm] at hi
    obtain ⟨wi, hwi, rfl⟩ := iv_at g1
    rw [srow_get hi] at hwi
    cases hwi
    have sU : Same H2 (upd H2 U (.tup [.int (if i = t then 0 else nth ws i), x2])) := same_upd nU
    have r2 := (hVe.2 i x2 _ g2 (valrow_get hi)).same (s2.trans sU)
    have r1 := ry.same sU
    obtain ⟨⟨b2, d2, rfl, q2⟩, p2⟩ := id r2
    obtain ⟨⟨b1, d1, rfl, q1⟩, p1⟩ := id r1
    have bwi : Bd 62 (if i = t then 0 else nth ws i) := by
      by_cases c : i = t
      · rw [if_pos c]; exact Bd.zero _
      · rw [if_neg c]; exact bw i
    have bs := sm_bd bon (List.range i) 5 (by rw [List.length_range]; show _ ≤ 32; omega)
    refine ⟨U, _, rfl, .inl (.inl upd_same), rfl, _, [_], rfl, _, [], rfl, rfl, ?_⟩
    refine ⟨_, rfl, _, rfl, _, rfl, b2, d2, _, _, rfl, rfl, q2, _, _, _, _, rfl, r2, (val_bd z q i).le (by omega), tb.le (by omega), bwi.le (by omega), fun v H8 s8 r8 => ?_⟩
    obtain ⟨⟨b8, d8, rfl, q8⟩, p8⟩ := id r8
    refine ⟨b1, d1, _, b8, d8, _, rfl, rfl, s8 _ _ q1, q8, .inl ⟨_, _, _, _, _, _, rfl, r1.same s8, r8, bs.le (by omega), tb.le (by omega), ((val_bd z q i).mul bwi).le (by omega), tb.le (by omega), fun v9 H9 s9 r9 => ?_⟩⟩
    refine ⟨v9, _, _, rfl, (s2.trans sU).trans (s8.trans s9), r9.eq tp ?_⟩
    rw [sm_range]
    have eo : onw ws ps a q t i = val (nth ws) (nth ps) a q ws.length i * (if i = t then 0 else nth ws i) := by
      unfold onw
      by_cases c : i = t
      · rw [if_pos c, if_pos c, Int.mul_zero]
      · rw [if_neg c, if_neg c, Int.mul_comm]
    rw [eo]
    generalize sm (onw ws ps a q t) (List.range i) = c1
    generalize tot (nth ws) a (lotq ws.length q) = c2
    generalize val (nth ws) (nth ps) a q ws.length i = c3
    generalize (if i = t then 0 else nth ws i) = c4
    show (c1 * c2 + c3 * c4 * c2) * c2 = (c1 + c3 * c4) * (c2 * c2)
    grind
  · rintro σ H2 ⟨y, v4, v5, rfl, s2, ry⟩
    rw [lm] at ry
    have f2 := f.same s2
    obtain ⟨⟨b1, d1, rfl, q1⟩, p1⟩ := id ry
    have sp := step_pos z tn
    have sb : Bd 71 (allw ws a - nth ws t) := Bd.sub (allw_bd z.sw z.sa n8) ((bw t).le (by omega))
    have bs := sm_bd bon (List.range ws.length) 5 (by rw [List.length_range]; show _ ≤ 32; omega)
    refine ⟨_, rfl, b1, d1, _, rfl, q1, rF_no _ _ (by decide +kernel) (by decide +kernel), _, rfl, p, dx, _, rfl, f2.ob, sF_no (by decide +kernel), _, rfl, .ref p, t, ws, a, rfl, ⟨p, dx, fa, ta, le, ss, rfl, f2⟩, tn, ?_⟩
    exact ⟨_, _, _, _, rfl, ry, bs.le (by omega), tb.le (by omega), sp, sb.le (by omega), fun v H' s3 r3 => Q0 _ _ (s2.trans s3) r3⟩
end
end K45W
end JK45Best
section JK45Settle
set_option Elab.async false
set_option linter.all false
set_option maxRecDepth 100000
set_option maxHeartbeats 4000000
namespace K45W
open PySem PySem.Spec PyProof.Rows L2 K45R K45T K45
def sp_SE (K : PySem.W.Frag) : Sp := fun vs H Q _ => ∃ (v : V) (pa : Addr) (ws ps : List Int) (a : Int), vs = [v, .ref pa] ∧ SAt K H v ws a ∧ H pa = some (.lst (iv ps)) ∧ Nums ws ps a ∧
  ∀ H' t lt vt q, Same H H' → H' t = some (.tup [.ref lt, .ref vt]) → H' lt = some (.tup (tv (lotq ws.length q))) → RatL (cR K) H' vt (valrow ws ps a q) → Fix (nth ws) (nth ps) a ws.length (lotq ws.length q) → Q (.ref t) H'
/-- self.onward(thing, values) < prices[thing], as a test of the comprehension -/
def tKeep (K : PySem.W.Frag) : TT := tTest (tOp (rOwnI (cR K) (sp_cmp (cR K) fun n d i => decide (n < i * d)) E0) (tMeth (cS K) "onward" (sp_SO K) [] E0 (tVar 0) (tCons (tVar 5) (tCons (tVar 3) tNil))) (tOp (rIxL K) (tVar 1) (tVar 5)))
section
variable {P : Program} {w : World} {K : PySem.W.Frag} {mg : Str → Option Value} {base : Heap} {k : Nat}
/-- [thing for thing in lot if ..] -/
theorem keep_lc {H : Hp} {p pa la va : Addr} {ws ps : List Int} {a : Int} {q : Nat → Bool} {v4 v5 : Option V} {Qk : V → Hp → Prop} (hS : SAt K H (.ref p) ws a) (hL : H la = some (.tup (tv (lotq ws.length q)))) (hP : H pa = some (.lst (iv ps))) (hV : RatL (cR K) H va (valrow ws ps a q)) (z : Nums ws ps a)
    (h : ∀ D H', Same H H' → H' D = some (.lst (tv ((lotq ws.length q).filter (keepq (nth ws) (nth ps) a (lotq ws.length q))))) → Qk (.ref D) H') :
    tLc (iTup K (tVar 2)) (gName 5) (tKeep K) (tVar 5) [5] [some (.ref p), some (.ref pa), some (.ref la), some (.ref va), v4, v5] H Qk := by
  have el := z.el
  have n8 := z.n8
  have lL : (lotq ws.length q).length ≤ ws.length := lotq_len
  have tp := tot_pos (L := lotq ws.length q) z.ok lot_in
  have tb := tot_bd (L := lotq ws.length q) z.sw z.sa (by omega)
  refine ⟨_, rfl, la, rfl, ⟨_, sq_t hL⟩, fun D nD => lc_tup (K := K) (a := la) (xs := tv (lotq ws.length q)) (fun j H' => Same H H' ∧ H' D = some (.lst (tv (((lotq ws.length q).take j).filter (keepq (nth ws) (nth ps) a (lotq ws.length q)))))) ⟨same_upd nD, upd_same⟩ (fun j H' hj ⟨s, _⟩ => sq_t (s _ _ hL)) ?_ ?_⟩
  · rintro j x H1 hx ⟨s1, eD⟩
    obtain ⟨t, ht, rfl⟩ := tv_at hx
    obtain ⟨tn, tq⟩ := lotq_mem.mp (List.mem_of_getElem? ht)
    obtain ⟨p', dx, fa, ta, le, ss, ep, f⟩ := (hS.same s1)
    cases ep
    have gp : ps[t]? = some (nth ps t) := nth_get (by omega)
    refine ⟨rfl, ?_⟩
    refine ⟨_, rfl, p, dx, _, rfl, f.ob, sF_no (by decide +kernel), _, rfl, _, rfl, .ref p, t, va, ws, ps, a, q, rfl, hS.same s1, hV.same s1, tn, z, fun H2 x s2 rx => ?_⟩
    obtain ⟨⟨b, d, rfl, eb⟩, pb⟩ := id rx
    have s12 := s1.trans s2
    have sp := step_pos z tn
    have bw := small_nth z.sw t
    have sb : Bd 71 (allw ws a - nth ws t) := Bd.sub (allw_bd z.sw z.sa n8) (bw.le (by omega))
    have bon : ∀ j, Bd 193 (onw ws ps a q t j) := fun j => by
      unfold onw
      by_cases c : j = t
      · rw [if_pos c]; exact Bd.zero _
      · rw [if_neg c]
        exact ((small_nth z.sw j).mul (val_bd z q j)).le (by omega)
    have bs := sm_bd bon (List.range ws.length) 5 (by rw [List.length_range]; show _ ≤ 32; omega)
    refine ⟨_, rfl, _, rfl, pa, _, _, _, rfl, rfl, sq_l (s12 _ _ hP), atI_nat (iv_get gp), b, d, _, _, rfl, rfl, eb, _, _, _, _, rfl, rx, bs.le (by omega), (tb.mul sb).le (by omega), (small_nth z.sp t).le (by omega), _, rfl, ?_⟩
    have iff := onward_iff (w := nth ws) (p := nth ps) (a := a) z.ok tn tq
    have ek : decide (sm (onw ws ps a q t) (List.range ws.length) < nth ps t * (tot (nth ws) a (lotq ws.length q) * (allw ws a - nth ws t))) = keepq (nth ws) (nth ps) a (lotq ws.length q) t := decide_eq_decide.mpr iff
    have eT : (lotq ws.length q).take (j + 1) = (lotq ws.length q).take j ++ [t] := by rw [List.take_add_one, ht]; rfl
    by_cases c : keepq (nth ws) (nth ps) a (lotq ws.length q) t = true
    · refine iteTb (ek.trans c) ?_
      refine ⟨_, rfl, _, s2 _ _ eD, ?_, fun b o e => ?_, ?_⟩
      · rw [tv_len]
        have := List.length_filter_le (keepq (nth ws) (nth ps) a (lotq ws.length q)) ((lotq ws.length q).take j)
        rw [List.length_take] at this
        exact small1000 (by omega)
      · rw [upd_ne (ne_of_none e nD)]
        exact s12 _ _ e
      · rw [upd_same, eT, List.filter_append, tv_app, List.filter_cons_of_pos c]
        rfl
    · have c' : keepq (nth ws) (nth ps) a (lotq ws.length q) t = false := by simpa using c
      refine iteFb (ek.trans c') ⟨s12, ?_⟩
      rw [eT, List.filter_append, List.filter_cons_of_neg c, List.filter_nil, List.append_nil]
      exact s2 _ _ eD
  · rintro H1 ⟨s1, eD⟩
    rw [tv_len, List.take_length] at eD
    exact h D H1 s1 eD
theorem o_ltK {X : Cx} (K : PySem.W.Frag) (T : Fx X.K X.mg) (hr : Room 3 X.A) (h : X.K = K := by rfl) : OpR X (compareOp .Lt) (rOwnI (cR K) (sp_cmp (cR K) fun n d i => decide (n < i * d)) E0) := by subst h; exact o_lt T hr
theorem ok_SE (T : Fx K mg) : OkD P w K mg base 5 (f_SE K) ["self", "prices"] [] (sp_SE K) := by
  obtain ⟨⟨fdV, dsV, GV, bV, dV⟩, kpV⟩ := ok_SV (P := P) (w := w) (base := base) T
  obtain ⟨⟨fdO, dsO, GO, bO, dO⟩, kpO⟩ := ok_SO (P := P) (w := w) (base := base) T
  refine okF T.d_SE sc_SE (fun _ _ _ _ _ _ us hl => match us, hl with | [_, _], _ => rfl) (fun vs H Q E h => ?_) (fun cdv A outer s H vs Q E hr h => ?_)
  · obtain ⟨v, pa, ws, ps, a, rfl, _⟩ := h
    rfl
  obtain ⟨v, pa, ws, ps, a, rfl, hS, hP, z, Q0⟩ := h
  have hr3 : Room 3 _ := hr.mono (by decide)
  refine ⟨_, (pss_cons (ps_set (i := 2) sc_SE.nd rfl (.inl rfl) (pe_tupRg rfl (by rfl) T.m_tuple (prg_1 (by rfl) T.m_range (pe_fld (pv 0) rfl))))
    (pss_cons (ps_set (i := 3) sc_SE.nd rfl (.inr rfl) (pe_meth (pv 0) T.c_Stepping T.t_SV GV hr bV dV pass0 (pa_cons (pv 2) (pa_cons (pv 1) pa_nil))))
    (pss_cons (ps_setLc (i := 4) (own := [("thing", 5)]) (wi := iTup K (tVar 2)) (g := gName 5) (tt := tKeep K) rfl sc_SE.nd rfl rfl (sw_true rfl rfl rfl (by decide +kernel)) (pi_tup (pv 2)) (blkOk_by (N := ns_SE) (sc := defScope s_SE) (by decide +kernel))
        (fun _ _ _ _ _ => pg_name (i := 5) sc_SE.nd rfl (.inl rfl) (.inr rfl)) (fun _ _ _ _ _ => pts_one (pt_cmpR (o_ltK K T hr3) (pe_meth (pv 0) T.c_Stepping T.t_SO GO hr bO dO pass0 (pa_cons (pv 5) (pa_cons (pv 3) pa_nil))) (pe_ix (ixL K) (pv 1) (pv 5) (fun _ _ => rfl)) (nomark _))) (fun _ _ _ _ _ => pv 5))
    (pss_cons (ps_while PassesOwn.never (pt_cmpR op_lt (pe_callB call_len_seq (by rfl) T.m_len PySem.boot_len (pa_cons (pv 4) pa_nil)) (pe_callB call_len_seq (by rfl) T.m_len PySem.boot_len (pa_cons (pv 2) pa_nil)) (nomark _))
      (pss_cons (ps_set (i := 2) sc_SE.nd rfl (.inl rfl) (pe_callTy call_tuple_of (by rfl) T.m_tuple (by decide +kernel) (pa_cons (pv 4) pa_nil)))
    (pss_cons (ps_set (i := 3) sc_SE.nd rfl (.inr rfl) (pe_meth (pv 0) T.c_Stepping T.t_SV GV hr bV dV pass0 (pa_cons (pv 2) (pa_cons (pv 1) pa_nil))))
    (pss_one (ps_setLc (i := 4) (own := [("thing", 5)]) (wi := iTup K (tVar 2)) (g := gName 5) (tt := tKeep K) rfl sc_SE.nd rfl rfl (sw_true rfl rfl rfl (by decide +kernel)) (pi_tup (pv 2)) (blkOk_by (N := ns_SE) (sc := defScope s_SE) (by decide +kernel))
        (fun _ _ _ _ _ => pg_name (i := 5) sc_SE.nd rfl (.inl rfl) (.inr rfl)) (fun _ _ _ _ _ => pts_one (pt_cmpR (o_ltK K T hr3) (pe_meth (pv 0) T.c_Stepping T.t_SO GO hr bO dO pass0 (pa_cons (pv 5) (pa_cons (pv 3) pa_nil))) (pe_ix (ixL K) (pv 1) (pv 5) (fun _ _ => rfl)) (nomark _))) (fun _ _ _ _ _ => pv 5))))))
    (pss_one (ps_ret (pe_tup (pa_cons (pv 2) (pa_cons (pv 3) pa_nil))))))))), ?_⟩
  obtain ⟨p, dx, fa, ta, le, ss, rfl, f⟩ := id hS
  have cl := T.c_Stepping
  have n8 := z.n8
  have lq1 : lotq ws.length (fun _ => true) = List.range ws.length := by unfold lotq; exact List.filter_eq_self.mpr fun _ _ => rfl
  refine ⟨_, rfl, p, _, dx, _, _, rfl, f.ob, cl, T.n_Stepping_many, sF_many, ws.length, rfl, .of_le (by omega) (by omega) (by omega) (by omega), fun L0 nL0 => ?_⟩
  have e0 : rgV 0 (ws.length : Int) = tv (lotq ws.length fun _ => true) := by
    rw [lq1]
    unfold rgV tv
    rw [show ((ws.length : Int) - 0).toNat = ws.length by omega]
    exact List.map_congr_left fun x _ => by rw [Int.zero_add]
  rw [e0]
  have s0 : Same H (upd H L0 (.tup (tv (lotq ws.length fun _ => true)))) := same_upd nL0
  refine ⟨_, rfl, p, dx, _, rfl, s0 _ _ f.ob, sF_no (by decide +kernel), _, rfl, _, rfl, .ref p, L0, pa, ws, ps, a, _, rfl, hS.same s0, upd_same, s0 _ _ hP, z, fun H1 V1 s1 hV1 => ?_⟩
  have s01 := s0.trans s1
  change tLc (iTup K (tVar 2)) (gName 5) (tKeep K) (tVar 5) [5] [some (.ref p), some (.ref pa), some (.ref L0), some (.ref V1), none, none] H1 (fun x H' => gName 4 x [some (.ref p), some (.ref pa), some (.ref L0), some (.ref V1), none, none] H' _)
  refine keep_lc (K := K) (hS.same s01) (s1 _ _ upd_same) (s01 _ _ hP) hV1 z fun D1 H2 s2 eD => ?_
  have s02 := s01.trans s2
  refine ⟨fun m σ H' => ∃ (q : Nat → Bool) (la va kd : Addr) (v5 : Option V), m = (lotq ws.length q).length ∧ σ = [some (.ref p), some (.ref pa), some (.ref la), some (.ref va), some (.ref kd), v5] ∧ Same H H' ∧ H' la = some (.tup (tv (lotq ws.length q))) ∧ RatL (cR K) H' va (valrow ws ps a q) ∧
      H' kd = some (.lst (tv ((lotq ws.length q).filter (keepq (nth ws) (nth ps) a (lotq ws.length q))))) ∧ OutOk (nth ws) (nth ps) a ws.length q,
    ⟨_, fun _ => true, L0, V1, D1, _, rfl, rfl, s02, s2 _ _ (s1 _ _ upd_same), hV1.same s2, eD, outOk_all⟩, ?_⟩
  rintro m σ H3 ⟨q, la, va, kd, v5, rfl, rfl, s3, eL, hV, eK, oo⟩
  refine ⟨_, rfl, kd, _, rfl, .inl (sq_l eK), _, rfl, la, _, rfl, .inr (sq_t eL), _, _, rfl, rfl, _, rfl, ?_⟩
  have lf := List.length_filter_le (keepq (nth ws) (nth ps) a (lotq ws.length q)) (lotq ws.length q)
  have eq' : (lotq ws.length q).filter (keepq (nth ws) (nth ps) a (lotq ws.length q)) = lotq ws.length fun t => q t && keepq (nth ws) (nth ps) a (lotq ws.length q) t := lotq_filter _ _ _
  by_cases c : ((lotq ws.length q).filter (keepq (nth ws) (nth ps) a (lotq ws.length q))).length < (lotq ws.length q).length
  · refine iteTb (decide_eq_true (by rw [tv_len, tv_len]; omega)) ?_
    refine ⟨fun σ' H' => ∃ (la va kd : Addr) (v5 : Option V), σ' = [some (.ref p), some (.ref pa), some (.ref la), some (.ref va), some (.ref kd), v5] ∧ Same H H' ∧ H' la = some (.tup (tv (lotq ws.length fun t => q t && keepq (nth ws) (nth ps) a (lotq ws.length q) t))) ∧ RatL (cR K) H' va (valrow ws ps a fun t => q t && keepq (nth ws) (nth ps) a (lotq ws.length q) t) ∧
        H' kd = some (.lst (tv ((lotq ws.length fun t => q t && keepq (nth ws) (nth ps) a (lotq ws.length q) t).filter (keepq (nth ws) (nth ps) a (lotq ws.length fun t => q t && keepq (nth ws) (nth ps) a (lotq ws.length q) t))))),
      fun σ' H' hN => ?_, ?_⟩
    · obtain ⟨la', va', kd', v5', e1, e2, e3, e4, e5⟩ := hN
      exact ⟨_, by rw [← eq']; exact c, _, la', va', kd', v5', rfl, e1, e2, e3, e4, e5, outOk_step z.ok oo⟩
    · refine ⟨_, rfl, kd, _, rfl, .inl ⟨sq_l eK, fun L2 nL2 => ?_⟩⟩
      rw [eq']
      have s4 : Same H3 (upd H3 L2 (.tup (tv (lotq ws.length fun t => q t && keepq (nth ws) (nth ps) a (lotq ws.length q) t)))) := same_upd nL2
      have s34 := s3.trans s4
      refine ⟨_, rfl, p, dx, _, rfl, s34 _ _ f.ob, sF_no (by decide +kernel), _, rfl, _, rfl, .ref p, L2, pa, ws, ps, a, _, rfl, hS.same s34, upd_same, s34 _ _ hP, z, fun H5 V5 s5 hV5 => ?_⟩
      have s35 := s34.trans s5
      change tLc (iTup K (tVar 2)) (gName 5) (tKeep K) (tVar 5) [5] [some (.ref p), some (.ref pa), some (.ref L2), some (.ref V5), some (.ref kd), v5] H5 (fun x H' => gName 4 x [some (.ref p), some (.ref pa), some (.ref L2), some (.ref V5), some (.ref kd), v5] H' _)
      refine keep_lc (K := K) (hS.same s35) (s5 _ _ upd_same) (s35 _ _ hP) hV5 z fun D6 H6 s6 eD6 => ?_
      exact ⟨L2, V5, D6, _, rfl, s35.trans s6, s6 _ _ (s5 _ _ upd_same), hV5.same s6, eD6⟩
  · refine iteFb (decide_eq_false (by rw [tv_len, tv_len]; omega)) ?_
    refine ⟨_, rfl, _, rfl, (by show 2 ≤ sizeLine; decide), fun R nR => ?_⟩
    have sR : Same H3 (upd H3 R (.tup [.ref la, .ref va])) := same_upd nR
    exact Q0 _ R la va q (s3.trans sR) upd_same (sR _ _ eL) (hV.same sR) (fix_of oo (by omega))
end
end K45W
end JK45Settle
section JK45SBest
set_option Elab.async false
set_option linter.all false
set_option maxRecDepth 100000
set_option maxHeartbeats 4000000
namespace K45W
open PySem PySem.Spec PyProof.Rows L2 K45R K45T K45
def sp_SB (K : PySem.W.Frag) : Sp := fun vs H Q _ => ∃ (v : V) (pa : Addr) (ws ps : List Int) (a : Int), vs = [v, .ref pa] ∧ SAt K H v ws a ∧ H pa = some (.lst (iv ps)) ∧ Nums ws ps a ∧
  ∀ H' t lt x L, Same H H' → H' t = some (.tup [.ref lt, x]) → H' lt = some (.tup (tv L)) → Fix (nth ws) (nth ps) a ws.length L → RatAt (cR K) H' x (bro (nth ws) (nth ps) L) (tot (nth ws) a L) → Q (.ref t) H'
section
variable {P : Program} {w : World} {K : PySem.W.Frag} {mg : Str → Option Value} {base : Heap} {k : Nat}
theorem ok_SB (T : Fx K mg) : OkD P w K mg base 6 (f_SB K) ["self", "prices"] [] (sp_SB K) := by
  obtain ⟨⟨fdI, dsI, GI, bI, dI⟩, kpI⟩ := ok_RI (P := P) (w := w) (base := base) T [.int 1] (.inr rfl)
  obtain ⟨⟨fdO, dsO, GO, bO, dO⟩, kpO⟩ := (ok_RO (P := P) (w := w) (base := base) T).mono (k := 5) (by decide)
  obtain ⟨⟨fdC, dsC, GC, bC, dC⟩, kpC⟩ := (ok_cp (P := P) (w := w) (base := base) T).mono (k := 5) (by decide)
  obtain ⟨⟨fdE, dsE, GE, bE, dE⟩, kpE⟩ := ok_SE (P := P) (w := w) (base := base) T
  refine okF T.d_SB sc_SB (fun _ _ _ _ _ _ us hl => match us, hl with | [_, _], _ => rfl) (fun vs H Q E h => ?_) (fun cdv A outer s H vs Q E hr h => ?_)
  · obtain ⟨v, pa, ws, ps, a, rfl, _⟩ := h
    rfl
  obtain ⟨v, pa, ws, ps, a, rfl, hS, hP, z, Q0⟩ := h
  have hr3 : Room 3 _ := hr.mono (by decide)
  have hr2 : Room 2 _ := hr.mono (by decide)
  refine ⟨_, (pss_cons (ps_expr (pe_call GC hr (by rfl) T.g_cp kpC bC dC pass0 (pa_cons (pv 1) (pa_cons (pe_fld (pv 0) rfl) pa_nil))))
    (pss_cons (ps_asg (pe_meth (pv 0) T.c_Stepping T.t_SE GE hr bE dE pass0 (pa_cons (pv 1) pa_nil)) (pg_tup rfl (pgs_cons (pg_name (i := 2) sc_SB.nd rfl (.inl rfl)) (pgs_cons (pg_name (i := 3) sc_SB.nd rfl (.inl rfl)) pgs_nil))))
    (pss_cons (ps_set (i := 4) sc_SB.nd rfl (.inl rfl) (pe_make T.k_Ratio GI hr2 (by rfl) T.g_Ratio bI dI pass0 (pa_cons pe_int pa_nil)))
    (pss_cons (ps_for PassesOwn.never rfl (pi_pair (by rfl) T.m_zip (pa_cons (pe_fld (pv 0) rfl) (pa_cons (pv 3) pa_nil))) (pg_tup rfl (pgs_cons (pg_name (i := 5) sc_SB.nd rfl (.inl rfl)) (pgs_cons (pg_name (i := 6) sc_SB.nd rfl (.inl rfl)) pgs_nil)))
      (pss_one (ps_set (i := 4) sc_SB.nd rfl (.inl rfl) (pe_op (o_add T hr3) (pv 4) (pe_op (o_mulI T hr3) (pv 6) (pv 5))))))
    (pss_one (ps_ret (pe_tup (pa_cons (pv 2) (pa_cons (pe_meth (pv 4) T.c_Ratio T.t_RO GO hr bO dO pass0 (pa_cons (pe_op op_add (pe_fld (pv 0) rfl) (pe_callB (cr_sumT rfl) (by rfl) T.m_sum (by decide +kernel) (pa_cons (pe_fld (pv 0) rfl) pa_nil))) pa_nil)) pa_nil))))))))), ?_⟩
  obtain ⟨p, dx, fa, ta, le, ss, rfl, f⟩ := id hS
  have cl := T.c_Stepping
  have n8 := z.n8
  have el := z.el
  refine ⟨_, rfl, _, rfl, p, _, dx, _, _, rfl, f.ob, cl, T.n_Stepping_many, sF_many, pa, ps, by rw [el]; rfl, hP, z.p0, fun H1 s1 => ?_⟩
  refine ⟨_, rfl, p, dx, _, rfl, s1 _ _ f.ob, sF_no (by decide +kernel), _, rfl, .ref p, pa, ws, ps, a, rfl, hS.same s1, s1 _ _ hP, z, fun H2 R lt vt q s2 eR eL hV fx => ?_⟩
  refine ⟨R, _, rfl, .inl (.inl eR), rfl, _, [_], rfl, _, [], rfl, rfl, ?_⟩
  have s12 := s1.trans s2
  have lL : (lotq ws.length q).length ≤ ws.length := lotq_len
  have tp := tot_pos (L := lotq ws.length q) z.ok lot_in
  have tb := tot_bd (L := lotq ws.length q) z.sw z.sa (by omega)
  have bw := fun j => small_nth z.sw j
  have bon : ∀ j, Bd 193 (nth ws j * val (nth ws) (nth ps) a q ws.length j) := fun j => ((bw j).mul (val_bd z q j)).le (by omega)
  obtain ⟨vv, eV, hVe⟩ := id hV
  have lV : vv.length = ws.length := hVe.1.trans valrow_len
  intro y0 dy ny ndy ney
  refine ⟨y0, dy, _, _, rfl, upd_same, by decide, Bd.zero _, Bd.one (by decide), fun H3 k3 e3 => ⟨rfl, ?_⟩⟩
  obtain ⟨s3, ry0⟩ := made_rat ny ndy (by decide) k3 e3
  have s13 := s12.trans s3
  refine ⟨_, rfl, p, _, dx, _, _, rfl, s13 _ _ f.ob, cl, T.n_Stepping_first, sF_first, _, rfl, fa, vt, _, _, rfl, sq_t (s13 _ _ f.first), sq_l (s3 _ _ eV), ?_⟩
  have lm : min (iv ws).length vv.length = ws.length := by rw [iv_len, lV]; omega
  refine for_it (walk_pair (K := K) (a := fa) (b := vt) (xs := iv ws) (ys := vv))
    (fun i σ H' => ∃ x v5 v6, σ = [some (.ref p), some (.ref pa), some (.ref lt), some (.ref vt), some x, v5, v6] ∧ Same H2 H' ∧ RatAt (cR K) H' x (sm (fun j => nth ws j * val (nth ws) (nth ps) a q ws.length j) (List.range i)) (tot (nth ws) a (lotq ws.length q)))
    ⟨.ref y0, none, none, rfl, s3, ry0.eq tp (by show 0 * _ = 0 * 1; omega)⟩ (fun i σ H' hi ⟨_, _, _, _, s, _⟩ => ⟨sq_t (s _ _ (s12 _ _ f.first)), sq_l (s _ _ eV)⟩) ?_ ?_
  · rintro i x σ H4 H5 hi ⟨y, v5, v6, rfl, s4, ry⟩ ⟨U, x1, x2, rfl, nU, rfl, g1, g2⟩
    rw [lm] at hi
    obtain ⟨wi, hwi, rfl⟩ := iv_at g1
    rw [nth_get hi] at hwi
    cases hwi
    have sU : Same H4 (upd H4 U (.tup [.int (nth ws i), x2])) := same_upd nU
    have r2 := (hVe.2 i x2 _ g2 (valrow_get hi)).same (s4.trans sU)
    have r1 := ry.same sU
    obtain ⟨⟨b2, d2, rfl, q2⟩, p2⟩ := id r2
    obtain ⟨⟨b1, d1, rfl, q1⟩, p1⟩ := id r1
    have bs := sm_bd bon (List.range i) 5 (by rw [List.length_range]; show _ ≤ 32; omega)
    refine ⟨U, _, rfl, .inl (.inl upd_same), rfl, _, [_], rfl, _, [], rfl, rfl, ?_⟩
    refine ⟨_, rfl, _, rfl, _, rfl, b2, d2, _, _, rfl, rfl, q2, _, _, _, _, rfl, r2, (val_bd z q i).le (by omega), tb.le (by omega), (bw i).le (by omega), fun v H8 s8 r8 => ?_⟩
    obtain ⟨⟨b8, d8, rfl, q8⟩, p8⟩ := id r8
    refine ⟨b1, d1, _, b8, d8, _, rfl, rfl, s8 _ _ q1, q8, .inl ⟨_, _, _, _, _, _, rfl, r1.same s8, r8, bs.le (by omega), tb.le (by omega), ((val_bd z q i).mul (bw i)).le (by omega), tb.le (by omega), fun v9 H9 s9 r9 => ?_⟩⟩
    refine ⟨v9, _, _, rfl, (s4.trans sU).trans (s8.trans s9), r9.eq tp ?_⟩
    rw [sm_range]
    generalize sm (fun j => nth ws j * val (nth ws) (nth ps) a q ws.length j) (List.range i) = c1
    generalize tot (nth ws) a (lotq ws.length q) = c2
    generalize val (nth ws) (nth ps) a q ws.length i = c3
    generalize nth ws i = c4
    show (c1 * c2 + c3 * c4 * c2) * c2 = (c1 + c4 * c3) * (c2 * c2)
    grind
  · rintro σ H4 ⟨y, v5, v6, rfl, s4, ry⟩
    rw [lm] at ry
    have s14 := s12.trans s4
    obtain ⟨⟨b1, d1, rfl, q1⟩, p1⟩ := id ry
    have Tb := allw_bd z.sw z.sa n8
    have Tp : 0 < allw ws a := tot_pos (L := List.range ws.length) z.ok fun t ht => List.mem_range.mp ht
    have ea : a + ws.sum = allw ws a := by rw [iv_sum]; rfl
    have bs := sm_bd bon (List.range ws.length) 5 (by rw [List.length_range]; show _ ≤ 32; omega)
    refine ⟨_, rfl, _, rfl, b1, d1, _, rfl, q1, rF_no _ _ (by decide +kernel) (by decide +kernel), _, rfl, p, _, dx, _, _, rfl, s14 _ _ f.ob, cl, T.n_Stepping_aside, sF_aside, _, rfl, p, _, dx, _, _, rfl, s14 _ _ f.ob, cl, T.n_Stepping_first, sF_first, fa, ws, rfl, sq_t (s14 _ _ f.first), _, _, rfl, rfl, ?_⟩
    show sp_over (cR K) [.ref b1, .int (a + ws.sum)] H4 _ E0
    rw [ea]
    refine ⟨_, _, _, _, rfl, ry, bs.le (by omega), tb.le (by omega), Tp, Tb.le (by omega), fun v H5 s5 r5 => ?_⟩
    refine ⟨(by show 2 ≤ sizeLine; decide), fun U nU => ?_⟩
    have sU : Same H5 (upd H5 U (.tup [.ref lt, v])) := same_upd nU
    refine Q0 _ U lt v (lotq ws.length q) ((s14.trans s5).trans sU) upd_same (sU _ _ (s5 _ _ (s4 _ _ eL))) fx ((r5.same sU).eq tp ?_)
    have vs := val_sum (nth ws) (nth ps) a q ws.length
    rw [vs]
    show (allw ws a) * bro (nth ws) (nth ps) (lotq ws.length q) * tot (nth ws) a (lotq ws.length q) = _
    generalize bro (nth ws) (nth ps) (lotq ws.length q) = c1
    generalize tot (nth ws) a (lotq ws.length q) = c2
    generalize allw ws a = c3
    grind
end
end K45W
end JK45SBest
section JK45Raise
set_option Elab.async false
set_option linter.all false
set_option maxRecDepth 100000
set_option maxHeartbeats 4000000
namespace K45R
open PySem PySem.Spec PyProof.Rows L2
/-! ### a classmethod called in a try -/
section
variable {X : Cx} {CX : CXT} {pins : List (Addr × Obj)} {σ : St} {H : Hp} {s : Shared} {k : Nat} {q C p g : Addr} {mc : Value} {sp : Sp} {m : Str} {o e : Expr} {es : List Expr} {pos apos : Pos} {ta : TE} {t : TA} {pl : Sem Bool}
theorem run_cmS {E : XK} {Q : VK} {us : List Value} {vs : List V} (F : FnR X.prog X.w X.K X.mg X.base CX k g sp) (hr : Room k X.A) (hx : PassesAt CX X σ E) (I : Inv X ((q, PySem.W.methodObj (.ref g) (.ref C)) :: pins) σ H s)
    (r : Vals vs us) (h : sp (.ref C :: vs) H Q E) : wpAny (model X.prog X.w) X.A (call (.ref q) us) (EP X pins σ Q) X.xe s := by
  have z : wpAny (model X.prog X.w) X.A (call (.ref q) us) (EP X ((q, PySem.W.methodObj (.ref g) (.ref C)) :: pins) σ Q) X.xe s := by
    refine wpAny_call (PySem.W.method_call (ClX.pin_at I) (codeAny_mono (F X.A X.stack s H (.ref C :: us) (.ref C :: vs) Q E hr I.env0 (.cons rfl r) h) fun r s' hq => ?_))
    cases r with
    | error e => exact hx _ H s e s' I hq
    | ok fl =>
      cases fl with
      | ret u => exact I.after hq
      | next => exact False.elim hq
      | brk => exact False.elim hq
      | cont => exact False.elim hq
  exact thn z fun _ _ y => ClX.unpinE y
def tCMethS (C : Addr) (sp : Sp) (E : St → XK) (ta : TE) (t : TA) : TE := fun σ H Q => ta σ H fun x H1 => x = .ref C ∧ t σ H1 fun vs H2 => sp (.ref C :: vs) H2 Q (E σ)
theorem pe_cmethS {E : St → XK} (he : PE X o ta) (r : ClX.CRead X.K C mc) (c : ClX.CMet X.K C mc m p g) (F : FnR X.prog X.w X.K X.mg X.base CX k g sp) (hr : Room k X.A) (hx : ∀ σ, PassesAt CX X σ (E σ)) (ha : PA X (e :: es) t)
    (hst : starEach (e :: es) X.env = (false, eval e X.env) :: starEach es X.env := by rfl) (hpl : (backTo pos (starEach es X.env)).any (·.1) = false := by rfl)
    (ht : eval (.Call (.Attribute o m apos) (e :: es) [] pos) X.env = (do
      let ov ← eval o X.env
      standAt apos.atName
      let (f, first) ← holding [ov] (getMethod ov m pl)
      callWith pos f first (backTo pos (starEach (e :: es) X.env)) (backToKw pos (keywordEach [] X.env))) := by rfl) : PE X (.Call (.Attribute o m apos) (e :: es) [] pos) (tCMethS C sp E ta t) := by
  refine ⟨fun pins s σ H Q I h => ?_⟩
  refine PySem.W.methodCall_KW (pl := pl) (thn (he.run pins s σ H _ I h) fun u s1 hh => ?_) ht
  obtain ⟨x, H1, I1, rx, ex, q⟩ := hh
  subst ex
  cases (show u = Value.ref C from rx)
  refine ClX.getmethcm_ok I1 r c fun s2 I2 => ?_
  refine ClX.callwith_cm I2 (ClX.base_none I1 (Nat.le_refl _)) c.fi (thn (ha.run pos _ s2 σ H1 _ I2 q) fun us s3 hh => ?_) hst hpl
  obtain ⟨vs, H2, I3, rv, q2⟩ := hh
  exact ⟨⟨ClX.pin_at I3, I3.kIn⟩, run_cmS F hr (hx σ) I3 rv q2⟩
end
end K45R
namespace K45W
open PySem PySem.Spec PyProof.Rows L2 K45R K45T K45
/-! ### TooMany -/
def sp_TI (C : Addr) : Sp := fun vs H Q _ => ∃ (a : Addr) (m k : Int), vs = [.ref a, .int m, .int k] ∧ H a = some (exo a C none) ∧
  ∀ d H', H d = none → d ≠ a → (∀ b o, b ≠ a → H b = some o → H' b = some o) → H' a = some (exo a C (some d)) → H' d = some (exd d [("most", .int k), ("many", .int m)]) → Q .non H'
/-- TooMany(n, most) leaves a def -/
def Tooo (K : PySem.W.Frag) (H : Hp) (n most : Int) (E : XK) : Prop := ∀ d H', Same H H' → H d = none → H' d = some (.xd [("most", .int most), ("many", .int n)]) → E (.ref (cT K)) (some d) H'
theorem Tooo.same {K : PySem.W.Frag} {H H1 : Hp} {n most : Int} {E : XK} (h : Tooo K H n most E) (s : Same H H1) : Tooo K H1 n most E := fun d H' s' nd e => h d H' (s.trans s') (s.free nd) e
section
variable {w : World} {K : PySem.W.Frag} {mg : Str → Option Value} {base : Heap} {k : Nat}
theorem ok_TI (T : Fx K mg) : OkD PW w K mg base 1 (f_TI K) ["self", "many", "most"] [] (sp_TI (cT K)) := by
  refine OkD.of (okS T T.d_TI sc_TI (fun _ _ _ _ _ _ _ us hl => match us, hl with | [_, _, _], _ => rfl) rfl rfl (fun _ _ => rfl) ⟨_, rfl, rfl, .inl rfl⟩ (fun vs H Q E h => ?_) fun cc cda A outer s H vs Q E hr S h => ?_)
  · obtain ⟨a, m, k, rfl, _⟩ := h
    rfl
  obtain ⟨a, m, k, rfl, ea, q⟩ := h
  refine ⟨_, PSsA.nox (psa_cons (psa_superX (SupEnv.nox S) T.x_T (pa_cons pe_str pa_nil)) (pss_cons (ps_ost (pv 0) (pv 1))
    (pss_one (ps_ost (pv 0) (pv 2))))), ?_⟩
  refine ⟨a, rfl, ea, (by show 1 ≤ 1000; decide), ea, ?_⟩
  refine ⟨_, rfl, _, rfl, a, cT K, rfl, T.x_T.cls, T.x_many, .inl ⟨ea, fun d nd da => ?_⟩⟩
  have ed : (upd (upd H d (exd d [("many", .int m)])) a (exo a (cT K) (some d))) d = some (exd d [("many", .int m)]) := by rw [upd_ne da, upd_same]
  refine ⟨_, rfl, _, rfl, a, cT K, rfl, T.x_T.cls, T.x_most, .inr ⟨d, [("many", .int m)], upd_same, ed, (by show 1 ≤ 900; decide), ?_⟩⟩
  refine q d _ nd da (fun b o nb e => ?_) ?_ upd_same
  · rw [upd_ne (ne_of_none e nd), upd_ne nb, upd_ne (ne_of_none e nd)]
    exact e
  · rw [upd_ne da.symm, upd_same]
def sp_UIX (K : PySem.W.Frag) : Sp := fun vs H _ E => ∃ (C p dx : Addr) (n most : Int) (u : Value), vs = [.ref p, .int n] ∧ H p = some (.ins C dx []) ∧ Cls K C ∧ Con K C "MOST" (.int most) u ∧ most < n ∧ Tooo K H n most E
theorem ok_UIX (T : Fx K mg) : (∃ fd, FnOk PW w K mg base (L2.CX PW w) 3 (f_UI K) fd ["self", "many"] (sp_UIX K) ∧ Binds K fd ["self", "many"] []) := by
  obtain ⟨⟨fdI, dsI, GI, bI, dI⟩, kpI⟩ := ok_TI (w := w) (base := base) T
  obtain ⟨fd, F⟩ := T.d_UI
  refine ⟨fd, F.ok sc_UI (fun vs H Q E h => ?_) (fun cdv A outer s H vs Q E hr h => ?_), F.bindsN fun _ _ _ _ _ _ us hl => match us, hl with | [_, _], _ => rfl⟩
  · obtain ⟨C, p, dx, n, most, u, rfl, _⟩ := h
    rfl
  obtain ⟨C, p, dx, n, most, u, rfl, hp, c, con, hn, q⟩ := h
  refine ⟨_, pss_cons (ps_if (pt_cmpR op_gt (pv 1) (pe_con (pv 0) rfl) (nomark _)) (pss_one (ps_raise rfl (takes_of rfl rfl rfl rfl) (pmk_oex T.x_T.cls T.x_ini T.x_ty GI hr bI dI pass0 (by rfl) T.g_TooMany (pa_cons (pv 1) (pa_cons (pe_con (pv 0) rfl) pa_nil))))) pss_nil) pss_never, ?_⟩
  refine ⟨_, rfl, _, rfl, p, C, dx, [], _, u, rfl, hp, c, con, rfl, _, _, rfl, rfl, _, rfl, ?_⟩
  refine iteTb (decide_eq_true (by omega)) ?_
  refine ⟨_, rfl, _, rfl, p, C, dx, [], _, u, rfl, hp, c, con, rfl, (by show 2 ≤ 1000; decide), fun a na => ?_⟩
  refine ⟨a, n, most, rfl, upd_same, fun d H' nd da kp ea ed => ⟨rfl, d, _, ea, ed, ?_, ?_⟩⟩
  · rw [upd_ne da] at nd
    exact nd
  · rw [upd_ne da] at nd
    refine q d _ (fun b o e => ?_) nd upd_same
    rw [upd_ne (ne_of_none e nd), del_ne (ne_of_none e na)]
    exact kp _ _ (ne_of_none e na) (by rw [upd_ne (ne_of_none e na)]; exact e)
end
end K45W
end JK45Raise
section JK45Refuse
set_option Elab.async false
set_option linter.all false
set_option maxRecDepth 100000
set_option maxHeartbeats 4000000
namespace K45W
open PySem PySem.Spec PyProof.Rows L2 K45R K45T K45
theorem fn_raw0 {P : Program} {w : World} {K : PySem.W.Frag} {mg : Str → Option Value} {base : Heap} {CX : CXT} {k : Nat} {f : Addr} {fd : FuncData} {ps : List Str} {sp : Sp} (F : FnOk P w K mg base CX k f fd ps sp) (b : Binds K fd ps []) : FnR P w K mg base CX k f sp := by
  have z := F.raw b .nil
  have e : (fun (vs : List V) (H : Hp) (Q : VK) (E : XK) => sp (vs ++ []) H Q E) = sp := by
    funext vs H Q E
    rw [List.append_nil]
  rw [e] at z
  exact z
section
variable {w : World} {K : PySem.W.Frag} {mg : Str → Option Value} {base : Heap} {k : Nat}
def sp_SIX (K : PySem.W.Frag) : Sp := fun vs H _ E => ∃ (p dx f : Addr) (a st lv : V) (ws : List Int), vs = [.ref p, .ref f, a, st, lv] ∧ H p = some (.ins (cS K) dx []) ∧ H f = some (.lst (iv ws)) ∧ 8 < ws.length ∧ Tooo K H (ws.length : Int) 8 E
theorem ok_SIX (T : Fx K mg) : (∃ fd, FnOk PW w K mg base (L2.CX PW w) 4 (f_SI K) fd ["self", "first", "aside", "steps", "leaves"] (sp_SIX K) ∧ Binds K fd ["self", "first", "aside", "steps", "leaves"] []) := by
  obtain ⟨fdU, GU, bU⟩ := ok_UIX (w := w) (base := base) T
  have RU := fn_raw0 GU bU
  refine (okS T T.d_SI sc_SI (fun _ _ _ _ _ _ _ us hl => match us, hl with | [_, _, _, _, _], _ => rfl) rfl rfl (fun _ _ => rfl) ⟨_, rfl, rfl, .inl rfl⟩ (fun vs H Q E h => ?_) fun cc cda A outer s H vs Q E hr S h => ?_).1
  · obtain ⟨p, dx, f, a, st, lv, ws, rfl, _⟩ := h
    rfl
  obtain ⟨p, dx, f, a, st, lv, ws, rfl, hp, hf, h8, t⟩ := h
  obtain ⟨um, con⟩ := T.most_S
  refine ⟨_, psa_cons (psa_superE S T.u_SI RU hr (passes_call (takes_of rfl rfl rfl rfl) fun cls d σ H h => h) (pa_cons (pe_callB call_len_seq (by rfl) T.m_len PySem.boot_len (pa_cons (pv 1) pa_nil)) pa_nil)) pss_never, ?_⟩
  refine ⟨p, dx, [], rfl, hp, _, rfl, f, _, rfl, .inl (sq_l hf), ?_⟩
  rw [iv_len]
  exact ⟨cS K, p, dx, _, 8, um, rfl, hp, T.c_Stepping, con, by omega, t⟩
def sp_SLX (K : PySem.W.Frag) : Sp := fun vs H _ E => ∃ (v : V) (ws : List Int) (a : Int), vs = [.ref (cS K), v] ∧ WAt K H v ws a ∧ 8 < ws.length ∧ ws.length ≤ 24 ∧ Tooo K H (ws.length : Int) 8 E
theorem ok_SLX (T : Fx K mg) : ∃ mc p g, ClX.CRead K (cS K) mc ∧ ClX.CMet K (cS K) mc "like" p g ∧ ∀ w base, ∃ fd, FnOk PW w K mg base (L2.CX PW w) 6 g fd ["cls", "rule"] (sp_SLX K) ∧ Binds K fd ["cls", "rule"] [] := by
  obtain ⟨mc, p, g, fd, cr, cm, F⟩ := T.d_SL
  refine ⟨mc, p, g, cr, cm, fun w base => ?_⟩
  obtain ⟨fdI, GI, bI⟩ := ok_SIX (w := w) (base := base) T
  refine ⟨fd, F.ok sc_SL (fun vs H Q E h => ?_) (fun cdv A outer s H vs Q E hr h => ?_), F.bindsN fun _ _ _ _ _ _ us hl => match us, hl with | [_, _], _ => rfl⟩
  · obtain ⟨v, ws, a, rfl, _⟩ := h
    rfl
  obtain ⟨v, ws, a, rfl, hW, h8, h24, tm⟩ := h
  refine ⟨_, (pss_cons (ps_set (i := 2) sc_SL.nd rfl (.inl rfl) (pe_lst pa_nil))
    (pss_cons (ps_for PassesOwn.leaving rfl (pi_range1 (by rfl) T.m_range (pa_cons (pe_fld (pv 1) rfl) pa_nil)) (pg_name (i := 3) sc_SL.nd rfl (.inl rfl))
      (pss_cons (ps_set (i := 4) sc_SL.nd rfl (.inl rfl) (pe_callTy call_list_of (by rfl) T.m_list (by decide +kernel) (pa_cons (pe_fld (pv 1) rfl) pa_nil)))
    (pss_cons (ps_asg pe_int (pg_sub (pv 4) (pv 3) set_list))
    (pss_one (ps_expr (pe_bm PySem.F.plainAttrs_list PySem.F.slot_list_append PySem.F.type_list_append mt_append (pv 2) (pa_cons (pv 4) pa_nil)))))))
    (pss_cons (ps_setLc (i := 5) (own := [("_", 6)]) (g := gName 6) (tt := tYes) rfl sc_SL.nd rfl rfl (sw_true rfl rfl rfl (by decide +kernel)) (pi_range1 (by rfl) T.m_range (pa_cons (pe_fld (pv 1) rfl) pa_nil)) (blkOk_by (N := ns_SL) (sc := defScope s_SL) (by decide +kernel))
        (fun _ _ _ _ _ => pg_name (i := 6) sc_SL.nd rfl (.inl rfl) (.inr rfl)) (fun _ _ _ _ _ => pts_nil) (fun _ _ _ _ _ => pFld K (pv 1) rfl))
    (pss_one (ps_ret (pe_makeL (i := 0) T.k_Stepping GI hr rfl (.inl rfl) bI .nil (passes_call (takes_of rfl rfl rfl rfl) fun cls d σ H h => h) (pa_cons (pe_callTy call_list_of (by rfl) T.m_list (by decide +kernel) (pa_cons (pe_fld (pv 1) rfl) pa_nil)) (pa_cons (pe_fld (pv 1) rfl) (pa_cons (pv 2) (pa_cons (pv 5) pa_nil)))))))))), ?_⟩
  obtain ⟨p, dx, wa, rfl, hp, hw⟩ := hW.ex
  have cl := T.c_Weighted
  refine ⟨Nat.zero_le _, fun D nD => ?_⟩
  have sD : Same H (upd H D (.lst [])) := same_upd nD
  refine ⟨_, rfl, p, _, dx, _, _, rfl, sD _ _ hp, cl, T.n_Weighted_many, wF_many, _, rfl, by omega, by omega, for_range (lo := 0) (n := ws.length) (fun i σ H' => ∃ v3 v4 vD, σ = [some (.ref (cS K)), some (.ref p), some (.ref D), v3, v4, none, none] ∧ Same H H' ∧ H' D = some (.lst vD) ∧ vD.length = i)
    ⟨none, none, [], rfl, sD, upd_same, rfl⟩ ?_ ?_⟩
  · rintro i σ H1 hi ⟨v3, v4, vD, rfl, s1, eD, lD⟩
    rw [show (0 : Int) + (i : Int) = (i : Int) from Int.zero_add _]
    refine ⟨_, rfl, p, _, dx, _, _, rfl, s1 _ _ hp, cl, T.n_Weighted_weights, wF_weights, wa, _, rfl, .inr (sq_t (s1 _ _ hw)), fun R nR => ?_⟩
    have sR : Same H1 (upd H1 R (.lst (iv ws))) := same_upd nR
    refine ⟨_, rfl, _, rfl, R, iv ws, _, i, rfl, rfl, upd_same, ixN_nat (by rw [iv_len]; exact hi), ?_⟩
    have s2 : Same H1 (upd (upd H1 R (.lst (iv ws))) R (.lst ((iv ws).set i (.int 0)))) := fun b o e => by
      rw [upd_ne (ne_of_none e nR)]
      exact sR _ _ e
    refine ⟨_, rfl, .inl ⟨rfl, _, .inl (.inl (s2 _ _ eD))⟩, _, rfl, D, _, _, rfl, rfl, s2 _ _ eD, small1000 (by omega), ?_⟩
    refine ⟨_, _, _, rfl, fun b o e => ?_, upd_same, ?_⟩
    · rw [upd_ne (ne_of_none e nD)]
      exact s2 _ _ (s1 _ _ e)
    · rw [List.length_append, lD]
      rfl
  rintro σ H1 ⟨v3, v4, vD, rfl, s1, eD, lD⟩
  refine ⟨_, rfl, p, _, dx, _, _, rfl, s1 _ _ hp, cl, T.n_Weighted_many, wF_many, _, rfl, by omega, by omega, fun F nF => lc_range (lo := 0) (n := ws.length) (fun j H' => Same H1 H' ∧ ∃ vF, H' F = some (.lst vF) ∧ vF.length = j) ⟨same_upd nF, [], upd_same, rfl⟩ ?_ ?_⟩
  · rintro j H2 hj ⟨s2, vF, eF, lF⟩
    refine ⟨rfl, ?_⟩
    refine ⟨_, rfl, p, _, dx, _, _, rfl, s2 _ _ (s1 _ _ hp), cl, T.n_Weighted_aside, wF_aside, ?_⟩
    refine ⟨_, eF, small1000 (by omega), fun b o e => ?_, _, upd_same, ?_⟩
    · rw [upd_ne (ne_of_none e nF)]
      exact s2 _ _ e
    · rw [List.length_append, lF]
      rfl
  rintro H2 ⟨s2, vF, eF, lF⟩
  refine ⟨rfl, ?_⟩
  refine ⟨_, rfl, p, _, dx, _, _, rfl, s2 _ _ (s1 _ _ hp), cl, T.n_Weighted_weights, wF_weights, wa, _, rfl, .inr (sq_t (s2 _ _ (s1 _ _ hw))), fun R nR => ?_⟩
  have sR : Same H2 (upd H2 R (.lst (iv ws))) := same_upd nR
  refine ⟨_, rfl, p, _, dx, _, _, rfl, sR _ _ (s2 _ _ (s1 _ _ hp)), cl, T.n_Weighted_aside, wF_aside, _, rfl, _, rfl, ?_⟩
  intro x dx2 nx ndx nex
  have sM : Same (upd H2 R (.lst (iv ws))) (upd (upd (upd H2 R (.lst (iv ws))) dx2 (.own x)) x (.ins (cS K) dx2 [])) := mk_same nx ndx
  exact ⟨x, dx2, R, _, _, _, ws, rfl, upd_same, sM _ _ upd_same, h8, tm.same (((s1.trans s2).trans sR).trans sM)⟩
/-! ### _law_refused -/
def sp_lf (K : PySem.W.Frag) : Sp := fun vs H Q _ => ∃ (v : V) (ws : List Int) (a : Int), vs = [v] ∧ WAt K H v ws a ∧ 8 < ws.length ∧ ws.length ≤ 24 ∧ ∀ H' t, Same H H' → H' t = some (.tup [.int (ws.length : Int), .int 8]) → Q (.ref t) H'
theorem ok_lf (T : Fx K mg) : OkD PW w K mg base 7 (f_lf K) ["_law_rule"] [] (sp_lf K) := by
  obtain ⟨mc, p, g, cr, cm, GL⟩ := ok_SLX T
  obtain ⟨fdL, GL, bL⟩ := GL w base
  have RL := fn_raw0 GL bL
  refine okF T.d_lf sc_lf (fun _ _ _ _ _ _ us hl => match us, hl with | [_], _ => rfl) (fun vs H Q E h => ?_) (fun cdv A outer s H vs Q E hr h => ?_)
  · obtain ⟨v, ws, a, rfl, _⟩ := h
    rfl
  obtain ⟨v, ws, a, rfl, hW, h8, h24, q⟩ := h
  refine ⟨_, (pss_cons (ps_try_as (i := 1) rfl rfl sc_lf.nd rfl rfl ⟨rfl, by decide, .inl T.g_TooMany⟩ takes0 (fun W pn xe tk _ => pss_one (ps_expr (pe_cmethS (pe_glob (v := .ref (cS K)) rfl T.g_Stepping rfl) cr cm RL hr (fun σ => passAt tk σ) (pa_cons (pv 0) pa_nil))))
      (fun a oe cls d pn hz hf => pss_one (ps_ret (pe_tup (pa_cons (pe_xf T.x_f T.x_many hz hf (pv 1)) (pa_cons (pe_xf T.x_f T.x_most hz hf (pv 1)) pa_nil))))))
    pss_never), ?_⟩
  refine ⟨rfl, _, rfl, v, ws, a, rfl, hW, h8, h24, fun d H1 s1 nd ed => ?_⟩
  refine ⟨true, T.x_em, fun _ x nx => ?_, fun q => Bool.noConfusion q⟩
  refine ⟨_, rfl, rfl, rfl, d, _, .int (ws.length : Int), rfl, ed, ?_, ?_⟩
  · rw [lk_cons, if_neg (by decide +kernel), lk_cons, if_pos rfl]
  refine ⟨_, rfl, rfl, rfl, d, _, .int 8, rfl, ed, ?_, (by show 2 ≤ sizeLine; decide), fun t nt => ?_⟩
  · rw [lk_cons, if_pos rfl]
  exact q _ t (s1.trans (same_upd nt)) upd_same
end
end K45W
end JK45Refuse
section JK45Help
set_option Elab.async false
set_option linter.all false
set_option maxRecDepth 100000
set_option maxHeartbeats 4000000
namespace K45W
open PySem PySem.Spec PyProof.Rows L2 K45R K45T K45
def sp_li : Sp := fun vs H Q _ => ∃ i : Int, vs = [.int i] ∧ Q (.bl true) H
def sp_ls (C : Addr) : Sp := fun vs H Q _ => ∃ (x : V) (t b n d : Int), vs = [x, .int t, .int b] ∧ RatAt C H x n d ∧ Bd 3000 n ∧ Bd 3000 d ∧ Bd 3000 t ∧ Bd 3000 b ∧ n * b = t * d ∧ Q (.bl true) H
def sp_lt (K : PySem.W.Frag) : Sp := fun vs H Q _ => ∃ (xa da : Addr) (ns : List Int), vs = [.ref xa, .ref da] ∧ H xa = some (.tup (iv ns)) ∧ (H da = some (.lst (iv ns)) ∨ H da = some (.tup (iv ns))) ∧ ns.length ≤ 900 ∧ Q (.bl true) H
section
variable {P : Program} {w : World} {K : PySem.W.Frag} {mg : Str → Option Value} {base : Heap} {k : Nat}
theorem ok_li (T : Fx K mg) : OkD P w K mg base 1 (f_li K) ["_law_x"] [] sp_li := by
  refine okF T.d_li sc_li (fun _ _ _ _ _ _ us hl => match us, hl with | [_], _ => rfl) (fun vs H Q E h => ?_) (fun cdv A outer s H vs Q E hr h => ?_)
  · obtain ⟨i, rfl, _⟩ := h
    rfl
  obtain ⟨i, rfl, q⟩ := h
  refine ⟨_, pss_one (ps_ret (pe_and (pe_callB call_isi (by rfl) T.m_isinstance boot_isinstance (pa_cons (pv 0) (pa_cons (pe_bltn (v := .ty "int") (by rfl) T.m_int (by decide +kernel) rfl) pa_nil)))
    (pe_one (pe_not (pe_callB call_isi (by rfl) T.m_isinstance boot_isinstance (pa_cons (pv 0) (pa_cons (pe_bltn (v := .ty "bool") (by rfl) T.m_bool (by decide +kernel) rfl) pa_nil))))))), ?_⟩
  refine ⟨_, rfl, _, .ty "int", _, _, true, rfl, .ty "int", .base (.int i), kit_ty (by decide +kernel), _, rfl, ?_⟩
  refine iteT ?_
  exact ⟨_, rfl, _, .ty "bool", _, _, false, rfl, .ty "bool", .base (.int i), kit_ty (by decide +kernel), _, rfl, q⟩
theorem ok_ls (T : Fx K mg) : OkD P w K mg base 2 (f_ls K) ["_law_x", "_law_top", "_law_bottom"] [] (sp_ls (cR K)) := by
  obtain ⟨⟨fdL, dsL, GL, bL, dL⟩, kpL⟩ := ok_li (P := P) (w := w) (base := base) T
  refine okF T.d_ls sc_ls (fun _ _ _ _ _ _ us hl => match us, hl with | [_, _, _], _ => rfl) (fun vs H Q E h => ?_) (fun cdv A outer s H vs Q E hr h => ?_)
  · obtain ⟨x, t, b, n, d, rfl, _⟩ := h
    rfl
  obtain ⟨x, t, b, n, d, rfl, rx, bn, bd, bt, bb, e, q⟩ := h
  refine ⟨_, (pss_cons (ps_if (pt_not (pt_val (pe_callB call_isi (by rfl) T.m_isinstance boot_isinstance (pa_cons (pv 0) (pa_cons (pe_glob (v := .ref (cR K)) rfl T.g_Ratio rfl) pa_nil))))) pss_never pss_nil)
    (pss_cons (ps_if (PW.pt (pw_or (pt_not (pt_val (pe_call GL hr (by rfl) T.g_li kpL bL dL pass0 (pa_cons (pe_fld (pv 0) rfl) pa_nil)))) (pw_or (pt_not (pt_val (pe_call GL hr (by rfl) T.g_li kpL bL dL pass0 (pa_cons (pe_fld (pv 0) rfl) pa_nil)))) (pw_or1 (pt_cmpR op_lt (pe_fld (pv 0) rfl) pe_int (nomark _)))))) pss_never pss_nil)
    (pss_one (ps_ret (pe_cmpR op_eq (pe_op op_mulW (pe_fld (pv 0) rfl) (pv 2)) (pe_op op_mulW (pv 1) (pe_fld (pv 0) rfl)) (nomark _)))))), ?_⟩
  obtain ⟨⟨a, dx, rfl, ea⟩, pd⟩ := id rx
  have c := T.c_Ratio
  have ft := rF_top n d
  have fb := rF_bot n d
  have pb := rB_pos (n := n) pd
  refine ⟨_, rfl, _, .ref (cR K), _, _, true, rfl, .own _, ty_rat T ea, T.q_RR, _, rfl, ?_⟩
  refine iteF ?_
  refine ⟨_, rfl, a, _, dx, _, _, rfl, ea, c, T.n_Ratio_top, ft, _, rfl, _, rfl, ?_⟩
  refine iteF ?_
  refine ⟨_, rfl, a, _, dx, _, _, rfl, ea, c, T.n_Ratio_bottom, fb, _, rfl, _, rfl, ?_⟩
  refine iteF ?_
  refine ⟨_, rfl, a, _, dx, _, _, rfl, ea, c, T.n_Ratio_bottom, fb, _, _, rfl, rfl, _, rfl, ?_⟩
  refine iteFb (decide_eq_false (by omega)) ?_
  refine ⟨_, rfl, a, _, dx, _, _, rfl, ea, c, T.n_Ratio_top, ft, _, rfl, _, _, rfl, rfl, wide_mul (bn.rT pd) bb (by decide) (by decide) (by decide), ?_⟩
  refine ⟨_, rfl, _, rfl, a, _, dx, _, _, rfl, ea, c, T.n_Ratio_bottom, fb, _, _, rfl, rfl, wide_mul bt (bd.rB (n := n) pd) (by decide) (by decide) (by decide), rfl, ?_⟩
  have ex : rT n d * b = t * rB n d := by
    have cr := r_cross n d
    refine mul_cancel_pos (c := d) pd ?_
    calc rT n d * b * d = (rT n d * d) * b := by grind
      _ = (n * rB n d) * b := by rw [cr]
      _ = (n * b) * rB n d := by grind
      _ = (t * d) * rB n d := by rw [e]
      _ = t * rB n d * d := by grind
  show Q (.bl (decide (V.int (rT n d * b) = V.int (t * rB n d)))) H
  rw [decide_eq_true (by rw [ex])]
  exact q
theorem ok_lt (T : Fx K mg) : OkD P w K mg base 2 (f_lt K) ["_law_x", "_law_due"] [] (sp_lt K) := by
  obtain ⟨⟨fdL, dsL, GL, bL, dL⟩, kpL⟩ := ok_li (P := P) (w := w) (base := base) T
  refine okF T.d_lt sc_lt (fun _ _ _ _ _ _ us hl => match us, hl with | [_, _], _ => rfl) (fun vs H Q E h => ?_) (fun cdv A outer s H vs Q E hr h => ?_)
  · obtain ⟨xa, da, ns, rfl, _⟩ := h
    rfl
  obtain ⟨xa, da, ns, rfl, hx, hd, hl, q⟩ := h
  refine ⟨_, (pss_cons (ps_if (PW.pt (pw_or (pt_not (pt_val (pe_callB call_isi (by rfl) T.m_isinstance boot_isinstance (pa_cons (pv 0) (pa_cons (pe_bltn (v := .ty "tuple") (by rfl) T.m_tuple (by decide +kernel) rfl) pa_nil)))))
        (pw_or1 (pt_cmpR op_ne (pe_callB call_len_seq (by rfl) T.m_len PySem.boot_len (pa_cons (pv 0) pa_nil)) (pe_callB call_len_seq (by rfl) T.m_len PySem.boot_len (pa_cons (pv 1) pa_nil)) (nomark _))))) pss_never pss_nil)
    (pss_cons (ps_for PassesOwn.never rfl (pi_range1 (by rfl) T.m_range (pa_cons (pe_callB call_len_seq (by rfl) T.m_len PySem.boot_len (pa_cons (pv 1) pa_nil)) pa_nil)) (pg_name (i := 2) sc_lt.nd rfl (.inl rfl))
      (pss_one (ps_if (PW.pt (pw_or (pt_not (pt_val (pe_call GL hr (by rfl) T.g_li kpL bL dL pass0 (pa_cons (pe_ix ix_tup (pv 0) (pv 2) (fun _ _ => rfl)) pa_nil)))) (pw_or1 (pt_cmpR op_ne (pe_ix ix_tup (pv 0) (pv 2) (fun _ _ => rfl)) (pe_ix ix_seq (pv 1) (pv 2) (fun _ _ => rfl)) (nomark _))))) pss_never pss_nil)))
    (pss_one (ps_ret pe_bl)))), ?_⟩
  have sd : SqL K H da (iv ns) ∨ SqT K H da (iv ns) := hd.elim (fun e => .inl (sq_l e)) fun e => .inr (sq_t e)
  refine ⟨_, rfl, _, .ty "tuple", _, _, true, rfl, .ty "tuple", .base (.tup hx), kit_ty (by decide +kernel), _, rfl, ?_⟩
  refine iteF ?_
  refine ⟨_, rfl, xa, _, rfl, .inr (sq_t hx), _, rfl, da, _, rfl, sd, rfl, _, rfl, ?_⟩
  refine iteFb (by rw [decide_eq_true rfl]; rfl) ?_
  refine ⟨_, rfl, da, _, rfl, sd, _, rfl, by rw [iv_len]; omega, by rw [iv_len]; omega, for_range (lo := 0) (n := (iv ns).length) (fun i σ H' => H' = H ∧ ∃ v2, σ = [some (.ref xa), some (.ref da), v2]) ⟨rfl, none, rfl⟩ ?_ ?_⟩
  · rintro i σ H1 hi ⟨rfl, v2, rfl⟩
    rw [show (0 : Int) + (i : Int) = (i : Int) from Int.zero_add _]
    rw [iv_len] at hi
    have g := iv_get (List.getElem?_eq_getElem hi)
    refine ⟨_, rfl, _, rfl, xa, _, _, _, rfl, rfl, sq_t hx, atI_nat g, _, rfl, _, rfl, ?_⟩
    refine iteF ?_
    refine ⟨_, rfl, _, rfl, xa, _, _, _, rfl, rfl, sq_t hx, atI_nat g, _, rfl, _, rfl, ?_⟩
    have key : ∀ {R : V → Hp → Prop}, R (.int ns[i]) H1 → rIx K (.ref da) (.int (i : Int)) H1 R := fun {R} r => by
      rcases hd with e | e
      · exact .inl ⟨da, _, _, _, rfl, rfl, sq_l e, atI_nat g, r⟩
      · exact .inr (.inl ⟨da, _, _, _, rfl, rfl, sq_t e, atI_nat g, r⟩)
    refine key ?_
    refine ⟨rfl, _, rfl, ?_⟩
    refine iteFb (by rw [decide_eq_true rfl]; rfl) ⟨rfl, _, rfl⟩
  · rintro σ H1 ⟨rfl, v2, rfl⟩
    exact q
end
end K45W
end JK45Help
section JK45Help2
set_option Elab.async false
set_option linter.all false
set_option maxRecDepth 100000
set_option maxHeartbeats 4000000
namespace K45W
open PySem PySem.Spec PyProof.Rows L2 K45R K45T K45
def PairAt (H : Hp) (v : V) (t : Int × Int) : Prop := ∃ a, v = .ref a ∧ H a = some (.tup [.int t.1, .int t.2])
def PairsAt (H : Hp) (pa : Addr) (ts : List (Int × Int)) : Prop := ∃ vs, H pa = some (.lst vs) ∧ Each (PairAt H) vs ts
theorem PairAt.same {H H' : Hp} {v : V} {t : Int × Int} (s : Same H H') (h : PairAt H v t) : PairAt H' v t := let ⟨a, e, q⟩ := h; ⟨a, e, s _ _ q⟩
theorem PairsAt.same {H H' : Hp} {pa : Addr} {ts : List (Int × Int)} (s : Same H H') (h : PairsAt H pa ts) : PairsAt H' pa ts := by
  obtain ⟨vs, e, q⟩ := h
  exact ⟨vs, s _ _ e, q.mono fun _ _ _ _ z => z.same s⟩
theorem PairAt.upd {H : Hp} {t : Addr} {xs ys : List V} {v : V} {x : Int × Int} (r : PairAt H v x) (e : H t = some (.lst xs)) : PairAt (upd H t (.lst ys)) v x := by
  obtain ⟨a, ev, ea⟩ := r
  refine ⟨a, ev, ?_⟩
  rw [upd_ne (fun q => by rw [q, e] at ea; cases ea)]
  exact ea
theorem tv_iv (L : List Nat) : tv L = iv (L.map fun t : Nat => (t : Int)) := by
  unfold tv iv
  rw [List.map_map]
  rfl
def sp_lv (C : Addr) : Sp := fun vs H Q _ => ∃ (xa pa : Addr) (qs ts : List (Int × Int)), vs = [.ref xa, .ref pa] ∧ RatL C H xa qs ∧ PairsAt H pa ts ∧ qs.length = ts.length ∧ ts.length ≤ 900 ∧
  (∀ (i : Nat) (q t : Int × Int), qs[i]? = some q → ts[i]? = some t → q.1 * t.2 = t.1 * q.2 ∧ Bd 3000 q.1 ∧ Bd 3000 q.2 ∧ Bd 3000 t.1 ∧ Bd 3000 t.2) ∧ Q (.bl true) H
def sp_lw : Sp := fun vs H Q _ => ∃ (wa pa la : Addr) (ws ps : List Int) (a : Int) (L : List Nat), vs = [.ref wa, .int a, .ref pa, .ref la] ∧ H wa = some (.lst (iv ws)) ∧ H pa = some (.lst (iv ps)) ∧ H la = some (.tup (tv L)) ∧ (∀ t ∈ L, t < ws.length) ∧ ps.length = ws.length ∧ Small ws ∧ Small ps ∧
  ∀ H' t, Same H H' → H' t = some (.tup [.int (bro (nth ws) (nth ps) L), .int (tot (nth ws) a L)]) → Q (.ref t) H'
def sp_lk (K : PySem.W.Frag) : Sp := fun vs H Q _ => ∃ (v : V) (wa : Addr) (ws : List Int) (a : Int), vs = [v, .ref wa, .int a] ∧ SAt K H v ws a ∧ H wa = some (.lst (iv ws)) ∧ Small ws ∧ ws.length ≤ 900 ∧ ∀ H', Same H H' → Q (.bl true) H'
def sp_lb (K : PySem.W.Frag) : Sp := fun vs H Q _ => ∃ (ba lt wa pa : Addr) (x : V) (ws ps : List Int) (a : Int) (L : List Nat), vs = [.ref ba, .ref wa, .int a, .ref pa] ∧ H ba = some (.tup [.ref lt, x]) ∧ H lt = some (.tup (tv L)) ∧ Fix (nth ws) (nth ps) a ws.length L ∧ RatAt (cR K) H x (bro (nth ws) (nth ps) L) (tot (nth ws) a L) ∧
  H wa = some (.lst (iv ws)) ∧ H pa = some (.lst (iv ps)) ∧ Nums ws ps a ∧ ∀ H', Same H H' → Q (.bl true) H'
section
variable {P : Program} {w : World} {K : PySem.W.Frag} {mg : Str → Option Value} {base : Heap} {k : Nat}
theorem ok_lv (T : Fx K mg) : OkD P w K mg base 3 (f_lv K) ["_law_x", "_law_pairs"] [] (sp_lv (cR K)) := by
  obtain ⟨⟨fdL, dsL, GL, bL, dL⟩, kpL⟩ := ok_ls (P := P) (w := w) (base := base) T
  refine okF T.d_lv sc_lv (fun _ _ _ _ _ _ us hl => match us, hl with | [_, _], _ => rfl) (fun vs H Q E h => ?_) (fun cdv A outer s H vs Q E hr h => ?_)
  · obtain ⟨xa, pa, qs, ts, rfl, _⟩ := h
    rfl
  obtain ⟨xa, pa, qs, ts, rfl, hx, hp, el, h9, hc, q⟩ := h
  refine ⟨_, (pss_cons (ps_if (PW.pt (pw_or (pt_not (pt_val (pe_callB call_isi (by rfl) T.m_isinstance boot_isinstance (pa_cons (pv 0) (pa_cons (pe_bltn (v := .ty "list") (by rfl) T.m_list (by decide +kernel) rfl) pa_nil)))))
        (pw_or1 (pt_cmpR op_ne (pe_callB call_len_seq (by rfl) T.m_len PySem.boot_len (pa_cons (pv 0) pa_nil)) (pe_callB call_len_seq (by rfl) T.m_len PySem.boot_len (pa_cons (pv 1) pa_nil)) (nomark _))))) pss_never pss_nil)
    (pss_cons (ps_for PassesOwn.never rfl (pi_range1 (by rfl) T.m_range (pa_cons (pe_callB call_len_seq (by rfl) T.m_len PySem.boot_len (pa_cons (pv 1) pa_nil)) pa_nil)) (pg_name (i := 2) sc_lv.nd rfl (.inl rfl))
      (pss_one (ps_if (pt_not (pt_val (pe_call GL hr (by rfl) T.g_ls kpL bL dL pass0 (pa_cons (pe_ix ix_list (pv 0) (pv 2) (fun _ _ => rfl)) (pa_cons (pe_ix ix_tup (pe_ix ix_list (pv 1) (pv 2) (fun _ _ => rfl)) pe_int (fun _ _ => rfl)) (pa_cons (pe_ix ix_tup (pe_ix ix_list (pv 1) (pv 2) (fun _ _ => rfl)) pe_int (fun _ _ => rfl)) pa_nil)))))) pss_never pss_nil)))
    (pss_one (ps_ret pe_bl)))), ?_⟩
  obtain ⟨vx, ex, hvx⟩ := id hx
  obtain ⟨vp, ep, hvp⟩ := id hp
  have l1 : vx.length = ts.length := hvx.1.trans el
  have l2 : vp.length = ts.length := hvp.1
  refine ⟨_, rfl, _, .ty "list", _, _, true, rfl, .ty "list", .base (.lst ex), kit_ty (by decide +kernel), _, rfl, ?_⟩
  refine iteF ?_
  refine ⟨_, rfl, xa, _, rfl, .inl (sq_l ex), _, rfl, pa, _, rfl, .inl (sq_l ep), rfl, _, rfl, ?_⟩
  refine iteFb (by rw [l1, l2, decide_eq_true rfl]; rfl) ?_
  refine ⟨_, rfl, pa, _, rfl, .inl (sq_l ep), _, rfl, by omega, by omega, for_range (lo := 0) (n := vp.length) (fun i σ H' => H' = H ∧ ∃ v2, σ = [some (.ref xa), some (.ref pa), v2]) ⟨rfl, none, rfl⟩ ?_ ?_⟩
  · rintro i σ H1 hi ⟨rfl, v2, rfl⟩
    rw [show (0 : Int) + (i : Int) = (i : Int) from Int.zero_add _]
    have ht : ts[i]? = some ts[i] := List.getElem?_eq_getElem (by omega)
    have hq : qs[i]? = some qs[i] := List.getElem?_eq_getElem (by omega)
    obtain ⟨v, hv, rv⟩ := hvx.get hq
    obtain ⟨u, hu, b, rfl, hb⟩ := hvp.get ht
    obtain ⟨c1, c2, c3, c4, c5⟩ := hc i _ _ hq ht
    refine ⟨_, rfl, _, rfl, xa, _, _, _, rfl, rfl, sq_l ex, atI_nat hv, _, rfl, _, rfl, pa, _, _, _, rfl, rfl, sq_l ep, atI_nat hu, b, _, _, .int ts[i].1, rfl, rfl, sq_t hb, (atI_nat (j := 0) rfl), _, rfl, _, rfl, pa, _, _, _, rfl, rfl, sq_l ep, atI_nat hu, b, _, _, .int ts[i].2, rfl, rfl, sq_t hb, (atI_nat (j := 1) rfl), ?_⟩
    refine ⟨v, ts[i].1, ts[i].2, qs[i].1, qs[i].2, rfl, rv, c2, c3, c4, c5, c1, ?_⟩
    refine ⟨_, rfl, ?_⟩
    exact iteF ⟨rfl, _, rfl⟩
  · rintro σ H1 ⟨rfl, v2, rfl⟩
    exact q
theorem ok_lw (T : Fx K mg) : OkD P w K mg base 1 (f_lw K) ["_law_weights", "_law_aside", "_law_prices", "_law_lot_here"] [] sp_lw := by
  refine okF T.d_lw sc_lw (fun _ _ _ _ _ _ us hl => match us, hl with | [_, _, _, _], _ => rfl) (fun vs H Q E h => ?_) (fun cdv A outer s H vs Q E hr h => ?_)
  · obtain ⟨wa, pa, la, ws, ps, a, L, rfl, _⟩ := h
    rfl
  obtain ⟨wa, pa, la, ws, ps, a, L, rfl, hw, hp, hL, hlt, el, sw, sp, q⟩ := h
  refine ⟨_, (pss_cons (ps_set (i := 4) sc_lw.nd rfl (.inl rfl) pe_int)
    (pss_cons (ps_set (i := 5) sc_lw.nd rfl (.inl rfl) (pv 1))
    (pss_cons (ps_for PassesOwn.never rfl (pi_tup (pv 3)) (pg_name (i := 6) sc_lw.nd rfl (.inl rfl))
      (pss_cons (ps_set (i := 4) sc_lw.nd rfl (.inl rfl) (pe_op op_add (pv 4) (pe_op op_mulW (pe_ix ix_list (pv 0) (pv 6) (fun _ _ => rfl)) (pe_ix ix_list (pv 2) (pv 6) (fun _ _ => rfl)))))
    (pss_one (ps_set (i := 5) sc_lw.nd rfl (.inl rfl) (pe_op op_add (pv 5) (pe_ix ix_list (pv 0) (pv 6) (fun _ _ => rfl)))))))
    (pss_one (ps_ret (pe_tup (pa_cons (pv 4) (pa_cons (pv 5) pa_nil)))))))), ?_⟩
  refine ⟨_, rfl, _, rfl, la, rfl, ⟨_, sq_t hL⟩, for_it (walk_tup (K := K) (a := la) (xs := tv L)) (fun i σ H' => H' = H ∧ ∃ v6, σ = [some (.ref wa), some (.int a), some (.ref pa), some (.ref la), some (.int (bro (nth ws) (nth ps) (L.take i))), some (.int (tot (nth ws) a (L.take i))), v6])
    ⟨rfl, none, by rw [List.take_zero]; unfold bro tot; rw [sm_nil, sm_nil, Int.add_zero]; rfl⟩ (fun i σ H' hi ⟨e, _⟩ => by rw [e]; exact sq_t hL) ?_ ?_⟩
  · rintro i x σ H1 H2 hi ⟨rfl, v6, rfl⟩ ⟨rfl, hx⟩
    obtain ⟨t, ht, rfl⟩ := tv_at hx
    have tn := hlt t (List.mem_of_getElem? ht)
    have gw : ws[t]? = some (nth ws t) := nth_get tn
    have gp : ps[t]? = some (nth ps t) := nth_get (by omega)
    have eT : L.take (i + 1) = L.take i ++ [t] := by rw [List.take_add_one, ht]; rfl
    refine ⟨_, rfl, _, rfl, _, rfl, wa, _, _, _, rfl, rfl, sq_l hw, atI_nat (iv_get gw), _, rfl, _, rfl, pa, _, _, _, rfl, rfl, sq_l hp, atI_nat (iv_get gp), _, _, rfl, rfl, wide_mul (small_nth sw t) (small_nth sp t) (by decide) (by decide) (by decide), _, _, rfl, rfl, ?_⟩
    refine ⟨_, rfl, _, rfl, _, rfl, wa, _, _, _, rfl, rfl, sq_l hw, atI_nat (iv_get gw), _, _, rfl, rfl, ?_⟩
    refine ⟨rfl, some (.int (t : Int)), ?_⟩
    have e1 : bro (nth ws) (nth ps) (L.take (i + 1)) = bro (nth ws) (nth ps) (L.take i) + nth ws t * nth ps t := by rw [eT]; unfold bro; rw [sm_append, sm_one]
    have e2 : tot (nth ws) a (L.take (i + 1)) = tot (nth ws) a (L.take i) + nth ws t := by rw [eT]; unfold tot; rw [sm_append, sm_one]; omega
    rw [e1, e2]
    rfl
  · rintro σ H1 ⟨rfl, v6, rfl⟩
    rw [tv_len, List.take_length]
    refine ⟨_, rfl, _, rfl, (by show 2 ≤ sizeLine; decide), fun t nt => ?_⟩
    exact q _ t (same_upd nt) upd_same
theorem ok_lk (T : Fx K mg) : OkD P w K mg base 3 (f_lk K) ["_law_chain", "_law_weights", "_law_aside"] [] (sp_lk K) := by
  obtain ⟨⟨fdI, dsI, GI, bI, dI⟩, kpI⟩ := (ok_li (P := P) (w := w) (base := base) T).mono (k := 2) (by decide)
  obtain ⟨⟨fdL, dsL, GL, bL, dL⟩, kpL⟩ := ok_lt (P := P) (w := w) (base := base) T
  refine okF T.d_lk sc_lk (fun _ _ _ _ _ _ us hl => match us, hl with | [_, _, _], _ => rfl) (fun vs H Q E h => ?_) (fun cdv A outer s H vs Q E hr h => ?_)
  · obtain ⟨v, wa, ws, a, rfl, _⟩ := h
    rfl
  obtain ⟨v, wa, ws, a, rfl, hS, hw, sw, h9, q⟩ := h
  refine ⟨_, (pss_cons (ps_set (i := 3) sc_lk.nd rfl (.inl rfl) (pe_callB call_len_seq (by rfl) T.m_len PySem.boot_len (pa_cons (pv 1) pa_nil)))
    (pss_cons (ps_if (PW.pt (pw_or (pt_not (pt_val (pe_callB call_isi (by rfl) T.m_isinstance boot_isinstance (pa_cons (pv 0) (pa_cons (pe_glob (v := .ref (cS K)) rfl T.g_Stepping rfl) pa_nil)))))
        (pw_or (pt_not (pt_val (pe_call GI hr (by rfl) T.g_li kpI bI dI pass0 (pa_cons (pe_fld (pv 0) rfl) pa_nil)))) (pw_or1 (pt_cmpR op_ne (pe_fld (pv 0) rfl) (pv 3) (nomark _)))))) pss_never pss_nil)
    (pss_cons (ps_if (PW.pt (pw_or (pt_not (pt_val (pe_call GI hr (by rfl) T.g_li kpI bI dI pass0 (pa_cons (pe_fld (pv 0) rfl) pa_nil)))) (pw_or (pt_cmpR op_ne (pe_fld (pv 0) rfl) (pv 2) (nomark _))
        (pw_or1 (pt_not (pt_val (pe_call GL hr (by rfl) T.g_lt kpL bL dL pass0 (pa_cons (pe_fld (pv 0) rfl) (pa_cons (pv 1) pa_nil))))))))) pss_never pss_nil)
    (pss_cons (ps_if (pt_not (pt_val (pe_call GL hr (by rfl) T.g_lt kpL bL dL pass0 (pa_cons (pe_fld (pv 0) rfl) (pa_cons
        (pe_lc (own := [("_law_weight", 5)]) (g := gName 5) (tt := tYes) rfl sc_lk.nd (pi_list (pv 1)) (blkOk_by (N := ns_lk) (sc := defScope s_lk) (by decide +kernel)) (fun _ _ _ _ _ => pg_name (i := 5) sc_lk.nd rfl (.inl rfl) (.inr rfl)) (fun _ _ _ _ _ => pts_nil) (fun _ _ _ _ _ => pv 2)) pa_nil))))) pss_never pss_nil)
    (pss_cons (ps_if (PW.pt (pw_or (pt_not (pt_val (pe_callB call_isi (by rfl) T.m_isinstance boot_isinstance (pa_cons (pe_fld (pv 0) rfl) (pa_cons (pe_bltn (v := .ty "tuple") (by rfl) T.m_tuple (by decide +kernel) rfl) pa_nil)))))
        (pw_or1 (pt_cmpR op_ne (pe_callB call_len_seq (by rfl) T.m_len PySem.boot_len (pa_cons (pe_fld (pv 0) rfl) pa_nil)) (pv 3) (nomark _))))) pss_never pss_nil)
    (pss_cons (ps_for PassesOwn.never rfl (pi_range1 (by rfl) T.m_range (pa_cons (pv 3) pa_nil)) (pg_name (i := 4) sc_lk.nd rfl (.inr rfl))
      (pss_one (ps_if (pt_not (pt_val (pe_call GL hr (by rfl) T.g_lt kpL bL dL pass0 (pa_cons (pe_ix ix_tup (pe_fld (pv 0) rfl) (pv 4) (fun _ _ => rfl)) (pa_cons
        (pe_lc (own := [("_law_j", 6)]) (g := gName 6) (tt := tYes) rfl sc_lk.nd (pi_range1 (by rfl) T.m_range (pa_cons (pv 3) pa_nil)) (blkOk_by (N := ns_lk) (sc := defScope s_lk) (by decide +kernel)) (fun _ _ _ _ _ => pg_name (i := 6) sc_lk.nd rfl (.inl rfl) (.inr rfl)) (fun _ _ _ _ _ => pts_nil)
          (fun _ _ _ _ _ => pe_op op_mulW (pe_ix (ixL K) (pv 1) (pv 6) (fun _ _ => rfl)) (pe_callTy call_int1 (by rfl) T.m_int (by decide +kernel) (pa_cons (pe_cmpR op_ne (pv 6) (pv 4) (nomark _)) pa_nil)))) pa_nil))))) pss_never pss_nil)))
    (pss_one (ps_ret pe_bl)))))))), ?_⟩
  obtain ⟨p, dx, fa, ta, le, ss, rfl, f⟩ := id hS
  have cl := T.c_Stepping
  refine ⟨_, rfl, wa, _, rfl, .inl (sq_l hw), ?_⟩
  rw [iv_len]
  refine ⟨_, rfl, _, .ref (cS K), _, _, true, rfl, .own _, .base (.ins f.ob cl T.ic_Stepping T.i_get T.i_tk T.io_Stepping), T.q_SS, _, rfl, ?_⟩
  refine iteF ?_
  refine ⟨_, rfl, p, _, dx, _, _, rfl, f.ob, cl, T.n_Stepping_many, sF_many, _, rfl, _, rfl, ?_⟩
  refine iteF ?_
  refine ⟨_, rfl, p, _, dx, _, _, rfl, f.ob, cl, T.n_Stepping_many, sF_many, _, rfl, rfl, _, rfl, ?_⟩
  refine iteFb (by rw [decide_eq_true rfl]; rfl) ?_
  refine ⟨_, rfl, p, _, dx, _, _, rfl, f.ob, cl, T.n_Stepping_aside, sF_aside, _, rfl, _, rfl, ?_⟩
  refine iteF ?_
  refine ⟨_, rfl, p, _, dx, _, _, rfl, f.ob, cl, T.n_Stepping_aside, sF_aside, _, rfl, rfl, _, rfl, ?_⟩
  refine iteFb (by rw [decide_eq_true rfl]; rfl) ?_
  refine ⟨_, rfl, p, _, dx, _, _, rfl, f.ob, cl, T.n_Stepping_first, sF_first, _, rfl, fa, wa, ws, rfl, f.first, .inl hw, h9, _, rfl, ?_⟩
  refine iteF ?_
  refine ⟨_, rfl, p, _, dx, _, _, rfl, f.ob, cl, T.n_Stepping_leaves, sF_leaves, ?_⟩
  refine ⟨_, rfl, wa, rfl, ⟨_, sq_l hw⟩, fun D nD => lc_list (K := K) (a := wa) (xs := iv ws) (fun j H' => Same H H' ∧ H' D = some (.lst (iv (List.replicate j a)))) ⟨same_upd nD, upd_same⟩ (fun j H' hj ⟨s, _⟩ => sq_l (s _ _ hw)) ?_ ?_⟩
  · rintro j x H1 hx ⟨s1, eD⟩
    have hj := (List.getElem?_eq_some_iff.mp hx).1
    rw [iv_len] at hj
    refine ⟨rfl, _, rfl, ?_⟩
    refine ⟨_, eD, ?_, fun b o e => ?_, ?_⟩
    · rw [iv_len, List.length_replicate]
      exact small1000 (by omega)
    · rw [upd_ne (ne_of_none e nD)]
      exact s1 _ _ e
    · rw [upd_same, List.replicate_succ', iv_app]
      rfl
  rintro H1 ⟨s1, eD⟩
  rw [iv_len] at eD
  have f1 := f.same s1
  refine ⟨le, D, lvs ws a, rfl, f1.leaves, .inl eD, by unfold lvs; rw [List.length_replicate]; exact h9, _, rfl, ?_⟩
  refine iteF ?_
  refine ⟨_, rfl, p, _, dx, _, _, rfl, f1.ob, cl, T.n_Stepping_steps, sF_steps, _, .ty "tuple", _, _, true, rfl, .ty "tuple", .base (.tup f1.steps), kit_ty (by decide +kernel), _, rfl, ?_⟩
  refine iteF ?_
  have lss : ss.length = ws.length := f.rows.1.trans srows_len
  refine ⟨_, rfl, p, _, dx, _, _, rfl, f1.ob, cl, T.n_Stepping_steps, sF_steps, ta, _, rfl, .inr (sq_t f1.steps), _, rfl, rfl, _, rfl, ?_⟩
  refine iteFb (by rw [lss, decide_eq_true rfl]; rfl) ?_
  refine ⟨_, rfl, _, rfl, by omega, by omega, for_range (lo := 0) (n := ws.length) (fun i σ H' => ∃ v4, σ = [some (.ref p), some (.ref wa), some (.int a), some (.int (ws.length : Int)), v4, none, none] ∧ Same H H') ⟨none, rfl, s1⟩ ?_ ?_⟩
  · rintro i σ H2 hi ⟨v4, rfl, s2⟩
    rw [show (0 : Int) + (i : Int) = (i : Int) from Int.zero_add _]
    have f2 := f.same s2
    obtain ⟨vr, hvr, ar, rfl, har⟩ := f2.rows.get (srows_get hi)
    refine ⟨_, rfl, p, _, dx, _, _, rfl, f2.ob, cl, T.n_Stepping_steps, sF_steps, _, rfl, ta, _, _, _, rfl, rfl, sq_t f2.steps, atI_nat hvr, ?_⟩
    refine ⟨_, rfl, _, rfl, by omega, by omega, fun F nF => lc_range (lo := 0) (n := ws.length) (fun j H' => Same H2 H' ∧ H' F = some (.lst (iv ((srow ws i).take j)))) ⟨same_upd nF, upd_same⟩ ?_ ?_⟩
    · rintro j H3 hj ⟨s3, eF⟩
      rw [show (0 : Int) + (j : Int) = (j : Int) from Int.zero_add _]
      have gw : ws[j]? = some (nth ws j) := nth_get hj
      refine ⟨rfl, ?_⟩
      refine ⟨_, rfl, _, rfl, wa, _, _, _, rfl, rfl, sq_l (s3 _ _ (s2 _ _ hw)), atI_nat (iv_get gw), _, rfl, _, rfl, rfl, .inr ⟨_, rfl, _, _, rfl, rfl, wide_mul (small_nth sw j) (b := 2) ?_ (by decide) (by decide) (by decide), ?_⟩⟩
      · split <;> decide
      refine ⟨_, eF, ?_, fun b o e => ?_, ?_⟩
      · rw [iv_len, List.length_take]
        exact small1000 (by rw [srow_len]; omega)
      · rw [upd_ne (ne_of_none e nF)]
        exact s3 _ _ e
      · rw [upd_same, List.take_add_one, srow_get hj, iv_app]
        congr 3
        show [V.int (nth ws j * if (!decide (V.int (j : Int) = V.int (i : Int))) = true then 1 else 0)] = [V.int (if j = i then 0 else nth ws j)]
        by_cases c : j = i
        · subst c
          rw [decide_eq_true rfl, if_pos rfl]
          simp
        · have ne : ¬ (V.int (j : Int) = V.int (i : Int)) := fun e => by cases e; omega
          rw [decide_eq_false ne, if_neg c]
          simp
    rintro H3 ⟨s3, eF⟩
    rw [List.take_of_length_le (by rw [srow_len]; omega)] at eF
    refine ⟨ar, F, srow ws i, rfl, s3 _ _ har, .inl eF, by rw [srow_len]; exact h9, _, rfl, ?_⟩
    exact iteF ⟨_, rfl, s2.trans s3⟩
  · rintro σ H2 ⟨v4, rfl, s2⟩
    exact q _ s2
end
end K45W
end JK45Help2
section JK45Help3
set_option Elab.async false
set_option linter.all false
set_option maxRecDepth 100000
set_option maxHeartbeats 4000000
namespace K45W
open PySem PySem.Spec PyProof.Rows L2 K45R K45T K45
section
variable {P : Program} {w : World} {K : PySem.W.Frag} {mg : Str → Option Value} {base : Heap} {k : Nat}
theorem ok_lb (T : Fx K mg) : OkD P w K mg base 3 (f_lb K) ["_law_best", "_law_weights", "_law_aside", "_law_prices"] [] (sp_lb K) := by
  obtain ⟨⟨fdI, dsI, GI, bI, dI⟩, kpI⟩ := (ok_li (P := P) (w := w) (base := base) T).mono (k := 2) (by decide)
  obtain ⟨⟨fdL, dsL, GL, bL, dL⟩, kpL⟩ := ok_lt (P := P) (w := w) (base := base) T
  obtain ⟨⟨fdS, dsS, GS, bS, dS⟩, kpS⟩ := ok_ls (P := P) (w := w) (base := base) T
  obtain ⟨⟨fdW, dsW, GW, bW, dW⟩, kpW⟩ := (ok_lw (P := P) (w := w) (base := base) T).mono (k := 2) (by decide)
  refine okF T.d_lb sc_lb (fun _ _ _ _ _ _ us hl => match us, hl with | [_, _, _, _], _ => rfl) (fun vs H Q E h => ?_) (fun cdv A outer s H vs Q E hr h => ?_)
  · obtain ⟨ba, lt, wa, pa, x, ws, ps, a, L, rfl, _⟩ := h
    rfl
  obtain ⟨ba, lt, wa, pa, x, ws, ps, a, L, rfl, hb, hl, fx, rx, hw, hp, z, q⟩ := h
  refine ⟨_, (pss_cons (ps_if (PW.pt (pw_or (pt_not (pt_val (pe_callB call_isi (by rfl) T.m_isinstance boot_isinstance (pa_cons (pv 0) (pa_cons (pe_bltn (v := .ty "tuple") (by rfl) T.m_tuple (by decide +kernel) rfl) pa_nil)))))
        (pw_or (pt_cmpR op_ne (pe_callB call_len_seq (by rfl) T.m_len PySem.boot_len (pa_cons (pv 0) pa_nil)) pe_int (nomark _))
        (pw_or1 (pt_not (pt_val (pe_callB call_isi (by rfl) T.m_isinstance boot_isinstance (pa_cons (pe_ix ix_tup (pv 0) pe_int (fun _ _ => rfl)) (pa_cons (pe_glob (v := .ref (cR K)) rfl T.g_Ratio rfl) pa_nil))))))))) pss_never pss_nil)
    (pss_cons (ps_if (PW.pt (pw_or (pt_not (pt_val (pe_call GI hr (by rfl) T.g_li kpI bI dI pass0 (pa_cons (pe_fld (pe_ix ix_tup (pv 0) pe_int (fun _ _ => rfl)) rfl) pa_nil)))) (pw_or (pt_not (pt_val (pe_call GI hr (by rfl) T.g_li kpI bI dI pass0 (pa_cons (pe_fld (pe_ix ix_tup (pv 0) pe_int (fun _ _ => rfl)) rfl) pa_nil))))
        (pw_or1 (pt_cmpR op_lt (pe_fld (pe_ix ix_tup (pv 0) pe_int (fun _ _ => rfl)) rfl) pe_int (nomark _)))))) pss_never pss_nil)
    (pss_cons (ps_set (i := 4) sc_lb.nd rfl (.inl rfl) (pe_callTy call_tuple_of (by rfl) T.m_tuple (by decide +kernel) (pa_cons
        (pe_lc (own := [("_law_k", 6)]) (g := gName 6) rfl sc_lb.nd (pi_range1 (by rfl) T.m_range (pa_cons (pe_callB call_len_seq (by rfl) T.m_len PySem.boot_len (pa_cons (pv 3) pa_nil)) pa_nil)) (blkOk_by (N := ns_lb) (sc := defScope s_lb) (by decide +kernel)) (fun _ _ _ _ _ => pg_name (i := 6) sc_lb.nd rfl (.inl rfl) (.inr rfl))
          (fun _ _ _ _ _ => pts_one (pt_cmpR op_gt (pe_op op_mulW (pe_ix (ixL K) (pv 3) (pv 6) (fun _ _ => rfl)) (pFld K (pe_ix (ixT K) (pv 0) pe_int (fun _ _ => rfl)) rfl)) (pFld K (pe_ix (ixT K) (pv 0) pe_int (fun _ _ => rfl)) rfl) (nomark _))) (fun _ _ _ _ _ => pv 6)) pa_nil)))
    (pss_cons (ps_set (i := 5) sc_lb.nd rfl (.inl rfl) (pe_call GW hr (by rfl) T.g_lw kpW bW dW pass0 (pa_cons (pv 1) (pa_cons (pv 2) (pa_cons (pv 3) (pa_cons (pv 4) pa_nil))))))
    (pss_one (ps_ret (pe_and (pe_call GL hr (by rfl) T.g_lt kpL bL dL pass0 (pa_cons (pe_ix ix_tup (pv 0) pe_int (fun _ _ => rfl)) (pa_cons (pv 4) pa_nil)))
        (pe_one (pe_call GS hr (by rfl) T.g_ls kpS bS dS pass0 (pa_cons (pe_ix ix_tup (pv 0) pe_int (fun _ _ => rfl)) (pa_cons (pe_ix ix_tup (pv 5) pe_int (fun _ _ => rfl)) (pa_cons (pe_ix ix_tup (pv 5) pe_int (fun _ _ => rfl)) pa_nil)))))))))))), ?_⟩
  obtain ⟨⟨b, dx, rfl, eb⟩, pd⟩ := id rx
  have c := T.c_Ratio
  have ft := rF_top (bro (nth ws) (nth ps) L) (tot (nth ws) a L)
  have fb := rF_bot (bro (nth ws) (nth ps) L) (tot (nth ws) a L)
  have pb := rB_pos (n := bro (nth ws) (nth ps) L) pd
  have n8 := z.n8
  have el := z.el
  have lL : L.length ≤ ws.length := by rw [fx]; exact lotq_len
  have tb := tot_bd (L := L) z.sw z.sa (by omega)
  have bb := bro_bd (L := L) z.sw z.sp (by omega)
  have g0 : atI [V.ref lt, V.ref b] (0 : Int) = some (V.ref lt) := atI_nat (j := 0) rfl
  have g1 : atI [V.ref lt, V.ref b] (1 : Int) = some (V.ref b) := atI_nat (j := 1) rfl
  refine ⟨_, rfl, _, .ty "tuple", _, _, true, rfl, .ty "tuple", .base (.tup hb), kit_ty (by decide +kernel), _, rfl, ?_⟩
  refine iteF ?_
  refine ⟨_, rfl, ba, _, rfl, .inr (sq_t hb), rfl, _, rfl, ?_⟩
  refine iteFb (by rfl) ?_
  refine ⟨_, rfl, ba, _, _, _, rfl, rfl, sq_t hb, g1, _, .ref (cR K), _, _, true, rfl, .own _, ty_rat T eb, T.q_RR, _, rfl, ?_⟩
  refine iteF ?_
  refine ⟨_, rfl, ba, _, _, _, rfl, rfl, sq_t hb, g1, b, _, dx, _, _, rfl, eb, c, T.n_Ratio_top, ft, _, rfl, _, rfl, ?_⟩
  refine iteF ?_
  refine ⟨_, rfl, ba, _, _, _, rfl, rfl, sq_t hb, g1, b, _, dx, _, _, rfl, eb, c, T.n_Ratio_bottom, fb, _, rfl, _, rfl, ?_⟩
  refine iteF ?_
  refine ⟨_, rfl, ba, _, _, _, rfl, rfl, sq_t hb, g1, b, _, dx, _, _, rfl, eb, c, T.n_Ratio_bottom, fb, _, _, rfl, rfl, _, rfl, ?_⟩
  refine iteFb (decide_eq_false (by omega)) ?_
  -- the lot that is due
  refine ⟨_, rfl, pa, _, rfl, .inl (sq_l hp), _, rfl, by rw [iv_len]; omega, by rw [iv_len]; omega, fun D nD => lc_range (lo := 0) (n := (iv ps).length) (fun j H' => Same H H' ∧ H' D = some (.lst (tv (lotq j (keepq (nth ws) (nth ps) a L))))) ⟨same_upd nD, upd_same⟩ ?_ ?_⟩
  · rintro j H1 hj ⟨s1, eD⟩
    rw [iv_len] at hj
    rw [show (0 : Int) + (j : Int) = (j : Int) from Int.zero_add _]
    have gp : ps[j]? = some (nth ps j) := nth_get hj
    refine ⟨rfl, ?_⟩
    refine ⟨_, rfl, _, rfl, pa, _, _, _, rfl, rfl, sq_l (s1 _ _ hp), atI_nat (iv_get gp), _, rfl, ba, _, _, _, rfl, rfl, sq_t (s1 _ _ hb), g1, b, _, dx, _, _, rfl, s1 _ _ eb, c, T.n_Ratio_bottom, fb, _, _, rfl, rfl, wide_mul (small_nth z.sp j) (tb.rB (n := bro (nth ws) (nth ps) L) pd) (by decide) (by decide) (by decide),
      _, rfl, ba, _, _, _, rfl, rfl, sq_t (s1 _ _ hb), g1, b, _, dx, _, _, rfl, s1 _ _ eb, c, T.n_Ratio_top, ft, _, _, rfl, rfl, _, rfl, ?_⟩
    have ek : decide (rT (bro (nth ws) (nth ps) L) (tot (nth ws) a L) < nth ps j * rB (bro (nth ws) (nth ps) L) (tot (nth ws) a L)) = keepq (nth ws) (nth ps) a L j := decide_eq_decide.mpr (r_lt_iff pd)
    have es : lotq (j + 1) (keepq (nth ws) (nth ps) a L) = if keepq (nth ws) (nth ps) a L j = true then lotq j (keepq (nth ws) (nth ps) a L) ++ [j] else lotq j (keepq (nth ws) (nth ps) a L) := lotq_succ
    by_cases cc : keepq (nth ws) (nth ps) a L j = true
    · refine iteTb (ek.trans cc) ?_
      refine ⟨_, rfl, _, eD, ?_, fun b o e => ?_, ?_⟩
      · rw [tv_len]
        have : (lotq j (keepq (nth ws) (nth ps) a L)).length ≤ j := lotq_len
        exact small1000 (by omega)
      · rw [upd_ne (ne_of_none e nD)]
        exact s1 _ _ e
      · rw [upd_same, es, if_pos cc, tv_app]
        rfl
    · refine iteFb (ek.trans (by simpa using cc)) ⟨s1, ?_⟩
      rw [es, if_neg cc]
      exact eD
  rintro H1 ⟨s1, eD⟩
  rw [iv_len, el] at eD
  have eD : H1 D = some (.lst (tv L)) := by rw [eD]; exact congrArg (fun l => some (HO.lst (tv l))) fx.symm
  refine ⟨D, _, rfl, .inl ⟨sq_l eD, fun U nU => ?_⟩⟩
  have sU : Same H1 (upd H1 U (.tup (tv L))) := same_upd nU
  have s2 := s1.trans sU
  refine ⟨_, rfl, _, rfl, _, rfl, _, rfl, wa, pa, U, ws, ps, a, L, rfl, s2 _ _ hw, s2 _ _ hp, upd_same, fun t ht => ?_, el, z.sw, z.sp, fun H3 R s3 eR => ?_⟩
  · rw [fx] at ht
    exact (lotq_mem.mp ht).1
  have s13 := s2.trans s3
  have rx3 := rx.same s13
  refine ⟨_, rfl, ba, _, _, _, rfl, rfl, sq_t (s13 _ _ hb), g0, _, rfl, lt, U, L.map fun t : Nat => (t : Int), rfl, by rw [s13 _ _ hl, tv_iv], .inr (by rw [s3 _ _ upd_same, tv_iv]), by rw [List.length_map]; omega, _, rfl, ?_⟩
  refine iteT ?_
  refine ⟨_, rfl, ba, _, _, _, rfl, rfl, sq_t (s13 _ _ hb), g1, _, rfl, R, _, _, _, rfl, rfl, sq_t eR, (atI_nat (j := 0) rfl), _, rfl, R, _, _, _, rfl, rfl, sq_t eR, (atI_nat (j := 1) rfl), ?_⟩
  exact ⟨.ref b, _, _, _, _, rfl, rx3, bb.le (by omega), tb.le (by omega), bb.le (by omega), tb.le (by omega), rfl, q _ s13⟩
/-! ### the drawn numbers -/
def sp_lc (K : PySem.W.Frag) : Sp := fun vs H Q _ => ∃ (sa : Addr) (ns : List Int) (p : Nat), vs = [.ref sa, .int (p : Int)] ∧ SqL K H sa (iv ns) ∧ ∀ i, Q (.int i) H
theorem ok_lc (T : Fx K mg) : OkD P w K mg base 1 (f_lc K) ["_law_script", "_law_place"] [] (sp_lc K) := by
  refine okF T.d_lc sc_lc (fun _ _ _ _ _ _ us hl => match us, hl with | [_, _], _ => rfl) (fun vs H Q E h => ?_) (fun cdv A outer s H vs Q E hr h => ?_)
  · obtain ⟨sa, ns, p, rfl, _⟩ := h
    rfl
  obtain ⟨sa, ns, p, rfl, hs, q⟩ := h
  refine ⟨_, (pss_cons (ps_if (pt_cmpR op_lt (pv 1) (pe_callB call_len_seq (by rfl) T.m_len PySem.boot_len (pa_cons (pv 0) pa_nil)) (nomark _)) (pss_one (ps_ret (pe_callTy call_int1 (by rfl) T.m_int (by decide +kernel) (pa_cons (pe_ix ix_list (pv 0) (pv 1) (fun _ _ => rfl)) pa_nil)))) pss_nil)
    (pss_one (ps_ret pe_int))), ?_⟩
  refine ⟨_, rfl, _, rfl, sa, _, rfl, .inl hs, _, _, rfl, rfl, _, rfl, ?_⟩
  refine ite2 (fun hc => ?_) (fun _ => q _)
  have hl : p < ns.length := by
    have := of_decide_eq_true hc
    rw [iv_len] at this
    omega
  exact ⟨_, rfl, _, rfl, sa, _, _, _, rfl, rfl, hs, atI_nat (iv_get (List.getElem?_eq_getElem hl)), .inl ⟨_, rfl, q _⟩⟩
def sp_lu : Sp := fun vs H Q _ => ∃ (ra : Addr) (ns : List Int), vs = [.ref ra] ∧ H ra = some (.lst (iv ns)) ∧ ns.length ≤ 900 ∧ ∀ H' t, Same H H' → H t = none → H' t = some (.lst (iv (ns.map fun x => 1 + x))) → Q (.ref t) H'
theorem ok_lu (T : Fx K mg) : OkD P w K mg base 1 (f_lu K) ["_law_row_here"] [] sp_lu := by
  refine okF T.d_lu sc_lu (fun _ _ _ _ _ _ us hl => match us, hl with | [_], _ => rfl) (fun vs H Q E h => ?_) (fun cdv A outer s H vs Q E hr h => ?_)
  · obtain ⟨ra, ns, rfl, _⟩ := h
    rfl
  obtain ⟨ra, ns, rfl, hs, h9, q⟩ := h
  refine ⟨_, pss_one (ps_ret (pe_lc (own := [("_law_number", 1)]) (g := gName 1) (tt := tYes) rfl sc_lu.nd (pi_list (pv 0)) (blkOk_by (N := ns_lu) (sc := defScope s_lu) (by decide +kernel)) (fun _ _ _ _ _ => pg_name (i := 1) sc_lu.nd rfl (.inl rfl) (.inr rfl)) (fun _ _ _ _ _ => pts_nil)
    (fun _ _ _ _ _ => pe_op op_add pe_int (pv 1)))), ?_⟩
  refine ⟨_, rfl, ra, rfl, ⟨_, sq_l hs⟩, fun D nD => lc_list (K := K) (a := ra) (xs := iv ns) (fun j H' => Same H H' ∧ H' D = some (.lst (iv ((ns.take j).map fun x => 1 + x)))) ⟨same_upd nD, upd_same⟩ (fun j H' hj ⟨s, _⟩ => sq_l (s _ _ hs)) ?_ ?_⟩
  · rintro j x H1 hx ⟨s1, eD⟩
    obtain ⟨y, hy, rfl⟩ := iv_at hx
    refine ⟨rfl, _, rfl, _, _, rfl, rfl, ?_⟩
    refine ⟨_, eD, ?_, fun b o e => ?_, ?_⟩
    · rw [iv_len, List.length_map, List.length_take]
      exact small1000 (by omega)
    · rw [upd_ne (ne_of_none e nD)]
      exact s1 _ _ e
    · rw [upd_same, List.take_add_one, hy, List.map_append, iv_app]
      rfl
  · rintro H1 ⟨s1, eD⟩
    rw [iv_len, List.take_length] at eD
    exact q H1 D s1 nD eD
end
end K45W
end JK45Help3
section JK45Draw
set_option Elab.async false
set_option linter.all false
set_option maxRecDepth 100000
set_option maxHeartbeats 4000000
namespace K45W
open PySem PySem.Spec PyProof.Rows L2 K45R K45T K45
def halve (b : Int) : Nat → Int
  | 0 => b
  | i + 1 => halve b i / 2
def sp_ll : Sp := fun vs H Q _ => ∃ (b : Int) (n : Nat), vs = [.int b, .int (n : Int)] ∧ n ≤ 900 ∧ ∀ H' t q, Same H H' → H' t = some (.tup (tv (lotq n q))) → Q (.ref t) H'
/-- numbers drawn below sizes -/
def Drawn (vs szs : List Int) : Prop := vs.length = szs.length ∧ ∀ (i : Nat) (v s : Int), vs[i]? = some v → szs[i]? = some s → 0 ≤ v ∧ v < s
theorem Drawn.nil : Drawn [] [] := ⟨rfl, fun i v s h => by simp at h⟩
theorem Drawn.snoc {vs szs : List Int} {v s : Int} (h : Drawn vs szs) (h0 : 0 ≤ v) (h1 : v < s) : Drawn (vs ++ [v]) (szs ++ [s]) := by
  obtain ⟨hl, h⟩ := h
  refine ⟨by simp [hl], fun i v' s' e1 e2 => ?_⟩
  by_cases c : i < vs.length
  · rw [List.getElem?_append_left c] at e1
    rw [List.getElem?_append_left (by omega)] at e2
    exact h i _ _ e1 e2
  · rw [List.getElem?_append_right (by omega)] at e1
    rw [List.getElem?_append_right (by omega)] at e2
    have e : i - vs.length = i - szs.length := by omega
    rw [e] at e1
    cases q : i - szs.length with
    | zero =>
      rw [q] at e1 e2
      cases e1; cases e2
      exact ⟨h0, h1⟩
    | succ z => rw [q] at e1; simp at e1
def sp_ld : Sp := fun vs H Q _ => ∃ (c : Int) (sa : Addr) (szs : List Int), vs = [.int c, .ref sa] ∧ H sa = some (.lst (iv szs)) ∧ (∀ s ∈ szs, 0 < s ∧ Bd 62 s) ∧ szs.length ≤ 900 ∧ ∀ H' t vs, Same H H' → H' t = some (.lst (iv vs)) → Drawn vs szs → Q (.ref t) H'
section
variable {P : Program} {w : World} {K : PySem.W.Frag} {mg : Str → Option Value} {base : Heap} {k : Nat}
theorem ok_ll (T : Fx K mg) : OkD P w K mg base 1 (f_ll K) ["_law_bits", "_law_many"] [] sp_ll := by
  refine okF T.d_ll sc_ll (fun _ _ _ _ _ _ us hl => match us, hl with | [_, _], _ => rfl) (fun vs H Q E h => ?_) (fun cdv A outer s H vs Q E hr h => ?_)
  · obtain ⟨b, n, rfl, _⟩ := h
    rfl
  obtain ⟨b, n, rfl, h9, q⟩ := h
  refine ⟨_, (pss_cons (ps_set (i := 2) sc_ll.nd rfl (.inl rfl) (pe_lst pa_nil))
    (pss_cons (ps_set (i := 3) sc_ll.nd rfl (.inl rfl) (pe_callTy call_int1 (by rfl) T.m_int (by decide +kernel) (pa_cons (pv 0) pa_nil)))
    (pss_cons (ps_for PassesOwn.never rfl (pi_range1 (by rfl) T.m_range (pa_cons (pv 1) pa_nil)) (pg_name (i := 4) sc_ll.nd rfl (.inl rfl))
      (pss_cons (ps_if (pt_cmpR op_eq (pe_op op_mod (pv 3) pe_int) pe_int (nomark _)) (pss_one (ps_expr (pe_bm PySem.F.plainAttrs_list PySem.F.slot_list_append PySem.F.type_list_append mt_append (pv 2) (pa_cons (pv 4) pa_nil)))) pss_nil)
    (pss_one (ps_set (i := 3) sc_ll.nd rfl (.inl rfl) (pe_op op_fdiv (pv 3) pe_int)))))
    (pss_one (ps_ret (pe_callTy call_tuple_of (by rfl) T.m_tuple (by decide +kernel) (pa_cons (pv 2) pa_nil))))))), ?_⟩
  refine ⟨Nat.zero_le _, fun D nD => ?_⟩
  refine ⟨_, rfl, .inl ⟨b, rfl, ?_⟩⟩
  refine ⟨_, rfl, _, rfl, by omega, by omega, for_range (lo := 0) (n := n) (fun i σ H' => ∃ v4, σ = [some (.int b), some (.int (n : Int)), some (.ref D), some (.int (halve b i)), v4] ∧ Same H H' ∧ H' D = some (.lst (tv (lotq i fun t => decide (halve b t % 2 = 1))))) ⟨none, rfl, same_upd nD, upd_same⟩ ?_ ?_⟩
  · rintro i σ H1 hi ⟨v4, rfl, s1, eD⟩
    rw [show (0 : Int) + (i : Int) = (i : Int) from Int.zero_add _]
    have es : lotq (i + 1) (fun t => decide (halve b t % 2 = 1)) = if decide (halve b i % 2 = 1) = true then lotq i (fun t => decide (halve b t % 2 = 1)) ++ [i] else lotq i (fun t => decide (halve b t % 2 = 1)) := lotq_succ
    refine ⟨_, rfl, _, _, rfl, rfl, (by show (0 : Int) < 2; decide), rfl, _, rfl, ?_⟩
    by_cases c : halve b i % 2 = 1
    · refine iteTb (decide_eq_true (show V.int (halve b i % 2) = V.int 1 by rw [c])) ?_
      refine ⟨_, rfl, .inl ⟨rfl, _, .inl (.inl eD)⟩, _, rfl, D, _, _, rfl, rfl, eD, ?_, ?_⟩
      · rw [tv_len]
        have : (lotq i (fun t => decide (halve b t % 2 = 1))).length ≤ i := lotq_len
        exact small1000 (by omega)
      refine ⟨_, rfl, _, _, rfl, rfl, ⟨by decide, by decide⟩, ?_⟩
      refine ⟨_, rfl, fun b o e => ?_, ?_⟩
      · rw [upd_ne (ne_of_none e nD)]
        exact s1 _ _ e
      · rw [upd_same, es, if_pos (decide_eq_true c), tv_app]
        rfl
    · refine iteFb (decide_eq_false (fun e => c (V.int.inj e))) ?_
      refine ⟨_, rfl, _, _, rfl, rfl, ⟨by decide, by decide⟩, ?_⟩
      refine ⟨_, rfl, s1, ?_⟩
      rw [es, if_neg (by simpa using c)]
      exact eD
  · rintro σ H1 ⟨v4, rfl, s1, eD⟩
    refine ⟨_, rfl, D, _, rfl, .inl ⟨sq_l eD, fun U nU => ?_⟩⟩
    exact q _ U _ (s1.trans (same_upd nU)) upd_same
theorem ok_ld (T : Fx K mg) : OkD P w K mg base 1 (f_ld K) ["_law_cell_here", "_law_sizes"] [] sp_ld := by
  refine okF T.d_ld sc_ld (fun _ _ _ _ _ _ us hl => match us, hl with | [_, _], _ => rfl) (fun vs H Q E h => ?_) (fun cdv A outer s H vs Q E hr h => ?_)
  · obtain ⟨c, sa, szs, rfl, _⟩ := h
    rfl
  obtain ⟨c, sa, szs, rfl, hs, hz, h9, q⟩ := h
  refine ⟨_, (pss_cons (ps_if (pt_cmpR op_eq (pv 0) pe_int (nomark _)) (pss_one (ps_ret (pe_lc (own := [("_law_size", 2)]) (g := gName 2) (tt := tYes) rfl sc_ld.nd (pi_list (pv 1)) (blkOk_by (N := ns_ld) (sc := defScope s_ld) (by decide +kernel)) (fun _ _ _ _ _ => pg_name (i := 2) sc_ld.nd rfl (.inl rfl) (.inr rfl)) (fun _ _ _ _ _ => pts_nil) (fun _ _ _ _ _ => pe_int)))) pss_nil)
    (pss_cons (ps_if (pt_cmpR op_ge (pv 0) (pe_op op_pow pe_int pe_int) (nomark _))
      (pss_cons (ps_set (i := 3) sc_ld.nd rfl (.inl rfl) (pe_op op_sub (pv 0) (pe_op op_pow pe_int pe_int)))
    (pss_cons (ps_set (i := 4) sc_ld.nd rfl (.inl rfl) (pe_lst pa_nil))
    (pss_cons (ps_for PassesOwn.never rfl (pi_list (pv 1)) (pg_name (i := 2) sc_ld.nd rfl (.inl rfl))
        (pss_cons (ps_expr (pe_bm PySem.F.plainAttrs_list PySem.F.slot_list_append PySem.F.type_list_append mt_append (pv 4) (pa_cons (pe_op op_mod (pe_callTy call_int1 (by rfl) T.m_int (by decide +kernel) (pa_cons (pv 3) pa_nil)) (pv 2)) pa_nil)))
    (pss_one (ps_set (i := 3) sc_ld.nd rfl (.inl rfl) (pe_op op_fdivW (pv 3) (pv 2))))))
    (pss_one (ps_ret (pv 4)))))) pss_nil)
    (pss_cons (ps_set (i := 4) sc_ld.nd rfl (.inl rfl) (pe_lst pa_nil))
    (pss_cons (ps_for PassesOwn.never rfl (pi_range1 (by rfl) T.m_range (pa_cons (pe_callB call_len_seq (by rfl) T.m_len PySem.boot_len (pa_cons (pv 1) pa_nil)) pa_nil)) (pg_name (i := 5) sc_ld.nd rfl (.inl rfl))
      (pss_cons (ps_set (i := 6) sc_ld.nd rfl (.inl rfl) (pe_op op_mod (pe_callTy call_int1 (by rfl) T.m_int (by decide +kernel) (pa_cons (pe_op op_add (pe_op op_mul (pv 0) pe_int) (pe_op op_mul (pe_op op_add (pv 5) pe_int) pe_int)) pa_nil)) pe_int))
    (pss_cons (ps_set (i := 6) sc_ld.nd rfl (.inl rfl) (pe_op op_mod (pe_callTy call_int1 (by rfl) T.m_int (by decide +kernel) (pa_cons (pe_op op_add (pe_op op_mul (pv 6) pe_int) (pe_op op_mul (pe_op op_add (pv 5) pe_int) pe_int)) pa_nil)) pe_int))
    (pss_cons (ps_set (i := 7) sc_ld.nd rfl (.inl rfl) (pe_op op_mod (pe_callTy call_int1 (by rfl) T.m_int (by decide +kernel) (pa_cons (pe_op op_add (pe_op op_mul (pv 0) pe_int) (pe_op op_mul (pe_op op_add (pv 5) pe_int) pe_int)) pa_nil)) pe_int))
    (pss_cons (ps_set (i := 7) sc_ld.nd rfl (.inl rfl) (pe_op op_mod (pe_callTy call_int1 (by rfl) T.m_int (by decide +kernel) (pa_cons (pe_op op_add (pe_op op_mul (pv 7) pe_int) (pv 6)) pa_nil)) pe_int))
    (pss_one (ps_expr (pe_bm PySem.F.plainAttrs_list PySem.F.slot_list_append PySem.F.type_list_append mt_append (pv 4) (pa_cons (pe_op op_mod (pe_callTy call_int1 (by rfl) T.m_int (by decide +kernel) (pa_cons (pe_op op_add (pe_op op_mul (pv 7) pe_int) (pv 6)) pa_nil)) (pe_ix ix_list (pv 1) (pv 5) (fun _ _ => rfl))) pa_nil)))))))))
    (pss_one (ps_ret (pv 4))))))), ?_⟩
  refine ⟨_, rfl, rfl, _, rfl, ?_⟩
  have drawEnd : ∀ {vs : List Int} {H1 : Hp} {F : Addr}, Same H H1 → H1 F = some (.lst (iv vs)) → Drawn vs szs → Q (.ref F) H1 := fun s e d => q _ _ _ s e d
  refine ite2 (fun _ => ?_) (fun _ => ?_)
  · refine ⟨_, rfl, sa, rfl, ⟨_, sq_l hs⟩, fun D nD => lc_list (K := K) (a := sa) (xs := iv szs) (fun j H' => Same H H' ∧ ∃ vs, H' D = some (.lst (iv vs)) ∧ Drawn vs (szs.take j)) ⟨same_upd nD, [], upd_same, by rw [List.take_zero]; exact .nil⟩ (fun j H' hj ⟨s, _⟩ => sq_l (s _ _ hs)) ?_ ?_⟩
    · rintro j x H1 hx ⟨s1, vs, eD, dr⟩
      obtain ⟨y, hy, rfl⟩ := iv_at hx
      have hy0 := hz y (List.mem_of_getElem? hy)
      refine ⟨rfl, _, eD, ?_, fun b o e => ?_, vs ++ [0], ?_, ?_⟩
      · have := dr.1
        rw [List.length_take] at this
        rw [iv_len]
        exact small1000 (by omega)
      · rw [upd_ne (ne_of_none e nD)]
        exact s1 _ _ e
      · rw [upd_same, iv_app]
        rfl
      · rw [List.take_add_one, hy]
        exact dr.snoc (by omega) hy0.1
    · rintro H1 ⟨s1, vs, eD, dr⟩
      rw [iv_len, List.take_length] at dr
      exact drawEnd s1 eD dr
  refine ⟨_, rfl, _, _, rfl, rfl, ⟨by decide, by decide, by decide⟩, _, _, rfl, rfl, _, rfl, ?_⟩
  refine ite2 (fun _ => ?_) (fun _ => ?_)
  · refine ⟨_, rfl, _, _, rfl, rfl, ⟨by decide, by decide, by decide⟩, _, _, rfl, rfl, ?_⟩
    refine ⟨Nat.zero_le _, fun F nF => ?_⟩
    have sF := same_upd (o := HO.lst []) nF
    refine ⟨_, rfl, sa, rfl, ⟨_, sq_l (sF _ _ hs)⟩, for_list (K := K) (a := sa) (xs := iv szs) (fun i σ H' => ∃ v2 l v5 v6 v7, σ = [some (.int c), some (.ref sa), v2, some (.int l), some (.ref F), v5, v6, v7] ∧ Same H H' ∧ ∃ vs, H' F = some (.lst (iv vs)) ∧ Drawn vs (szs.take i))
      ⟨none, _, none, none, none, rfl, sF, [], upd_same, by rw [List.take_zero]; exact .nil⟩ (fun i σ H' hi ⟨_, _, _, _, _, _, s, _⟩ => sq_l (s _ _ hs)) ?_ ?_⟩
    · rintro i x σ H1 hx ⟨v2, l, v5, v6, v7, rfl, s1, vs, eF, dr⟩
      obtain ⟨y, hy, rfl⟩ := iv_at hx
      obtain ⟨y0, yb⟩ := hz y (List.mem_of_getElem? hy)
      refine ⟨_, rfl, .inl ⟨rfl, _, .inl (.inl eF)⟩, _, rfl, .inl ⟨l, rfl, _, rfl, _, _, rfl, rfl, y0, F, _, _, rfl, rfl, eF, ?_, ?_⟩⟩
      · have := dr.1
        rw [List.length_take] at this
        rw [iv_len]
        exact small1000 (by omega)
      refine ⟨_, rfl, _, rfl, _, _, rfl, rfl, wide_div y0 yb (by decide) (by decide), ?_⟩
      refine ⟨_, _, _, _, _, rfl, fun b o e => ?_, vs ++ [l % y], ?_, ?_⟩
      · rw [upd_ne (ne_of_none e nF)]
        exact s1 _ _ e
      · rw [upd_same, iv_app]
        rfl
      · rw [List.take_add_one, hy]
        exact dr.snoc (Int.emod_nonneg _ (by omega)) (Int.emod_lt_of_pos _ y0)
    · rintro σ H1 ⟨v2, l, v5, v6, v7, rfl, s1, vs, eF, dr⟩
      rw [iv_len, List.take_length] at dr
      exact ⟨_, rfl, drawEnd s1 eF dr⟩
  refine ⟨Nat.zero_le _, fun F nF => ?_⟩
  have sF := same_upd (o := HO.lst []) nF
  refine ⟨_, rfl, sa, _, rfl, .inl (sq_l (sF _ _ hs)), _, rfl, by rw [iv_len]; omega, by rw [iv_len]; omega, for_range (lo := 0) (n := (iv szs).length) (fun i σ H' => ∃ v2 v3 v5 v6 v7, σ = [some (.int c), some (.ref sa), v2, v3, some (.ref F), v5, v6, v7] ∧ Same H H' ∧ ∃ vs, H' F = some (.lst (iv vs)) ∧ Drawn vs (szs.take i))
    ⟨none, none, none, none, none, rfl, sF, [], upd_same, by rw [List.take_zero]; exact .nil⟩ ?_ ?_⟩
  · rintro i σ H1 hi ⟨v2, v3, v5, v6, v7, rfl, s1, vs, eF, dr⟩
    rw [iv_len] at hi
    rw [show (0 : Int) + (i : Int) = (i : Int) from Int.zero_add _]
    have hy : szs[i]? = some szs[i] := List.getElem?_eq_getElem hi
    obtain ⟨y0, yb⟩ := hz szs[i] (List.mem_of_getElem? hy)
    have fin : ∀ x : Int, Same H (upd H1 F (.lst (iv vs ++ [.int (x % szs[i])]))) ∧ ∃ vs', (upd H1 F (.lst (iv vs ++ [.int (x % szs[i])]))) F = some (.lst (iv vs')) ∧ Drawn vs' (szs.take (i + 1)) := fun x => by
      refine ⟨fun b o e => ?_, vs ++ [x % szs[i]], ?_, ?_⟩
      · rw [upd_ne (ne_of_none e nF)]
        exact s1 _ _ e
      · rw [upd_same, iv_app]
        rfl
      · rw [List.take_add_one, hy]
        exact dr.snoc (Int.emod_nonneg _ (by omega)) (Int.emod_lt_of_pos _ y0)
    refine ⟨_, rfl, _, _, rfl, rfl, .inr (by decide), _, rfl, _, _, rfl, rfl, _, _, rfl, rfl, .inr (by decide), _, _, rfl, rfl, .inl ⟨_, rfl, _, _, rfl, rfl, (by show (0 : Int) < 2147483647; decide), ?_⟩⟩
    refine ⟨_, rfl, _, _, rfl, rfl, .inr (by decide), _, rfl, _, _, rfl, rfl, _, _, rfl, rfl, .inr (by decide), _, _, rfl, rfl, .inl ⟨_, rfl, _, _, rfl, rfl, (by show (0 : Int) < 2147483399; decide), ?_⟩⟩
    refine ⟨_, rfl, _, _, rfl, rfl, .inr (by decide), _, rfl, _, _, rfl, rfl, _, _, rfl, rfl, .inr (by decide), _, _, rfl, rfl, .inl ⟨_, rfl, _, _, rfl, rfl, (by show (0 : Int) < 2147483563; decide), ?_⟩⟩
    refine ⟨_, rfl, _, _, rfl, rfl, .inr (by decide), _, rfl, _, _, rfl, rfl, .inl ⟨_, rfl, _, _, rfl, rfl, (by show (0 : Int) < 2147483587; decide), ?_⟩⟩
    refine ⟨_, rfl, .inl ⟨rfl, _, .inl (.inl eF)⟩, _, rfl, _, _, rfl, rfl, .inr (by decide), _, rfl, _, _, rfl, rfl, .inl ⟨_, rfl, _, rfl, _, rfl, sa, _, _, _, rfl, rfl, sq_l (s1 _ _ hs), atI_nat (iv_get hy), _, _, rfl, rfl, y0, F, _, _, rfl, rfl, eF, ?_, ?_⟩⟩
    · have := dr.1
      rw [List.length_take] at this
      rw [iv_len]
      exact small1000 (by omega)
    exact ⟨_, _, _, _, _, rfl, fin _⟩
  · rintro σ H1 ⟨v2, v3, v5, v6, v7, rfl, s1, vs, eF, dr⟩
    rw [iv_len, List.take_length] at dr
    exact ⟨_, rfl, drawEnd s1 eF dr⟩
end
end K45W
end JK45Draw
section JK45Row
set_option Elab.async false
set_option linter.all false
set_option maxRecDepth 100000
set_option maxHeartbeats 4000000
namespace K45W
open PySem PySem.Spec PyProof.Rows L2 K45R K45T K45
def top18 : Int := 1000000000000000000
def rowszs (n : Nat) : List Int := 4 :: List.replicate n top18
theorem cut_one (xs : List V) : cutV xs (some 1) none = xs.drop 1 := by
  unfold cutV
  rw [show HT.sIx xs.length 0 (some 1) = min 1 xs.length from HT.sIx_nat xs.length 0 1, HT.sIx_none]
  cases xs with
  | nil => rfl
  | cons x r =>
    have e : min 1 (x :: r).length = 1 := by rw [List.length_cons]; omega
    rw [e]
    refine List.take_of_length_le ?_
    rw [List.length_drop]
    omega
def sp_lr : Sp := fun vs H Q _ => ∃ (c : Int) (n : Nat), vs = [.int c, .int (n : Int)] ∧ n ≤ 900 - 1 ∧ ∀ H' t ns, Same H H' → H' t = some (.lst (iv ns)) → ns.length = n → (∀ x ∈ ns, 0 ≤ x ∧ x < top18 - 1) → Q (.ref t) H'
section
variable {P : Program} {w : World} {K : PySem.W.Frag} {mg : Str → Option Value} {base : Heap} {k : Nat}
theorem ok_lr (T : Fx K mg) : OkD P w K mg base 2 (f_lr K) ["_law_cell_here", "_law_count"] [] sp_lr := by
  obtain ⟨⟨fdD, dsD, GD, bD, dD⟩, kpD⟩ := ok_ld (P := P) (w := w) (base := base) T
  refine okF T.d_lr sc_lr (fun _ _ _ _ _ _ us hl => match us, hl with | [_, _], _ => rfl) (fun vs H Q E h => ?_) (fun cdv A outer s H vs Q E hr h => ?_)
  · obtain ⟨c, n, rfl, _⟩ := h
    rfl
  obtain ⟨c, n, rfl, h9, q⟩ := h
  refine ⟨_, (pss_cons (ps_set (i := 2) sc_lr.nd rfl (.inl rfl) (pe_call GD hr (by rfl) T.g_ld kpD bD dD pass0 (pa_cons (pv 0) (pa_cons (pe_op op_cat (pe_lst (pa_cons pe_int pa_nil))
        (pe_lc (own := [("_law_k", 4)]) (g := gName 4) (tt := tYes) rfl sc_lr.nd (pi_range1 (by rfl) T.m_range (pa_cons (pv 1) pa_nil)) (blkOk_by (N := ns_lr) (sc := defScope s_lr) (by decide +kernel)) (fun _ _ _ _ _ => pg_name (i := 4) sc_lr.nd rfl (.inl rfl) (.inr rfl)) (fun _ _ _ _ _ => pts_nil) (fun _ _ _ _ _ => pe_op op_pow pe_int pe_int))) pa_nil))))
    (pss_cons (ps_set (i := 3) sc_lr.nd rfl (.inr rfl) (pe_ix ix_list (pe_lst (pa_cons pe_int (pa_cons pe_int (pa_cons (pe_op op_pow pe_int pe_int) (pa_cons (pe_op op_sub (pe_op op_pow pe_int pe_int) pe_int) pa_nil))))) (pe_ix ix_list (pv 2) pe_int (fun _ _ => rfl)) (fun _ _ => rfl)))
    (pss_one (ps_ret (pe_lc (own := [("_law_value", 5)]) (g := gName 5) (tt := tYes) rfl sc_lr.nd (pi_list (pe_slice sl_list (pv 2) (po_some pe_int) po_none)) (blkOk_by (N := ns_lr) (sc := defScope s_lr) (by decide +kernel)) (fun _ _ _ _ _ => pg_name (i := 5) sc_lr.nd rfl (.inl rfl) (.inr rfl)) (fun _ _ _ _ _ => pts_nil)
        (fun _ _ _ _ _ => pe_op op_mod (pe_callTy call_int1 (by rfl) T.m_int (by decide +kernel) (pa_cons (pv 5) pa_nil)) (pv 3))))))), ?_⟩
  refine ⟨_, rfl, (by show 1 ≤ sizeLine; decide), fun l1 n1 => ?_⟩
  have s1 : Same H (upd H l1 (.lst [.int 4])) := same_upd n1
  refine ⟨_, rfl, _, rfl, by omega, by omega, fun D nD => lc_range (lo := 0) (n := n) (fun j H' => Same (upd H l1 (.lst [.int 4])) H' ∧ H' D = some (.lst (iv (List.replicate j top18)))) ⟨same_upd nD, upd_same⟩ ?_ ?_⟩
  · rintro j H1 hj ⟨s2, eD⟩
    refine ⟨rfl, _, _, rfl, rfl, ⟨by decide, by decide, by decide⟩, ?_⟩
    refine ⟨_, eD, ?_, fun b o e => ?_, ?_⟩
    · rw [iv_len, List.length_replicate]
      exact small1000 (by omega)
    · rw [upd_ne (ne_of_none e nD)]
      exact s2 _ _ e
    · rw [upd_same, List.replicate_succ', iv_app]
      rfl
  rintro H1 ⟨s2, eD⟩
  have e1 := s2 _ _ (upd_same (H := H) (a := l1) (o := .lst [.int 4]))
  refine ⟨l1, D, _, _, rfl, rfl, e1, eD, ?_, fun l2 n2 => ?_⟩
  · rw [iv_len, List.length_replicate]
    exact Nat.le_of_lt (small1000 (by show 1 + n ≤ 1000; omega))
  have s3 : Same H1 (upd H1 l2 (.lst ([.int 4] ++ iv (List.replicate n top18)))) := same_upd n2
  have e2 : (upd H1 l2 (.lst ([.int 4] ++ iv (List.replicate n top18)))) l2 = some (.lst (iv (rowszs n))) := by rw [upd_same]; rfl
  have sH := (s1.trans s2).trans s3
  refine ⟨c, l2, rowszs n, rfl, e2, fun x hx => ?_, by unfold rowszs; rw [List.length_cons, List.length_replicate]; omega, fun H2 R ds s4 eR dr => ?_⟩
  · rcases List.mem_cons.mp hx with rfl | hx
    · exact ⟨by decide, by unfold Bd; decide⟩
    · rw [List.eq_of_mem_replicate hx]
      exact ⟨by decide, by unfold Bd; decide⟩
  have ld : ds.length = n + 1 := by rw [dr.1]; unfold rowszs; rw [List.length_cons, List.length_replicate]
  have sR := sH.trans s4
  obtain ⟨d0, hd0⟩ : ∃ d0, ds[0]? = some d0 := ⟨_, List.getElem?_eq_getElem (by omega)⟩
  obtain ⟨p0, p1⟩ := dr.2 0 d0 4 hd0 rfl
  refine ⟨_, _, rfl, rfl, ⟨by decide, by decide, by decide⟩, _, _, rfl, rfl, ⟨by decide, by decide, by decide⟩, _, _, rfl, rfl, (by show 4 ≤ sizeLine; decide), fun l3 n3 => ?_⟩
  have s5 : Same H2 _ := same_upd (o := HO.lst (iv [4, 30, 1000000000, top18 - 1])) n3
  obtain ⟨bd, hbd, b0, b1⟩ : ∃ bd : Int, atI (iv [4, 30, 1000000000, top18 - 1]) d0 = some (.int bd) ∧ 0 < bd ∧ bd ≤ top18 - 1 := by
    have h4 : d0 = 0 ∨ d0 = 1 ∨ d0 = 2 ∨ d0 = 3 := by omega
    rcases h4 with e | e | e | e <;> subst e
    · exact ⟨4, atI_nat (j := 0) rfl, by decide, by decide⟩
    · exact ⟨30, atI_nat (j := 1) rfl, by decide, by decide⟩
    · exact ⟨1000000000, atI_nat (j := 2) rfl, by decide, by decide⟩
    · exact ⟨top18 - 1, atI_nat (j := 3) rfl, by decide, by decide⟩
  have eR5 := s5 _ _ eR
  refine ⟨_, rfl, R, _, _, _, rfl, rfl, sq_l eR5, atI_nat (j := 0) (iv_get hd0), l3, iv [4, 30, 1000000000, top18 - 1], _, _, rfl, rfl, sq_l upd_same, hbd, ?_⟩
  refine ⟨_, rfl, _, rfl, R, iv ds, rfl, sq_l eR5, fun l4 n4 => ?_⟩
  rw [cut_one, show (iv ds).drop 1 = iv (ds.drop 1) from (List.map_drop ..).symm]
  have s6 : Same _ (upd (upd H2 l3 (.lst (iv [4, 30, 1000000000, top18 - 1]))) l4 (.lst (iv (ds.drop 1)))) := same_upd n4
  have sF := sR.trans (s5.trans s6)
  refine ⟨l4, rfl, ⟨_, sq_l upd_same⟩, fun F nF => lc_list (K := K) (a := l4) (xs := iv (ds.drop 1)) (fun j H' => Same (upd (upd H2 l3 (.lst (iv [4, 30, 1000000000, top18 - 1]))) l4 (.lst (iv (ds.drop 1)))) H' ∧ H' F = some (.lst (iv (((ds.drop 1).take j).map fun x => x % bd)))) ⟨same_upd nF, upd_same⟩ (fun j H' hj ⟨s, _⟩ => sq_l (s _ _ upd_same)) ?_ ?_⟩
  · rintro j x H3 hx ⟨s7, eF⟩
    obtain ⟨y, hy, rfl⟩ := iv_at hx
    refine ⟨rfl, _, rfl, .inl ⟨y, rfl, _, rfl, _, _, rfl, rfl, b0, ?_⟩⟩
    refine ⟨_, eF, ?_, fun b o e => ?_, ?_⟩
    · rw [iv_len, List.length_map, List.length_take, List.length_drop]
      exact small1000 (by omega)
    · rw [upd_ne (ne_of_none e nF)]
      exact s7 _ _ e
    · rw [upd_same, List.take_add_one, hy, List.map_append, iv_app]
      rfl
  · rintro H3 ⟨s7, eF⟩
    rw [iv_len, List.take_length] at eF
    refine q _ F _ (sF.trans s7) eF (by rw [List.length_map, List.length_drop]; omega) fun x hx => ?_
    obtain ⟨y, hy, rfl⟩ := List.mem_map.mp hx
    have := Int.emod_nonneg y (show bd ≠ 0 by omega)
    have := Int.emod_lt_of_pos y b0
    omega
end
end K45W
end JK45Row
section JK45LawB
set_option Elab.async false
set_option linter.all false
set_option maxRecDepth 100000
set_option maxHeartbeats 8000000
namespace K45W
open PySem PySem.Spec PyProof.Rows L2 K45R K45T K45
theorem eqv_ints : ∀ ns : List Int, PyData.eqvAll (ns.map PyData.int) (ns.map PyData.int) = true
  | [] => by simp [PyData.eqvAll]
  | _ :: r => by simp [PyData.eqvAll, PyData.eqv, eqv_ints r]
theorem eqv_list (ns : List Int) : PyData.eqv (.list (ns.map PyData.int)) (.list (ns.map PyData.int)) = true := by
  rw [PyData.eqv]
  exact eqv_ints ns
theorem dp_ints {K : PySem.W.Frag} {H : Hp} : ∀ ns : List Int, DpAll K H (iv ns) (ns.map PyData.int)
  | [] => .nil
  | n :: r => .cons (.int n) (dp_ints r)
theorem lotq_none (n : Nat) : lotq n (fun _ => false) = [] := by unfold lotq; exact List.filter_eq_nil_iff.mpr fun _ _ => by simp
theorem lotq_all (n : Nat) : lotq n (fun _ => true) = List.range n := by unfold lotq; exact List.filter_eq_self.mpr fun _ _ => rfl
theorem lotq_one {n t : Nat} (h : t < n) : lotq n (fun x => x == t) = [t] := by
  refine sorted_eq lotq_sorted (List.pairwise_singleton _ _) fun x => ?_
  rw [lotq_mem, List.mem_singleton]
  constructor
  · rintro ⟨_, e⟩
    exact beq_iff_eq.mp e
  · intro e
    subst e
    exact ⟨h, beq_self_eq_true _⟩
/-- at v the lot of q -/
def LotR (n : Nat) (H : Hp) (v : V) (q : Nat → Bool) : Prop := ∃ a, v = .ref a ∧ H a = some (.tup (tv (lotq n q)))
theorem LotR.same {n : Nat} {H H' : Hp} {v : V} {q : Nat → Bool} (s : Same H H') (h : LotR n H v q) : LotR n H' v q := let ⟨a, e, z⟩ := h; ⟨a, e, s _ _ z⟩
theorem LotR.upd {n : Nat} {H : Hp} {t : Addr} {xs ys : List V} {v : V} {q : Nat → Bool} (r : LotR n H v q) (e : H t = some (.lst xs)) : LotR n (upd H t (.lst ys)) v q := by
  obtain ⟨a, ev, ea⟩ := r
  refine ⟨a, ev, ?_⟩
  rw [upd_ne (fun q => by rw [q, e] at ea; cases ea)]
  exact ea
theorem Each.append {α : Type} {p : V → α → Prop} {vs us : List V} {xs ys : List α} (h : Each p vs xs) (h2 : Each p us ys) : Each p (vs ++ us) (xs ++ ys) := by
  obtain ⟨hl, h⟩ := h
  obtain ⟨hl2, h2⟩ := h2
  refine ⟨by simp [hl, hl2], fun i v x e1 e2 => ?_⟩
  by_cases c : i < vs.length
  · rw [List.getElem?_append_left c] at e1
    rw [List.getElem?_append_left (by omega)] at e2
    exact h i _ _ e1 e2
  · rw [List.getElem?_append_right (by omega)] at e1
    rw [List.getElem?_append_right (by omega)] at e2
    exact h2 _ _ _ e1 (by rw [hl]; exact e2)
theorem cut_to (xs : List V) (n : Nat) (h : n ≤ xs.length) : cutV xs none (some (n : Int)) = xs.take n := by
  unfold cutV
  rw [HT.sIx_none, show HT.sIx xs.length xs.length (some (n : Int)) = min n xs.length from HT.sIx_nat xs.length xs.length n, List.drop_zero, Nat.sub_zero, Nat.min_eq_left h]
/-- what stands behind the law's first statements -/
structure Bun (K : PySem.W.Frag) (H : Hp) (ds ws ps : List Int) (a : Int) (D WA PR PA : Addr) (vr vc : V) : Prop where
  d : H D = some (.lst (iv ds))
  wa : H WA = some (.lst (iv ws))
  pr : H PR = some (.lst (iv ps))
  pa : H PA = some (.lst (iv ws))
  w : WAt K H vr ws a
  s : SAt K H vc ws a
theorem Bun.same {K : PySem.W.Frag} {H H' : Hp} {ds ws ps : List Int} {a : Int} {D WA PR PA : Addr} {vr vc : V} (s : Same H H') (b : Bun K H ds ws ps a D WA PR PA vr vc) : Bun K H' ds ws ps a D WA PR PA vr vc :=
  ⟨s _ _ b.d, s _ _ b.wa, s _ _ b.pr, s _ _ b.pa, b.w.same s, b.s.same s⟩
theorem Nums.zero {ws ps : List Int} {a : Int} (z : Nums ws ps a) : Nums ws (List.replicate ws.length 0) a :=
  ⟨z.w1, fun x hx => by rw [List.eq_of_mem_replicate hx]; decide, z.a1, z.sw, fun x hx => by rw [List.eq_of_mem_replicate hx]; exact Bd.zero _, z.sa, List.length_replicate, z.n8⟩
theorem made_w {K : PySem.W.Frag} {H H' : Hp} {x dx : Addr} {C : Addr} (hx : H x = none) (hdx : H dx = none) (kp : Keep x (upd (upd H dx (.own x)) x (.ins C dx [])) H') : Same H H' := fun b o e => kp _ _ (ne_of_none e hx) (mk_same hx hdx b o e)
def sp_law (K : PySem.W.Frag) : Sp := fun vs H Q _ => ∃ (a : Addr) (ns : List Int), vs = [.ref a] ∧ SqL K H a (iv ns) ∧ ns.length ≤ 63 ∧ ∀ H', Q (.bl true) H'
theorem b01 (b : Bool) : Bd 2 (if b = true then 1 else 0) := by cases b <;> (unfold Bd; decide)
def forBody (s : Stmt) : List Stmt := match s with
  | .For _ _ b _ _ => b
  | _ => []
def duerow (ws : List Int) (a : Int) (L : List Nat) : List (Int × Int) := (List.range ws.length).map fun t => (nth ws t * (if t ∈ L then 1 else 0), tot (nth ws) a L)
theorem duerow_len {ws : List Int} {a : Int} {L : List Nat} : (duerow ws a L).length = ws.length := by simp [duerow]
theorem duerow_get {ws : List Int} {a : Int} {L : List Nat} {t : Nat} (h : t < ws.length) : (duerow ws a L)[t]? = some (nth ws t * (if t ∈ L then 1 else 0), tot (nth ws) a L) := by
  unfold duerow
  rw [List.getElem?_map, List.getElem?_range h]
  rfl
section
variable {w : World} {K : PySem.W.Frag} {mg : Str → Option Value} {base : Heap} {cdv : Value} {A : Around} {outer : List Env} {s : Shared} {H0 : Hp} {E : XK}
theorem law_body (T : Fx K mg) (hr : Room 7 (A.deeper (envOfC "law" (defScope s_law) s.heap.objs.size (f_law K) cdv))) : ∃ tB, PSs (cxOf CX0 PW w K mg base ns_law "law" (defScope s_law) (f_law K) cdv A outer s H0 E).nox (forBody ((defBody s_law).getD 12 (.Pass ⟨0, 0, 0, 0⟩))) tB ∧
    ∀ (D : Ends) (H : Hp) (ds ws ps : List Int) (a : Int) (vD WA PR PA la : Addr) (vr vc v0 v3 v10 : V) (v12 v13 v18 : Option V) (q : Nat → Bool), Bun K H ds ws ps a vD WA PR PA vr vc → Nums ws ps a → H la = some (.tup (tv (lotq ws.length q))) →
      (∀ v12 v13 H', Same H H' → D.nx [some v0, some (.ref vD), some (.int (ws.length : Int)), some v3, some (.ref WA), some (.int a), some (.ref PR), some (.ref PA), some vr, some vc, some v10, some (.ref la), some v12, some v13, none, none, none, none, v18] H') →
      tB D [some v0, some (.ref vD), some (.int (ws.length : Int)), some v3, some (.ref WA), some (.int a), some (.ref PR), some (.ref PA), some vr, some vc, some v10, some (.ref la), v12, v13, none, none, none, none, v18] H := by
  obtain ⟨⟨fdLV, dsLV, GLV, bLV, dLV⟩, kLV⟩ := (ok_lv (P := PW) (w := w) (base := base) T).mono (k := 7) (by decide)
  obtain ⟨⟨fdWS, dsWS, GWS, bWS, dWS⟩, kWS⟩ := (ok_WS (w := w) (base := base) T).mono (k := 7) (by decide)
  obtain ⟨⟨fdSS, dsSS, GSS, bSS, dSS⟩, kSS⟩ := (ok_SS (w := w) (base := base) T).mono (k := 7) (by decide)
  refine ⟨_, (pss_cons (ps_set (i := 12) sc_law.nd rfl (.inr rfl) (pe_op op_add (pv 5) (pe_callB (cr_sum rfl) (by rfl) T.m_sum (by decide +kernel) (pa_cons
          (pe_lc (own := [("_law_thing", 18)]) (g := gName 18) (tt := tYes) rfl sc_law.nd (pi_tup (pv 11)) (blkOk_by (N := ns_law) (sc := defScope s_law) (by decide +kernel)) (fun _ _ _ _ _ => pg_name (i := 18) sc_law.nd rfl (.inl rfl) (.inr rfl)) (fun _ _ _ _ _ => pts_nil) (fun _ _ _ _ _ => pe_ix (ixL K) (pv 4) (pv 18) (fun _ _ => rfl))) pa_nil))))
    (pss_cons (ps_setLc (i := 13) (own := [("_law_thing", 18)]) (g := gName 18) (tt := tYes) rfl sc_law.nd rfl rfl (sw_true rfl rfl rfl (by decide +kernel)) (pi_range1 (by rfl) T.m_range (pa_cons (pv 2) pa_nil)) (blkOk_by (N := ns_law) (sc := defScope s_law) (by decide +kernel)) (fun _ _ _ _ _ => pg_name (i := 18) sc_law.nd rfl (.inl rfl) (.inr rfl)) (fun _ _ _ _ _ => pts_nil)
          (fun _ _ _ _ _ => pe_tup (pa_cons (pe_op op_mulW (pe_ix (ixL K) (pv 4) (pv 18) (fun _ _ => rfl)) (pe_callTy call_int1 (by rfl) T.m_int (by decide +kernel) (pa_cons (pe_cmpR (opIn K) (pv 18) (pv 11) (by rfl)) pa_nil))) (pa_cons (pv 12) pa_nil))))
    (pss_one (ps_if (PW.pt (pw_or (pt_not (pt_val (pe_call GLV hr (by rfl) T.g_lv kLV bLV dLV pass0 (pa_cons (pe_meth (pv 9) T.c_Stepping T.t_SS GSS hr bSS dSS pass0 (pa_cons (pv 11) pa_nil)) (pa_cons (pv 13) pa_nil)))))
          (pw_or1 (pt_not (pt_val (pe_call GLV hr (by rfl) T.g_lv kLV bLV dLV pass0 (pa_cons (pe_meth (pv 8) T.c_Weighted T.t_WS GWS hr bWS dWS pass0 (pa_cons (pv 11) pa_nil)) (pa_cons (pv 13) pa_nil)))))))) pss_never pss_nil)))), ?_⟩
  intro D H ds ws ps a vD WA PR PA la vr vc v0 v3 v10 v12 v13 v18 q B z hla k
  have n8 := z.n8
  have lL : (lotq ws.length q).length ≤ ws.length := lotq_len
  have tp := tot_pos (L := lotq ws.length q) z.ok lot_in
  have tb := tot_bd (L := lotq ws.length q) z.sw z.sa (by omega)
  -- _law_total
  refine ⟨_, rfl, _, rfl, la, rfl, ⟨_, sq_t hla⟩, fun F nF => lc_it (walk_tup (K := K) (a := la) (xs := tv (lotq ws.length q))) (fun j H' => Same H H' ∧ H' F = some (.lst (iv (((lotq ws.length q).take j).map (nth ws))))) ⟨same_upd nF, upd_same⟩ (fun j H' hj ⟨s1, _⟩ => sq_t (s1 _ _ hla)) ?_ ?_⟩
  · rintro j x H1 H2 hj ⟨s1, eF⟩ ⟨rfl, hx⟩
    obtain ⟨t, ht, rfl⟩ := tv_at hx
    have hn : ws[t]? = some (nth ws t) := nth_get (lotq_mem.mp (List.mem_of_getElem? ht)).1
    refine ⟨rfl, _, rfl, _, rfl, WA, _, _, _, rfl, rfl, sq_l (s1 _ _ B.wa), atI_nat (iv_get hn), ?_⟩
    refine ⟨_, eF, ?_, fun b o e => ?_, ?_⟩
    · rw [iv_len, List.length_map, List.length_take]
      exact small1000 (by omega)
    · rw [upd_ne (ne_of_none e nF)]
      exact s1 _ _ e
    · rw [upd_same, List.take_add_one, ht, List.map_append, iv_app]
      rfl
  rintro H1 ⟨s1, eF⟩
  rw [tv_len, List.take_length] at eF
  refine ⟨F, _, rfl, sq_l eF, _, _, rfl, rfl, ?_⟩
  -- _law_due
  refine ⟨_, rfl, _, rfl, by omega, by omega, fun G nG => lc_range (lo := 0) (n := ws.length) (fun j H' => Same H1 H' ∧ ∃ vG, H' G = some (.lst vG) ∧ Each (PairAt H') vG ((duerow ws a (lotq ws.length q)).take j)) ⟨same_upd nG, [], upd_same, by rw [List.take_zero]; exact .nil⟩ ?_ ?_⟩
  · rintro j H2 hj ⟨s2, vG, eG, hG⟩
    rw [show (0 : Int) + (j : Int) = (j : Int) from Int.zero_add _]
    have hn : ws[j]? = some (nth ws j) := nth_get hj
    have s12 := s1.trans s2
    refine ⟨rfl, _, rfl, _, rfl, WA, _, _, _, rfl, rfl, sq_l (s12 _ _ B.wa), atI_nat (iv_get hn), _, rfl, _, rfl, la, _, rfl, .inr (sq_t (s12 _ _ hla)), rfl, tv_flat _, .inr ⟨_, rfl, _, _, rfl, rfl, wide_mul (small_nth z.sw j) (b01 _) (by decide) (by decide) (by decide), _, rfl, (by show 2 ≤ sizeLine; decide), fun U nU => ?_⟩⟩
    have ep : (if inV (.int (j : Int)) (tv (lotq ws.length q)) = true then (1 : Int) else 0) = if j ∈ lotq ws.length q then 1 else 0 := by
      rw [inV_tv]
      by_cases c : j ∈ lotq ws.length q
      · rw [decide_eq_true c, if_pos rfl, if_pos c]
      · rw [decide_eq_false c, if_neg Bool.false_ne_true, if_neg c]
    have sU : Same H2 (upd H2 U (.tup [.int (nth ws j * if inV (.int (j : Int)) (tv (lotq ws.length q)) = true then (1 : Int) else 0), .int (tot (nth ws) a (lotq ws.length q))])) := same_upd nU
    refine ⟨vG, sU _ _ eG, ?_, fun b o e => ?_, vG ++ [.ref U], upd_same, ?_⟩
    · have := hG.1
      rw [List.length_take, duerow_len] at this
      exact small1000 (by omega)
    · exact (upd_ne (ne_of_none e nG)).trans (sU _ _ (s2 _ _ e))
    · rw [List.take_add_one, duerow_get hj]
      refine Each.snoc (hG.mono fun _ _ _ _ y => (y.same sU).upd (sU _ _ eG)) (PairAt.upd ⟨U, rfl, ?_⟩ (sU _ _ eG))
      rw [← ep]
      exact upd_same
  rintro H2 ⟨s2, vG, eG, hG⟩
  rw [List.take_of_length_le (by rw [duerow_len]; omega)] at hG
  have s12 := s1.trans s2
  have B2 := B.same s12
  have chk : ∀ (i : Nat) (x t : Int × Int), (lotrow (nth ws) (tot (nth ws) a (lotq ws.length q)) (lotq ws.length q) ws.length)[i]? = some x → (duerow ws a (lotq ws.length q))[i]? = some t → x.1 * t.2 = t.1 * x.2 ∧ Bd 3000 x.1 ∧ Bd 3000 x.2 ∧ Bd 3000 t.1 ∧ Bd 3000 t.2 := fun i x t h1 h2 => by
    have hi : i < ws.length := by have := (List.getElem?_eq_some_iff.mp h1).1; rwa [lotrow_len] at this
    rw [lotrow_get hi] at h1
    rw [duerow_get hi] at h2
    cases h1; cases h2
    have bw := small_nth z.sw i
    by_cases c : i ∈ lotq ws.length q
    · simp only [if_pos c, Int.mul_one]
      exact ⟨trivial, bw.le (by omega), tb.le (by omega), bw.le (by omega), tb.le (by omega)⟩
    · simp only [if_neg c, Int.mul_zero, Int.zero_mul]
      exact ⟨trivial, Bd.zero _, tb.le (by omega), Bd.zero _, tb.le (by omega)⟩
  -- if not .. or not ..: return False
  obtain ⟨pc, dxc, fa, ta, le, ss, rfl, f⟩ := id B2.s
  refine ⟨_, rfl, pc, dxc, _, rfl, f.ob, sF_no (by decide +kernel), _, rfl, .ref pc, la, ws, a, q, rfl, B2.s, s12 _ _ hla, z.zero, fun H3 t3 s3 r3 => ?_⟩
  refine ⟨_, rfl, t3, G, _, _, rfl, r3, ⟨vG, s3 _ _ eG, hG.mono fun _ _ _ _ y => y.same s3⟩, by rw [lotrow_len, duerow_len], by rw [duerow_len]; omega, chk, _, rfl, ?_⟩
  refine iteF ?_
  have B3 := B2.same s3
  obtain ⟨pr, dxr, wr, rfl, er, ewr⟩ := id B3.w
  have s13 := s12.trans s3
  refine ⟨_, rfl, pr, dxr, _, rfl, er, wF_no (by decide +kernel), _, rfl, .ref pr, la, ws, a, _, rfl, B3.w, s13 _ _ hla, lotq_sorted, fun t ht => (lotq_mem.mp ht).1, by omega, z.sw, z.sa, z.w1, z.a1, fun H4 t4 s4 r4 => ?_⟩
  refine ⟨_, rfl, t4, G, _, _, rfl, r4, ⟨vG, s4 _ _ (s3 _ _ eG), hG.mono fun _ _ _ _ y => (y.same s3).same s4⟩, by rw [lotrow_len, duerow_len], by rw [duerow_len]; omega, chk, _, rfl, ?_⟩
  refine iteF ?_
  exact k _ _ _ (s13.trans s4)
end
end K45W
end JK45LawB
section JK45LawT
set_option Elab.async false
set_option linter.all false
set_option maxRecDepth 100000
set_option maxHeartbeats 8000000
namespace K45W
open PySem PySem.Spec PyProof.Rows L2 K45R K45T K45
section
variable {w : World} {K : PySem.W.Frag} {mg : Str → Option Value} {base : Heap} {cdv : Value} {A : Around} {outer : List Env} {s : Shared} {H0 : Hp} {E : XK} {Q : VK}
theorem law_tail (T : Fx K mg) (hr : Room 7 (A.deeper (envOfC "law" (defScope s_law) s.heap.objs.size (f_law K) cdv))) (q : ∀ H', Q (.bl true) H') : ∃ tT, PSs (cxOf CX0 PW w K mg base ns_law "law" (defScope s_law) (f_law K) cdv A outer s H0 E).nox ((defBody s_law).drop 13) tT ∧
    ∀ (H : Hp) (ds ws ps : List Int) (a : Int) (vD WA PR PA : Addr) (vr vc v0 v2 v3 v10 : V) (v11 v12 v13 v18 : Option V), Bun K H ds ws ps a vD WA PR PA vr vc → Nums ws ps a →
      tT { nx := fun _ H' => Q .non H', rt := Q } [some v0, some (.ref vD), some v2, some v3, some (.ref WA), some (.int a), some (.ref PR), some (.ref PA), some vr, some vc, some v10, v11, v12, v13, none, none, none, none, v18] H := by
  obtain ⟨⟨fdLI, dsLI, GLI, bLI, dLI⟩, kLI⟩ := (ok_li (P := PW) (w := w) (base := base) T).mono (k := 7) (by decide)
  obtain ⟨⟨fdLK, dsLK, GLK, bLK, dLK⟩, kLK⟩ := (ok_lk (P := PW) (w := w) (base := base) T).mono (k := 7) (by decide)
  obtain ⟨⟨fdLF, dsLF, GLF, bLF, dLF⟩, kLF⟩ := ok_lf (w := w) (base := base) T
  obtain ⟨⟨fdLB, dsLB, GLB, bLB, dLB⟩, kLB⟩ := (ok_lb (P := PW) (w := w) (base := base) T).mono (k := 7) (by decide)
  obtain ⟨⟨fdWI, dsWI, GWI, bWI, dWI⟩, kWI⟩ := (ok_WI (w := w) (base := base) T).mono (k := 6) (by decide)
  obtain ⟨⟨fdWB, dsWB, GWB, bWB, dWB⟩, kWB⟩ := (ok_WB (P := PW) (w := w) (base := base) T).mono (k := 7) (by decide)
  obtain ⟨⟨fdSB, dsSB, GSB, bSB, dSB⟩, kSB⟩ := (ok_SB (P := PW) (w := w) (base := base) T).mono (k := 7) (by decide)
  obtain ⟨mc, pL, gL, cr, cm, GL0⟩ := ok_SL T
  have GL := ((GL0 w base).mono (k := 7) (by decide)).raw0
  refine ⟨_, (pss_cons (ps_set (i := 14) sc_law.nd rfl (.inl rfl) (pe_meth (pv 8) T.c_Weighted T.t_WB GWB hr bWB dWB pass0 (pa_cons (pe_callTy call_list_of (by rfl) T.m_list (by decide +kernel) (pa_cons (pv 6) pa_nil)) pa_nil)))
    (pss_cons (ps_set (i := 15) sc_law.nd rfl (.inl rfl) (pe_meth (pv 9) T.c_Stepping T.t_SB GSB hr bSB dSB pass0 (pa_cons (pe_callTy call_list_of (by rfl) T.m_list (by decide +kernel) (pa_cons (pv 6) pa_nil)) pa_nil)))
    (pss_cons (ps_if (PW.pt (pw_or (pt_not (pt_val (pe_call GLB hr (by rfl) T.g_lb kLB bLB dLB pass0 (pa_cons (pv 14) (pa_cons (pv 4) (pa_cons (pv 5) (pa_cons (pv 6) pa_nil)))))))
        (pw_or1 (pt_not (pt_val (pe_call GLB hr (by rfl) T.g_lb kLB bLB dLB pass0 (pa_cons (pv 15) (pa_cons (pv 4) (pa_cons (pv 5) (pa_cons (pv 6) pa_nil)))))))))) pss_never pss_nil)
    (pss_cons (ps_if (PW.pt (pw_or (pt_cmpR op_ne (pe_fld (pe_ix ix_tup (pv 14) pe_int (fun _ _ => rfl)) rfl) (pe_fld (pe_ix ix_tup (pv 15) pe_int (fun _ _ => rfl)) rfl) (nomark _))
        (pw_or1 (pt_cmpR op_ne (pe_fld (pe_ix ix_tup (pv 14) pe_int (fun _ _ => rfl)) rfl) (pe_fld (pe_ix ix_tup (pv 15) pe_int (fun _ _ => rfl)) rfl) (nomark _))))) pss_never pss_nil)
    (pss_cons (ps_set (i := 16) sc_law.nd rfl (.inl rfl) (pe_call GLF hr (by rfl) T.g_lf kLF bLF dLF pass0 (pa_cons (pe_make T.k_Weighted GWI hr (by rfl) T.g_Weighted bWI dWI pass0 (pa_cons (pe_lst (pa_cons pe_int (pa_cons pe_int (pa_cons pe_int (pa_cons pe_int (pa_cons pe_int (pa_cons pe_int (pa_cons pe_int (pa_cons pe_int (pa_cons pe_int pa_nil)))))))))) (pa_cons pe_int pa_nil))) pa_nil)))
    (pss_cons (ps_if (PW.pt (pw_or (pt_not (pt_val (pe_call GLI hr (by rfl) T.g_li kLI bLI dLI pass0 (pa_cons (pe_ix ix_tup (pv 16) pe_int (fun _ _ => rfl)) pa_nil)))) (pw_or (pt_cmpR op_ne (pe_ix ix_tup (pv 16) pe_int (fun _ _ => rfl)) pe_int (nomark _))
        (pw_or (pt_not (pt_val (pe_call GLI hr (by rfl) T.g_li kLI bLI dLI pass0 (pa_cons (pe_ix ix_tup (pv 16) pe_int (fun _ _ => rfl)) pa_nil)))) (pw_or1 (pt_cmpR op_ne (pe_ix ix_tup (pv 16) pe_int (fun _ _ => rfl)) pe_int (nomark _))))))) pss_never pss_nil)
    (pss_cons (ps_set (i := 17) sc_law.nd rfl (.inl rfl) (pe_lst (pa_cons pe_int (pa_cons pe_int (pa_cons pe_int (pa_cons pe_int (pa_cons pe_int (pa_cons pe_int (pa_cons pe_int (pa_cons pe_int pa_nil))))))))))
    (pss_one (ps_ret (pe_and (pe_call GLK hr (by rfl) T.g_lk kLK bLK dLK pass0 (pa_cons (ClX.pe_cmeth (CX := CX0) (E := E0) (pe_glob (v := .ref (cS K)) rfl T.g_Stepping rfl) cr cm GL hr pass0 (pa_cons (pe_make T.k_Weighted GWI hr (by rfl) T.g_Weighted bWI dWI pass0 (pa_cons (pv 17) (pa_cons pe_int pa_nil))) pa_nil)) (pa_cons (pv 17) (pa_cons pe_int pa_nil))))
        (pe_one (pe_call GLK hr (by rfl) T.g_lk kLK bLK dLK pass0 (pa_cons (pv 9) (pa_cons (pv 4) (pa_cons (pv 5) pa_nil))))))))))))))), ?_⟩
  intro H ds ws ps a vD WA PR PA vr vc v0 v2 v3 v10 v11 v12 v13 v18 B z
  have n8 := z.n8
  have el := z.el
  have c := T.c_Ratio
  obtain ⟨pr, dxr, wr, rfl, er, ewr⟩ := id B.w
  -- _law_one
  refine ⟨_, rfl, pr, dxr, _, rfl, er, wF_no (by decide +kernel), _, rfl, PR, _, rfl, .inl (sq_l B.pr), fun l1 nl1 => ?_⟩
  have s1 : Same H (upd H l1 (.lst (iv ps))) := same_upd nl1
  refine ⟨.ref pr, l1, ws, ps, a, rfl, B.w.same s1, upd_same, el, by omega, z.ok, z.sw, z.sp, z.sa, fun H2 O1 lt1 x1 L1 s2 eO1 eL1 fx1 r1 => ?_⟩
  have s02 := s1.trans s2
  have B2 := B.same s02
  -- _law_two
  obtain ⟨pc, dxc, fa, ta, le, ss, rfl, f⟩ := id B2.s
  refine ⟨_, rfl, pc, dxc, _, rfl, f.ob, sF_no (by decide +kernel), _, rfl, PR, _, rfl, .inl (sq_l B2.pr), fun l3 nl3 => ?_⟩
  have s3 : Same H2 (upd H2 l3 (.lst (iv ps))) := same_upd nl3
  refine ⟨.ref pc, l3, ws, ps, a, rfl, B2.s.same s3, upd_same, z, fun H4 O2 lt2 x2 L2 s4 eO2 eL2 fx2 r2 => ?_⟩
  have s24 := s3.trans s4
  have B4 := B2.same s24
  have eO14 := s24 _ _ eO1
  have eL14 := s24 _ _ eL1
  have r14 := r1.same s24
  -- both are best
  refine ⟨_, rfl, _, rfl, _, rfl, _, rfl, O1, lt1, WA, PR, x1, ws, ps, a, L1, rfl, eO14, eL14, fx1, r14, B4.wa, B4.pr, z, fun H5 s5 => ?_⟩
  refine ⟨_, rfl, ?_⟩
  refine iteF ?_
  have B5 := B4.same s5
  refine ⟨_, rfl, _, rfl, _, rfl, _, rfl, O2, lt2, WA, PR, x2, ws, ps, a, L2, rfl, s5 _ _ eO2, s5 _ _ eL2, fx2, r2.same s5, B5.wa, B5.pr, z, fun H6 s6 => ?_⟩
  refine ⟨_, rfl, ?_⟩
  refine iteF ?_
  have s46 := s5.trans s6
  have B6 := B4.same s46
  have q1 := r14.same s46
  have q2' := r2.same s46
  have q2 : RatAt (cR K) H6 x2 (bro (nth ws) (nth ps) L1) (tot (nth ws) a L1) := q2'.eq q1.pos (fix_one z.ok fx2 fx1)
  obtain ⟨⟨b1, d1, rfl, eb1⟩, pb1⟩ := id q1
  obtain ⟨⟨b2, d2, rfl, eb2⟩, pb2⟩ := id q2
  have ft := rF_top (bro (nth ws) (nth ps) L1) (tot (nth ws) a L1)
  have fb := rF_bot (bro (nth ws) (nth ps) L1) (tot (nth ws) a L1)
  have g1 : atI [V.ref lt1, V.ref b1] (1 : Int) = some (V.ref b1) := atI_nat (j := 1) rfl
  have g2 : atI [V.ref lt2, V.ref b2] (1 : Int) = some (V.ref b2) := atI_nat (j := 1) rfl
  have eO16 := s46 _ _ eO14
  have eO26 := s46 _ _ eO2
  -- one worth
  refine ⟨_, rfl, O1, _, _, _, rfl, rfl, sq_t eO16, g1, b1, _, d1, _, _, rfl, eb1, c, T.n_Ratio_top, ft, _, rfl, O2, _, _, _, rfl, rfl, sq_t eO26, g2, b2, _, d2, _, _, rfl, eb2, c, T.n_Ratio_top, ft, rfl, _, rfl, ?_⟩
  refine iteFb (by rw [decide_eq_true rfl]; rfl) ?_
  refine ⟨_, rfl, O1, _, _, _, rfl, rfl, sq_t eO16, g1, b1, _, d1, _, _, rfl, eb1, c, T.n_Ratio_bottom, fb, _, rfl, O2, _, _, _, rfl, rfl, sq_t eO26, g2, b2, _, d2, _, _, rfl, eb2, c, T.n_Ratio_bottom, fb, rfl, _, rfl, ?_⟩
  refine iteFb (by rw [decide_eq_true rfl]; rfl) ?_
  -- 9 things
  refine ⟨(by show 9 ≤ sizeLine; decide), fun l7 nl7 => ?_⟩
  intro x7 dx7 nx7 ndx7 ne7
  have w9 : ∀ y ∈ ([1, 1, 1, 1, 1, 1, 1, 1, 1] : List Int), 1 ≤ y := by decide
  refine ⟨x7, dx7, l7, [1, 1, 1, 1, 1, 1, 1, 1, 1], 1, rfl, upd_same, mk_same nx7 ndx7 _ _ upd_same, by decide, w9, by decide, fun H7 k7 hW7 => ⟨rfl, ?_⟩⟩
  have s7 : Same H6 H7 := (same_upd nl7).trans (made_w (K := K) nx7 ndx7 k7)
  refine ⟨.ref x7, [1, 1, 1, 1, 1, 1, 1, 1, 1], 1, rfl, hW7, by decide, by decide, fun H8 O8 s8 eO8 => ?_⟩
  have g80 : atI [V.int (([1, 1, 1, 1, 1, 1, 1, 1, 1] : List Int).length : Int), V.int 8] (0 : Int) = some (V.int 9) := atI_nat (j := 0) rfl
  have g81 : atI [V.int (([1, 1, 1, 1, 1, 1, 1, 1, 1] : List Int).length : Int), V.int 8] (1 : Int) = some (V.int 8) := atI_nat (j := 1) rfl
  refine ⟨_, rfl, O8, _, _, _, rfl, rfl, sq_t eO8, g80, 9, rfl, _, rfl, ?_⟩
  refine iteF ?_
  refine ⟨_, rfl, O8, _, _, _, rfl, rfl, sq_t eO8, g80, rfl, _, rfl, ?_⟩
  refine iteFb (by rw [decide_eq_true rfl]; rfl) ?_
  refine ⟨_, rfl, O8, _, _, _, rfl, rfl, sq_t eO8, g81, 8, rfl, _, rfl, ?_⟩
  refine iteF ?_
  refine ⟨_, rfl, O8, _, _, _, rfl, rfl, sq_t eO8, g81, rfl, _, rfl, ?_⟩
  refine iteFb (by rw [decide_eq_true rfl]; rfl) ?_
  have B8 := (B6.same s7).same s8
  -- 8 things
  refine ⟨(by show 8 ≤ sizeLine; decide), fun l9 nl9 => ?_⟩
  have s9 : Same H8 (upd H8 l9 (.lst (iv [1, 1, 1, 1, 1, 1, 1, 1]))) := same_upd nl9
  have w8 : ∀ y ∈ ([1, 1, 1, 1, 1, 1, 1, 1] : List Int), 1 ≤ y := by decide
  refine ⟨rfl, _, rfl, ?_⟩
  intro xA dxA nxA ndxA neA
  refine ⟨xA, dxA, l9, [1, 1, 1, 1, 1, 1, 1, 1], 3, rfl, upd_same, mk_same nxA ndxA _ _ upd_same, by decide, w8, by decide, fun HA kA hWA => ⟨rfl, ?_⟩⟩
  have sA := made_w (K := K) nxA ndxA kA
  refine ⟨.ref xA, [1, 1, 1, 1, 1, 1, 1, 1], 3, rfl, hWA, by decide, w8, by decide, fun HB uB sB hSB => ?_⟩
  have l9B := sB _ _ (sA _ _ (upd_same (H := H8) (a := l9) (o := .lst (iv [1, 1, 1, 1, 1, 1, 1, 1]))))
  refine ⟨_, rfl, uB, l9, [1, 1, 1, 1, 1, 1, 1, 1], 3, rfl, hSB, l9B, fun y hy => ?_, by decide, fun HC sC => ?_⟩
  · have : y = 1 := by simpa using hy
    rw [this]
    exact Bd.one (by decide)
  refine ⟨_, rfl, ?_⟩
  refine iteT ?_
  have BC := B8.same ((s9.trans sA).trans (sB.trans sC))
  exact ⟨_, rfl, _, rfl, _, rfl, .ref pc, WA, ws, a, rfl, BC.s, BC.wa, z.sw, by omega, fun HD sD => q HD⟩
end
end K45W
end JK45LawT
section JK45Law
set_option Elab.async false
set_option linter.all false
set_option maxRecDepth 100000
set_option maxHeartbeats 8000000
namespace K45W
open PySem PySem.Spec PyProof.Rows L2 K45R K45T K45
section
variable {w : World} {K : PySem.W.Frag} {mg : Str → Option Value} {base : Heap} {k : Nat}
theorem okF1 {k : Nat} {f : Addr} {ps : List Str} {sp : Sp} {fd : FuncData} {x qual : Str} {st : Stmt} {N : List Str} (F : FunD K x qual (defArgs st) (defBody st) (defScope st) [] [] f fd) (S : FnScope N ps (defScope st))
    (len : ∀ vs H Q E, sp vs H Q E → vs.length = ps.length)
    (hbody : ∀ (cdv : Value) (A : Around) (outer : List Env) (s : Shared) (H : Hp) (vs : List V) (Q : VK) (E : XK), Room k (A.deeper (envOfC qual (defScope st) s.heap.objs.size f cdv)) → sp vs H Q E →
      ∃ t, PSs (cxOf CX0 PW w K mg base N qual (defScope st) f cdv A outer s H E).nox (defBody st) t ∧ t { nx := fun _ H' => Q .non H', rt := Q } (start N vs) H) : FnOk PW w K mg base CX0 (k + 1) f fd ps sp :=
  F.ok S len fun cdv A outer s H vs Q E hr h => by
    obtain ⟨t, ht, q⟩ := hbody cdv A outer s H vs Q E hr h
    exact ⟨t, ht.nox, q⟩
theorem ok_law {fd : FuncData} (T : Fx K mg) (FL : FunD K "law" "law" (defArgs s_law) (defBody s_law) (defScope s_law) [] [] (f_law K) fd) : FnOk PW w K mg base CX0 8 (f_law K) fd ["_law_script"] (sp_law K) := by
  obtain ⟨⟨fdLC, dsLC, GLC, bLC, dLC⟩, kLC⟩ := (ok_lc (P := PW) (w := w) (base := base) T).mono (k := 7) (by decide)
  obtain ⟨⟨fdLD, dsLD, GLD, bLD, dLD⟩, kLD⟩ := (ok_ld (P := PW) (w := w) (base := base) T).mono (k := 7) (by decide)
  obtain ⟨⟨fdLR, dsLR, GLR, bLR, dLR⟩, kLR⟩ := (ok_lr (P := PW) (w := w) (base := base) T).mono (k := 7) (by decide)
  obtain ⟨⟨fdLU, dsLU, GLU, bLU, dLU⟩, kLU⟩ := (ok_lu (P := PW) (w := w) (base := base) T).mono (k := 7) (by decide)
  obtain ⟨⟨fdLL, dsLL, GLL, bLL, dLL⟩, kLL⟩ := (ok_ll (P := PW) (w := w) (base := base) T).mono (k := 7) (by decide)
  obtain ⟨⟨fdLK, dsLK, GLK, bLK, dLK⟩, kLK⟩ := (ok_lk (P := PW) (w := w) (base := base) T).mono (k := 7) (by decide)
  obtain ⟨⟨fdWI, dsWI, GWI, bWI, dWI⟩, kWI⟩ := (ok_WI (w := w) (base := base) T).mono (k := 6) (by decide)
  obtain ⟨mc, pL, gL, cr, cm, GL0⟩ := ok_SL T
  have GL := ((GL0 w base).mono (k := 7) (by decide)).raw0
  refine okF1 FL sc_law (fun vs H Q E h => ?_) (fun cdv A outer s H vs Q E hr h => ?_)
  · obtain ⟨a, ns, rfl, _⟩ := h
    rfl
  obtain ⟨sa, sn, rfl, hs, hs63, q⟩ := h
  obtain ⟨tB, hB, rB⟩ := law_body (w := w) (base := base) (cdv := cdv) (outer := outer) (H0 := H) (E := E) T hr
  obtain ⟨tT, hT, rT⟩ := law_tail (w := w) (base := base) (cdv := cdv) (outer := outer) (H0 := H) (E := E) (Q := Q) T hr q
  refine ⟨_, (pss_cons (ps_set (i := 1) sc_law.nd rfl (.inl rfl) (pe_call GLD hr (by rfl) T.g_ld kLD bLD dLD pass0 (pa_cons (pe_call GLC hr (by rfl) T.g_lc kLC bLC dLC pass0 (pa_cons (pv 0) (pa_cons pe_int pa_nil))) (pa_cons (pe_lst (pa_cons pe_int (pa_cons pe_int pa_nil))) pa_nil))))
    (pss_cons (ps_set (i := 2) sc_law.nd rfl (.inl rfl) (pe_ix ix_list (pv 1) pe_int (fun _ _ => rfl)))
    (pss_cons (ps_set (i := 3) sc_law.nd rfl (.inl rfl) (pe_call GLU hr (by rfl) T.g_lu kLU bLU dLU pass0 (pa_cons (pe_call GLR hr (by rfl) T.g_lr kLR bLR dLR pass0 (pa_cons (pe_call GLC hr (by rfl) T.g_lc kLC bLC dLC pass0 (pa_cons (pv 0) (pa_cons pe_int pa_nil))) (pa_cons (pe_op op_add (pv 2) pe_int) pa_nil))) pa_nil)))
    (pss_cons (ps_set (i := 4) sc_law.nd rfl (.inr rfl) (pe_slice sl_list (pv 3) po_none (po_some (pv 2))))
    (pss_cons (ps_set (i := 5) sc_law.nd rfl (.inl rfl) (pe_ix ix_list (pv 3) (pv 2) (fun _ _ => rfl)))
    (pss_cons (ps_set (i := 6) sc_law.nd rfl (.inl rfl) (pe_call GLR hr (by rfl) T.g_lr kLR bLR dLR pass0 (pa_cons (pe_call GLC hr (by rfl) T.g_lc kLC bLC dLC pass0 (pa_cons (pv 0) (pa_cons pe_int pa_nil))) (pa_cons (pv 2) pa_nil))))
    (pss_cons (ps_set (i := 7) sc_law.nd rfl (.inl rfl) (pe_callTy call_list_of (by rfl) T.m_list (by decide +kernel) (pa_cons (pv 4) pa_nil)))
    (pss_cons (ps_set (i := 8) sc_law.nd rfl (.inl rfl) (pe_make T.k_Weighted GWI hr (by rfl) T.g_Weighted bWI dWI pass0 (pa_cons (pv 7) (pa_cons (pv 5) pa_nil))))
    (pss_cons (ps_set (i := 9) sc_law.nd rfl (.inl rfl) (ClX.pe_cmeth (CX := CX0) (E := E0) (pe_glob (v := .ref (cS K)) rfl T.g_Stepping rfl) cr cm GL hr pass0 (pa_cons (pv 8) pa_nil)))
    (pss_cons (ps_if (PW.pt (pw_or (pt_cmpR (op_neD hr.units) (pv 7) (pv 4) (nomark _)) (pw_or1 (pt_not (pt_val (pe_call GLK hr (by rfl) T.g_lk kLK bLK dLK pass0 (pa_cons (pv 9) (pa_cons (pv 4) (pa_cons (pv 5) pa_nil))))))))) pss_never pss_nil)
    (pss_cons (ps_set (i := 10) sc_law.nd rfl (.inl rfl) (pe_lst (pa_cons (pe_call GLL hr (by rfl) T.g_ll kLL bLL dLL pass0 (pa_cons (pe_ix ix_list (pv 1) pe_int (fun _ _ => rfl)) (pa_cons (pv 2) pa_nil))) (pa_cons (pe_tup pa_nil) (pa_cons (pe_callTy call_tuple_of (by rfl) T.m_tuple (by decide +kernel) (pa_cons
        (pe_lc (own := [("_law_thing", 18)]) (g := gName 18) (tt := tYes) rfl sc_law.nd (pi_range1 (by rfl) T.m_range (pa_cons (pv 2) pa_nil)) (blkOk_by (N := ns_law) (sc := defScope s_law) (by decide +kernel)) (fun _ _ _ _ _ => pg_name (i := 18) sc_law.nd rfl (.inl rfl) (.inr rfl)) (fun _ _ _ _ _ => pts_nil) (fun _ _ _ _ _ => pv 18)) pa_nil)) pa_nil)))))
    (pss_cons (ps_expr (pe_bm PySem.F.plainAttrs_list PySem.F.slot_list_extend PySem.F.type_list_extend mt_extend (pv 10) (pa_cons
        (pe_lc (own := [("_law_thing", 18)]) (g := gName 18) (tt := tYes) rfl sc_law.nd (pi_range1 (by rfl) T.m_range (pa_cons (pv 2) pa_nil)) (blkOk_by (N := ns_law) (sc := defScope s_law) (by decide +kernel)) (fun _ _ _ _ _ => pg_name (i := 18) sc_law.nd rfl (.inl rfl) (.inr rfl)) (fun _ _ _ _ _ => pts_nil) (fun _ _ _ _ _ => pe_tup (pa_cons (pv 18) pa_nil))) pa_nil)))
    (pss_cons (ps_for PassesOwn.never rfl (pi_list (pv 10)) (pg_name (i := 11) sc_law.nd rfl (.inr rfl))
      hB)
    hT))))))))))))), ?_⟩
  -- _law_d
  refine ⟨_, rfl, sa, sn, 0, rfl, hs, fun c0 => ?_⟩
  refine ⟨(by show 2 ≤ sizeLine; decide), fun l1 n1 => ?_⟩
  have t1 : Same H (upd H l1 (.lst [.int 6, .int 32])) := same_upd n1
  refine ⟨c0, l1, [6, 32], rfl, upd_same, fun x hx => ?_, by decide, fun H1 D ds s1 eD dr => ?_⟩
  · have : x = 6 ∨ x = 32 := by simpa using hx
    rcases this with rfl | rfl <;> exact ⟨by decide, by unfold Bd; decide⟩
  have u1 := t1.trans s1
  have ld : ds.length = 2 := dr.1
  obtain ⟨d0, hd0⟩ : ∃ d0, ds[0]? = some d0 := ⟨_, List.getElem?_eq_getElem (by omega)⟩
  obtain ⟨d1, hd1⟩ : ∃ d1, ds[1]? = some d1 := ⟨_, List.getElem?_eq_getElem (by omega)⟩
  obtain ⟨p0, p1⟩ := dr.2 0 d0 6 hd0 rfl
  obtain ⟨n, rfl⟩ : ∃ n : Nat, d0 = (n : Int) := ⟨d0.toNat, by omega⟩
  have n6 : n < 6 := by omega
  -- _law_many
  refine ⟨_, rfl, D, _, _, _, rfl, rfl, sq_l eD, atI_nat (j := 0) (iv_get hd0), ?_⟩
  -- _law_row_here
  refine ⟨_, rfl, sa, sn, 1, rfl, u1.seq hs, fun c1 => ?_⟩
  refine ⟨_, rfl, _, _, rfl, rfl, ?_⟩
  refine ⟨c1, n + 1, rfl, by omega, fun H2 R1 rs s2 eR1 lrs brs => ?_⟩
  refine ⟨R1, rs, rfl, eR1, by omega, fun H3 R2 s3 nR2 eR2 => ?_⟩
  have u3 := u1.trans (s2.trans s3)
  have lrw : (rs.map fun x => 1 + x).length = n + 1 := by rw [List.length_map, lrs]
  have brw : ∀ x ∈ rs.map (fun x => 1 + x), 1 ≤ x ∧ Bd 62 x := fun x hx => by
    obtain ⟨y, hy, rfl⟩ := List.mem_map.mp hx
    have := brs y hy
    have e : top18 = 1000000000000000000 := rfl
    exact ⟨by omega, by unfold Bd; omega⟩
  generalize hrw : (rs.map fun x => 1 + x) = row at *
  -- _law_weights, _law_aside
  refine ⟨_, rfl, _, rfl, _, rfl, R2, iv row, rfl, sq_l eR2, fun WA nWA => ?_⟩
  rw [cut_to _ _ (by rw [iv_len]; omega), show (iv row).take n = iv (row.take n) from (List.map_take ..).symm]
  have s4 : Same H3 (upd H3 WA (.lst (iv (row.take n)))) := same_upd nWA
  obtain ⟨a, ha⟩ : ∃ a, row[n]? = some a := ⟨_, List.getElem?_eq_getElem (by omega)⟩
  obtain ⟨a1, ab⟩ := brw a (List.mem_of_getElem? ha)
  refine ⟨_, rfl, _, rfl, R2, _, _, _, rfl, rfl, sq_l (s4 _ _ eR2), atI_nat (iv_get ha), ?_⟩
  -- _law_prices
  refine ⟨_, rfl, sa, sn, 2, rfl, (u3.trans s4).seq hs, fun c2 => ?_⟩
  refine ⟨_, rfl, c2, n, rfl, by omega, fun H5 PR ps s5 ePR lps bps => ?_⟩
  generalize hws : row.take n = ws at *
  have lws : ws.length = n := by rw [← hws, List.length_take]; omega
  have bws : ∀ x ∈ ws, 1 ≤ x ∧ Bd 62 x := fun x hx => brw x (by rw [← hws] at hx; exact List.mem_of_mem_take hx)
  have z : Nums ws ps a := ⟨fun x hx => (bws x hx).1, fun x hx => (bps x hx).1, a1, fun x hx => (bws x hx).2, fun x hx => by
    have := bps x hx
    have e : top18 = 1000000000000000000 := rfl
    unfold Bd
    omega, ab, by omega, by omega⟩
  -- _law_passed
  have eWA5 := s5 _ _ (upd_same (H := H3) (a := WA) (o := .lst (iv ws)))
  refine ⟨_, rfl, WA, _, rfl, .inl (sq_l eWA5), fun PA nPA => ?_⟩
  have s6 : Same H5 (upd H5 PA (.lst (iv ws))) := same_upd nPA
  -- _law_rule
  refine ⟨_, rfl, _, rfl, ?_⟩
  intro x7 dx7 nx7 ndx7 ne7
  refine ⟨x7, dx7, PA, ws, a, rfl, upd_same, mk_same nx7 ndx7 _ _ upd_same, by omega, z.w1, z.a1, fun H7 k7 hW7 => ⟨rfl, ?_⟩⟩
  have s7 := made_w (K := K) nx7 ndx7 k7
  -- _law_chain
  refine ⟨rfl, _, rfl, .ref x7, ws, a, rfl, hW7, by omega, z.w1, z.a1, fun H8 vc s8 hS8 => ?_⟩
  have s48 := s5.trans (s6.trans (s7.trans s8))
  have B8 : Bun K H8 ds ws ps a D WA PR PA (.ref x7) vc := ⟨s48 _ _ (s4 _ _ (s3 _ _ (s2 _ _ eD))), s48 _ _ upd_same, s8 _ _ (s7 _ _ (s6 _ _ ePR)), s8 _ _ (s7 _ _ upd_same), hW7.same s8, hS8⟩
  -- if ..: return False
  refine ⟨_, rfl, _, rfl, _, _, .lst (sq_l B8.pa) (dp_ints ws), .lst (sq_l B8.wa) (dp_ints ws), PySem.W.ke_shaped_ints ws, PySem.W.ke_shaped_ints ws, _, rfl, ?_⟩
  refine iteFb (by rw [eqv_list]; rfl) ?_
  refine ⟨_, rfl, _, rfl, _, rfl, vc, WA, ws, a, rfl, B8.s, B8.wa, z.sw, by omega, fun H9 s9 => ?_⟩
  have B9 := B8.same s9
  refine ⟨_, rfl, ?_⟩
  refine iteF ?_
  -- _law_lots
  refine ⟨_, rfl, D, _, _, _, rfl, rfl, sq_l B9.d, atI_nat (j := 1) (iv_get hd1), _, rfl, d1, n, rfl, by omega, fun H10 L0 q0 s10 eL0 => ?_⟩
  refine ⟨Nat.zero_le _, fun L1 nL1 => ?_⟩
  have s11 : Same H10 (upd H10 L1 (.tup [])) := same_upd nL1
  refine ⟨_, rfl, _, rfl, by omega, by omega, fun F nF => lc_range (lo := 0) (n := n) (fun j H' => Same (upd H10 L1 (.tup [])) H' ∧ H' F = some (.lst (tv (List.range j)))) ⟨same_upd nF, upd_same⟩ ?_ ?_⟩
  · rintro j Hj hj ⟨sj, eF⟩
    rw [show (0 : Int) + (j : Int) = (j : Int) from Int.zero_add _]
    refine ⟨rfl, _, rfl, _, eF, ?_, fun b o e => ?_, ?_⟩
    · rw [tv_len, List.length_range]
      exact small1000 (by omega)
    · rw [upd_ne (ne_of_none e nF)]
      exact sj _ _ e
    · rw [upd_same, List.range_succ, tv_app]
      rfl
  rintro H12 ⟨s12, eF⟩
  refine ⟨F, _, rfl, .inl ⟨sq_l eF, fun L2 nL2 => ?_⟩⟩
  have s13 : Same H12 (upd H12 L2 (.tup (tv (List.range n)))) := same_upd nL2
  refine ⟨(by show 3 ≤ sizeLine; decide), fun LL nLL => ?_⟩
  have s14 : Same _ (upd (upd H12 L2 (.tup (tv (List.range n)))) LL (.lst [.ref L0, .ref L1, .ref L2])) := same_upd nLL
  have sA : Same H10 _ := s11.trans (s12.trans (s13.trans s14))
  have h3 : Each (LotR n (upd (upd H12 L2 (.tup (tv (List.range n)))) LL (.lst [.ref L0, .ref L1, .ref L2]))) [.ref L0, .ref L1, .ref L2] [q0, fun _ => false, fun _ => true] := by
    have r0 : LotR n (upd (upd H12 L2 (.tup (tv (List.range n)))) LL (.lst [.ref L0, .ref L1, .ref L2])) (.ref L0) q0 := ⟨L0, rfl, sA _ _ eL0⟩
    have r1 : LotR n (upd (upd H12 L2 (.tup (tv (List.range n)))) LL (.lst [.ref L0, .ref L1, .ref L2])) (.ref L1) fun _ => false := ⟨L1, rfl, by rw [lotq_none]; exact s14 _ _ (s13 _ _ (s12 _ _ upd_same))⟩
    have r2 : LotR n (upd (upd H12 L2 (.tup (tv (List.range n)))) LL (.lst [.ref L0, .ref L1, .ref L2])) (.ref L2) fun _ => true := ⟨L2, rfl, by rw [lotq_all]; exact s14 _ _ upd_same⟩
    exact Each.snoc (Each.snoc (Each.snoc Each.nil r0) r1) r2
  have B14 := (B9.same s10).same sA
  generalize hG14 : upd (upd H12 L2 (.tup (tv (List.range n)))) LL (.lst [.ref L0, .ref L1, .ref L2]) = G14 at *
  have eLL : G14 LL = some (.lst [.ref L0, .ref L1, .ref L2]) := by rw [← hG14, upd_same]
  have nLL10 : H10 LL = none := (s11.trans (s12.trans s13)).free nLL
  -- _law_lots.extend(..)
  refine ⟨_, rfl, .inl ⟨rfl, _, .inl (.inl eLL)⟩, ?_⟩
  refine ⟨_, rfl, _, rfl, by omega, by omega, fun F2 nF2 => lc_range (lo := 0) (n := n) (fun j H' => Same G14 H' ∧ ∃ vF, H' F2 = some (.lst vF) ∧ Each (LotR n H') vF ((List.range j).map fun t => fun x => x == t)) ⟨same_upd nF2, [], upd_same, .nil⟩ ?_ ?_⟩
  · rintro j Hj hj ⟨sj, vF, eF2, hF2⟩
    rw [show (0 : Int) + (j : Int) = (j : Int) from Int.zero_add _]
    refine ⟨rfl, _, rfl, (by show 1 ≤ sizeLine; decide), fun U nU => ?_⟩
    have sU : Same Hj (upd Hj U (.tup [.int (j : Int)])) := same_upd nU
    refine ⟨vF, sU _ _ eF2, ?_, fun b o e => ?_, vF ++ [.ref U], upd_same, ?_⟩
    · have := hF2.1
      rw [List.length_map, List.length_range] at this
      exact small1000 (by omega)
    · rw [upd_ne (ne_of_none e nF2)]
      exact sU _ _ (sj _ _ e)
    · rw [List.range_succ, List.map_append]
      refine Each.snoc (hF2.mono fun _ _ _ _ y => (y.same sU).upd (sU _ _ eF2)) (LotR.upd ⟨U, rfl, ?_⟩ (sU _ _ eF2))
      rw [upd_same, lotq_one hj]
      rfl
  rintro H15 ⟨s15, vF, eF2, hF2⟩
  have eLL15 := s15 _ _ eLL
  refine ⟨LL, F2, _, _, rfl, rfl, eLL15, eF2, ?_, ?_⟩
  · have := hF2.1
    rw [List.length_map, List.length_range] at this
    rw [this]
    exact Nat.le_of_lt (small1000 (by show 3 + n ≤ 1000; omega))
  have hLots : Each (LotR n (upd H15 LL (.lst ([.ref L0, .ref L1, .ref L2] ++ vF)))) ([.ref L0, .ref L1, .ref L2] ++ vF) ([q0, fun _ => false, fun _ => true] ++ (List.range n).map fun t => fun x => x == t) :=
    Each.append (h3.mono fun _ _ _ _ y => (y.same s15).upd eLL15) (hF2.mono fun _ _ _ _ y => y.upd eLL15)
  have s16 : Same H10 (upd H15 LL (.lst ([.ref L0, .ref L1, .ref L2] ++ vF))) := fun b o e => by
    rw [upd_ne (ne_of_none e nLL10)]
    exact s15 _ _ (sA _ _ e)
  have B16 := (B9.same s10).same s16
  generalize hvL : ([.ref L0, .ref L1, .ref L2] ++ vF : List V) = vL at *
  generalize hqL : ([q0, fun _ => false, fun _ => true] ++ (List.range n).map fun t => fun x => x == t : List (Nat → Bool)) = qL at *
  have eL16 : (upd H15 LL (.lst vL)) LL = some (.lst vL) := upd_same
  generalize hG16 : upd H15 LL (.lst vL) = G16 at *
  -- for _law_lot_here in _law_lots
  refine ⟨_, rfl, LL, rfl, ⟨_, sq_l eL16⟩, for_list (K := K) (a := LL) (xs := vL) (fun i σ H' => ∃ v11 v12 v13, σ = [some (.ref sa), some (.ref D), some (.int (n : Int)), some (.ref R2), some (.ref WA), some (.int a), some (.ref PR), some (.ref PA), some (.ref x7), some vc, some (.ref LL), v11, v12, v13, none, none, none, none, none] ∧ Same G16 H')
    ⟨none, none, none, rfl, .refl _⟩ (fun i σ H' hi ⟨_, _, _, _, s⟩ => sq_l (s _ _ eL16)) ?_ ?_⟩
  · rintro i x σ H17 hx ⟨v11, v12, v13, rfl, s17⟩
    have hi : i < qL.length := by rw [← hLots.1]; exact (List.getElem?_eq_some_iff.mp hx).1
    obtain ⟨la, rfl, hla⟩ := hLots.2 i x _ hx (List.getElem?_eq_getElem hi)
    have hla17 := s17 _ _ hla
    rw [← lws] at hla17 ⊢
    exact rB _ H17 ds ws ps a D WA PR PA la _ _ _ _ _ _ _ _ _ (B16.same s17) z hla17 fun v12 v13 H' s' => ⟨_, _, _, rfl, s17.trans s'⟩
  rintro σ H17 ⟨v11, v12, v13, rfl, s17⟩
  exact rT H17 ds ws ps a D WA PR PA _ _ _ _ _ _ _ _ _ _ (B16.same s17) z
end
end K45W
end JK45Law
section JK45Hk
set_option Elab.async false
set_option linter.all false
set_option maxRecDepth 100000
set_option maxHeartbeats 4000000
namespace K45H
open PySem PySem.Spec PyProof.Rows L2 K45R
open He (ba eqO eqO_ok dflB dflB_ok refV)
/-! ### what of the heap is looked at -/
def valsOf (g : Addr → Option Obj) (a : Addr) : List Addr := match g a with
  | some ⟨_, _, .dict es _, _⟩ => es.toList.flatMap fun e => refV e.val
  | _ => []
/-- a def: its code, its defaults, its cells; a record of a classmethod: its def's -/
def partsF (g : Addr → Option Obj) (a : Addr) : List Addr := match g a with
  | some ⟨_, _, .func fd, _⟩ => refV fd.code ++ (refV fd.defaults ++ fd.closure.map (·.2))
  | _ => []
def partsM (g : Addr → Option Obj) (a : Addr) : List Addr := a :: (match g a with
  | some ⟨_, _, .func fd, _⟩ => refV fd.code ++ (refV fd.defaults ++ fd.closure.map (·.2))
  | some ⟨.type n, _, .fields vs, _⟩ => (match decide (n = "classmethod") with
    | true => vs.toList.flatMap fun v => (refV v).flatMap fun b => b :: partsF g b
    | false => [])
  | _ => [])
def partsG (g : Addr → Option Obj) (a : Addr) : List Addr := a :: (match g a with
  | some ⟨_, _, .func fd, _⟩ => refV fd.code ++ (refV fd.defaults ++ fd.closure.map (·.2))
  | some ⟨_, _, .cls cd, _⟩ => cd.ns :: (valsOf g cd.ns).flatMap (partsM g)
  | _ => [])
def placesG (g : Addr → Option Obj) : List Addr := mainGlobals :: PySem.cStatics :: (valsOf g mainGlobals).flatMap (partsG g)
def KG (g : Addr → Option Obj) : PySem.W.Frag := He.frG g (placesG g)
/-! ### a def as data, at an address -/
abbrev DatF : Type := Option (Str × Str × Arguments × FuncBody × Scope × Addr × Addr)
def datF (K : PySem.W.Frag) (a : Addr) : DatF := match K.lookup a with
  | some ⟨_, _, .func fd, _⟩ => some (fd.name, fd.qualname, fd.params, fd.body, fd.scope, fd.globals, fd.builtins)
  | _ => none
def expF (x qual : Str) (st : Stmt) : DatF := some (x, qual, defArgs st, .stmts (defBody st), defScope st, mainGlobals, builtinsNs)
def tstF (K : PySem.W.Frag) (a : Addr) (qual : Str) (dvs : List V) : Bool := PySem.W.keepIn K (.ref a) && (match K.lookup a with
  | some ⟨_, _, .func fd, _⟩ => fd.closure.isEmpty && (PySem.W.codeIn K fd.code qual && dflB K fd.defaults dvs)
  | _ => false)
theorem funD_of {K : PySem.W.Frag} {a : Addr} {x qual : Str} {st : Stmt} {dvs : List V} (e : datF K a = expF x qual st) (c : tstF K a qual dvs = true) : ∃ fd, FunD K x qual (defArgs st) (defBody st) (defScope st) dvs [] a fd := by
  obtain ⟨kp, c2⟩ := ba c
  unfold datF at e
  cases q : K.lookup a with
  | none =>
    rw [q] at c2
    cases c2
  | some o =>
    obtain ⟨oc, od, dt, osl⟩ := o
    rw [q] at c2 e
    cases dt with
    | func fd =>
      obtain ⟨n1, n2, n3, n4, n5, n6, n7, n8, n9, n10, n11, n12, n13, n14, n15⟩ := fd
      have e2 : (some (n1, n2, n3, n4, n5, n6, n15) : DatF) = some (x, qual, defArgs st, .stmts (defBody st), defScope st, mainGlobals, builtinsNs) := e
      simp only [Option.some.injEq, Prod.mk.injEq] at e2
      obtain ⟨h1, h2, h3, h4, h5, h6, h8⟩ := e2
      subst h1 h2 h3 h4 h5 h6 h8
      have c3 : (n7.isEmpty && (PySem.W.codeIn K n13 n2 && dflB K n8 dvs)) = true := c2
      obtain ⟨k0, k1⟩ := ba c3
      obtain ⟨k2, k3⟩ := ba k1
      have h7 : n7 = [] := List.isEmpty_iff.mp k0
      subst h7
      exact ⟨_, ⟨oc, od, n8, n9, n10, n11, n12, n13, n14, osl, rfl, q, k2, dflB_ok k3, .inl rfl⟩, kp⟩
    | _ => cases c2
/-- a def that says super(): its cell holds the class at D, its code object the program's file -/
def cellB (K : PySem.W.Frag) (cc D : Addr) : Bool := match K.lookup cc with
  | some ⟨_, _, .cell (some (.ref d)), _⟩ => decide (d = D)
  | _ => false
theorem cellB_ok {K : PySem.W.Frag} {cc D : Addr} (h : cellB K cc D = true) : ∃ cl cld csl, K.lookup cc = some ⟨cl, cld, .cell (some (.ref D)), csl⟩ := by
  unfold cellB at h
  split at h
  · rename_i c1 c2 d c3 q
    have e : d = D := of_decide_eq_true h
    subst e
    exact ⟨_, _, _, q⟩
  · cases h
def fileB (K : PySem.W.Frag) (cda : Addr) (fl : Str) : Bool := match K.lookup cda with
  | some ⟨_, _, .fields vs, _⟩ => (match (vs[2]? : Option Value) with
    | some (.str z _) => fl == z
    | _ => false)
  | _ => false
theorem fileB_ok {K : PySem.W.Frag} {cda : Addr} {fl : Str} (h : fileB K cda fl = true) : ∃ ccl cdd vs ccs z tf, K.lookup cda = some ⟨ccl, cdd, .fields vs, ccs⟩ ∧ vs[2]? = some (.str z tf) ∧ (fl == z) = true := by
  unfold fileB at h
  split at h
  · rename_i c1 c2 vs c3 q
    split at h
    · rename_i z tf q2
      exact ⟨_, _, _, _, z, tf, q, q2, h⟩
    · cases h
  · cases h
def closB (K : PySem.W.Frag) (cl : List (Str × Addr)) (cd df : Value) (D : Addr) (qual fl : Str) : Bool := match cl, cd, df with
  | [(y, cc)], .ref cda, .none => decide (y = ("__class__" : Str)) && (PySem.W.codeIn K (.ref cda) qual && (cellB K cc D && fileB K cda fl))
  | _, _, _ => false
theorem closB_ok {K : PySem.W.Frag} {cl : List (Str × Addr)} {cd df : Value} {D : Addr} {qual fl : Str} (h : closB K cl cd df D qual fl = true) :
    ∃ (cc cda : Addr), cl = [(("__class__" : Str), cc)] ∧ cd = .ref cda ∧ df = .none ∧ PySem.W.codeIn K (.ref cda) qual = true ∧ cellB K cc D = true ∧ fileB K cda fl = true := by
  unfold closB at h
  split at h
  · rename_i y cc cda
    obtain ⟨k1, k2⟩ := ba h
    obtain ⟨k3, k4⟩ := ba k2
    obtain ⟨k5, k6⟩ := ba k4
    have hy : y = ("__class__" : Str) := of_decide_eq_true k1
    exact ⟨cc, cda, by rw [hy], rfl, rfl, k3, k5, k6⟩
  · cases h
def tstS (K : PySem.W.Frag) (a D : Addr) (qual fl : Str) : Bool := PySem.W.keepIn K (.ref a) && ((PySem.W.clsIn K D).isSome && (match K.lookup a with
  | some ⟨_, _, .func fd, _⟩ => closB K fd.closure fd.code fd.defaults D qual fl
  | _ => false))
theorem funS_of {K : PySem.W.Frag} {a D : Addr} {x qual fl : Str} {st : Stmt} (e : datF K a = expF x qual st) (c : tstS K a D qual fl = true) :
    ∃ cc cda file fd, FunS K x qual st a cc cda D file fd ∧ (fl == file) = true ∧ PySem.W.clsIn K D ≠ none := by
  obtain ⟨kp, c1⟩ := ba c
  obtain ⟨hD, c2⟩ := ba c1
  have hD2 : PySem.W.clsIn K D ≠ none := Option.isSome_iff_ne_none.mp hD
  unfold datF at e
  cases q : K.lookup a with
  | none =>
    rw [q] at c2
    cases c2
  | some o =>
    obtain ⟨oc, od, dt, osl⟩ := o
    rw [q] at c2 e
    cases dt with
    | func fd =>
      obtain ⟨n1, n2, n3, n4, n5, n6, n7, n8, n9, n10, n11, n12, n13, n14, n15⟩ := fd
      have e2 : (some (n1, n2, n3, n4, n5, n6, n15) : DatF) = some (x, qual, defArgs st, .stmts (defBody st), defScope st, mainGlobals, builtinsNs) := e
      simp only [Option.some.injEq, Prod.mk.injEq] at e2
      obtain ⟨h1, h2, h3, h4, h5, h6, h8⟩ := e2
      subst h1 h2 h3 h4 h5 h6 h8
      have c3 : closB K n7 n13 n8 D n2 fl = true := c2
      obtain ⟨cc, cda, e7, e13, e8, k3, k5, k6⟩ := closB_ok c3
      subst e7 e13 e8
      obtain ⟨ccl, cdd, vs, ccs, z, tf, w1, w2, w3⟩ := fileB_ok k6
      exact ⟨cc, cda, z, _, ⟨⟨oc, od, n9, n10, n11, n12, n14, osl, rfl, q⟩, k3, cellB_ok k5, ⟨ccl, cdd, vs, ccs, tf, w1, w2⟩, kp⟩, w3, hD2⟩
    | _ => cases c2
/-! ### other facts -/
theorem dec_ok {α : Type} [DecidableEq α] {a b : α} (h : decide (a = b) = true) : a = b := of_decide_eq_true h
def refOr (r : Option (Option Value)) : Bool := match r with
  | some none => true
  | some (some (.ref _)) => true
  | _ => false
theorem refOr_ok {r : Option (Option Value)} (h : refOr r = true) : ∃ rc, r = some rc ∧ (rc = none ∨ ∃ g : Addr, rc = some (.ref g)) := by
  unfold refOr at h
  split at h
  · exact ⟨_, rfl, .inl rfl⟩
  · exact ⟨_, rfl, .inr ⟨_, rfl⟩⟩
  · cases h
theorem some_ok {α : Type} {r : Option α} (h : r.isSome = true) : ∃ x, r = some x := Option.isSome_iff_exists.mp h
def supB (K : PySem.W.Frag) (C D : Addr) (m : Str) (g : Addr) : Bool := decide (PySem.W.mroIn K C (.ref D) = some true) && (eqO (PySem.W.ks_superIn K C D m) (some (some (.ref g))) && (decide (PySem.W.typeIn K (.ref g) = some (.type "function")) && (PySem.W.fnIn K g && eqO (PySem.W.nsIn K PySem.cStatics "thirdparty.any") (some none))))
theorem supB_ok {K : PySem.W.Frag} {C D : Addr} {m : Str} {g : Addr} (h : supB K C D m g = true) : SupM K C D m g := by
  obtain ⟨h1, h⟩ := ba h
  obtain ⟨h2, h⟩ := ba h
  obtain ⟨h3, h⟩ := ba h
  obtain ⟨h4, h5⟩ := ba h
  exact ⟨of_decide_eq_true h1, eqO_ok h2, of_decide_eq_true h3, h4, eqO_ok h5⟩
def mroB (C : Addr) (cd : ClassData) (sl : Array (Option Value)) : Bool := match cd.mro, sl.toList with
  | .ref c1 :: bm, [_, _, _, _, some (.builtin n), _] => decide (c1 = C) && (decide (n = "ValueError.__new__") && (cd.hasDict && (!cd.hasDel && PySem.HandSPX.refsVE bm)))
  | _, _ => false
theorem mroB_ok {C : Addr} {cd : ClassData} {sl : Array (Option Value)} (h : mroB C cd sl = true) :
    ∃ bm k0 k1 k2 k3 k5, cd.mro = .ref C :: bm ∧ sl = #[k0, k1, k2, k3, some (.builtin "ValueError.__new__"), k5] ∧ cd.hasDict = true ∧ cd.hasDel = false ∧ PySem.HandSPX.refsVE bm = true := by
  unfold mroB at h
  split at h
  · rename_i c1 bm k0 k1 k2 k3 n k5 e1 e2
    obtain ⟨g1, w1⟩ := ba h
    obtain ⟨g2, w2⟩ := ba w1
    obtain ⟨g3, w3⟩ := ba w2
    obtain ⟨g4, g5⟩ := ba w3
    have ec : c1 = C := of_decide_eq_true g1
    have en : n = "ValueError.__new__" := of_decide_eq_true g2
    have ed : cd.hasDel = false := by
      cases z : cd.hasDel with
      | false => rfl
      | true =>
        rw [z] at g4
        cases g4
    refine ⟨bm, k0, k1, k2, k3, k5, by rw [e1, ec], ?_, g3, ed, g5⟩
    obtain ⟨l⟩ := sl
    have e3 : l = [k0, k1, k2, k3, some (.builtin n), k5] := e2
    rw [e3, en]
  · cases h
def clsB (K : PySem.W.Frag) (C : Addr) : Bool := match K.lookup C with
  | some ⟨.type t, _, .cls cd, sl⟩ => decide (t = "type") && mroB C cd sl
  | _ => false
theorem clsB_ok {K : PySem.W.Frag} {C : Addr} (h : clsB K C = true) : ∃ nm q N bs bm sn sub ab col dd k0 k1 k2 k3 k5, K.lookup C = some (excClassObj nm q C N bs bm true sn sub ab col dd k0 k1 k2 k3 k5 "ValueError.__new__") ∧ PySem.HandSPX.refsVE bm = true := by
  unfold clsB at h
  split at h
  · rename_i t dd cd sl q
    obtain ⟨g0, g1⟩ := ba h
    obtain ⟨bm, k0, k1, k2, k3, k5, e1, e2, e3, e4, e5⟩ := mroB_ok g1
    have et : t = "type" := of_decide_eq_true g0
    obtain ⟨nm, bs, mro, ns, qn, hd, sn, sub, ab, col, del⟩ := cd
    have x1 : mro = .ref C :: bm := e1
    have x3 : hd = true := e3
    have x4 : del = false := e4
    rw [et, x1, x3, x4, e2] at q
    exact ⟨nm, qn, ns, bs, bm, sn, sub, ab, col, dd, k0, k1, k2, k3, k5, q, e5⟩
  · cases h
def oexB (K : PySem.W.Frag) (C : Addr) : Bool := clsB K C && (eqO (PySem.W.findIn K (.ref C) "__setattr__") (some (some (.builtin "object.__setattr__"))) && (decide (PySem.W.subIn K (.ref C) (.type "BaseException") = some true) && (decide (PySem.W.typeIn K (.ref C) = some (.type "type")) && PySem.W.keepIn K (.ref C))))
theorem oexB_ok {K : PySem.W.Frag} {C : Addr} (h : oexB K C = true) : OexC K C := by
  obtain ⟨h0, h⟩ := ba h
  obtain ⟨h1, h⟩ := ba h
  obtain ⟨h2, h⟩ := ba h
  obtain ⟨h3, h4⟩ := ba h
  exact ⟨clsB_ok h0, eqO_ok h1, of_decide_eq_true h2, of_decide_eq_true h3, h4⟩
def supXB (K : PySem.W.Frag) (C D : Addr) : Bool := decide (PySem.W.mroIn K C (.ref D) = some true) && (eqO (PySem.W.ks_superIn K C D "__init__") (some (some (.builtin "ValueError.__init__"))) && (decide (PySem.W.subIn K (.ref C) (.type "ValueError") = some true) && (eqO (PySem.W.nsIn K PySem.cStatics "thirdparty.any") (some none) && oexB K C)))
theorem supXB_ok {K : PySem.W.Frag} {C D : Addr} (h : supXB K C D = true) : SupX K C D := by
  obtain ⟨h1, h⟩ := ba h
  obtain ⟨h2, h⟩ := ba h
  obtain ⟨h3, h⟩ := ba h
  obtain ⟨h4, h5⟩ := ba h
  exact ⟨of_decide_eq_true h1, eqO_ok h2, of_decide_eq_true h3, eqO_ok h4, oexB_ok h5⟩
/-! ### a classmethod -/
def cmP (K : PySem.W.Frag) (C : Addr) (m : Str) : Addr := He.ma K C m
def cmG (K : PySem.W.Frag) (C : Addr) (m : Str) : Addr := match PySem.W.recIn K (cmP K C m) "classmethod" with
  | some (.ref g :: _) => g
  | _ => 0
def cmB (K : PySem.W.Frag) (C : Addr) (m : Str) : Bool := (match PySem.W.findCls K (.ref C) (.type "type") m with
  | some (.get (.builtin n) (.ref p) .none (.ref c1)) => decide (n = "classmethod.__get__") && (decide (p = cmP K C m) && decide (c1 = C))
  | _ => false) && ((match PySem.W.recIn K (cmP K C m) "classmethod" with
  | some (.ref g :: _) => decide (g = cmG K C m)
  | _ => false) && PySem.W.fnIn K (cmG K C m))
theorem cmB_ok {K : PySem.W.Frag} {C : Addr} {m : Str} (h : cmB K C m = true) : ClX.CMet K C (.type "type") m (cmP K C m) (cmG K C m) := by
  obtain ⟨h1, h⟩ := ba h
  obtain ⟨h2, h3⟩ := ba h
  refine ⟨?_, ?_, h3⟩
  · split at h1
    · rename_i n p c1 q
      obtain ⟨g1, h1⟩ := ba h1
      obtain ⟨g2, g3⟩ := ba h1
      have e1 : n = "classmethod.__get__" := of_decide_eq_true g1
      have e2 : p = cmP K C m := of_decide_eq_true g2
      have e3 : c1 = C := of_decide_eq_true g3
      rw [q, e1, e2, e3]
    · cases h1
  · split at h2
    · rename_i g r q
      have e : g = cmG K C m := of_decide_eq_true h2
      exact ⟨r, by rw [q, e]⟩
    · cases h2
def crB (K : PySem.W.Frag) (C : Addr) : Bool := PySem.W.readsIn K C (.type "type") && eqO (PySem.W.specialIn K (.ref C) "__getattribute__") (some (some (.builtin "type.__getattribute__")))
theorem crB_ok {K : PySem.W.Frag} {C : Addr} (h : crB K C = true) : ClX.CRead K C (.type "type") := by
  obtain ⟨h1, h2⟩ := ba h
  exact ⟨h1, eqO_ok h2⟩
end K45H
end JK45Hk
section JK45Hd
set_option Elab.async false
set_option linter.all false
set_option maxRecDepth 100000
set_option maxHeartbeats 4000000
namespace K45H
open PySem PySem.Spec PyProof.Rows L2 K45R K45T
open He (ba eqO eqO_ok)
abbrev PW : Program := PySem.Challenge.pw_dearestshelf_k45_whole_like_weights
section
variable (K : PySem.W.Frag)
def tl0 : List Bool := [(He.Fa.free "len").ok K,
  (He.Fa.free "int").ok K,
  (He.Fa.free "isinstance").ok K,
  (He.Fa.free "bool").ok K,
  (He.Fa.free "list").ok K,
  (He.Fa.free "tuple").ok K,
  (He.Fa.free "zip").ok K,
  (He.Fa.free "range").ok K,
  (He.Fa.free "enumerate").ok K,
  (He.Fa.free "sum").ok K,
  (He.Fa.free "any").ok K,
  (He.Fa.free "sorted").ok K,
  (He.Fa.free "super").ok K,
  (He.Fa.free "ValueError").ok K,
  eqO (PySem.W.nsIn K mainGlobals "gcd") (some (some (.builtin "math.gcd"))),
  (He.Fa.glo "Ratio").ok K,
  (He.Fa.glo "Stepping").ok K,
  (He.Fa.glo "Weighted").ok K,
  (He.Fa.glo "TooMany").ok K,
  (He.Fa.glo "pivoted").ok K]
def tl1 : List Bool := [(He.Fa.glo "solve").ok K,
  (He.Fa.glo "check_lot").ok K,
  (He.Fa.glo "check_prices").ok K,
  (He.Fa.glo "dearest_order").ok K,
  (He.Fa.glo "check_steps").ok K,
  (He.Fa.glo "dearer_than_worth").ok K,
  (He.Fa.glo "_law_cell").ok K,
  (He.Fa.glo "_law_draws").ok K,
  (He.Fa.glo "_law_row").ok K,
  (He.Fa.glo "_law_ups").ok K,
  (He.Fa.glo "_law_lot").ok K,
  (He.Fa.glo "_law_is_int").ok K,
  (He.Fa.glo "_law_same").ok K,
  (He.Fa.glo "_law_same_lot").ok K,
  (He.Fa.glo "_law_same_row").ok K,
  (He.Fa.glo "_law_worth").ok K,
  (He.Fa.glo "_law_is_like").ok K,
  (He.Fa.glo "_law_refused").ok K,
  (He.Fa.glo "_law_is_best").ok K,
  (He.Fa.cls "Ratio").ok K]
def tl2 : List Bool := [(He.Fa.noat "Ratio" "top").ok K,
  (He.Fa.noat "Ratio" "bottom").ok K,
  (He.Fa.mkr "Ratio").ok K,
  decide (PySem.W.findIn K (.ref (cR K)) "__class__" = some (some (.builtin "object.__class__"))),
  decide (PySem.W.mroIn K (cR K) (.type "object") = some true),
  (He.Fa.cls "Stepping").ok K,
  (He.Fa.noat "Stepping" "many").ok K,
  (He.Fa.noat "Stepping" "first").ok K,
  (He.Fa.noat "Stepping" "aside").ok K,
  (He.Fa.noat "Stepping" "steps").ok K,
  (He.Fa.noat "Stepping" "leaves").ok K,
  (He.Fa.mkr "Stepping").ok K,
  decide (PySem.W.findIn K (.ref (cS K)) "__class__" = some (some (.builtin "object.__class__"))),
  decide (PySem.W.mroIn K (cS K) (.type "object") = some true),
  (He.Fa.cls "Weighted").ok K,
  (He.Fa.noat "Weighted" "many").ok K,
  (He.Fa.noat "Weighted" "weights").ok K,
  (He.Fa.noat "Weighted" "aside").ok K,
  (He.Fa.mkr "Weighted").ok K,
  decide (PySem.W.findIn K (.ref (cW K)) "__class__" = some (some (.builtin "object.__class__")))]
def tl3 : List Bool := [decide (PySem.W.mroIn K (cW K) (.type "object") = some true),
  decide (PySem.W.specialIn K (.builtin "object.__class__") "__get__" = some (some (.builtin "getset_descriptor.__get__"))),
  decide (PySem.W.takesIn K (.builtin "object.__class__") = some true),
  decide (PySem.W.kitOne K (.ref (cR K)) (.type "int") = some false),
  decide (PySem.W.kitOne K (.ref (cR K)) (.ref (cR K)) = some true),
  decide (PySem.W.kitOne K (.ref (cS K)) (.ref (cS K)) = some true),
  (He.Fa.meth "Ratio" "__add__").ok K,
  (He.Fa.meth "Ratio" "__mul__").ok K,
  (He.Fa.meth "Ratio" "__lt__").ok K,
  (He.Fa.meth "Ratio" "__ge__").ok K,
  (He.Fa.meth "Ratio" "over").ok K,
  (He.Fa.meth "Stepping" "step_total").ok K,
  (He.Fa.meth "Stepping" "shares").ok K,
  (He.Fa.meth "Stepping" "values_of").ok K,
  (He.Fa.meth "Stepping" "onward").ok K,
  (He.Fa.meth "Stepping" "settled").ok K,
  (He.Fa.meth "Stepping" "best").ok K,
  (He.Fa.meth "Weighted" "total_of").ok K,
  (He.Fa.meth "Weighted" "shares").ok K,
  (He.Fa.meth "Weighted" "best").ok K]
def tl4 : List Bool := [PySem.W.selfFirst K (cR K),
  refOr (PySem.W.findIn K (.ref (cR K)) "__radd__"),
  refOr (PySem.W.findIn K (.ref (cR K)) "__rmul__"),
  (PySem.W.findIn K (.type "int") "__add__").isSome,
  (PySem.W.findIn K (.type "int") "__radd__").isSome,
  (PySem.W.findIn K (.type "int") "__mul__").isSome,
  (PySem.W.findIn K (.type "int") "__rmul__").isSome,
  decide (PySem.W.subIn K (.type "int") (.ref (cR K)) = some false),
  PySem.W.notFirst K (cR K) (.type "int"),
  He.conB K "Stepping" "MOST" (.int 8),
  He.conB K "Weighted" "MOST" (.int 24),
  tstF K (f_RI K) "Ratio.__init__" [.int 1],
  tstF K (f_RA K) "Ratio.__add__" [],
  tstF K (f_RM K) "Ratio.__mul__" [],
  tstF K (f_RL K) "Ratio.__lt__" [],
  tstF K (f_RG K) "Ratio.__ge__" [],
  tstF K (f_RO K) "Ratio.over" [],
  tstS K (f_TI K) (cT K) "TooMany.__init__" PW.main.file,
  tstF K (f_piv K) "pivoted" [],
  tstF K (f_sol K) "solve" []]
def tl5 : List Bool := [tstF K (f_cl K) "check_lot" [],
  tstF K (f_cp K) "check_prices" [],
  tstF K (f_do K) "dearest_order" [],
  tstF K (f_UI K) "Rule.__init__" [],
  tstF K (f_US K) "Rule.shares" [],
  tstF K (f_cs K) "check_steps" [],
  tstS K (f_SI K) (cS K) "Stepping.__init__" PW.main.file,
  tstF K (f_ST K) "Stepping.step_total" [],
  tstS K (f_SS K) (cS K) "Stepping.shares" PW.main.file,
  tstF K (f_SV K) "Stepping.values_of" [],
  tstF K (f_SO K) "Stepping.onward" [],
  tstF K (f_SE K) "Stepping.settled" [],
  tstF K (f_SB K) "Stepping.best" [],
  (crB K (cS K) && (cmB K (cS K) "like" && tstF K (cmG K (cS K) "like") "Stepping.like" [])),
  tstS K (f_WI K) (cW K) "Weighted.__init__" PW.main.file,
  tstF K (f_WT K) "Weighted.total_of" [],
  tstS K (f_WS K) (cW K) "Weighted.shares" PW.main.file,
  tstF K (f_WB K) "Weighted.best" [],
  tstF K (f_dw K) "dearer_than_worth" [],
  tstF K (f_lc K) "_law_cell" []]
def tl6 : List Bool := [tstF K (f_ld K) "_law_draws" [],
  tstF K (f_lr K) "_law_row" [],
  tstF K (f_lu K) "_law_ups" [],
  tstF K (f_ll K) "_law_lot" [],
  tstF K (f_li K) "_law_is_int" [],
  tstF K (f_ls K) "_law_same" [],
  tstF K (f_lt K) "_law_same_lot" [],
  tstF K (f_lv K) "_law_same_row" [],
  tstF K (f_lw K) "_law_worth" [],
  tstF K (f_lk K) "_law_is_like" [],
  tstF K (f_lf K) "_law_refused" [],
  tstF K (f_lb K) "_law_is_best" [],
  tstF K (f_law K) "law" [],
  supB K (cS K) (cS K) "__init__" (f_UI K),
  supB K (cW K) (cW K) "__init__" (f_UI K),
  supB K (cS K) (cS K) "shares" (f_US K),
  supB K (cW K) (cW K) "shares" (f_US K),
  supXB K (cT K) (cT K),
  decide (PySem.W.findIn K (.ref (cT K)) "__init__" = some (some (.ref (f_TI K)))),
  decide (PySem.W.typeIn K (.ref (f_TI K)) = some (.type "function"))]
def tl7 : List Bool := [decide (PySem.W.findIn K (.ref (cT K)) "many" = some none),
  decide (PySem.W.findIn K (.ref (cT K)) "most" = some none),
  xfB K (cT K),
  decide (PySem.W.exmOne K (.ref (cT K)) (.ref (cT K)) = some true),
  (He.Fa.glo "law").ok K]
def tests : List (List Bool) := [tl0 K, tl1 K, tl2 K, tl3 K, tl4 K, tl5 K, tl6 K, tl7 K]
def allB : Bool := (tests K).all fun l => l.all id
def da0 : List DatF := [datF K (f_RI K), datF K (f_RA K), datF K (f_RM K), datF K (f_RL K), datF K (f_RG K), datF K (f_RO K), datF K (f_TI K), datF K (f_piv K), datF K (f_sol K), datF K (f_cl K), datF K (f_cp K), datF K (f_do K), datF K (f_UI K), datF K (f_US K), datF K (f_cs K), datF K (f_SI K), datF K (f_ST K), datF K (f_SS K), datF K (f_SV K), datF K (f_SO K)]
def da1 : List DatF := [datF K (f_SE K), datF K (f_SB K), datF K (cmG K (cS K) "like"), datF K (f_WI K), datF K (f_WT K), datF K (f_WS K), datF K (f_WB K), datF K (f_dw K), datF K (f_lc K), datF K (f_ld K), datF K (f_lr K), datF K (f_lu K), datF K (f_ll K), datF K (f_li K), datF K (f_ls K), datF K (f_lt K), datF K (f_lv K), datF K (f_lw K), datF K (f_lk K), datF K (f_lf K)]
def da2 : List DatF := [datF K (f_lb K), datF K (f_law K)]
def dats : List (List DatF) := [da0 K, da1 K, da2 K]
end
def ea0 : List DatF := [expF "__init__" "Ratio.__init__" s_RI, expF "__add__" "Ratio.__add__" s_RA, expF "__mul__" "Ratio.__mul__" s_RM, expF "__lt__" "Ratio.__lt__" s_RL, expF "__ge__" "Ratio.__ge__" s_RG, expF "over" "Ratio.over" s_RO, expF "__init__" "TooMany.__init__" s_TI, expF "pivoted" "pivoted" s_piv, expF "solve" "solve" s_sol, expF "check_lot" "check_lot" s_cl, expF "check_prices" "check_prices" s_cp, expF "dearest_order" "dearest_order" s_do, expF "__init__" "Rule.__init__" s_UI, expF "shares" "Rule.shares" s_US, expF "check_steps" "check_steps" s_cs, expF "__init__" "Stepping.__init__" s_SI, expF "step_total" "Stepping.step_total" s_ST, expF "shares" "Stepping.shares" s_SS, expF "values_of" "Stepping.values_of" s_SV, expF "onward" "Stepping.onward" s_SO]
def ea1 : List DatF := [expF "settled" "Stepping.settled" s_SE, expF "best" "Stepping.best" s_SB, expF "like" "Stepping.like" s_SL, expF "__init__" "Weighted.__init__" s_WI, expF "total_of" "Weighted.total_of" s_WT, expF "shares" "Weighted.shares" s_WS, expF "best" "Weighted.best" s_WB, expF "dearer_than_worth" "dearer_than_worth" s_dw, expF "_law_cell" "_law_cell" s_lc, expF "_law_draws" "_law_draws" s_ld, expF "_law_row" "_law_row" s_lr, expF "_law_ups" "_law_ups" s_lu, expF "_law_lot" "_law_lot" s_ll, expF "_law_is_int" "_law_is_int" s_li, expF "_law_same" "_law_same" s_ls, expF "_law_same_lot" "_law_same_lot" s_lt, expF "_law_same_row" "_law_same_row" s_lv, expF "_law_worth" "_law_worth" s_lw, expF "_law_is_like" "_law_is_like" s_lk, expF "_law_refused" "_law_refused" s_lf]
def ea2 : List DatF := [expF "_law_is_best" "_law_is_best" s_lb, expF "law" "law" s_law]
def exps : List (List DatF) := [ea0, ea1, ea2]
abbrev Al : Type := Bool × List (List DatF)
def obsK (K : PySem.W.Frag) : Al := (allB K, dats K)
def valK : Al := (true, exps)
def Says (K : PySem.W.Frag) : Prop := obsK K = valK
theorem fact {K : PySem.W.Frag} (c : Says K) {i j : Nat} {l : List Bool} {b : Bool} (h : (tests K)[i]? = some l) (h2 : l[j]? = some b) : b = true := by
  have e : allB K = true := congrArg (fun z : Al => z.1) c
  have e1 := List.all_eq_true.mp e l (List.mem_of_getElem? h)
  exact List.all_eq_true.mp e1 b (List.mem_of_getElem? h2)
theorem datAt {K : PySem.W.Frag} (c : Says K) {i j : Nat} {l l2 : List DatF} {a b : DatF} (h : (dats K)[i]? = some l) (h2 : exps[i]? = some l2) (h3 : l[j]? = some a) (h4 : l2[j]? = some b) : a = b := by
  have e : dats K = exps := congrArg (fun z : Al => z.2) c
  rw [e, h2] at h
  cases h
  rw [h3] at h4
  exact Option.some.inj h4
theorem like_ok {K : PySem.W.Frag} (e : datF K (cmG K (cS K) "like") = expF "like" "Stepping.like" s_SL) (h : (crB K (cS K) && (cmB K (cS K) "like" && tstF K (cmG K (cS K) "like") "Stepping.like" [])) = true) :
    ∃ mc p g fd, CRead_ K (cS K) mc ∧ ClX.CMet K (cS K) mc "like" p g ∧ FunD K "like" "Stepping.like" (defArgs s_SL) (defBody s_SL) (defScope s_SL) [] [] g fd := by
  obtain ⟨h1, h⟩ := ba h
  obtain ⟨h2, h3⟩ := ba h
  obtain ⟨fd, F⟩ := funD_of e h3
  exact ⟨_, _, _, fd, crB_ok h1, cmB_ok h2, F⟩
theorem fx {K : PySem.W.Frag} {h : Heap} {mg : Str → Option Value} (X : K.In h) (G : h.Ns mainGlobals mg) (c : Says K) : Fx K mg where
  m_len := He.free_ok X G (fact c (i := 0) (j := 0) rfl rfl)
  m_int := He.free_ok X G (fact c (i := 0) (j := 1) rfl rfl)
  m_isinstance := He.free_ok X G (fact c (i := 0) (j := 2) rfl rfl)
  m_bool := He.free_ok X G (fact c (i := 0) (j := 3) rfl rfl)
  m_list := He.free_ok X G (fact c (i := 0) (j := 4) rfl rfl)
  m_tuple := He.free_ok X G (fact c (i := 0) (j := 5) rfl rfl)
  m_zip := He.free_ok X G (fact c (i := 0) (j := 6) rfl rfl)
  m_range := He.free_ok X G (fact c (i := 0) (j := 7) rfl rfl)
  m_enumerate := He.free_ok X G (fact c (i := 0) (j := 8) rfl rfl)
  m_sum := He.free_ok X G (fact c (i := 0) (j := 9) rfl rfl)
  m_any := He.free_ok X G (fact c (i := 0) (j := 10) rfl rfl)
  m_sorted := He.free_ok X G (fact c (i := 0) (j := 11) rfl rfl)
  m_super := He.free_ok X G (fact c (i := 0) (j := 12) rfl rfl)
  m_ValueError := He.free_ok X G (fact c (i := 0) (j := 13) rfl rfl)
  m_gcd := PySem.W.mg_of X G (eqO_ok (fact c (i := 0) (j := 14) rfl rfl))
  g_Ratio := He.glo_ok X G (fact c (i := 0) (j := 15) rfl rfl)
  g_Stepping := He.glo_ok X G (fact c (i := 0) (j := 16) rfl rfl)
  g_Weighted := He.glo_ok X G (fact c (i := 0) (j := 17) rfl rfl)
  g_TooMany := He.glo_ok X G (fact c (i := 0) (j := 18) rfl rfl)
  g_piv := He.glo_ok X G (fact c (i := 0) (j := 19) rfl rfl)
  g_sol := He.glo_ok X G (fact c (i := 1) (j := 0) rfl rfl)
  g_cl := He.glo_ok X G (fact c (i := 1) (j := 1) rfl rfl)
  g_cp := He.glo_ok X G (fact c (i := 1) (j := 2) rfl rfl)
  g_do := He.glo_ok X G (fact c (i := 1) (j := 3) rfl rfl)
  g_cs := He.glo_ok X G (fact c (i := 1) (j := 4) rfl rfl)
  g_dw := He.glo_ok X G (fact c (i := 1) (j := 5) rfl rfl)
  g_lc := He.glo_ok X G (fact c (i := 1) (j := 6) rfl rfl)
  g_ld := He.glo_ok X G (fact c (i := 1) (j := 7) rfl rfl)
  g_lr := He.glo_ok X G (fact c (i := 1) (j := 8) rfl rfl)
  g_lu := He.glo_ok X G (fact c (i := 1) (j := 9) rfl rfl)
  g_ll := He.glo_ok X G (fact c (i := 1) (j := 10) rfl rfl)
  g_li := He.glo_ok X G (fact c (i := 1) (j := 11) rfl rfl)
  g_ls := He.glo_ok X G (fact c (i := 1) (j := 12) rfl rfl)
  g_lt := He.glo_ok X G (fact c (i := 1) (j := 13) rfl rfl)
  g_lv := He.glo_ok X G (fact c (i := 1) (j := 14) rfl rfl)
  g_lw := He.glo_ok X G (fact c (i := 1) (j := 15) rfl rfl)
  g_lk := He.glo_ok X G (fact c (i := 1) (j := 16) rfl rfl)
  g_lf := He.glo_ok X G (fact c (i := 1) (j := 17) rfl rfl)
  g_lb := He.glo_ok X G (fact c (i := 1) (j := 18) rfl rfl)
  c_Ratio := He.cls_ok (x := "Ratio") (fact c (i := 1) (j := 19) rfl rfl)
  n_Ratio_top := He.noat_ok (x := "Ratio") (f := "top") (fact c (i := 2) (j := 0) rfl rfl)
  n_Ratio_bottom := He.noat_ok (x := "Ratio") (f := "bottom") (fact c (i := 2) (j := 1) rfl rfl)
  k_Ratio := He.mkr_ok (x := "Ratio") (fact c (i := 2) (j := 2) rfl rfl)
  ic_Ratio := dec_ok (fact c (i := 2) (j := 3) rfl rfl)
  io_Ratio := dec_ok (fact c (i := 2) (j := 4) rfl rfl)
  c_Stepping := He.cls_ok (x := "Stepping") (fact c (i := 2) (j := 5) rfl rfl)
  n_Stepping_many := He.noat_ok (x := "Stepping") (f := "many") (fact c (i := 2) (j := 6) rfl rfl)
  n_Stepping_first := He.noat_ok (x := "Stepping") (f := "first") (fact c (i := 2) (j := 7) rfl rfl)
  n_Stepping_aside := He.noat_ok (x := "Stepping") (f := "aside") (fact c (i := 2) (j := 8) rfl rfl)
  n_Stepping_steps := He.noat_ok (x := "Stepping") (f := "steps") (fact c (i := 2) (j := 9) rfl rfl)
  n_Stepping_leaves := He.noat_ok (x := "Stepping") (f := "leaves") (fact c (i := 2) (j := 10) rfl rfl)
  k_Stepping := He.mkr_ok (x := "Stepping") (fact c (i := 2) (j := 11) rfl rfl)
  ic_Stepping := dec_ok (fact c (i := 2) (j := 12) rfl rfl)
  io_Stepping := dec_ok (fact c (i := 2) (j := 13) rfl rfl)
  c_Weighted := He.cls_ok (x := "Weighted") (fact c (i := 2) (j := 14) rfl rfl)
  n_Weighted_many := He.noat_ok (x := "Weighted") (f := "many") (fact c (i := 2) (j := 15) rfl rfl)
  n_Weighted_weights := He.noat_ok (x := "Weighted") (f := "weights") (fact c (i := 2) (j := 16) rfl rfl)
  n_Weighted_aside := He.noat_ok (x := "Weighted") (f := "aside") (fact c (i := 2) (j := 17) rfl rfl)
  k_Weighted := He.mkr_ok (x := "Weighted") (fact c (i := 2) (j := 18) rfl rfl)
  ic_Weighted := dec_ok (fact c (i := 2) (j := 19) rfl rfl)
  io_Weighted := dec_ok (fact c (i := 3) (j := 0) rfl rfl)
  i_get := dec_ok (fact c (i := 3) (j := 1) rfl rfl)
  i_tk := dec_ok (fact c (i := 3) (j := 2) rfl rfl)
  q_Ri := dec_ok (fact c (i := 3) (j := 3) rfl rfl)
  q_RR := dec_ok (fact c (i := 3) (j := 4) rfl rfl)
  q_SS := dec_ok (fact c (i := 3) (j := 5) rfl rfl)
  t_RA := He.meth_ok (x := "Ratio") (m := "__add__") (fact c (i := 3) (j := 6) rfl rfl)
  t_RM := He.meth_ok (x := "Ratio") (m := "__mul__") (fact c (i := 3) (j := 7) rfl rfl)
  t_RL := He.meth_ok (x := "Ratio") (m := "__lt__") (fact c (i := 3) (j := 8) rfl rfl)
  t_RG := He.meth_ok (x := "Ratio") (m := "__ge__") (fact c (i := 3) (j := 9) rfl rfl)
  t_RO := He.meth_ok (x := "Ratio") (m := "over") (fact c (i := 3) (j := 10) rfl rfl)
  t_ST := He.meth_ok (x := "Stepping") (m := "step_total") (fact c (i := 3) (j := 11) rfl rfl)
  t_SS := He.meth_ok (x := "Stepping") (m := "shares") (fact c (i := 3) (j := 12) rfl rfl)
  t_SV := He.meth_ok (x := "Stepping") (m := "values_of") (fact c (i := 3) (j := 13) rfl rfl)
  t_SO := He.meth_ok (x := "Stepping") (m := "onward") (fact c (i := 3) (j := 14) rfl rfl)
  t_SE := He.meth_ok (x := "Stepping") (m := "settled") (fact c (i := 3) (j := 15) rfl rfl)
  t_SB := He.meth_ok (x := "Stepping") (m := "best") (fact c (i := 3) (j := 16) rfl rfl)
  t_WT := He.meth_ok (x := "Weighted") (m := "total_of") (fact c (i := 3) (j := 17) rfl rfl)
  t_WS := He.meth_ok (x := "Weighted") (m := "shares") (fact c (i := 3) (j := 18) rfl rfl)
  t_WB := He.meth_ok (x := "Weighted") (m := "best") (fact c (i := 3) (j := 19) rfl rfl)
  o_first := fact c (i := 4) (j := 0) rfl rfl
  o_radd := refOr_ok (fact c (i := 4) (j := 1) rfl rfl)
  o_rmul := refOr_ok (fact c (i := 4) (j := 2) rfl rfl)
  o_iadd := some_ok (fact c (i := 4) (j := 3) rfl rfl)
  o_iradd := some_ok (fact c (i := 4) (j := 4) rfl rfl)
  o_imul := some_ok (fact c (i := 4) (j := 5) rfl rfl)
  o_irmul := some_ok (fact c (i := 4) (j := 6) rfl rfl)
  o_sub := dec_ok (fact c (i := 4) (j := 7) rfl rfl)
  o_not := fact c (i := 4) (j := 8) rfl rfl
  most_S := He.conB_ok (v := .int 8) (fact c (i := 4) (j := 9) rfl rfl)
  most_W := He.conB_ok (v := .int 24) (fact c (i := 4) (j := 10) rfl rfl)
  d_RI := funD_of (datAt c (i := 0) (j := 0) rfl rfl rfl rfl) (fact c (i := 4) (j := 11) rfl rfl)
  d_RA := funD_of (datAt c (i := 0) (j := 1) rfl rfl rfl rfl) (fact c (i := 4) (j := 12) rfl rfl)
  d_RM := funD_of (datAt c (i := 0) (j := 2) rfl rfl rfl rfl) (fact c (i := 4) (j := 13) rfl rfl)
  d_RL := funD_of (datAt c (i := 0) (j := 3) rfl rfl rfl rfl) (fact c (i := 4) (j := 14) rfl rfl)
  d_RG := funD_of (datAt c (i := 0) (j := 4) rfl rfl rfl rfl) (fact c (i := 4) (j := 15) rfl rfl)
  d_RO := funD_of (datAt c (i := 0) (j := 5) rfl rfl rfl rfl) (fact c (i := 4) (j := 16) rfl rfl)
  d_TI := funS_of (datAt c (i := 0) (j := 6) rfl rfl rfl rfl) (fact c (i := 4) (j := 17) rfl rfl)
  d_piv := funD_of (datAt c (i := 0) (j := 7) rfl rfl rfl rfl) (fact c (i := 4) (j := 18) rfl rfl)
  d_sol := funD_of (datAt c (i := 0) (j := 8) rfl rfl rfl rfl) (fact c (i := 4) (j := 19) rfl rfl)
  d_cl := funD_of (datAt c (i := 0) (j := 9) rfl rfl rfl rfl) (fact c (i := 5) (j := 0) rfl rfl)
  d_cp := funD_of (datAt c (i := 0) (j := 10) rfl rfl rfl rfl) (fact c (i := 5) (j := 1) rfl rfl)
  d_do := funD_of (datAt c (i := 0) (j := 11) rfl rfl rfl rfl) (fact c (i := 5) (j := 2) rfl rfl)
  d_UI := funD_of (datAt c (i := 0) (j := 12) rfl rfl rfl rfl) (fact c (i := 5) (j := 3) rfl rfl)
  d_US := funD_of (datAt c (i := 0) (j := 13) rfl rfl rfl rfl) (fact c (i := 5) (j := 4) rfl rfl)
  d_cs := funD_of (datAt c (i := 0) (j := 14) rfl rfl rfl rfl) (fact c (i := 5) (j := 5) rfl rfl)
  d_SI := funS_of (datAt c (i := 0) (j := 15) rfl rfl rfl rfl) (fact c (i := 5) (j := 6) rfl rfl)
  d_ST := funD_of (datAt c (i := 0) (j := 16) rfl rfl rfl rfl) (fact c (i := 5) (j := 7) rfl rfl)
  d_SS := funS_of (datAt c (i := 0) (j := 17) rfl rfl rfl rfl) (fact c (i := 5) (j := 8) rfl rfl)
  d_SV := funD_of (datAt c (i := 0) (j := 18) rfl rfl rfl rfl) (fact c (i := 5) (j := 9) rfl rfl)
  d_SO := funD_of (datAt c (i := 0) (j := 19) rfl rfl rfl rfl) (fact c (i := 5) (j := 10) rfl rfl)
  d_SE := funD_of (datAt c (i := 1) (j := 0) rfl rfl rfl rfl) (fact c (i := 5) (j := 11) rfl rfl)
  d_SB := funD_of (datAt c (i := 1) (j := 1) rfl rfl rfl rfl) (fact c (i := 5) (j := 12) rfl rfl)
  d_SL := like_ok (datAt c (i := 1) (j := 2) rfl rfl rfl rfl) (fact c (i := 5) (j := 13) rfl rfl)
  d_WI := funS_of (datAt c (i := 1) (j := 3) rfl rfl rfl rfl) (fact c (i := 5) (j := 14) rfl rfl)
  d_WT := funD_of (datAt c (i := 1) (j := 4) rfl rfl rfl rfl) (fact c (i := 5) (j := 15) rfl rfl)
  d_WS := funS_of (datAt c (i := 1) (j := 5) rfl rfl rfl rfl) (fact c (i := 5) (j := 16) rfl rfl)
  d_WB := funD_of (datAt c (i := 1) (j := 6) rfl rfl rfl rfl) (fact c (i := 5) (j := 17) rfl rfl)
  d_dw := funD_of (datAt c (i := 1) (j := 7) rfl rfl rfl rfl) (fact c (i := 5) (j := 18) rfl rfl)
  d_lc := funD_of (datAt c (i := 1) (j := 8) rfl rfl rfl rfl) (fact c (i := 5) (j := 19) rfl rfl)
  d_ld := funD_of (datAt c (i := 1) (j := 9) rfl rfl rfl rfl) (fact c (i := 6) (j := 0) rfl rfl)
  d_lr := funD_of (datAt c (i := 1) (j := 10) rfl rfl rfl rfl) (fact c (i := 6) (j := 1) rfl rfl)
  d_lu := funD_of (datAt c (i := 1) (j := 11) rfl rfl rfl rfl) (fact c (i := 6) (j := 2) rfl rfl)
  d_ll := funD_of (datAt c (i := 1) (j := 12) rfl rfl rfl rfl) (fact c (i := 6) (j := 3) rfl rfl)
  d_li := funD_of (datAt c (i := 1) (j := 13) rfl rfl rfl rfl) (fact c (i := 6) (j := 4) rfl rfl)
  d_ls := funD_of (datAt c (i := 1) (j := 14) rfl rfl rfl rfl) (fact c (i := 6) (j := 5) rfl rfl)
  d_lt := funD_of (datAt c (i := 1) (j := 15) rfl rfl rfl rfl) (fact c (i := 6) (j := 6) rfl rfl)
  d_lv := funD_of (datAt c (i := 1) (j := 16) rfl rfl rfl rfl) (fact c (i := 6) (j := 7) rfl rfl)
  d_lw := funD_of (datAt c (i := 1) (j := 17) rfl rfl rfl rfl) (fact c (i := 6) (j := 8) rfl rfl)
  d_lk := funD_of (datAt c (i := 1) (j := 18) rfl rfl rfl rfl) (fact c (i := 6) (j := 9) rfl rfl)
  d_lf := funD_of (datAt c (i := 1) (j := 19) rfl rfl rfl rfl) (fact c (i := 6) (j := 10) rfl rfl)
  d_lb := funD_of (datAt c (i := 2) (j := 0) rfl rfl rfl rfl) (fact c (i := 6) (j := 11) rfl rfl)
  d_law := funD_of (datAt c (i := 2) (j := 1) rfl rfl rfl rfl) (fact c (i := 6) (j := 12) rfl rfl)
  u_SI := supB_ok (fact c (i := 6) (j := 13) rfl rfl)
  u_WI := supB_ok (fact c (i := 6) (j := 14) rfl rfl)
  u_SS := supB_ok (fact c (i := 6) (j := 15) rfl rfl)
  u_WS := supB_ok (fact c (i := 6) (j := 16) rfl rfl)
  x_T := supXB_ok (fact c (i := 6) (j := 17) rfl rfl)
  x_ini := dec_ok (fact c (i := 6) (j := 18) rfl rfl)
  x_ty := dec_ok (fact c (i := 6) (j := 19) rfl rfl)
  x_many := dec_ok (fact c (i := 7) (j := 0) rfl rfl)
  x_most := dec_ok (fact c (i := 7) (j := 1) rfl rfl)
  x_f := xfB_ok (fact c (i := 7) (j := 2) rfl rfl)
  x_em := dec_ok (fact c (i := 7) (j := 3) rfl rfl)
theorem law_at {K : PySem.W.Frag} {h : Heap} {mg : Str → Option Value} (X : K.In h) (G : h.Ns mainGlobals mg) (c : Says K) : mg "law" = some (.ref (f_law K)) := He.glo_ok X G (fact c (i := 7) (j := 4) rfl rfl)
/-! ### the Hook -/
def hk : PySem.W.Hook where
  α := Al
  obs := fun s => obsK (KG s.heap.get?)
  val := fun _ => valK
  says := fun _ h => ∃ K : PySem.W.Frag, K.In h ∧ Says K
  of := fun _ _ e => ⟨_, He.frG_in, e⟩
  keeps := fun _ _ _ ⟨K, hK, c⟩ k => ⟨K, PySem.W.Frag.In.keeps hK k, c⟩
def ob (s : PySem.W.SharedT) : Al := obsK (KG (HandSHeadRun.getT s))
theorem ob_eq (s : PySem.W.SharedT) : ob s = hk.obs s.abs := by
  have e : HandSHeadRun.getT s = s.abs.heap.get? := funext (HandSHeadRun.getT_eq s)
  show obsK (KG (HandSHeadRun.getT s)) = obsK (KG s.abs.heap.get?)
  rw [e]
end K45H
end JK45Hd
section JK45RunI
set_option Elab.async false
set_option linter.all false
set_option maxRecDepth 100000
set_option maxHeartbeats 0
namespace K45H
open PySem PySem.W PySem.Calls PyProof.Rows
abbrev R : OpenRow := OpenLaw.row PySem.Challenge.rw_dearestshelf_k45_whole_like_weights
abbrev qv : Program := view R.prog [0, 44]
def n1 : List PySem.Str := ["gcd", "_wall", "ShelfError", "ZeroBottom", "BadText", "BadLot", "BadNumber", "TooMany", "DIGITS", "read_whole", "Ratio", "pivoted"]
def n2 : List PySem.Str := ["solve", "check_lot", "check_prices", "lot_at", "lots", "dearest_order", "Rule", "check_steps", "Stepping", "Weighted", "dearer_than_worth", "_law_cell"]
def n3 : List PySem.Str := ["_law_draws", "_law_row", "_law_ups", "_law_lot", "_law_is_int", "_law_same", "_law_same_lot", "_law_same_row", "_law_worth", "_law_is_like", "_law_refused", "_law_is_best"]
def names : List PySem.Str := n1 ++ (n2 ++ n3)
theorem run (w : World) : HandSHeadRun.RunEqI R qv hk ob 8000 names w := by
  unfold HandSHeadRun.RunEqI
  kernel_rfl
end K45H
end JK45RunI
set_option Elab.async false
set_option linter.all false
set_option maxRecDepth 100000
set_option maxHeartbeats 0
namespace K45H
open PySem PySem.Spec PyProof.Rows L2 K45R K45T
theorem ends {w : World} {K : PySem.W.Frag} {h : Heap} {mg : Str → Option Value} {f : Addr} (X : K.In h) (G : h.Ns mainGlobals mg) (hfa : mg ("law" : Str) = some (.ref f)) (c : Says K) :
    ∃ fd : FuncData, (∀ (s : Shared) (v : Value), BindsTo s fd ⟨[v], []⟩ [("_law_script", v)]) ∧ ∀ base : Heap, K.In base → base.Ns mainGlobals mg → FnOk PW w K mg base CX0 8 f fd ["_law_script"] (K45W.sp_law K) := by
  have T : Fx K mg := fx X G c
  have e := hfa.symm.trans (law_at X G c)
  cases e
  obtain ⟨fd, F⟩ := T.d_law
  have b := FunD.bindsA (ps := ["_law_script"]) F fun _ _ _ _ _ _ us hl => match us, hl with | [_], _ => rfl
  exact ⟨fd, fun s v => b s [v] rfl, fun base _ _ => K45W.ok_law T F⟩
end K45H
open PySem PySem.W PySem.Calls PyProof.Rows
theorem PySem.Challenge.cw_dearestshelf_k45_whole_like_weights_holds : PySem.Challenge.rw_dearestshelf_k45_whole_like_weights.Holds := by
  w_on; o_law
  refine HandSHeadRun.head_imp (r := OpenLaw.row PySem.Challenge.rw_dearestshelf_k45_whole_like_weights) (q := K45H.qv) (H := K45H.hk) (ob := K45H.ob) (M := 8000) (loose := K45H.names) (d := HandSHeadRun.topDef (OpenLaw.row PySem.Challenge.rw_dearestshelf_k45_whole_like_weights).prog 44) (kwd := []) K45H.ob_eq K45H.run
    (by kernel_rfl) (by kernel_rfl) (by kernel_rfl) (by rfl) (by first | assumption | decide +kernel) (by decide +kernel) ⟨rfl, rfl, rfl, rfl, rfl, by decide +kernel⟩ ?hw ?hc
  case hw => w_witness2
  case hc =>
    refine L2.walk_ofE (l := PySem.Challenge.rw_dearestshelf_k45_whole_like_weights) (n := 63) (k := 8) (x := "_law_script") (CX := L2.CX0) rfl (by decide) (by kernel_rfl) ⟨rfl, by decide, by decide⟩ ?F (fun _ _ _ _ z => z)
    intro w mg fa h Y G hmg0
    obtain ⟨K, KX, c⟩ := Y
    have hmg : mg ("law" : PySem.Str) = some (.ref fa) := by
      have e : (HandSHeadRun.topDef (OpenLaw.row PySem.Challenge.rw_dearestshelf_k45_whole_like_weights).prog 44).name = ("law" : PySem.Str) := by kernel_rfl
      rw [← e]
      exact hmg0
    obtain ⟨fd, hb, hF⟩ := K45H.ends (w := w) KX G hmg c
    exact ⟨K, fd, K45W.sp_law K, KX, hb, fun H a ns hl _ hS => ⟨a, ns, rfl, hS, hl, fun _ => rfl⟩, hF⟩
