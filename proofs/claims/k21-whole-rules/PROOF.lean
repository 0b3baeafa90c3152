import PyProof.Rows.All
import Wide.All
import OpenK.AllK
import Wide.FinOn
import HandS.ForMost
import KE.GoesMore
import KE.KRevSl
import HandS.Style
import HandS.ForExc
import HandS.ExcInit
import HandS.ExcField
import HandS.TryMany
import HandS.ClsMeth
import HandS.Defaults
import KE.KDictDisplayH
import HandS.Walk
import HandS.Zip
import HandS.Rev
import HandS.RevRange
import HandS.TupAny
import HandS.TupMul
import HandS.TupSets
import HandS.Deep
import HandS.Conv
import HandS.IsInst
import PySem.Challenge.RW_stairyard_k21_whole_rules_that_lose_noth
set_option Elab.async false
set_option linter.all false
section
set_option maxRecDepth 100000
set_option maxHeartbeats 4000000
/-! K21Math: the plain law. Rows as functions; stairs; the rest; the best rule; all ways of cutting; flaws of other rules. -/
set_option autoImplicit false
namespace K21
abbrev Fn := Nat → Int

/-- the stair of a row -/
def S (u x : Fn) : Nat → Int
  | 0 => x 0
  | k + 1 => u k * S u x k + x (k + 1)
/-- one piece of the unit k -/
def e (k : Nat) : Fn := fun j => if j = k then 1 else 0
/-- v more pieces of the unit k -/
def ad (x : Fn) (k : Nat) (v : Int) : Fn := fun j => if j = k then x j + v else x j
def UOk (T : Nat) (u : Fn) : Prop := ∀ k, k < T → 2 ≤ u k
def NN (T : Nat) (x : Fn) : Prop := ∀ k, k ≤ T → 0 ≤ x k
def LeT (T : Nat) (a b : Fn) : Prop := ∀ k, k ≤ T → a k ≤ b k

theorem mul_le_left {a b c : Int} (hc : 0 ≤ c) (h : a ≤ b) : c * a ≤ c * b := Int.mul_le_mul_of_nonneg_left h hc

theorem S_congr {u x y : Fn} : ∀ {k : Nat}, (∀ j, j ≤ k → x j = y j) → S u x k = S u y k
  | 0, h => h 0 (Nat.le_refl 0)
  | k + 1, h => by
    show u k * S u x k + x (k + 1) = u k * S u y k + y (k + 1)
    rw [S_congr (k := k) fun j hj => h j (Nat.le_succ_of_le hj), h (k + 1) (Nat.le_refl _)]
theorem S_add (u x y : Fn) : ∀ k, S u (fun j => x j + y j) k = S u x k + S u y k
  | 0 => rfl
  | k + 1 => by
    show u k * S u (fun j => x j + y j) k + (x (k + 1) + y (k + 1)) = (u k * S u x k + x (k + 1)) + (u k * S u y k + y (k + 1))
    rw [S_add u x y k, Int.mul_add]; omega
theorem S_nonneg {u x : Fn} {T : Nat} (hu : UOk T u) (hx : NN T x) : ∀ {k : Nat}, k ≤ T → 0 ≤ S u x k
  | 0, h => hx 0 h
  | k + 1, h => by
    have h1 := S_nonneg hu hx (k := k) (by omega)
    have h2 := hu k (by omega)
    have h3 := hx (k + 1) h
    have h4 : 0 ≤ u k * S u x k := Int.mul_nonneg (by omega) h1
    show 0 ≤ u k * S u x k + x (k + 1)
    omega
theorem S_ad (u x : Fn) (k : Nat) (v : Int) : ∀ j, S u (ad x k v) j = S u x j + v * S u (e k) j
  | 0 => by
    show ad x k v 0 = x 0 + v * e k 0
    unfold ad e
    split <;> simp
  | j + 1 => by
    show u j * S u (ad x k v) j + ad x k v (j + 1) = (u j * S u x j + x (j + 1)) + v * (u j * S u (e k) j + e k (j + 1))
    rw [S_ad u x k v j, Int.mul_add, Int.mul_add]
    have : u j * (v * S u (e k) j) = v * (u j * S u (e k) j) := by rw [← Int.mul_assoc, ← Int.mul_assoc, Int.mul_comm (u j) v]
    rw [this]
    unfold ad
    by_cases h : j + 1 = k
    · rw [if_pos h]
      have : e k (j + 1) = 1 := if_pos h
      rw [this]; omega
    · rw [if_neg h]
      have : e k (j + 1) = 0 := if_neg h
      rw [this]; omega
theorem S_e_lt {u : Fn} {k : Nat} : ∀ {j : Nat}, j < k → S u (e k) j = 0
  | 0, h => if_neg (by omega)
  | j + 1, h => by
    show u j * S u (e k) j + e k (j + 1) = 0
    rw [S_e_lt (j := j) (by omega), show e k (j + 1) = 0 from if_neg (by omega)]; omega
theorem S_e_self {u : Fn} : ∀ k : Nat, S u (e k) k = 1
  | 0 => rfl
  | k + 1 => by
    show u k * S u (e (k + 1)) k + e (k + 1) (k + 1) = 1
    rw [S_e_lt (Nat.lt_succ_self k), show e (k + 1) (k + 1) = 1 from if_pos rfl]; omega
theorem e_nn (T k : Nat) : NN T (e k) := fun j _ => by unfold e; split <;> decide
theorem S_e_nn {u : Fn} {T k j : Nat} (hu : UOk T u) (hj : j ≤ T) : 0 ≤ S u (e k) j := S_nonneg hu (e_nn T k) hj
/-- a greater piece makes at least as much -/
theorem S_e_mono {u : Fn} {T a b : Nat} (hu : UOk T u) (hab : a ≤ b) : ∀ {j : Nat}, j ≤ T → S u (e b) j ≤ S u (e a) j
  | 0, h => by
    show e b 0 ≤ e a 0
    unfold e
    by_cases hb : 0 = b
    · have ha : 0 = a := by omega
      rw [if_pos hb, if_pos ha]; exact Int.le_refl _
    · rw [if_neg hb]; split <;> decide
  | j + 1, h => by
    have ih := S_e_mono hu hab (j := j) (by omega)
    have h2 := hu j (by omega)
    show u j * S u (e b) j + e b (j + 1) ≤ u j * S u (e a) j + e a (j + 1)
    have h3 : u j * S u (e b) j ≤ u j * S u (e a) j := mul_le_left (by omega) ih
    by_cases hb : j + 1 = b
    · rw [show e b (j + 1) = 1 from if_pos hb, S_e_lt (show j < b by omega)]
      by_cases ha : j + 1 = a
      · rw [show e a (j + 1) = 1 from if_pos ha]
        have := S_e_nn (k := a) hu (show j ≤ T by omega)
        have : 0 ≤ u j * S u (e a) j := Int.mul_nonneg (by omega) this
        omega
      · rw [show e a (j + 1) = 0 from if_neg ha]
        have h4 : 1 ≤ S u (e a) j := by
          have : S u (e j) j ≤ S u (e a) j := S_e_mono (T := T) (a := a) (b := j) hu (by omega) (by omega)
          rw [S_e_self] at this
          exact this
        have h5 : u j * 1 ≤ u j * S u (e a) j := mul_le_left (by omega) h4
        omega
    · rw [show e b (j + 1) = 0 from if_neg hb]
      have : 0 ≤ e a (j + 1) := by unfold e; split <;> decide
      omega
termination_by j => j
/-- one piece makes two of the next unit, at least -/
theorem S_e_two {u : Fn} {T a : Nat} (hu : UOk T u) : ∀ {j : Nat}, j ≤ T → 2 * S u (e (a + 1)) j ≤ S u (e a) j
  | 0, h => by
    show 2 * e (a + 1) 0 ≤ e a 0
    have : e (a + 1) 0 = 0 := if_neg (by omega)
    rw [this]
    unfold e; split <;> decide
  | j + 1, h => by
    have ih := S_e_two (a := a) hu (j := j) (by omega)
    have h2 := hu j (by omega)
    show 2 * (u j * S u (e (a + 1)) j + e (a + 1) (j + 1)) ≤ u j * S u (e a) j + e a (j + 1)
    have h3 : u j * (2 * S u (e (a + 1)) j) ≤ u j * S u (e a) j := mul_le_left (by omega) ih
    have h4 : u j * (2 * S u (e (a + 1)) j) = 2 * (u j * S u (e (a + 1)) j) := by rw [← Int.mul_assoc, ← Int.mul_assoc, Int.mul_comm (u j) 2]
    by_cases hb : j + 1 = a + 1
    · have hj : j = a := by omega
      subst hj
      rw [show e (j + 1) (j + 1) = 1 from if_pos rfl, S_e_lt (Nat.lt_succ_self j), S_e_self, show e j (j + 1) = 0 from if_neg (by omega)]
      omega
    · rw [show e (a + 1) (j + 1) = 0 from if_neg hb]
      have : 0 ≤ e a (j + 1) := by unfold e; split <;> decide
      omega

/-! ### the rest -/
structure IsRest (u : Fn) (T : Nat) (x o y : Fn) : Prop where
  nn : NN T y
  le : ∀ k, k ≤ T → S u y k + S u o k ≤ S u x k
  most : ∀ n, NN T n → (∀ k, k ≤ T → S u n k + S u o k ≤ S u x k) → ∀ k, k ≤ T → S u n k ≤ S u y k
/-- rows with one stair are one -/
theorem row_of_S {u x y : Fn} {T : Nat} (h : ∀ k, k ≤ T → S u x k = S u y k) : ∀ k, k ≤ T → x k = y k
  | 0, hk => h 0 hk
  | k + 1, hk => by
    have h1 : u k * S u x k + x (k + 1) = u k * S u y k + y (k + 1) := h (k + 1) hk
    rw [h k (by omega)] at h1
    omega
theorem IsRest.uniq {u x o y z : Fn} {T : Nat} (hy : IsRest u T x o y) (hz : IsRest u T x o z) : ∀ k, k ≤ T → y k = z k :=
  row_of_S fun k hk => Int.le_antisymm (hz.most y hy.nn hy.le k hk) (hy.most z hz.nn hz.le k hk)
theorem IsRest.comp {u x o p y z : Fn} {T : Nat} (hp : NN T p) (hy : IsRest u T x o y) (hz : IsRest u T y p z) : IsRest u T x (fun j => o j + p j) z where
  nn := hz.nn
  le := fun k hk => by
    rw [S_add]
    have h1 := hy.le k hk
    have h2 := hz.le k hk
    omega
  most := fun n hn h k hk => by
    refine hz.most n hn (fun j hj => ?_) k hk
    have := hy.most (fun i => n i + p i) (fun i hi => by have := hn i hi; have := hp i hi; show 0 ≤ n i + p i; omega) (fun i hi => by
      have := h i hi
      rw [S_add] at this
      rw [S_add]
      omega) j hj
    rw [S_add] at this
    exact this
/-- what the first order leaves serves the second if both are served side by side -/
theorem IsRest.goes {u x o p y : Fn} {T : Nat} (hp : NN T p) (hy : IsRest u T x o y) (h : ∀ k, k ≤ T → S u o k + S u p k ≤ S u x k) : LeT T (S u p) (S u y) :=
  fun k hk => hy.most p hp (fun j hj => by have := h j hj; omega) k hk
theorem IsRest.zero {u x o : Fn} {T : Nat} (hx : NN T x) (ho : ∀ k, k ≤ T → S u o k = 0) : IsRest u T x o x where
  nn := hx
  le := fun k hk => by rw [ho k hk]; omega
  most := fun n _ h k hk => by have := h k hk; rw [ho k hk] at this; omega

/-! ### DOWN -/
/-- DOWN at T - j -/
def dn (u d : Fn) (T : Nat) : Nat → Int
  | 0 => d T
  | j + 1 => min (d (T - (j + 1))) (dn u d T j / u (T - (j + 1)))
def DN (u d : Fn) (T : Nat) : Fn := fun k => dn u d T (T - k)
theorem DN_last (u d : Fn) (T : Nat) : DN u d T T = d T := by unfold DN; rw [Nat.sub_self]; rfl
theorem DN_step (u d : Fn) {T k : Nat} (h : k < T) : DN u d T k = min (d k) (DN u d T (k + 1) / u k) := by
  unfold DN
  obtain ⟨j, hj⟩ : ∃ j, T - k = j + 1 := ⟨T - k - 1, by omega⟩
  have h1 : T - (k + 1) = j := by omega
  have h2 : T - (j + 1) = k := by omega
  rw [hj, h1]
  show min (d (T - (j + 1))) (dn u d T j / u (T - (j + 1))) = _
  rw [h2]
theorem DN_le (u d : Fn) {T k : Nat} (h : k ≤ T) : DN u d T k ≤ d k := by
  by_cases hk : k = T
  · subst hk; rw [DN_last]; exact Int.le_refl _
  · rw [DN_step u d (by omega)]; exact Int.min_le_left ..
theorem DN_stair {u d : Fn} {T k : Nat} (hu : UOk T u) (h : k < T) : u k * DN u d T k ≤ DN u d T (k + 1) := by
  have h2 := hu k h
  have h1 : DN u d T k ≤ DN u d T (k + 1) / u k := by rw [DN_step u d h]; exact Int.min_le_right ..
  have := mul_le_left (show 0 ≤ u k by omega) h1
  have h3 := Int.mul_ediv_self_le (x := DN u d T (k + 1)) (k := u k) (by omega)
  omega
theorem DN_most {u d c : Fn} {T : Nat} (hu : UOk T u) (hc : ∀ k, k < T → u k * c k ≤ c (k + 1)) (h : ∀ k, k ≤ T → c k ≤ d k) : ∀ (j : Nat) {k : Nat}, k + j = T → c k ≤ DN u d T k
  | 0, k, hk => by
    have : k = T := by omega
    subst this
    rw [DN_last]; exact h k (Nat.le_refl _)
  | j + 1, k, hk => by
    have ih := DN_most hu hc h j (k := k + 1) (by omega)
    rw [DN_step u d (by omega)]
    refine Int.le_min.mpr ⟨h k (by omega), ?_⟩
    have h2 := hu k (by omega)
    have h3 := hc k (by omega)
    refine (Int.le_ediv_iff_mul_le (by omega)).mpr ?_
    rw [Int.mul_comm]; omega
theorem DN_nonneg {u d : Fn} {T : Nat} (hu : UOk T u) (hd : NN T d) {k : Nat} (hk : k ≤ T) : 0 ≤ DN u d T k :=
  DN_most (c := fun _ => 0) hu (fun k _ => by show u k * 0 ≤ 0; omega) (fun k hk => hd k hk) (T - k) (by omega)
/-- the row that has a stair -/
def rowF (u c : Fn) : Fn
  | 0 => c 0
  | k + 1 => c (k + 1) - u k * c k
theorem S_rowF (u c : Fn) : ∀ k, S u (rowF u c) k = c k
  | 0 => rfl
  | k + 1 => by
    show u k * S u (rowF u c) k + (c (k + 1) - u k * c k) = c (k + 1)
    rw [S_rowF u c k]; omega
theorem isRest_down {u x o : Fn} {T : Nat} (hu : UOk T u) (h : LeT T (S u o) (S u x)) : IsRest u T x o (rowF u (DN u (fun k => S u x k - S u o k) T)) := by
  have nn : NN T (fun k => S u x k - S u o k) := fun k hk => by have := h k hk; show 0 ≤ S u x k - S u o k; omega
  refine ⟨fun k hk => ?_, fun k hk => ?_, fun n hn hl k hk => ?_⟩
  · cases k with
    | zero => exact DN_nonneg hu nn hk
    | succ k =>
      have := DN_stair (d := fun k => S u x k - S u o k) hu (show k < T by omega)
      show 0 ≤ DN u _ T (k + 1) - u k * DN u _ T k
      omega
  · rw [S_rowF]
    have := DN_le u (fun k => S u x k - S u o k) hk
    have h2 : DN u (fun k => S u x k - S u o k) T k ≤ S u x k - S u o k := this
    omega
  · rw [S_rowF]
    refine DN_most (c := S u n) hu (fun j hj => ?_) (fun j hj => by have := hl j hj; show S u n j ≤ S u x j - S u o j; omega) (T - k) (by omega)
    have := hn (j + 1) (by omega)
    show u j * S u n j ≤ u j * S u n j + n (j + 1)
    omega

/-! ### cuts -/
def cut (u x : Fn) (i : Nat) : Fn := ad (ad x i (-1)) (i + 1) (u i)
theorem S_cut (u x : Fn) (i : Nat) : ∀ j, S u (cut u x i) j = S u x j - (if j = i then 1 else 0)
  | 0 => by
    show cut u x i 0 = x 0 - _
    unfold cut ad
    rw [if_neg (by omega)]
    split <;> omega
  | j + 1 => by
    show u j * S u (cut u x i) j + cut u x i (j + 1) = u j * S u x j + x (j + 1) - _
    rw [S_cut u x i j]
    unfold cut ad
    by_cases h1 : j = i
    · subst h1
      rw [if_pos rfl, if_pos rfl, if_neg (by omega), if_neg (by omega), Int.mul_sub]; omega
    · rw [if_neg h1, if_neg (by omega)]
      by_cases h2 : j + 1 = i
      · rw [if_pos h2, if_pos h2, Int.sub_zero]; omega
      · rw [if_neg h2, if_neg h2, Int.sub_zero]; omega
/-- n cuts, at g, g + 1, .. -/
def st (u x : Fn) (g : Nat) : Nat → Fn
  | 0 => x
  | n + 1 => cut u (st u x g n) (g + n)
theorem st_at (u x : Fn) (g : Nat) : ∀ n j, st u x g n j = x j + (if g ≤ j ∧ j < g + n then -1 else 0) + (if g < j ∧ j ≤ g + n then u (j - 1) else 0)
  | 0, j => by
    show x j = _
    rw [if_neg (by omega), if_neg (by omega)]; omega
  | n + 1, j => by
    show cut u (st u x g n) (g + n) j = _
    unfold cut ad
    rw [st_at u x g n j]
    by_cases h1 : j = g + n + 1
    · subst h1
      rw [if_pos rfl, if_neg (by omega), if_neg (by omega), if_neg (by omega), if_neg (by omega), if_pos (by omega)]
      show x (g + n + 1) + 0 + 0 + u (g + n) = x (g + n + 1) + 0 + u (g + n + 1 - 1)
      rw [show g + n + 1 - 1 = g + n by omega]; omega
    · rw [if_neg h1]
      by_cases h2 : j = g + n
      · rw [if_pos h2, if_neg (show ¬ (g ≤ j ∧ j < g + n) by omega), if_pos (show g ≤ j ∧ j < g + (n + 1) by omega)]
        by_cases h3 : g < j
        · rw [if_pos (by omega), if_pos (by omega)]; omega
        · rw [if_neg (by omega), if_neg (by omega)]; omega
      · rw [if_neg h2]
        have e1 : (g ≤ j ∧ j < g + n) ↔ (g ≤ j ∧ j < g + (n + 1)) := by omega
        have e2 : (g < j ∧ j ≤ g + n) ↔ (g < j ∧ j ≤ g + (n + 1)) := by omega
        simp only [e1, e2]
theorem S_st (u x : Fn) (g : Nat) : ∀ n j, S u (st u x g n) j = S u x j - (if g ≤ j ∧ j < g + n then 1 else 0)
  | 0, j => by
    show S u x j = _
    rw [if_neg (by omega)]; omega
  | n + 1, j => by
    show S u (cut u (st u x g n) (g + n)) j = _
    rw [S_cut, S_st u x g n j]
    by_cases h : j = g + n
    · rw [if_neg (by omega), if_pos h, if_pos (by omega)]; omega
    · rw [if_neg h]
      have e1 : (g ≤ j ∧ j < g + n) ↔ (g ≤ j ∧ j < g + (n + 1)) := by omega
      simp only [e1]; omega

/-! ### a piece taken -/
def pr (u : Fn) (s : Nat) : Nat → Int
  | 0 => 1
  | n + 1 => pr u s n * u (s + n)
/-- a piece of the unit k is taken: one of s is cut into pieces of g, these step by step -/
def pt (u x : Fn) (s g k : Nat) : Fn := if s < k then ad (st u (ad (ad x s (-1)) g (pr u s (g - s))) g (k - g)) k (-1) else ad x s (-1)
def oneT (u x : Fn) (k : Nat) : List (Nat × Nat) → Option Fn
  | [] => none
  | (s, g) :: r => if 0 < x s then some (pt u x s g k) else oneT u x k r
/-- the best pairs of the unit k, from m down -/
def desc (k : Nat) : Nat → List (Nat × Nat)
  | 0 => [(0, min 1 k)]
  | m + 1 => (m + 1, min (m + 2) k) :: desc k m
def bestC (k : Nat) : List (Nat × Nat) := desc k k

/-- the finest piece that there is, cut no further than needed, leaves the rest -/
theorem pt_rest {u x : Fn} {T k J : Nat} (hu : UOk T u) (hk : k ≤ T) (hx : NN T x) (hJ : J ≤ k) (hp : 0 < x J) (hz : ∀ j, J < j → j ≤ k → x j = 0) :
    IsRest u T x (e k) (pt u x J (min (J + 1) k) k) ∧ ∀ j, pt u x J (min (J + 1) k) k j = ad (st u x J (k - J)) k (-1) j := by
  have eqv : ∀ j, pt u x J (min (J + 1) k) k j = ad (st u x J (k - J)) k (-1) j := fun j => by
    unfold pt
    by_cases h : J < k
    · rw [if_pos h]
      have e1 : min (J + 1) k = J + 1 := by omega
      rw [e1]
      have e2 : pr u J (J + 1 - J) = u J := by
        rw [show J + 1 - J = 0 + 1 by omega]
        show 1 * u (J + 0) = u J
        rw [Int.one_mul]; rfl
      rw [e2]
      show ad (st u (cut u x J) (J + 1) (k - (J + 1))) k (-1) j = _
      have e3 : ∀ n i, st u (cut u x J) (J + 1) n i = st u x J (n + 1) i := fun n i => by
        rw [st_at, st_at]
        unfold cut ad
        by_cases h1 : i = J + 1
        · subst h1
          rw [if_pos rfl, if_neg (by omega), if_neg (show ¬ (J + 1 < J + 1 ∧ _) by omega), if_pos (show J < J + 1 ∧ J + 1 ≤ J + (n + 1) by omega)]
          have e1 : (J + 1 ≤ J + 1 ∧ J + 1 < J + 1 + n) ↔ (J ≤ J + 1 ∧ J + 1 < J + (n + 1)) := by omega
          simp only [e1]
          show _ = _ + _ + u (J + 1 - 1)
          rw [show J + 1 - 1 = J by omega]; omega
        · rw [if_neg h1]
          have e2 : (J + 1 < i ∧ i ≤ J + 1 + n) ↔ (J < i ∧ i ≤ J + (n + 1)) := by omega
          simp only [e2]
          by_cases h2 : i = J
          · rw [if_pos h2, if_neg (by omega), if_pos (show J ≤ i ∧ i < J + (n + 1) by omega)]; omega
          · rw [if_neg h2]
            have e1 : (J + 1 ≤ i ∧ i < J + 1 + n) ↔ (J ≤ i ∧ i < J + (n + 1)) := by omega
            simp only [e1]
      unfold ad
      rw [e3, show k - (J + 1) + 1 = k - J by omega]
    · rw [if_neg h]
      have e1 : J = k := by omega
      subst e1
      rw [Nat.sub_self]; rfl
  refine ⟨?_, eqv⟩
  have SY : ∀ j, j ≤ T → S u (pt u x J (min (J + 1) k) k) j = S u x j - (if J ≤ j ∧ j < k then 1 else 0) - S u (e k) j := fun j hj => by
    rw [S_congr fun i _ => eqv i, S_ad, S_st, show J + (k - J) = k by omega]; omega
  refine ⟨fun j hj => ?_, fun j hj => ?_, fun n hn hl j hj => ?_⟩
  · rw [eqv j]
    unfold ad
    rw [st_at, show J + (k - J) = k by omega]
    have h0 := hx j hj
    by_cases h1 : j = k
    · rw [if_pos h1, if_neg (by omega)]
      subst h1
      by_cases h2 : J < j
      · rw [if_pos (by omega)]
        have := hu (j - 1) (by omega)
        omega
      · rw [if_neg (by omega)]
        have : J = j := by omega
        subst this
        omega
    · rw [if_neg h1]
      by_cases h2 : J ≤ j ∧ j < k
      · rw [if_pos h2]
        by_cases h3 : J < j
        · rw [if_pos (by omega)]
          have := hu (j - 1) (by omega)
          omega
        · rw [if_neg (by omega)]
          have : J = j := by omega
          subst this
          omega
      · rw [if_neg h2, if_neg (by omega)]; omega
  · rw [SY j hj]
    split <;> omega
  · rw [SY j hj]
    by_cases h1 : J ≤ j ∧ j < k
    · rw [if_pos h1, S_e_lt h1.2]
      have key : ∀ m i, i + m + 1 = k → J ≤ i → S u n i ≤ S u x i - 1 := by
        intro m
        induction m with
        | zero =>
          intro i hi hJi
          have h2 := hl (i + 1) (by omega)
          have h3 : S u (e k) (i + 1) = 1 := by rw [show i + 1 = k by omega]; exact S_e_self k
          have h4 : S u x (i + 1) = u i * S u x i + x (i + 1) := rfl
          have h5 : S u n (i + 1) = u i * S u n i + n (i + 1) := rfl
          have h6 := hn (i + 1) (by omega)
          have h7 := hz (i + 1) (by omega) (by omega)
          have h8 := hu i (by omega)
          by_cases hc : S u x i ≤ S u n i
          · have := mul_le_left (show 0 ≤ u i by omega) hc
            omega
          · omega
        | succ m ih =>
          intro i hi hJi
          have h2 := ih (i + 1) (by omega) (by omega)
          have h4 : S u x (i + 1) = u i * S u x i + x (i + 1) := rfl
          have h5 : S u n (i + 1) = u i * S u n i + n (i + 1) := rfl
          have h6 := hn (i + 1) (by omega)
          have h7 := hz (i + 1) (by omega) (by omega)
          have h8 := hu i (by omega)
          by_cases hc : S u x i ≤ S u n i
          · have := mul_le_left (show 0 ≤ u i by omega) hc
            omega
          · omega
      have := key (k - j - 1) j (by omega) h1.1
      omega
    · rw [if_neg h1]
      have := hl j hj
      omega

/-- what the best pairs take -/
theorem oneT_desc {u x : Fn} {k : Nat} : ∀ {m : Nat}, (∃ J, J ≤ m ∧ 0 < x J ∧ (∀ j, J < j → j ≤ m → x j ≤ 0) ∧ oneT u x k (desc k m) = some (pt u x J (min (J + 1) k) k)) ∨ ((∀ j, j ≤ m → x j ≤ 0) ∧ oneT u x k (desc k m) = none)
  | 0 => by
    by_cases h : 0 < x 0
    · exact .inl ⟨0, Nat.le_refl _, h, fun j h1 h2 => by omega, if_pos h⟩
    · refine .inr ⟨fun j hj => by have : j = 0 := by omega
                                  subst this; omega, ?_⟩
      show (if 0 < x 0 then _ else _) = _
      rw [if_neg h]; rfl
  | m + 1 => by
    by_cases h : 0 < x (m + 1)
    · exact .inl ⟨m + 1, Nat.le_refl _, h, fun j h1 h2 => by omega, if_pos h⟩
    · have e1 : oneT u x k (desc k (m + 1)) = oneT u x k (desc k m) := if_neg h
      rw [e1]
      rcases oneT_desc (u := u) (x := x) (k := k) (m := m) with ⟨J, h1, h2, h3, h4⟩ | ⟨h1, h2⟩
      · refine .inl ⟨J, by omega, h2, fun j h5 h6 => ?_, h4⟩
        by_cases h7 : j = m + 1
        · subst h7; omega
        · exact h3 j h5 (by omega)
      · refine .inr ⟨fun j hj => ?_, h2⟩
        by_cases h7 : j = m + 1
        · subst h7; omega
        · exact h1 j (by omega)
theorem S_zero {u x : Fn} : ∀ {k : Nat}, (∀ j, j ≤ k → x j = 0) → S u x k = 0
  | 0, h => h 0 (Nat.le_refl _)
  | k + 1, h => by
    show u k * S u x k + x (k + 1) = 0
    rw [S_zero (k := k) fun j hj => h j (by omega), h (k + 1) (Nat.le_refl _)]; omega
/-- one piece by the best pairs: the rest, if there is a piece -/
theorem oneT_best {u x : Fn} {T k : Nat} (hu : UOk T u) (hk : k ≤ T) (hx : NN T x) :
    (∃ y J, oneT u x k (bestC k) = some y ∧ IsRest u T x (e k) y ∧ J ≤ k ∧ 0 < x J ∧ ∀ j, y j = ad (st u x J (k - J)) k (-1) j) ∨ (oneT u x k (bestC k) = none ∧ S u x k = 0) := by
  rcases oneT_desc (u := u) (x := x) (k := k) (m := k) with ⟨J, h1, h2, h3, h4⟩ | ⟨h1, h2⟩
  · have h3' : ∀ j, J < j → j ≤ k → x j = 0 := fun j a b => by have := h3 j a b; have := hx j (by omega); omega
    obtain ⟨r, q⟩ := pt_rest hu hk hx h1 h2 h3'
    exact .inl ⟨_, J, h4, r, h1, h2, q⟩
  · exact .inr ⟨h2, S_zero fun j hj => by have := h1 j hj; have := hx j (by omega); omega⟩
end K21
end
section
set_option maxRecDepth 100000
set_option maxHeartbeats 4000000
/-! K21A1: enumerate, min, sum, a reversed slice, of a tuple. -/
namespace K21
open PySem PySem.Spec PyProof.Rows L2

/-! ### enumerate of any source that begins -/
theorem meets_enumN {v : Value} {o : Obj} {H : Heap → Prop} (B : Begins v o H) :
    Meets (Builtin.«enumerate.__new__» ⟨[.type "enumerate", v], []⟩) (fun _ R s => H s.heap ∧
      R (.ok (.ret (.ref (s.heap.push o).objs.size))) { s with heap := (s.heap.push o).push { cls := .type "enumerate", data := .fields #[.none, .bool false, .ref s.heap.objs.size, rawInt 0, .none, .none] } }) :=
  .of_wp fun prog w A R s h => by
    obtain ⟨hp, g, d, tk, os⟩ := s; obtain ⟨h1, h⟩ := h
    have hsub := sub_enumerate
    have q1 : ∀ {A' : Around} {E : Value → Shared → Prop} {Q : Value → Shared → Prop}, Q (.ref hp.objs.size) ⟨hp.push o, g, d, tk, os⟩ → wpAny (model prog w) A' (pyIter v) Q E ⟨hp, g, d, tk, os⟩ :=
      fun q => B.iter prog w _ _ ⟨hp, g, d, tk, os⟩ _ h1 q
    wp_walk using q1
    refine wpAny_stack_any fun st => wpAny_pure ?_
    split
    · rename_i c _ _ _ _ _
      cases (c == Value.type "enumerate")
      · wp_walk using q1
        exact ⟨_, rfl, h⟩
      · wp_walk using q1
        exact ⟨_, rfl, h⟩
    · wp_walk using q1
      exact ⟨_, rfl, h⟩
section
variable {prog : Program} {w : World} {A : Around} {E : Value → Shared → Prop} {s : Shared}
theorem enum_beginsN {v : Value} {o : Obj} {H : Heap → Prop} {Q : Value → Shared → Prop} (B : Begins v o H) (h1 : H s.heap)
    (h : ∀ h', IsEnum h' (s.heap.objs.size + 1) s.heap.objs.size 0 .none → h'.get? s.heap.objs.size = some o → h'.objs.size = s.heap.objs.size + 2 →
      (∀ b o, s.heap.get? b = some o → h'.get? b = some o) → Q (.ref (s.heap.objs.size + 1)) { s with heap := h' }) :
    wpAny (model prog w) A (call (.type "enumerate") [v]) Q E s := by
  refine callType_new F.called_enumerate (by decide) (F.typeCall_enumerate_1 _) (F.newCall_enumerate_1 _) (fun obj => F.args_object_init_2 obj _) F.entry_enumerate_new
    (meets_enumN B) ⟨h1, ?_⟩
  have hz : (s.heap.push o).objs.size = s.heap.objs.size + 1 := Heap.size_push ..
  show _ ∧ _
  rw [hz]
  have he : IsEnum ((s.heap.push o).push { cls := .type "enumerate", data := .fields #[.none, .bool false, .ref s.heap.objs.size, rawInt 0, .none, .none] }) (s.heap.objs.size + 1) s.heap.objs.size 0 .none := by
    have := Heap.get?_push_size (s.heap.push o) (o := { cls := .type "enumerate", data := .fields #[.none, .bool false, .ref s.heap.objs.size, rawInt 0, .none, .none] }) rfl
    rw [hz] at this; exact this
  refine ⟨⟨_, he, rfl⟩, h _ he (Heap.get?_push_of_some _ (Heap.get?_push_size _ B.free)) (by rw [Heap.size_push, hz]) fun b o x => Heap.get?_push_of_some _ (Heap.get?_push_of_some _ x)⟩
end
/-- the tuple at a, each item in a new pair -/
def IteT (K : PySem.W.Frag) (a : Addr) : It :=
  ⟨fun i H => ∃ (xs : List V) (x : V), SqT K H a xs ∧ xs[i]? = some x, fun i H v H' => ∃ T x, v = .ref T ∧ H T = none ∧ H' = upd H T (.tup [.int (i : Nat), x]) ∧ ∀ xs, SqT K H a xs → xs[i]? = some x, fun i H => ∃ xs : List V, SqT K H a xs ∧ xs.length ≤ i⟩
theorem istup_is {h : Heap} {a : Addr} {its : Array Value} (p : IsTup h a its) : h.IsTuple a its := by
  obtain ⟨o, e, c, n, d⟩ := p
  exact ⟨o, e, c, n, d⟩
theorem turn_enumT {P : Program} {w : World} {K : PySem.W.Frag} {elts : List Expr} {kk : Nat} {tpos : Pos} (a e it : Addr) (hne : e ≠ it) (hae : e ≠ a) (hai : a ≠ it) :
    Turn P w K (.Tuple elts kk tpos) (IteT K a) [e, it] e (fun i h => (∃ old, IsEnum h e it ((i : Nat) : Int) old) ∧ h.IsTupleIter it a i) where
  mem := by simp
  obj := fun i h st b hb => by
    obtain ⟨⟨old, he⟩, ⟨o, ho, hc, hd⟩⟩ := st
    have e' : b = e ∨ b = it := by simpa using hb
    rcases e' with z | z
    · rw [z]; exact ⟨_, he, fun v q => nomatch q⟩
    · rw [z]; exact ⟨o, ho, fun v q => by rw [hd] at q; cases q⟩
  keep := fun i h h' st k => let ⟨⟨old, he⟩, hi⟩ := st; ⟨⟨old, k e (by simp) _ he⟩, hi.at fun o q => k it (by simp) o q⟩
  item := by
    intro X hP hw hK hc i pins s σ H E I hf st hg
    subst hP hw hK
    obtain ⟨⟨old, he⟩, hit⟩ := st
    obtain ⟨xs, x, hq, hx⟩ := hg
    obtain ⟨its, rv, p, hz⟩ := I.tuple hq
    obtain ⟨u, hu, ru⟩ := rv.get hx
    have hel : e < s.heap.objs.size := Heap.lt_size he
    have hil : it < s.heap.objs.size := by obtain ⟨_, q, _⟩ := hit; exact Heap.lt_size q
    have hi' : i < its.toArray.size := by
      have := (List.getElem?_eq_some_iff.mp hu).1
      simpa using this
    refine wpAny_pyNext_enum_itemD (Draws.tuple (A := X.A.in1) (show X.A.in1.handled = none from I.ok.hd hc) it a hai its.toArray) he ⟨hit, istup_is p⟩ hi' hne (by simp [hne, hae]) fun y h' tk hy ho hst hT hsz hk => ?_
    have ey : y = u := by
      have : its.toArray[i]? = some u := by simpa using hu
      rw [this] at hy
      exact (Option.some.inj hy).symm
    subst ey
    refine ⟨_, rfl, wpAny_letOwnedTupleGo_enum (s := { s with heap := h', toks := tk + 1 }) ho fun h'' he' sb => ?_⟩
    have hT2 : h''.get? s.heap.objs.size = some { cls := .type "tuple", data := .seq #[.int i tk, y] } := (sb.2 _ (Nat.ne_of_gt hel)).trans hT
    have new : ObjOk X.prog X.w (upd H s.heap.objs.size (.tup [.int (i : Nat), x])) h'' s.heap.objs.size (.tup [.int (i : Nat), x]) :=
      ⟨by show 2 ≤ sizeLine; decide, [.int i tk, y], .cons ⟨_, rfl⟩ (.cons ru .nil), ⟨_, hT2, rfl, _, rfl⟩⟩
    have I1 : Inv X pins σ (upd H s.heap.objs.size (.tup [.int (i : Nat), x])) { s with heap := h'', toks := tk + 1 } :=
      I.turnedNew (ch := [e, it]) (fun b ob hb q => (sb.2 b (fun z => hb (by simp [z]))).trans (hk b ob (fun z => hb (by simp [z])) (fun z => hb (by simp [z])) q)) hf (Nat.le_refl _) new
    refine ⟨.ref s.heap.objs.size, _, I1, rfl, ⟨_, x, rfl, I.hok.fresh (Nat.le_refl _), rfl, fun ys hy => by rw [I.tuple_inj hy hq]; exact hx⟩, ⟨⟨y, ?_⟩, hst.1.at fun o q => (sb.2 it (Ne.symm hne)).trans q⟩, fun b hb => ?_⟩
    · have e1 : ((i + 1 : Nat) : Int) = (i : Int) + 1 := by omega
      rw [e1]; exact he'
    · have hb' : b < s.heap.objs.size := by
        have e' : b = e ∨ b = it := by simpa using hb
        rcases e' with z | z
        · rw [z]; exact hel
        · rw [z]; exact hil
      rw [upd_ne (Nat.ne_of_lt hb')]
      exact (hf b hb).1
  done := by
    intro X hP hw hK hc i pins s σ H E I hf st hg
    subst hP hw hK
    obtain ⟨⟨old, he⟩, hit⟩ := st
    obtain ⟨xs, hq, hx⟩ := hg
    obtain ⟨its, rv, p, hz⟩ := I.tuple hq
    obtain ⟨f0, f1, f2, f3, f4, f5⟩ := hf it (by simp)
    have hl := rv.length
    have hT : s.TypeIs (.ref e) "enumerate" := ⟨_, he, rfl⟩
    unfold pyNext
    refine wpAny_bind (wpAny_attempt (wpAny_callSpecial?_slot (name := Str.ofString "__next__") hT F.slot_enumerate_next
      (wpAny_call_entry F.slot_enumerate_next hT F.entry_enumerate_next ?_ (F.args_enumerate_next_1 _))))
    show wpAny _ _ (field (.ref e) 2 >>= _) _ _ _
    refine wpAny_bind (wpAny_field he rfl (x := .ref it) rfl ?_)
    refine wpAny_bind (wpAny_nextOf_tuple_end (show X.A.in1.handled = none from I.ok.hd hc) hit (istup_is p) (by simp; omega) fun h' x he' hx' => ?_)
    obtain ⟨o, ho, hc'⟩ := hx'
    refine wpAny_bind (wpAny_isInstance (T := "StopIteration") (b := true) ⟨o, ho, hc'⟩ isSubtype_stop ?_)
    exact wpAny_pure ⟨rfl, I.turned (t' := s.toks) (fun b o hb q => he' b o hb q) f0 f1 f3 f4 f5⟩
  self := fun A i s Q E st h => let ⟨⟨_, he⟩, _⟩ := st; wpAny_pyIter_enum he h
def iEnumT (K : PySem.W.Frag) (ta : TA) : TI := fun σ H R => ta σ H fun vs H1 => ∃ a xs, vs = [.ref a] ∧ SqT K H1 a xs ∧ R (IteT K a) H1
theorem pi_enumT {X : Cx} {e : Expr} {ta : TA} {p pos tpos : Pos} {elts : List Expr} {kk : Nat} (hg : Gl X "enumerate") (hm : X.mg "enumerate" = none) (ha : PA X [e] ta) (hs : starEach [e] X.env = [(false, eval e X.env)] := by rfl) :
    PI X (.Tuple elts kk tpos) (.Call (.Name "enumerate" p) [e] [] pos) (iEnumT X.K ta) := by
  refine ⟨fun pins s σ H R I h => ?_⟩
  refine Call_ (ld_blt I hg hm boot_enumerate (PyProof.Rows.callWith_type1 (thn (ha.run pos pins s σ H _ I h) fun us s1 ⟨vs, H1, I1, r1, q1⟩ => ?_) hs rfl))
  obtain ⟨a, xs, ex, hq, q⟩ := q1
  subst ex
  cases r1 with
  | cons r rr =>
    cases rr
    cases r
    obtain ⟨its, rv, p', hz⟩ := I1.tuple hq
    have hal : a < s1.heap.objs.size := p'.lt
    refine enum_beginsN (begins_tuple a its.toArray) (istup_is p') fun h' he hit hsz hk => wpAny_pyIter_enum he ?_
    have I2 : Inv X pins σ H1 { s1 with heap := h' } := I1.kept (t' := s1.toks) hk
    refine ⟨s1.heap.objs.size + 1, [s1.heap.objs.size + 1, s1.heap.objs.size], _, _, H1, rfl, I2, turn_enumT a (s1.heap.objs.size + 1) s1.heap.objs.size (Nat.succ_ne_self _) (Nat.ne_of_gt (Nat.lt_succ_of_lt hal)) (Nat.ne_of_lt hal), ⟨⟨.none, he⟩, ⟨_, hit, rfl, rfl⟩⟩, fun b hb => ?_, q⟩
    have e' : b = s1.heap.objs.size + 1 ∨ b = s1.heap.objs.size := by simpa using hb
    have hle : s1.heap.objs.size ≤ b := by
      rcases e' with z | z
      · rw [z]; exact Nat.le_add_right _ _
      · rw [z]; exact Nat.le_refl _
    exact I1.fpOk hle (I1.hok.fresh hle)

/-! ### min, sum of a tuple of ints -/
section
variable {prog : Program} {w : World} {A : Around} {E : Value → Shared → Prop} {s : Shared} {l : Addr} {xs : Array (Int × Tok)}
theorem iter_intTup {Q : Value → Shared → Prop} (hl : s.heap.IsTuple l (intItems xs))
    (h : ∀ s₂ : Shared, s₂ = { s with heap := s.heap.push { cls := .type "tuple_iterator", data := .fields #[.ref l, .int 0 0] } } →
      (s₂.heap.IsTupleIter s.heap.objs.size l 0 ∧ s₂.heap.IsTuple l (intItems xs)) → (∀ b ∈ [s.heap.objs.size, l], b < s₂.heap.objs.size) → l ≠ s.heap.objs.size → Q (.ref s.heap.objs.size) s₂) :
    wpAny (model prog w) A (pyIter (.ref l)) Q E s := by
  have hlt : l < s.heap.objs.size := by obtain ⟨_, e, _⟩ := hl; exact Heap.lt_size e
  refine wpAny_pyIter_tuple hl (h _ rfl ⟨⟨_, Heap.get?_push_size _ rfl, rfl, rfl⟩, hl.at fun o e => Heap.get?_push_of_some _ e⟩ (fun b hb => ?_) (Nat.ne_of_lt hlt))
  show b < (s.heap.push _).objs.size
  rw [Heap.size_push]
  rcases List.mem_cons.mp hb with rfl | hb
  · exact Nat.lt_succ_self _
  · rcases List.mem_cons.mp hb with rfl | hb
    · exact Nat.lt_succ_of_lt hlt
    · cases hb
theorem old_keptT {h' : Heap} (hk : ∀ b o, b ∉ [s.heap.objs.size] → (s.heap.push { cls := .type "tuple_iterator", data := .fields #[.ref l, .int 0 0] }).get? b = some o → h'.get? b = some o) :
    ∀ b o, s.heap.get? b = some o → h'.get? b = some o := fun b o e => by
  refine hk b o (fun hm => ?_) (Heap.get?_push_of_some _ e)
  rcases List.mem_cons.mp hm with e1 | hm
  · exact absurd (e1 ▸ Heap.lt_size e) (Nat.lt_irrefl _)
  · cases hm
theorem min_intTup {Q : Value → Shared → Prop} (hh : A.handled = none) (hl : s.heap.IsTuple l (intItems xs)) (hne : 0 < xs.size)
    (h : ∀ v h' tk, (intItems xs)[argBest (fun i j => decide (numAt xs i < numAt xs j)) (xs.size - 1)]? = some v → (∀ b o, s.heap.get? b = some o → h'.get? b = some o) → Q v { s with heap := h', toks := tk }) :
    wpAny (model prog w) A (call (.builtin "min") [.ref l]) Q E s := by
  refine call_min_walk (iter_intTup hl fun s₂ e st hfp hlI => ?_)
  subst e
  refine ⟨_, _, _, _, _, _, _, rfl, Walks.tuple (A := A.in1) hh _ l hlI (intItems xs), st, hfp, by simpa [intItems] using hne, CmpOf.ints_lt (numAt xs) (fun _ _ => intItems_at), fun v h' tk hP hk => ?_⟩
  exact h v h' tk (by simpa [intItems] using hP) (old_keptT hk)
theorem sum_intTup {Q : Value → Shared → Prop} (hh : A.handled = none) (hl : s.heap.IsTuple l (intItems xs))
    (h : ∀ h' tk t', (∀ b o, s.heap.get? b = some o → h'.get? b = some o) → Q (.int (preSum (numAt xs) xs.size) t') { s with heap := h', toks := tk }) :
    wpAny (model prog w) A (call (.builtin "sum") [.ref l]) Q E s := by
  refine call_sum_walkG (iter_intTup hl fun s₂ e st hfp hlI => ?_)
  subst e
  refine ⟨_, _, _, _, _, _, numAt xs, rfl, Walks.tuple (A := A.in1) hh _ l hlI (intItems xs), st, hfp, (fun _ _ => intItems_at), fun h' tk t' hk => ?_⟩
  have := h h' tk t' (old_keptT hk)
  simpa [intItems] using this
theorem sum_rawT {its : List Value} {ns : List Int} {Q : Value → Shared → Prop} (hh : A.handled = none) (hl : s.heap.IsTuple l its.toArray) (hi : IntsAre its ns)
    (h : ∀ h' tk t', (∀ b o, s.heap.get? b = some o → h'.get? b = some o) → Q (.int ns.sum t') { s with heap := h', toks := tk }) : wpAny (model prog w) A (call (.builtin "sum") [.ref l]) Q E s := by
  obtain ⟨xs, e⟩ := hi.allInts.items
  have hn : numsOf (intItems xs).toList = ns := by rw [← e]; exact hi.numsOf
  rw [nums_intItems] at hn
  rw [e] at hl
  refine sum_intTup hh hl fun h' tk t' hk => ?_
  have := h h' tk t' hk
  rw [preSum_eq, List.take_of_length_le (by simp), hn]; exact this
theorem min_rawT {its : List Value} {ns : List Int} {Q : Value → Shared → Prop} (hh : A.handled = none) (hl : s.heap.IsTuple l its.toArray) (hi : IntsAre its ns) (hne : 0 < ns.length)
    (h : ∀ h' tk M t', (∀ b o, s.heap.get? b = some o → h'.get? b = some o) → M ∈ ns → (∀ a, a ∈ ns → M ≤ a) → Q (.int M t') { s with heap := h', toks := tk }) : wpAny (model prog w) A (call (.builtin "min") [.ref l]) Q E s := by
  obtain ⟨xs, e⟩ := hi.allInts.items
  have hn : numsOf (intItems xs).toList = ns := by rw [← e]; exact hi.numsOf
  rw [nums_intItems] at hn
  subst hn
  rw [e] at hl
  have hsz : 0 < xs.size := by simpa using hne
  refine min_intTup hh hl hsz fun v h' tk hv hk => ?_
  obtain ⟨t, rfl⟩ := intItems_at hv
  obtain ⟨h1, h2⟩ := argBest_lt (numAt xs) (xs.size - 1)
  refine h h' tk _ t hk ?_ fun a ha => ?_
  · rw [numAt_eq]; exact PySem.getD_mem (by rw [List.length_map, Array.length_toList]; omega)
  · obtain ⟨j, hj, rfl⟩ := mem_getD ha
    rw [List.length_map, Array.length_toList] at hj
    rw [← numAt_eq]; exact h2 j (by omega)
end
section
variable {X : Cx}
def rSumT (K : PySem.W.Frag) : List V → Hp → VK → Prop := fun vs H Q => ∃ (a : Addr) (ns : List Int), vs = [V.ref a] ∧ SqT K H a (ns.map V.int) ∧ Q (.int ns.sum) H
def rMinT (K : PySem.W.Frag) : List V → Hp → VK → Prop := fun vs H Q => ∃ (a : Addr) (ns : List Int), vs = [V.ref a] ∧ SqT K H a (ns.map V.int) ∧ 0 < ns.length ∧ ∀ m, m ∈ ns → (∀ y, y ∈ ns → m ≤ y) → Q (.int m) H
theorem cr_sumT (hc : X.calm = true) : CallR X (.builtin "sum") (rSumT X.K) := by
  intro pins s σ H vs us Q I r h
  obtain ⟨a, ns, rfl, hs, q⟩ := h
  obtain ⟨its, rv, hl, _⟩ := I.tuple hs
  rw [Vals.ref1 r]
  exact sum_rawT (I.ok.hd hc) (istup_is hl) rv.ints fun h' tk t' hk => ⟨.int _, H, I.kept hk, ⟨_, rfl⟩, q⟩
theorem cr_minT (hc : X.calm = true) : CallR X (.builtin "min") (rMinT X.K) := by
  intro pins s σ H vs us Q I r h
  obtain ⟨a, ns, rfl, hs, hne, q⟩ := h
  obtain ⟨its, rv, hl, _⟩ := I.tuple hs
  rw [Vals.ref1 r]
  exact min_rawT (I.ok.hd hc) (istup_is hl) rv.ints hne fun h' tk m t' hk h1 h2 => ⟨.int _, H, I.kept hk, ⟨_, rfl⟩, q m h1 h2⟩
end
end K21
end
section
set_option maxRecDepth 100000
set_option maxHeartbeats 4000000
/-! K21A2: t[::-1] of a tuple. -/
namespace K21
open PySem PySem.Spec PyProof.Rows L2 HT
section
variable {prog : Program} {w : World} {A : Around} {E : Value → Shared → Prop} {s : Shared}
theorem revPlaces (n : Nat) : Builtin.Slice.slicePlaces ((n : Int) - 1) (-1) (-1) = n := by
  unfold Builtin.Slice.slicePlaces
  have h1 : ¬ ((-1 : Int) > 0) := by omega
  simp only [h1, if_false]
  rw [show (- -1 : Int) = 1 from rfl, Int.ediv_one]
  split <;> omega
theorem revPick (xs : Array Value) : ((List.range xs.size).filterMap fun (m : Nat) => xs[(((xs.size : Nat) : Int) - 1 + (m : Int) * -1).toNat]?).toArray = xs.toList.reverse.toArray := by
  congr 1
  have gen : ∀ l : List Nat, (∀ m ∈ l, m < xs.size) → l.filterMap (fun (m : Nat) => xs[(((xs.size : Nat) : Int) - 1 + (m : Int) * -1).toNat]?) = (l.map fun k => xs.size - 1 - k).filterMap (fun j => xs[j]?) := by
    intro l
    induction l with
    | nil => intro _; rfl
    | cons m r ih =>
      intro h
      have h1 := h m (List.mem_cons_self ..)
      have e : (((xs.size : Nat) : Int) - 1 + (m : Int) * -1).toNat = xs.size - 1 - m := by omega
      rw [List.map_cons, List.filterMap_cons, List.filterMap_cons, e, ih fun k hk => h k (List.mem_cons_of_mem _ hk)]
  rw [gen _ fun m hm => List.mem_range.mp hm, PySem.W.krv_range, List.filterMap_reverse, PySem.W.krv_all]
theorem getItem_tuple_rev {t sl : Addr} {items : Array Value} {tk : Tok} {Q : Value → Shared → Prop} (ht : IsTup s.heap t items) (hs : s.heap.IsSliceOf sl .none .none (.int (-1) tk))
    (h : Q (.ref s.heap.objs.size) { s with heap := s.heap.push { cls := .type "tuple", data := .seq items.toList.reverse.toArray } })
    (hsz : items.size ≤ sizeLine) : wpAny (model prog w) A (getItem (.ref t) (.ref sl)) Q E s := by
  have htake : sizeOk (.seq items.toList.reverse.toArray) := by
    show items.toList.reverse.toArray.size ≤ sizeLine
    rw [List.size_toArray, List.length_reverse, Array.length_toList]
    exact hsz
  obtain ⟨os, hos, hcs, hds⟩ := id hs
  have hTs : s.TypeIs (.ref sl) "slice" := ⟨os, hos, hcs⟩
  unfold getItem
  try with_reducible refine wpAny_holding ?_
  first | refine wpAny_bind (wpAny_pure ?_) | skip
  refine wpAny_bind (wpAny_sequenceKey ht.typeIs (by decide) ?_)
  refine wpAny_bind (wpAny_callSpecial?_slot (name := Str.ofString "__getitem__") ht.typeIs PyProof.Rows.slot_tuple_getitem
    (wpAny_call_entry PyProof.Rows.slot_tuple_getitem ht.typeIs entry_tuple_getitem ?_ (args_tuple_getitem _ _)))
  show wpAny _ _ (Builtin.Tuple.tupleItemsOf (.ref t) >>= _) _ _ s
  refine wpAny_bind (tupleItemsOf_ ht ?_)
  refine wpAny_bind (wpAny_typeOf hTs ?_)
  rw [if_pos (by decide)]
  refine wpAny_bind ?_
  · unfold Builtin.Slice.sliceApplied Builtin.Slice.sliceFields
    refine wpAny_bind (wpAny_bind (wpAny_field hos hds (x := .none) rfl (wpAny_bind (wpAny_field hos hds (x := .none) rfl (wpAny_bind (wpAny_field hos hds (x := .int (-1) tk) rfl (wpAny_pure ?_)))))))
    refine wpAny_bind (slicePart_int ?_)
    show wpAny _ _ (if ((-1 : Int) == 0) = true then _ else _) _ _ s
    rw [if_neg (by decide)]
    refine wpAny_bind (slicePart_none (wpAny_bind (slicePart_none (wpAny_bind (wpAny_pure ?_)))))
    show wpAny _ _ (pure (((items.size : Nat) : Int) - 1, (-1 : Int), Builtin.Slice.slicePlaces (((items.size : Nat) : Int) - 1) (-1) (-1))) _ _ s
    rw [revPlaces]
    refine wpAny_pure ?_
    have hno : ¬ (((((items.size : Nat) : Int) - 1) == 0 && (-1 : Int) == 1 && items.size == items.size) = true) := by
      intro q
      rw [Bool.and_eq_true, Bool.and_eq_true] at q
      have q1 : (-1 : Int) = 1 := eq_of_beq q.1.2
      omega
    show wpAny _ _ (if ((((items.size : Nat) : Int) - 1) == 0 && (-1 : Int) == 1 && items.size == items.size) = true then _ else _) _ _ s
    rw [if_neg hno, revPick]
    first
      | exact wpAny_bind (m := Builtin.Tuple.tupleExact _) (wpAny_newObj_type (wpAny_pure ⟨_, rfl, wpAny_pure h⟩) htake)
      | exact wpAny_bind (m := Builtin.Tuple.tupleExact _) (wpAny_newObj_type (wpAny_bind (wpAny_pure (wpAny_pure ⟨_, rfl, wpAny_pure h⟩))) htake)
      | exact wpAny_bind (wpAny_bind (m := Builtin.Tuple.tupleExact _) (wpAny_newObj_type (wpAny_pure (wpAny_pure ⟨_, rfl, wpAny_pure h⟩)) htake))
      | exact wpAny_bind (wpAny_bind (m := Builtin.Tuple.tupleExact _) (wpAny_newObj_type (wpAny_pure ⟨_, rfl, wpAny_pure h⟩) htake))
end
section
variable {X : Cx}
def tRevT (K : PySem.W.Frag) (te : TE) : TE := fun σ H Q => te σ H fun x H1 => ∃ a xs, x = .ref a ∧ SqT K H1 a xs ∧ ∀ p, H1 p = none → Q (.ref p) (upd H1 p (.tup xs.reverse))
theorem pe_revT {e : Expr} {te : TE} {k : Nat} {p1 p2 p3 pos : Pos} (he : PE X e te) : PE X (.Subscript e (.Slice none none (some (.UnaryOp .USub (.Constant (.int 1) k p1) p2)) p3) pos) (tRevT X.K te) := by
  refine ⟨fun pins s σ H Q I h => ?_⟩
  refine Subscript_ (thn (he.run pins s σ H _ I h) fun v s1 ⟨x, H1, I1, r1, q1⟩ => ?_)
  obtain ⟨a, xs, ex, hx, q⟩ := q1
  subst ex
  cases r1
  have hst : PO X (some (.UnaryOp .USub (.Constant (.int 1) k p1) p2)) (tPart (tUn (rU fun i => .int (-i)) (tC (.int 1)))) := po_some (pe_un un_neg pe_int)
  refine wpAny_Slice (thn (po_none.run pins s1 σ H1 (fun o H2 => o = none ∧ H2 = H1) I1 ⟨rfl, rfl⟩) fun vl s2 ⟨l, H2, I2, pl, el, e2⟩ => ?_)
  subst el e2
  refine thn (po_none.run pins s2 σ H2 (fun o H3 => o = none ∧ H3 = H2) I2 ⟨rfl, rfl⟩) fun vu s3 ⟨u, H3, I3, pu, eu, e3⟩ => ?_
  subst eu e3
  refine thn (hst.run pins s3 σ H3 (fun o H4 => o = some (-1) ∧ H4 = H3) I3 ⟨1, rfl, -1, rfl, rfl, rfl⟩) fun vs s4 ⟨o, H4, I4, ps, eo, e4⟩ => ?_
  subst eo e4
  cases pl
  cases pu
  cases ps with
  | int i tk =>
  have I5 : Inv X pins σ H4 { s4 with heap := s4.heap.push { cls := .type "slice", data := .fields #[.none, .none, .int (-1) tk] } } := I4.kept (t' := s4.toks) fun b ob q => Heap.get?_push_of_some _ q
  obtain ⟨its, r, ht, hz⟩ := I5.tuple hx
  have hlen := r.length
  show wpAny (model X.prog X.w) X.A (subscriptTail e (.Slice none none (some (.UnaryOp .USub (.Constant (.int 1) k p1) p2)) p3) (.ref a) (.ref s4.heap.objs.size)) (EP X pins σ Q) X.xe { s4 with heap := s4.heap.push { cls := .type "slice", data := .fields #[.none, .none, .int (-1) tk] } }
  refine tail_any (ops := [.ref a, .ref s4.heap.objs.size]) ht.typeIs (PyProof.Rows.slot_tuple_getitem.lookup) ?_ (by with_unfolding_all rfl)
  refine getItem_tuple_rev ht (Heap.IsSliceOf.new _ .none .none (.int (-1) tk)) ?_ (by rw [List.size_toArray]; omega)
  refine ⟨.ref _, _, I5.laid (t' := s4.toks) (o := .tup xs.reverse) (fun b ob q => Heap.get?_push_of_some _ q) (Nat.le_refl _) ?_, rfl, q _ (I5.hok.fresh (Nat.le_refl _))⟩
  refine ⟨by rw [List.length_reverse]; omega, its.reverse, ?_, IsTup.new _ _⟩
  have rev : ∀ {xs : List V} {us : List Value}, Vals xs us → Vals xs.reverse us.reverse := by
    intro xs us r
    induction r with
    | nil => exact .nil
    | cons h t ih =>
      rw [List.reverse_cons, List.reverse_cons]
      exact ih.append (.cons h .nil)
  exact rev r
end
end K21
end
section
set_option maxRecDepth 100000
set_option maxHeartbeats 4000000
/-! K21A3: defs that repr asks of (FnG), repr of data, a call by keywords alone, a dict's display with a tuple as key, errors over an own base. -/
namespace K21
open PySem PySem.Spec PyProof.Rows L2

/-! ### defs where nothing is being shown -/
structure FnG (P : Program) (w : World) (K : PySem.W.Frag) (mg : Str → Option Value) (base : Heap) (CX : CXT) (k : Nat) (f : Addr) (fd : FuncData) (ps : List Str) (sp : Sp) : Prop where
  len : ∀ vs H Q E, sp vs H Q E → vs.length = ps.length
  run : ∀ (A : Around) (outer : List Env) (s : Shared) (H : Hp) (args : Args) (us : List Value) (vs : List V) (Q : VK) (E : XK), A.guards = some [] → Room k A → Env0 P w K mg base A outer s H → BindsTo s fd args (ps.zip us) → Vals vs us → sp vs H Q E →
    codeAny (model P w) A (.call (.ref f) args) (CR CX outer P w H s Q E) s
theorem FnG.of {P : Program} {w : World} {K : PySem.W.Frag} {mg : Str → Option Value} {base : Heap} {CX : CXT} {k : Nat} {f : Addr} {fd : FuncData} {ps : List Str} {sp : Sp} (F : FnOk P w K mg base CX k f fd ps sp) : FnG P w K mg base CX k f fd ps sp :=
  ⟨F.len, fun A outer s H args us vs Q E _ hr => F.run A outer s H args us vs Q E hr⟩
theorem guards_deeper {A : Around} {env : Env} (h : A.guards = some []) : (A.deeper env).guards = some [] := h
section
variable {X : Cx} {CX : CXT} {k : Nat} {f C : Addr} {fd : FuncData} {ps : List Str} {sp : Sp} {dvs : List V} {ds : List Value} {E : XK} {x m : Str} {p pos apos : Pos} {e o : Expr} {es : List Expr} {ta : TE} {t : TA}
theorem run_fnG {pins : List (Addr × Obj)} {σ : L2.St} {H : Hp} {s : Shared} {Q : VK} {us : List Value} {vs : List V} (F : FnG X.prog X.w X.K X.mg X.base CX k f fd ps sp) (hgd : X.A.guards = some []) (hr : Room k X.A) (hb : Binds X.K fd ps ds) (hd : Vals dvs ds) (hx : Passes CX X E)
    (I : Inv X pins σ H s) (r : Vals vs us) (h : sp (vs ++ dvs) H Q E) : wpAny (model X.prog X.w) X.A (call (.ref f) us) (EP X pins σ Q) X.xe s := by
  have r2 : Vals (vs ++ dvs) (us ++ ds) := r.append hd
  have hl : (us ++ ds).length = ps.length := by rw [← r2.length]; exact F.len _ _ _ _ h
  refine wpAny_call (codeAny_mono (F.run X.A X.stack s H ⟨us, []⟩ (us ++ ds) (vs ++ dvs) Q E hgd hr I.env0 (hb s us I.kIn hl) r2 h) fun r s' hq => ?_)
  cases r with
  | error e => exact hx pins σ H s e s' I hq
  | ok fl =>
    cases fl with
    | ret u => exact I.after hq
    | next => exact False.elim hq
    | brk => exact False.elim hq
    | cont => exact False.elim hq
theorem pe_callG (F : FnG X.prog X.w X.K X.mg X.base CX k f fd ps sp) (hgd : X.A.guards = some []) (hr : Room k X.A) (hg : Gl X x) (hm : X.mg x = some (.ref f)) (hk : PySem.W.keepIn X.K (.ref f) = true) (hb : Binds X.K fd ps ds) (hd : Vals dvs ds) (hx : Passes CX X E)
    (ha : PA X (e :: es) t) (hdb : (x == ("__debug__" : Str)) = false := by decide) (he : starEach (e :: es) X.env = (false, eval e X.env) :: starEach es X.env := by rfl) (hpl : (backTo pos (starEach es X.env)).any (·.1) = false := by rfl) :
    PE X (.Call (.Name x p) (e :: es) [] pos) (tCall sp dvs E t) := by
  refine ⟨fun pins s σ H Q I h => ?_⟩
  refine wpAny_Call_Name_kw (ld_glob I hg hm ?_ hdb)
  refine PySem.W.callWith_K (h₀ := X.base) I.ok.mod.kin hk (thn (ha.run pos pins s σ H _ I h) fun us s1 ⟨vs, H1, I1, r, q⟩ => ⟨I1.kIn, ?_⟩) he hpl
  exact run_fnG F hgd hr hb hd hx I1 r q
theorem pe_callG0 (F : FnG X.prog X.w X.K X.mg X.base CX k f fd ps sp) (hgd : X.A.guards = some []) (hr : Room k X.A) (hg : Gl X x) (hm : X.mg x = some (.ref f)) (hk : PySem.W.keepIn X.K (.ref f) = true) (hb : Binds X.K fd ps ds) (hd : Vals dvs ds) (hx : Passes CX X E)
    (hdb : (x == ("__debug__" : Str)) = false := by decide) : PE X (.Call (.Name x p) [] [] pos) (tCall sp dvs E tNil) := by
  refine ⟨fun pins s σ H Q I h => ?_⟩
  refine wpAny_Call_Name_kw (ld_glob I hg hm ?_ hdb)
  exact PySem.W.callWith_K0 I.kIn hk (run_fnG (us := []) F hgd hr hb hd hx I .nil h)
/-- f(k = v), no positional argument -/
theorem pe_callKw {ks : List Str} {g : List Value → List Value → List Value} {gV : List V → List V → List V} {kws : List Keyword} {tk : TA} (F : FnOk X.prog X.w X.K X.mg X.base CX k f fd ps sp) (hr : Room k X.A) (hg : Gl X x) (hm : X.mg x = some (.ref f)) (hk : PySem.W.keepIn X.K (.ref f) = true) (hb : KBinds X.K fd ps ks g gV) (hx : Passes CX X E)
    (hkw : PK X kws tk) (hall : (backToKw pos (keywordEach kws X.env)).all (·.1.isSome) = true := by rfl) (hks : (backToKw pos (keywordEach kws X.env)).filterMap (·.1) = ks := by rfl)
    (hdb : (x == ("__debug__" : Str)) = false := by decide)
    (hpl : (backToKw pos (keywordEach kws X.env)).any (·.1.isNone) = false := by rfl) :
    PE X (.Call (.Name x p) [] kws pos) (tCallK sp gV E tNil tk) := by
  refine ⟨fun pins s σ H Q I h => ?_⟩
  refine wpAny_Call_Name_kw (ld_glob I hg hm ?_ hdb)
  refine PySem.W.callWith_KW0 (h₀ := X.base) I.ok.mod.kin hk hall ?_ hpl
  refine thn (hkw.run pos pins s σ H _ I h) fun ws s2 ⟨zs, H2, I2, rz, q2⟩ => ⟨I2.kIn, ?_⟩
  rw [hks]
  exact run_fnk (us := []) (vs := []) F hr hb hx I2 .nil rz q2
end
section
variable {P : Program} {w : World} {K : PySem.W.Frag} {mg : Str → Option Value} {base : Heap}
theorem fn_ofG {CX : CXT} {k : Nat} {f : Addr} {name qual : Str} {params : Arguments} {body : List Stmt} {scope : Scope} {dV kV doc pm cdv ct oc : Value} {an od : Option Addr}
    {osl : Array (Option Value)} {N ps : List Str} {sp : Sp} (lk : K.lookup f = some ⟨oc, od, .func (PySem.W.fnOf name qual params body scope dV kV doc pm an cdv ct), osl⟩) (hcd : PySem.W.codeIn K cdv qual = true) (S : FnScope N ps scope)
    (len : ∀ vs H Q E, sp vs H Q E → vs.length = ps.length)
    (hbody : ∀ (A : Around) (outer : List Env) (s : Shared) (H : Hp) (vs : List V) (Q : VK) (E : XK), (A.deeper (envOfC qual scope s.heap.objs.size f cdv)).guards = some [] → Room k (A.deeper (envOfC qual scope s.heap.objs.size f cdv)) → sp vs H Q E →
      ∃ t, PSs (cxOf CX P w K mg base N qual scope f cdv A outer s H E) body t ∧ t { nx := fun _ H' => Q .non H', rt := Q } (start N vs) H) :
    FnG P w K mg base CX (k + 1) f (PySem.W.fnOf name qual params body scope dV kV doc pm an cdv ct) ps sp := by
  refine ⟨len, fun A outer s H args us vs Q E hgd hr e0 hb r hsp => ?_⟩
  have hl := len _ _ _ _ hsp
  have KX : K.In s.heap := e0.mod.kin.keeps fun b o e => (e0.bs b o e).1
  have lim : s.heap.NoLimit := e0.mod.nolimit.keeps fun b o e => (e0.bs b o e).1
  have hkind : ∀ y ∈ ps.zip us, scope.names.lookup y.1 = some .local ∨ (scope.names.lookup y.1 = some .cell ∧ ((cellsFrom (s.heap.objs.size + 1) scope.names []).lookup y.1).isSome = true) := fun ⟨n, v⟩ hy => by
    rcases S.par n (List.of_mem_zip hy).1 with q | q
    · exact .inl q
    · exact .inr ⟨q, PySem.W.cellsFrom_some _ _ _ (.inl q)⟩
  refine codeAny_call_function hr.depth (KX _ _ lk) rfl S.co S.gen rfl (PySem.W.codeRec_of KX hcd) (hb _ _ _ _ ?_)
  refine wpAny_newFunctionEnv_cells S.kind hkind fun env he s1 x => ?_
  subst he
  refine ⟨lim.keeps x.toInCall.keep, codeAny_func ?_⟩
  obtain ⟨t, ht, hq⟩ := hbody A outer s H vs Q E (guards_deeper hgd) (hr.deeper _) hsp
  have I : Inv (cxOf CX P w K mg base N qual scope f cdv A outer s H E) [] (start N vs) H s1 := inv_start S hr.hd e0 hl r x
  refine wpAny_mono (ht.run [] s1 (start N vs) H _ I hq) (fun fl s' hs => ?_) fun e s' hs => hs
  have fin : ∀ {σ' : L2.St} {H' : Hp} {v : V} {u : Value}, Inv (cxOf CX P w K mg base N qual scope f cdv A outer s H E) [] σ' H' s' → RelV v u → Q v H' → CE outer P w H s Q u s' :=
    fun {σ' H' v u} J rv q => ⟨v, H', J.os, J.bare, J.base, J.hok, rv, q⟩
  cases fl with
  | ret u =>
    obtain ⟨v, σ', H', J, rv, q⟩ := hs
    exact fin J rv q
  | next =>
    obtain ⟨σ', H', J, q⟩ := hs
    exact fin (v := V.non) (u := Value.none) J rfl q
  | brk =>
    obtain ⟨_, _, _, q⟩ := hs
    exact False.elim q
  | cont =>
    obtain ⟨_, _, _, q⟩ := hs
    exact False.elim q
theorem okG {x qual : Str} {st : Stmt} {f : Addr} {fd : FuncData} {N ps : List Str} {k : Nat} {sp : Sp} (F : Fun K x qual st f fd) (S : FnScope N ps (defScope st)) (len : ∀ vs H Q E, sp vs H Q E → vs.length = ps.length)
    (hbody : ∀ (cdv : Value) (A : Around) (outer : List Env) (s : Shared) (H : Hp) (vs : List V) (Q : VK) (E : XK), (A.deeper (envOfC qual (defScope st) s.heap.objs.size f cdv)).guards = some [] → Room k (A.deeper (envOfC qual (defScope st) s.heap.objs.size f cdv)) → sp vs H Q E →
      ∃ t, PSs (cxOf CX0 P w K mg base N qual (defScope st) f cdv A outer s H E).nox (defBody st) t ∧ t { nx := fun _ H' => Q .non H', rt := Q } (start N vs) H) : FnG P w K mg base CX0 (k + 1) f fd ps sp := by
  obtain ⟨oc, od, kV, doc, pm, an, cdv, ct, osl, rfl, lk, hcd⟩ := F.ex
  refine fn_ofG lk hcd S len fun A outer s H vs Q E hgd hr hsp => ?_
  obtain ⟨t, h, q⟩ := hbody cdv A outer s H vs Q E hgd hr hsp
  exact ⟨t, h.nox, q⟩
end
/-! ### repr of data -/
section
variable {X : Cx}
def rRepr (K : PySem.W.Frag) : List V → Hp → VK → Prop := fun vs H Q => ∃ (a : Addr) (d : PyData), vs = [V.ref a] ∧ Dp K H (.ref a) d ∧ d.layable0 = true ∧ d.showable = true ∧ d.shown.length ≤ sizeLine ∧ Q (.str d.shown) H
theorem cr_repr (hgd : X.A.guards = some []) (hu : X.A.units + 200 < cLine) : CallR X (.builtin "repr") (rRepr X.K) := by
  intro pins s σ H vs us Q I r h
  obtain ⟨a, d, rfl, hd, hl, hs, hz, q⟩ := h
  rw [Vals.ref1 r]
  obtain ⟨as, hr⟩ := Dp.reads I d (.ref a) (.ref a) hd rfl
  have dep := PyData.depth_le_of_layable hl
  refine repr_of_reads' hr hs (PyData.noDict_hsm (PyData.hasDict_of_layable hl)) hgd (by omega) (fun _ _ e => e) (fun h' u tk hk => ?_) hz
  exact ⟨.str d.shown, H, I.kept hk, ⟨u, rfl⟩, q⟩
end

/-! ### {key: value}, the key a tuple -/
theorem VVone {k v : V} {ws : List (Value × Value)} (r : VV [(k, v)] ws) : ∃ u x, ws = [(u, x)] ∧ RelV k u ∧ RelV v x := by
  cases r with
  | @cons _ q _ _ h t =>
    cases t
    exact ⟨q.1, q.2, rfl, h.1, h.2⟩
def tDispT1 (tk tv : TE) : TE := fun σ H Q => ∀ p, H p = none → tPairs [(tk, tv)] σ (upd H p (.dT [])) fun ps H2 => ∃ (b : Addr) (ks : List L2.Key) (y : V), ps = [(.ref b, y)] ∧ H2 b = some (.tup (ks.map kV)) ∧ H2 p = some (.dT []) ∧ Q (.ref p) (upd H2 p (.dT [(ks, y)]))
theorem pe_dispT1 {X : Cx} {pos : Pos} {k v : Expr} {tk tv : TE} (hu : X.A.units + 1 < cLine) (hk : PE X k tk) (hv : PE X v tv) : PE X (.Dict [some k] [v] pos) (tDispT1 tk tv) := by
  refine ⟨fun pins s σ H Q I q => ?_⟩
  have hn := I.hok.fresh (Nat.le_refl s.heap.objs.size)
  have I1 := I.laid (a := s.heap.objs.size) (o := .dT []) (h' := s.heap.push { cls := .type "dict", data := .dict #[] }) (t' := s.toks) (fun _ _ q => Heap.get?_push_of_some _ q) (Nat.le_refl _) (dt_empty s.heap I.big)
  have hp : PPs X pos [some k] [v] [(tk, tv)] := pps_cons hk hv pps_nil
  have q0 := q _ hn
  refine wpAny_Dict_any (by rfl) rfl (by intro z; cases z) (by show 1 ≤ 15; decide) (thn (hp.run pins _ σ _ (fun ps H2 => ∃ (b : Addr) (ks : List L2.Key) (y : V), ps = [(.ref b, y)] ∧ H2 b = some (.tup (ks.map kV)) ∧ H2 s.heap.objs.size = some (.dT []) ∧ Q (.ref s.heap.objs.size) (upd H2 s.heap.objs.size (.dT [(ks, y)]))) I1 ?_) fun ws s2 ⟨ps, H2, I2, rel, b, ks, y, ep, eb, ed, q2⟩ => ?_)
  · exact q0
  · subst ep
    obtain ⟨u, w, ew, ru, rw'⟩ := VVone rel
    subst ew
    cases (show u = Value.ref b from ru)
    obtain ⟨z, hd, xs, r0, dd⟩ := dt_of I2.hok ed
    cases r0
    refine wpAny_storeAllH (A := X.A) (knd := tupleKind (mixKind X.prog X.w)) (show X.A.units < cLine from Nat.lt_of_succ_lt hu) [(Value.ref b, w)] [(ks, b, w)] [] s2 _ ⟨rfl, rfl, key_of I2.hok eb, True.intro⟩ dd (by show 0 + 1 ≤ sizeLine; decide) fun h' tk' dd' hs => ?_
    obtain ⟨qo, es, ep', hq, h2, h3, h4, _, h5⟩ := dd'
    have new : ObjOk X.prog X.w (upd H2 s.heap.objs.size (.dT [(ks, y)])) h' s.heap.objs.size (.dT [(ks, y)]) := by
      refine ⟨by show 1 ≤ sizeLine; decide, hd, [(ks, b, w)], .cons ⟨rfl, ?_, rw'⟩ .nil, qo, es, ep', hq, h2, h3, h4, h5⟩
      rw [upd_ne (ne_of eb ed (fun z => nomatch z))]
      exact eb
    exact ⟨.ref s.heap.objs.size, _, d_write (t' := tk') I2 (by rw [ed]; exact True.intro) hs ⟨qo, hq⟩ new, rfl, q2⟩

/-! ### errors over an own base class without __init__ -/
section
variable {X : Cx} {o e : Expr} {es : List Expr} {to te : TE} {ta : TA} {f : Str} {p p' p1 p2 pos : Pos}
theorem pe_yinit {Y : Addr} {mc : Value} {b : Str} {pl : Sem Bool} (hg : Gl X b) (hm : X.mg b = some (.ref Y)) (ga : PySem.W.specialIn X.K (.ref Y) "__getattribute__" = some (some (.builtin "type.__getattribute__"))) (rd : PySem.W.readsIn X.K Y mc = true)
    (vV : PySem.W.findCls X.K (.ref Y) mc "__init__" = some (.val (.builtin "ValueError.__init__"))) (ha : PA X (e :: es) ta) (hdb : (b == ("__debug__" : Str)) = false := by decide)
    (hc : eval (.Call (.Attribute (.Name b p1) "__init__" p2) (e :: es) [] pos) X.env = (do
      let ov ← eval (.Name b p1) X.env
      standAt p2.atName
      let (f, first) ← holding [ov] (getMethod ov "__init__" pl)
      callWith pos f first (backTo pos (starEach (e :: es) X.env)) (backToKw pos (keywordEach [] X.env))) := by rfl)
    (he : starEach (e :: es) X.env = (false, eval e X.env) :: starEach es X.env := by rfl) (hpl : (backTo pos (starEach es X.env)).any (·.1) = false := by rfl) :
    PE X (.Call (.Attribute (.Name b p1) "__init__" p2) (e :: es) [] pos) (tVeI X.K ta) := by
  refine ⟨fun pins s σ H Q I h => ?_⟩
  refine PySem.W.methodCall_KW (ld_glob I hg hm ?_ hdb) hc
  refine PySem.W.method_cls I.kIn ga (PySem.W.cls_value I.kIn rd vV (by decide +kernel) ?_)
  show wpAny _ _ (callWith pos (Value.builtin "ValueError.__init__") [] (backTo pos (starEach (e :: es) X.env)) []) _ _ _
  refine PyProof.Rows.callWith_method1 (thn (ha.run pos pins _ σ H _ (I.tok _) h) fun us s1 ⟨vs, H1, I1, r1, a, C, ws, ev, hl, T, ea, q⟩ => ?_) he hpl
  subst ev
  cases r1 with
  | @cons _ u0 _ ur ra rw' =>
    obtain rfl : u0 = Value.ref a := ra
    have hlen : ur.length ≤ sizeLine := by
      rw [← Paired.length rw', sizeLine_eq]
      omega
    exact oinit_ok T I1 ea hlen fun s' J => ⟨.non, H1, J, rfl, q⟩
/-- C(), C's own __init__ keeping sp, which stores nothing -/
def tMkO0 (C : Addr) (sp : Sp) : L2.St → Hp → XK → Prop := fun _ H Q => ∀ a, H a = none → sp [.ref a] (upd H a (exo a C none))
  (fun v H2 => v = .non ∧ H2 a = some (exo a C none) ∧ Q (.ref C) none (del H2 a)) (fun _ _ _ => False)
theorem mk_end00 {pins : List (Addr × Obj)} {σ : L2.St} {H1 H2 : Hp} {hp hp2 h2 : Heap} {g1 g2 : Array GenState} {d1 d2 : Drawn} {t1 t2 : Nat} {os1 os2 : OsState} {a C : Addr} (I1 : Inv X pins σ H1 ⟨hp, g1, d1, t1, os1⟩)
    (ha : hp.objs.size ≤ a) (k : ∀ b o, hp.get? b = some o → hp2.get? b = some o) (un : Un (frs X.stack) [] (upd H1 a (exo a C none)) H2 hp2 h2) (hok : HOk X.prog X.w H2 h2) (ho : os2 = os1) (hb : AllBare g2)
    (ea : H2 a = some (exo a C none)) :
    ∃ (t0 : Addr) (G : Heap), Inv X pins σ (del H2 a) ⟨G, g2, d2, t2, os2⟩ ∧ (∀ b o, G.get? b = some o → h2.get? b = some o) ∧ G.get? a = none ∧
      h2.get? a = some ({ cls := .ref C, dict := none, data := .fields #[.ref t0, .none, .none, .none, .bool false, .none] } : Obj) ∧ (del H2 a) a = none := by
  obtain ⟨t0, hoe⟩ := exo_at hok ea
  have hn : H1 a = none := I1.hok.fresh ha
  obtain ⟨G, g1', g2'⟩ := restrict h2 fun b => decide (b ≠ a)
  have gk : ∀ b, b ≠ a → G.get? b = h2.get? b := fun b hb => g1' b (decide_eq_true hb)
  have ge : G.get? a = none := g2' a (by simp)
  have nha : ∀ {b : Addr} {o : Obj}, hp.get? b = some o → b ≠ a := fun {b o} z => Nat.ne_of_lt (Nat.lt_of_lt_of_le (Heap.lt_size z) ha)
  have up : ∀ {b : Addr}, b ≠ a → H1 b = none → upd H1 a (exo a C none) b = none := fun {b} hb n => by rw [upd_ne hb]; exact n
  have U : Un (frs X.stack) [] H1 (del H2 a) hp G := {
    keep := fun b o z n hf hx => by
      rw [gk b (nha z)]
      exact un.keep b o (k b o z) (up (nha z) n) hf hx
    slot := fun b o z n hf hx => by
      rw [gk b (nha z)]
      exact un.slot b o (k b o z) (up (nha z) n) hf hx
    free := fun b o z n hx => by
      rw [del_ne (nha z)]
      exact un.free b o (k b o z) (up (nha z) n) hx
    there := fun b o z hx => by
      rw [gk b (nha z)]
      exact un.there b o (k b o z) hx
    tups := fun b xs z => by
      rw [del_ne (ne_of_none z hn)]
      exact un.tups b xs (by rw [upd_ne (ne_of_none z hn)]; exact z)
    frzs := fun b o v z => by
      rw [del_ne (ne_of_none z hn)]
      exact un.frzs b o v (by rw [upd_ne (ne_of_none z hn)]; exact z)
    tbls := fun b ps z => by
      rw [del_ne (ne_of_none z hn)]
      exact un.tbls b ps (by rw [upd_ne (ne_of_none z hn)]; exact z) }
  have hok3 : HOk X.prog X.w (del H2 a) G := fun b o z => by
    have hba : b ≠ a := fun e => by
      rw [e, del_same] at z
      cases z
    rw [del_ne hba] at z
    have noa : ∀ {c : Addr}, H2 c = some (.own b) → c ≠ a := fun {c} hc => at_ne ea hc exo_own
    exact (hok b o z).stay (fun c v hc y => by
        have hca : c ≠ a := by
          rcases hc with hc | hc
          · rw [hc]
            exact hba
          · exact noa hc
        rw [gk c hca]
        exact y)
      (fun c hc => by rw [del_ne (noa hc)]; exact hc) (fun c xs hc => by rw [del_ne (at_ne ea hc exo_tup)]; exact hc)
  have J : Inv X pins σ (del H2 a) ⟨G, g2, d2, t2, os2⟩ := I1.call' (ch := []) ho U hok3 hb (fun b z => absurd z (by simp))
  refine ⟨t0, G, J, fun b o z => ?_, ge, hoe, del_same⟩
  by_cases hba : b = a
  · rw [hba, ge] at z
    cases z
  · exact (gk b hba).symm.trans z
theorem pmk_oex0 {CX : CXT} {x : Str} {C fI : Addr} {k : Nat} {fd : FuncData} {ps : List Str} {sp : Sp} (T : OexC X.K C) (iC : PySem.W.findIn X.K (.ref C) "__init__" = some (some (.ref fI))) (tI : PySem.W.typeIn X.K (.ref fI) = some (.type "function"))
    (F1 : FnOk X.prog X.w X.K X.mg X.base CX k fI fd ps sp) (hr : Room (k + 1) X.A) (hb : Binds X.K fd ps []) (hx : Passes CX X (fun _ _ _ => False)) (hg : Gl X x) (hm : X.mg x = some (.ref C))
    (hdb : (x == ("__debug__" : Str)) = false := by decide) :
    PMk X (.Call (.Name x p) [] [] pos) (tMkO0 C sp) := by
  intro pins s1 σ H1 Q I1 q1
  obtain ⟨nm, q, N, bs, bm, sn, sub, ab, col, dd, k0, k1, k2, k3, k5, hC, hbm⟩ := T.cls
  refine wpAny_Call_Name_kw (ld_glob I1 hg hm ?_ hdb)
  refine PySem.W.callWith_K0 I1.kIn T.kC ?_
  show wpAny _ _ (call (.ref C) []) _ _ _
  obtain ⟨hp, g, dr, tk, os⟩ := s1
  have hsz : hp.objs.size ≤ hp.objs.size + 1 := Nat.le_succ _
  have hn : H1 (hp.objs.size + 1) = none := I1.hok.fresh hsz
  have hq := q1 (hp.objs.size + 1) hn
  have kk : ∀ b o, hp.get? b = some o → ((hp.push (PySem.W.kdv_tup [])).push (PySem.HandSPX.excO C hp.objs.size)).get? b = some o := fun b o e => Heap.get?_push_of_some _ (Heap.get?_push_of_some _ e)
  have hget : ((hp.push (PySem.W.kdv_tup [])).push (PySem.HandSPX.excO C hp.objs.size)).get? (hp.objs.size + 1) = some (PySem.HandSPX.excO C hp.objs.size) := by heap_get
  have I2 : Inv X pins σ (upd H1 (hp.objs.size + 1) (exo (hp.objs.size + 1) C none)) ⟨(hp.push (PySem.W.kdv_tup [])).push (PySem.HandSPX.excO C hp.objs.size), g, dr, tk, os⟩ :=
    I1.laid (t' := tk) (a := hp.objs.size + 1) (o := exo (hp.objs.size + 1) C none) (h' := (hp.push (PySem.W.kdv_tup [])).push (PySem.HandSPX.excO C hp.objs.size)) kk hsz (exo_ok hget)
  have r2 : Vals [V.ref (hp.objs.size + 1)] [Value.ref (hp.objs.size + 1)] := .cons rfl .nil
  have hl : ([Value.ref (hp.objs.size + 1)] : List Value).length = ps.length := by
    have e := r2.length
    rw [F1.len _ _ _ _ hq] at e
    exact e.symm
  have hb' := hb ⟨(hp.push (PySem.W.kdv_tup [])).push (PySem.HandSPX.excO C hp.objs.size), g, dr, tk, os⟩ [Value.ref (hp.objs.size + 1)] I2.kIn (by rw [List.append_nil]; exact hl)
  rw [List.append_nil] at hb'
  refine wpAny_call (PySem.HandSPX.call_own F.excBase_ValueError (fun Y => PySem.HandSPX.refsVE_contains Y bm hbm) (I1.kIn _ _ hC) (PySem.W.looks_findIn I1.kIn iC) (fun self => PySem.W.bind_fn I1.kIn self tI) (Nat.zero_le _)
    (codeAny_mono (F1.run _ X.stack _ _ ⟨[Value.ref (hp.objs.size + 1)], []⟩ [Value.ref (hp.objs.size + 1)] _ _ (fun _ _ _ => False) (hr.make C [] []) (I2.env0.make C [] []) hb' r2 hq) fun r s' hq' => ?_))
  cases r with
  | error er => exact hx pins σ _ _ er s' I2 hq'
  | ok fl =>
    cases fl with
    | ret u =>
      obtain ⟨v, H2, os2, bare2, un2, hok2, rv, ev, ea, q2⟩ := hq'
      subst ev
      obtain ⟨h2, g2, d2, t2, os'⟩ := s'
      obtain ⟨t0, G, J, kG, ge, hoe, na⟩ := mk_end00 (d2 := d2) (t2 := t2) I1 hsz kk un2 hok2 os2 bare2 ea
      exact ⟨rv, ⟨hp.objs.size + 1, _, _, ⟨G, g2, d2, t2, os'⟩, _, .ref C, none, rfl, J, kG, ge, hoe, ⟨rfl, rfl⟩, rfl, rfl, na, rfl, bare2, raises_own T.exC T.tyC, q2⟩⟩
    | next => exact False.elim hq'
    | brk => exact False.elim hq'
    | cont => exact False.elim hq'
end
end K21
end
section
set_option maxRecDepth 100000
set_option maxHeartbeats 4000000
/-! K21A4: several except clauses, some of them with a name. -/
namespace K21
open PySem PySem.Spec PyProof.Rows L2
abbrev Clause := Value × Option Nat × (Addr → Value → Option Addr → TS)
def wMix (K : PySem.W.Frag) (Wout : WX) (D : Ends) : List Clause → WX
  | [] => Wout
  | (c, none, ts) :: r => fun cls d σ H => ∃ b, PySem.W.exmOne K cls c = some b ∧ (b = true → ∀ a, H a = none → ts a cls d D σ H) ∧ (b = false → wMix K Wout D r cls d σ H)
  | (c, some i, ts) :: r => fun cls d σ H => ∃ b, PySem.W.exmOne K cls c = some b ∧
      (b = true → ∀ a, H a = none → ts a cls d { nx := fun σ' H' => D.nx (σ'.set i none) H', rt := D.rt, bk := fun σ' H' => D.bk (σ'.set i none) H', ct := fun σ' H' => D.ct (σ'.set i none) H' } (σ.set i (some (.ref a))) H) ∧
      (b = false → wMix K Wout D r cls d σ H)
inductive HdsMix (X : Cx) : List ExceptHandler → List Clause → Prop
  | nil : HdsMix X [] []
  | cons {x : Str} {c : Value} {ts : Addr → Value → Option Addr → TS} {b₀ : Stmt} {suite : List Stmt} {np pos' : Pos} {hds : List ExceptHandler} {l : List Clause} (hc : Names X x c)
      (hsu : ∀ (a : Addr) (oe : Obj) (cls : Value) (d : Option Addr) (pn : List (Addr × Obj)), Zc cls d oe → (∃ vs, oe.data = .fields vs) → PSs (X.suite a ((a, oe) :: pn)) (b₀ :: suite) (ts a cls d)) (r : HdsMix X hds l) :
      HdsMix X (.ExceptHandler (some (.Name x np)) none (b₀ :: suite) pos' :: hds) ((c, none, ts) :: l)
  | consAs {x n : Str} {i : Nat} {c : Value} {ts : Addr → Value → Option Addr → TS} {b₀ : Stmt} {suite : List Stmt} {np pos' : Pos} {hds : List ExceptHandler} {l : List Clause} (hc : Names X x c) (hi : X.N[i]? = some n) (hln : X.env.kindOf n = some .local)
      (hsu : ∀ (a : Addr) (oe : Obj) (cls : Value) (d : Option Addr) (pn : List (Addr × Obj)), Zc cls d oe → (∃ vs, oe.data = .fields vs) → PSs (X.suite a ((a, oe) :: pn)) (b₀ :: suite) (ts a cls d)) (r : HdsMix X hds l) :
      HdsMix X (.ExceptHandler (some (.Name x np)) (some n) (b₀ :: suite) pos' :: hds) ((c, some i, ts) :: l)
section
variable {X : Cx} {body : List Stmt} {h₀ : ExceptHandler} {hds : List ExceptHandler} {l : List Clause} {pos : Pos} {tb : WX → TS} {Wout : WX}
theorem ps_try_mix (hs : X.stack = X.env :: X.outer) (hf : X.env.frame = some X.env.locals) (hN : X.N.Nodup) (tk : Takes X Wout)
    (hb : ∀ (W : WX) (pn : List (Addr × Obj)) (xe : Value → Shared → Prop), Takes (X.tr pn xe) W → PassesOwn (model X.prog X.w) X.A X.env xe → PSs (X.tr pn xe) body (tb W))
    (hh : HdsMix X (h₀ :: hds) l) : PS X (.Try body (h₀ :: hds) [] [] pos) (fun D σ H => tb (wMix X.K Wout D l) D σ H) := by
  refine ⟨fun pins s σ H D I h => ?_⟩
  have ok := I.ok
  have hfr : X.A.frames = some (X.env :: X.outer) := by rw [ok.frames, hs]
  refine wpAny_Try_except ?_
  refine wpAny_mono ((hb (wMix X.K Wout D l) (X.pn ++ pins) (fun e s₁ => wpAny (model X.prog X.w) X.A (noteFrame e X.env) (fun _ s₂ => wpAny (model X.prog X.w) X.A (setFlight e none) (fun _ s₃ =>
    wpAny (model X.prog X.w) X.A (handleBy e X.env (h₀ :: hds)) (SP X pins D) X.xe s₃) X.xe s₂) X.xe s₁) (fun u s' xx => ?_) PassesOwn.looking).run [] s σ H D (I.toTry _) h) (fun f s1 hsp => ?_) (fun e s1 he => he)
  · -- the catch
    obtain ⟨a, B, sI, pins', σ', H', cls, d, rfl, J', nb, up, sky, na, os, ag, w⟩ := xx
    have J : Inv X pins σ' H' sI := J'.ofTry ok
    have sky' : Sky B (X.env :: X.outer) a (Zc cls d) X.env.locals s'.heap := by rw [← hs]; exact sky
    show wpAny (model X.prog X.w) X.A (noteFrame (.ref a) X.env) _ _ _
    refine Sky.land Zc.steady hfr hf sky' fun h3 fl3 up3 => ?_
    have J3 : Inv X pins σ' H' { s' with heap := h3 } := J.landed nb fl3.1 (up.trans up3) os ag
    obtain ⟨oe3, vs3, he3, hz3, hd3⟩ := fl3.there
    have notFr : ∀ {h : Heap} {o : Obj} {vs : Array Value}, h.FunFrames B (X.env :: X.outer) → h.get? a = some o → o.data = .fields vs → a ∉ frs (X.env :: X.outer) := fun {h o vs} ff e dd hm => by
      obtain ⟨_, o', e', hnf⟩ := ff.mem hm
      rw [e] at e'; cases e'
      exact hnf _ dd
    have nfr := notFr fl3.2.2.1 he3 hd3
    have nL : a ≠ X.env.locals := fun z => nfr (List.mem_filterMap.mpr ⟨X.env, List.mem_cons_self, by rw [hf, z]⟩)
    have nF : a ∉ X.fs := fun hm => by
      obtain ⟨e, he, q⟩ := List.mem_filterMap.mp hm
      exact nfr (List.mem_filterMap.mpr ⟨e, List.mem_cons_of_mem _ he, q⟩)
    have S3 := J3.suite he3 hd3 na nL nF
    have LT : PySem.W.Looks (model X.prog X.w) h3 (typeOf (.ref a)) cls := fun A Q E s k q => wpAny_typeOf_ref (k _ _ he3) (by rw [hz3.1]; exact q)
    have test : ∀ {x : Str} {c : Value} {np : Pos} {Q : Value → Shared → Prop} {E : Value → Shared → Prop}, Names X x c → Q c { s' with heap := h3 } → wpAny (model X.prog X.w) (X.A.mark (some (.ref a))) (eval (.Name x np) X.env) Q E { s' with heap := h3 } := fun {x c np Q E} hc q => by
      obtain ⟨hg, hdbg, hm | ⟨hm, hv, hnn⟩⟩ := hc
      · exact ld_glob (X := X.suite a ((a, oe3) :: (X.pn ++ pins))) S3 hg hm q hdbg
      · exact ld_blt (X := X.suite a ((a, oe3) :: (X.pn ++ pins))) S3 hg hm hv q hnn hdbg
    have go : ∀ {hds' : List ExceptHandler} {l' : List Clause}, HdsMix X hds' l' → wMix X.K Wout D l' cls d σ' H' →
        wpAny (model X.prog X.w) X.A (handleBy (.ref a) X.env hds') (SP X pins D) X.xe { s' with heap := h3 } := by
      intro hds' l' hk
      induction hk with
      | nil =>
        intro w
        refine wpAny_handleBy_nil ?_
        obtain ⟨k1, k2, k3, oe, vs, T, oT, ts', he, hz, hd, h1, hr⟩ := id fl3
        unfold PySem.passOn
        refine wpAny_bind (wpAny_field he hd h1 ?_)
        rw [if_neg (show ¬ ((Value.ref T == Value.none) = true) from by simp)]
        have fin : wpAny (model X.prog X.w) X.A (setFlight (.ref a) X.env.frame) (fun _ s4 => wpAny (model X.prog X.w) X.A (throw (.ref a) : Sem Flow) (SP X pins D) X.xe s4) X.xe { s' with heap := h3 } := by
          rw [hf]
          refine HandSPX.setFlight_upZ fl3 fun h4 hh4 up4 => wpAny_throw (tk _ _ ?_)
          exact ⟨a, B, sI, pins, σ', H', cls, d, rfl, J, nb, (up.trans up3).trans up4, .inr (.inr (by rw [hs]; exact hh4)), na, os, ag, w⟩
        first
          | exact wpAny_bind (wpAny_pure (wpAny_bind fin))
          | exact wpAny_bind fin
      | @cons x c ts b₀ suite np pos' hds2 l2 hc hsu r ih =>
        intro w
        obtain ⟨b, hb1, hyes, hno⟩ := w
        refine wpAny_handleBy_cons (codeAny_handlers_test ?_) (by intro q; cases q)
        have LM := PySem.W.exm_one (M := model X.prog X.w) (J3.kIn) LT hb1
        refine test hc (LM.here ?_)
        cases b with
        | true =>
          refine codeAny_handlers_suite ?_
          refine HandSPX.lands_againZ fl3 fun h4 fl4 up4 => ?_
          have J4 : Inv X pins σ' H' { s' with heap := h4 } := J.landed nb fl4.1 ((up.trans up3).trans up4) os ag
          obtain ⟨oe4, vs4, he4, hz4, hd4⟩ := fl4.there
          have S4 := J4.suite he4 hd4 na nL nF
          refine wpAny_mono ((hsu a oe4 cls d (X.pn ++ pins) hz4 ⟨_, hd4⟩).run [] _ _ H' _ S4 (hyes rfl a na)) (fun f s6 hsp => ?_) (fun _ _ z => False.elim z)
          cases f with
          | next =>
            obtain ⟨σ6, H6, S6, q6⟩ := hsp
            exact ⟨_, _, S6.unsuite ok, q6⟩
          | brk =>
            obtain ⟨σ6, H6, S6, q6⟩ := hsp
            exact ⟨_, _, S6.unsuite ok, q6⟩
          | cont =>
            obtain ⟨σ6, H6, S6, q6⟩ := hsp
            exact ⟨_, _, S6.unsuite ok, q6⟩
          | ret u =>
            obtain ⟨v6, σ6, H6, S6, r6, q6⟩ := hsp
            exact ⟨_, _, _, S6.unsuite ok, r6, q6⟩
        | false =>
          show wpAny _ X.A (handleBy (.ref a) X.env hds2) _ _ _
          exact ih (hno rfl)
      | @consAs x n i c ts b₀ suite np pos' hds2 l2 hc hi hln hsu r ih =>
        intro w
        obtain ⟨b, hb1, hyes, hno⟩ := w
        refine wpAny_handleBy_cons (codeAny_handlers_test ?_) (by intro q; cases q)
        have LM := PySem.W.exm_one (M := model X.prog X.w) (J3.kIn) LT hb1
        refine test hc (LM.here ?_)
        cases b with
        | true =>
          refine codeAny_handlers_suite_as ?_
          refine HandSPX.lands_againZ fl3 fun h4 fl4 up4 => ?_
          have J4 : Inv X pins σ' H' { s' with heap := h4 } := J.landed nb fl4.1 ((up.trans up3).trans up4) os ag
          obtain ⟨oe4, vs4, he4, hz4, hd4⟩ := fl4.there
          have S4 := J4.suite he4 hd4 na nL nF
          have hloc : Loc X.env.scope n := .inl hln
          refine store_ok (X := X.suite a ((a, oe4) :: (X.pn ++ pins))) (v := .ref a) S4 hN hi hloc rfl (fun s5 S5 => ?_) (.inr hln)
          refine wpAny_mono ((hsu a oe4 cls d (X.pn ++ pins) hz4 ⟨_, hd4⟩).run [] s5 _ H' _ S5 (hyes rfl a na)) (fun f s6 hsp => ?_) (fun _ _ z => False.elim z)
          have end_ : ∀ {σ6 : L2.St} {H6 : Hp} {Q : Shared → Prop}, Inv (X.suite a ((a, oe4) :: (X.pn ++ pins))) [] σ6 H6 s6 → (∀ s7, Inv X pins (σ6.set i none) H6 s7 → Q s7) →
              wpAny (model X.prog X.w) X.A (do bindName X.env n .none; unbindBehindTheSuite X.env n pos') (fun _ s7 => Q s7) X.xe s6 := fun {σ6 H6 Q} S6 hq => gone_ok (S6.unsuite ok) hN hi hln hq
          cases f with
          | next =>
            obtain ⟨σ6, H6, S6, q6⟩ := hsp
            exact end_ S6 fun s7 J7 => ⟨_, _, J7, q6⟩
          | brk =>
            obtain ⟨σ6, H6, S6, q6⟩ := hsp
            exact end_ S6 fun s7 J7 => ⟨_, _, J7, q6⟩
          | cont =>
            obtain ⟨σ6, H6, S6, q6⟩ := hsp
            exact end_ S6 fun s7 J7 => ⟨_, _, J7, q6⟩
          | ret u =>
            obtain ⟨v6, σ6, H6, S6, r6, q6⟩ := hsp
            exact end_ S6 fun s7 J7 => ⟨_, _, _, J7, r6, q6⟩
        | false =>
          show wpAny _ X.A (handleBy (.ref a) X.env hds2) _ _ _
          exact ih (hno rfl)
    exact go hh w
  · cases f with
    | next =>
      obtain ⟨σ', H', J', q⟩ := hsp
      exact wpAny_execs_nil ⟨σ', H', J'.ofTry ok, q⟩
    | brk =>
      obtain ⟨σ', H', J', q⟩ := hsp
      exact ⟨σ', H', J'.ofTry ok, q⟩
    | cont =>
      obtain ⟨σ', H', J', q⟩ := hsp
      exact ⟨σ', H', J'.ofTry ok, q⟩
    | ret u =>
      obtain ⟨v, σ', H', J', r, q⟩ := hsp
      exact ⟨v, σ', H', J'.ofTry ok, r, q⟩
end
end K21
end
section
set_option maxRecDepth 100000
set_option maxHeartbeats 4000000
/-! K21B: the text by places; rows in the heap; how a def stands for its callers. -/
namespace K21
open PySem PySem.Spec PyProof.Rows L2
/-! ### the text -/
def topS (i : Nat) : Stmt := PySem.Challenge.pw_stairyard_k21_whole_rules_that_lose_noth.main.body.getD i (.Pass ⟨0, 0, 0, 0⟩)
abbrev s_is_from : Stmt := topS 11
theorem sc_is_from : FnScope ["value", "low", "high"] ["value", "low", "high"] (defScope s_is_from) := ⟨rfl, rfl, rfl, by decide +kernel, rfl, by decide +kernel, by decide +kernel⟩
abbrev s_need_units : Stmt := topS 12
theorem sc_need_units : FnScope ["value", "ratio"] ["value"] (defScope s_need_units) := ⟨rfl, rfl, rfl, by decide +kernel, rfl, by decide +kernel, by decide +kernel⟩
abbrev s_is_row : Stmt := topS 16
theorem sc_is_row : FnScope ["units", "value", "number"] ["units", "value"] (defScope s_is_row) := ⟨rfl, rfl, rfl, by decide +kernel, rfl, by decide +kernel, by decide +kernel⟩
abbrev s_need_row : Stmt := topS 17
theorem sc_need_row : FnScope ["units", "value"] ["units", "value"] (defScope s_need_row) := ⟨rfl, rfl, rfl, by decide +kernel, rfl, by decide +kernel, by decide +kernel⟩
abbrev s_need_rows : Stmt := topS 18
theorem sc_need_rows : FnScope ["units", "value", "index", "row"] ["units", "value"] (defScope s_need_rows) := ⟨rfl, rfl, rfl, by decide +kernel, rfl, by decide +kernel, by decide +kernel⟩
abbrev s_zeros_of : Stmt := topS 19
theorem sc_zeros_of : FnScope ["units"] ["units"] (defScope s_zeros_of) := ⟨rfl, rfl, rfl, by decide +kernel, rfl, by decide +kernel, by decide +kernel⟩
abbrev s_added : Stmt := topS 20
theorem sc_added : FnScope ["one", "other", "near", "far"] ["one", "other"] (defScope s_added) := ⟨rfl, rfl, rfl, by decide +kernel, rfl, by decide +kernel, by decide +kernel⟩
abbrev s_less : Stmt := topS 21
theorem sc_less : FnScope ["one", "other", "near", "far"] ["one", "other"] (defScope s_less) := ⟨rfl, rfl, rfl, by decide +kernel, rfl, by decide +kernel, by decide +kernel⟩
abbrev s_stair_from : Stmt := topS 22
theorem sc_stair_from : FnScope ["units", "row", "found", "ratio", "number"] ["units", "row"] (defScope s_stair_from) := ⟨rfl, rfl, rfl, by decide +kernel, rfl, by decide +kernel, by decide +kernel⟩
abbrev s_row_from : Stmt := topS 23
theorem sc_row_from : FnScope ["units", "stair", "found", "index", "ratio"] ["units", "stair"] (defScope s_row_from) := ⟨rfl, rfl, rfl, by decide +kernel, rfl, by decide +kernel, by decide +kernel⟩
abbrev s_within : Stmt := topS 24
theorem sc_within : FnScope ["units", "order", "stock"] ["units", "order", "stock"] (defScope s_within) := ⟨rfl, rfl, rfl, by decide +kernel, rfl, by decide +kernel, by decide +kernel⟩
abbrev s_is_choice : Stmt := topS 27
theorem sc_is_choice : FnScope ["unit", "value", "met"] ["unit", "value", "met"] (defScope s_is_choice) := ⟨rfl, rfl, rfl, by decide +kernel, rfl, by decide +kernel, by decide +kernel⟩
abbrev s_need_rule : Stmt := topS 28
theorem sc_need_rule : FnScope ["units", "value", "unit", "choices", "met", "index", "choice"] ["units", "value"] (defScope s_need_rule) := ⟨rfl, rfl, rfl, by decide +kernel, rfl, by decide +kernel, by decide +kernel⟩
abbrev s_best_of : Stmt := topS 29
theorem sc_best_of : FnScope ["units", "found", "unit", "start"] ["units"] (defScope s_best_of) := ⟨rfl, rfl, rfl, by decide +kernel, rfl, by decide +kernel, by decide +kernel⟩
abbrev s_best_rule : Stmt := topS 30
theorem sc_best_rule : FnScope ["units"] ["units"] (defScope s_best_rule) := ⟨rfl, rfl, rfl, by decide +kernel, rfl, by decide +kernel, by decide +kernel⟩
abbrev s_piece_taken : Stmt := topS 31
theorem sc_piece_taken : FnScope ["units", "row", "start", "goal", "unit", "found", "number", "ratio", "index"] ["units", "row", "start", "goal", "unit"] (defScope s_piece_taken) := ⟨rfl, rfl, rfl, by decide +kernel, rfl, by decide +kernel, by decide +kernel⟩
abbrev s_one_taken : Stmt := topS 32
theorem sc_one_taken : FnScope ["units", "rule", "row", "unit", "start", "goal"] ["units", "rule", "row", "unit"] (defScope s_one_taken) := ⟨rfl, rfl, rfl, by decide +kernel, rfl, by decide +kernel, by decide +kernel⟩
abbrev s_taken_so : Stmt := topS 33
theorem sc_taken_so : FnScope ["units", "rule", "stock", "order", "row", "unit", "number", "step"] ["units", "rule", "stock", "order"] (defScope s_taken_so) := ⟨rfl, rfl, rfl, by decide +kernel, rfl, by decide +kernel, by decide +kernel⟩
abbrev s_ruled_so : Stmt := topS 34
theorem sc_ruled_so : FnScope ["units", "rule", "stock", "asks", "row", "number", "order", "left"] ["units", "rule", "stock", "asks"] (defScope s_ruled_so) := ⟨rfl, rfl, rfl, by decide +kernel, rfl, by decide +kernel, by decide +kernel⟩
abbrev s_ruled : Stmt := topS 35
theorem sc_ruled : FnScope ["units", "rule", "stock", "asks", "order"] ["units", "rule", "stock", "asks"] (defScope s_ruled) := ⟨rfl, rfl, rfl, by decide +kernel, rfl, by decide +kernel, by decide +kernel⟩
abbrev s_single : Stmt := topS 36
theorem sc_single : FnScope ["units", "unit", "row"] ["units", "unit"] (defScope s_single) := ⟨rfl, rfl, rfl, by decide +kernel, rfl, by decide +kernel, by decide +kernel⟩
abbrev s_flaw_at : Stmt := topS 37
theorem sc_flaw_at : FnScope ["units", "unit", "choices", "index", "near", "far", "start", "goal"] ["units", "unit", "choices"] (defScope s_flaw_at) := ⟨rfl, rfl, rfl, by decide +kernel, rfl, by decide +kernel, by decide +kernel⟩
abbrev s_rule_flaw : Stmt := topS 38
theorem sc_rule_flaw : FnScope ["units", "rule", "unit", "choices", "found"] ["units", "rule"] (defScope s_rule_flaw) := ⟨rfl, rfl, rfl, by decide +kernel, rfl, by decide +kernel, by decide +kernel⟩
abbrev s_is_rule_flaw : Stmt := topS 39
theorem sc_is_rule_flaw : FnScope ["units", "rule", "value", "row", "stock", "first", "second", "both"] ["units", "rule", "value"] (defScope s_is_rule_flaw) := ⟨rfl, rfl, rfl, by decide +kernel, rfl, by decide +kernel, by decide +kernel⟩
abbrev s_down_stair : Stmt := topS 41
theorem sc_down_stair : FnScope ["units", "numbers", "found", "index"] ["units", "numbers"] (defScope s_down_stair) := ⟨rfl, rfl, rfl, by decide +kernel, rfl, by decide +kernel, by decide +kernel⟩
abbrev s_rest_row : Stmt := topS 42
theorem sc_rest_row : FnScope ["units", "stock", "order", "found"] ["units", "stock", "order"] (defScope s_rest_row) := ⟨rfl, rfl, rfl, by decide +kernel, rfl, by decide +kernel, by decide +kernel⟩
abbrev s_served_in_turn : Stmt := topS 44
theorem sc_served_in_turn : FnScope ["units", "stock", "asks", "row", "number", "order", "left"] ["units", "stock", "asks"] (defScope s_served_in_turn) := ⟨rfl, rfl, rfl, by decide +kernel, rfl, by decide +kernel, by decide +kernel⟩
abbrev s__law_mixed : Stmt := topS 46
theorem sc__law_mixed : FnScope ["_law_cell", "_law_k"] ["_law_cell", "_law_k"] (defScope s__law_mixed) := ⟨rfl, rfl, rfl, by decide +kernel, rfl, by decide +kernel, by decide +kernel⟩
abbrev s__law_begin : Stmt := topS 47
theorem sc__law_begin : FnScope ["_law_script", "_law_cells_so", "_law_cell"] ["_law_script"] (defScope s__law_begin) := ⟨rfl, rfl, rfl, by decide +kernel, rfl, by decide +kernel, by decide +kernel⟩
abbrev s__law_draw : Stmt := topS 48
theorem sc__law_draw : FnScope ["_law_state", "_law_limit", "_law_at", "_law_place", "_law_left", "_law_number"] ["_law_state", "_law_limit"] (defScope s__law_draw) := ⟨rfl, rfl, rfl, by decide +kernel, rfl, by decide +kernel, by decide +kernel⟩
abbrev s__law_units : Stmt := topS 49
theorem sc__law_units : FnScope ["_law_state", "_law_step"] ["_law_state"] (defScope s__law_units) := ⟨rfl, rfl, rfl, by decide +kernel, rfl, by decide +kernel, by decide +kernel⟩
abbrev s__law_sizes : Stmt := topS 50
theorem sc__law_sizes : FnScope ["_law_units_so", "_law_found", "_law_ratio"] ["_law_units_so"] (defScope s__law_sizes) := ⟨rfl, rfl, rfl, by decide +kernel, rfl, by decide +kernel, by decide +kernel⟩
abbrev s__law_row : Stmt := topS 51
theorem sc__law_row : FnScope ["_law_state", "_law_units_so", "_law_most", "_law_found", "_law_left", "_law_size", "_law_number"] ["_law_state", "_law_units_so", "_law_most"] (defScope s__law_row) := ⟨rfl, rfl, rfl, by decide +kernel, rfl, by decide +kernel, by decide +kernel⟩
abbrev s__law_beside : Stmt := topS 52
theorem sc__law_beside : FnScope ["_law_one", "_law_other", "_law_near", "_law_far"] ["_law_one", "_law_other"] (defScope s__law_beside) := ⟨rfl, rfl, rfl, by decide +kernel, rfl, by decide +kernel, by decide +kernel⟩
abbrev s__law_without : Stmt := topS 53
theorem sc__law_without : FnScope ["_law_row_here", "_law_order", "_law_near", "_law_far"] ["_law_row_here", "_law_order"] (defScope s__law_without) := ⟨rfl, rfl, rfl, by decide +kernel, rfl, by decide +kernel, by decide +kernel⟩
abbrev s__law_cuts : Stmt := topS 54
theorem sc__law_cuts : FnScope ["_law_units_so", "_law_row_here", "_law_found", "_law_seen", "_law_at", "_law_here", "_law_place", "_law_near"] ["_law_units_so", "_law_row_here"] (defScope s__law_cuts) := ⟨rfl, rfl, rfl, by decide +kernel, rfl, by decide +kernel, by decide +kernel⟩
abbrev s__law_fits : Stmt := topS 55
theorem sc__law_fits : FnScope ["_law_units_so", "_law_order", "_law_stock", "_law_row_here"] ["_law_units_so", "_law_order", "_law_stock"] (defScope s__law_fits) := ⟨rfl, rfl, rfl, by decide +kernel, rfl, by decide +kernel, by decide +kernel⟩
abbrev s__law_lefts : Stmt := topS 56
theorem sc__law_lefts : FnScope ["_law_units_so", "_law_stock", "_law_order", "_law_found", "_law_row_here", "_law_left"] ["_law_units_so", "_law_stock", "_law_order"] (defScope s__law_lefts) := ⟨rfl, rfl, rfl, by decide +kernel, rfl, by decide +kernel, by decide +kernel⟩
abbrev s__law_like : Stmt := topS 57
theorem sc__law_like : FnScope ["_law_got", "_law_due"] ["_law_got", "_law_due"] (defScope s__law_like) := ⟨rfl, rfl, rfl, by decide +kernel, rfl, by decide +kernel, by decide +kernel⟩
abbrev s__law_best : Stmt := topS 58
theorem sc__law_best : FnScope ["_law_units_so", "_law_found", "_law_unit", "_law_start"] ["_law_units_so"] (defScope s__law_best) := ⟨rfl, rfl, rfl, by decide +kernel, rfl, by decide +kernel, by decide +kernel⟩
abbrev s__law_pairs : Stmt := topS 59
theorem sc__law_pairs : FnScope ["_law_state", "_law_unit", "_law_left", "_law_found", "_law_step", "_law_start", "_law_far"] ["_law_state", "_law_unit"] (defScope s__law_pairs) := ⟨rfl, rfl, rfl, by decide +kernel, rfl, by decide +kernel, by decide +kernel⟩
abbrev s__law_rule : Stmt := topS 60
theorem sc__law_rule : FnScope ["_law_state", "_law_units_so", "_law_best_here", "_law_pick", "_law_unit"] ["_law_state", "_law_units_so"] (defScope s__law_rule) := ⟨rfl, rfl, rfl, by decide +kernel, rfl, by decide +kernel, by decide +kernel⟩
abbrev s__law_taken : Stmt := topS 61
theorem sc__law_taken : FnScope ["_law_units_so", "_law_rule_so", "_law_row_here", "_law_unit", "_law_start", "_law_far", "_law_left", "_law_many", "_law_place"] ["_law_units_so", "_law_rule_so", "_law_row_here", "_law_unit"] (defScope s__law_taken) := ⟨rfl, rfl, rfl, by decide +kernel, rfl, by decide +kernel, by decide +kernel⟩
abbrev s__law_ruled : Stmt := topS 62
theorem sc__law_ruled : FnScope ["_law_units_so", "_law_rule_so", "_law_stock", "_law_asks_so", "_law_here", "_law_count_here", "_law_order", "_law_behind", "_law_unit", "_law_many", "_law_step"] ["_law_units_so", "_law_rule_so", "_law_stock", "_law_asks_so"] (defScope s__law_ruled) := ⟨rfl, rfl, rfl, by decide +kernel, rfl, by decide +kernel, by decide +kernel⟩
abbrev s__law_count : Stmt := topS 63
theorem sc__law_count : FnScope ["_law_units_so", "_law_stock", "_law_asks_so", "_law_rows", "_law_count_here", "_law_order", "_law_behind", "_law_row_here", "_law_left"] ["_law_units_so", "_law_stock", "_law_asks_so"] (defScope s__law_count) := ⟨rfl, rfl, rfl, by decide +kernel, rfl, by decide +kernel, by decide +kernel⟩
abbrev s__law_told_flaw : Stmt := topS 64
theorem sc__law_told_flaw : FnScope ["_law_units_so", "_law_rule_so", "_law_found"] ["_law_units_so", "_law_rule_so"] (defScope s__law_told_flaw) := ⟨rfl, rfl, rfl, by decide +kernel, rfl, by decide +kernel, by decide +kernel⟩
abbrev s__law_is_row : Stmt := topS 65
theorem sc__law_is_row : FnScope ["_law_units_so", "_law_value", "_law_number"] ["_law_units_so", "_law_value"] (defScope s__law_is_row) := ⟨rfl, rfl, rfl, by decide +kernel, rfl, by decide +kernel, by decide +kernel⟩
abbrev s__law_flaw_right : Stmt := topS 66
theorem sc__law_flaw_right : FnScope ["_law_units_so", "_law_rule_so", "_law_told", "_law_row_here", "_law_stock", "_law_first", "_law_second"] ["_law_units_so", "_law_rule_so"] (defScope s__law_flaw_right) := ⟨rfl, rfl, rfl, by decide +kernel, rfl, by decide +kernel, by decide +kernel⟩
abbrev s__law_best_right : Stmt := topS 67
theorem sc__law_best_right : FnScope ["_law_state", "_law_units_so", "_law_best_here", "_law_stock", "_law_asks_so", "_law_step", "_law_due"] ["_law_state", "_law_units_so", "_law_best_here"] (defScope s__law_best_right) := ⟨rfl, rfl, rfl, by decide +kernel, rfl, by decide +kernel, by decide +kernel⟩
abbrev s__law_refused_right : Stmt := topS 68
theorem sc__law_refused_right : FnScope ["_law_found", "_law_units_so", "_law_value", "error"] [] (defScope s__law_refused_right) := ⟨rfl, rfl, rfl, by decide +kernel, rfl, by decide +kernel, by decide +kernel⟩
abbrev s_law : Stmt := topS 69
theorem sc_law : FnScope ["_law_script", "_law_state", "_law_turn", "_law_units_so", "_law_best_here", "_law_rule_so"] ["_law_script"] (defScope s_law) := ⟨rfl, rfl, rfl, by decide +kernel, rfl, by decide +kernel, by decide +kernel⟩
def defs : List (Str × Stmt) := [(("is_from" : Str), s_is_from), (("need_units" : Str), s_need_units), (("is_row" : Str), s_is_row), (("need_row" : Str), s_need_row), (("need_rows" : Str), s_need_rows), (("zeros_of" : Str), s_zeros_of), (("added" : Str), s_added), (("less" : Str), s_less), (("stair_from" : Str), s_stair_from), (("row_from" : Str), s_row_from), (("within" : Str), s_within), (("is_choice" : Str), s_is_choice), (("need_rule" : Str), s_need_rule), (("best_of" : Str), s_best_of), (("best_rule" : Str), s_best_rule), (("piece_taken" : Str), s_piece_taken), (("one_taken" : Str), s_one_taken), (("taken_so" : Str), s_taken_so), (("ruled_so" : Str), s_ruled_so), (("ruled" : Str), s_ruled), (("single" : Str), s_single), (("flaw_at" : Str), s_flaw_at), (("rule_flaw" : Str), s_rule_flaw), (("is_rule_flaw" : Str), s_is_rule_flaw), (("down_stair" : Str), s_down_stair), (("rest_row" : Str), s_rest_row), (("served_in_turn" : Str), s_served_in_turn), (("_law_mixed" : Str), s__law_mixed), (("_law_begin" : Str), s__law_begin), (("_law_draw" : Str), s__law_draw), (("_law_units" : Str), s__law_units), (("_law_sizes" : Str), s__law_sizes), (("_law_row" : Str), s__law_row), (("_law_beside" : Str), s__law_beside), (("_law_without" : Str), s__law_without), (("_law_cuts" : Str), s__law_cuts), (("_law_fits" : Str), s__law_fits), (("_law_lefts" : Str), s__law_lefts), (("_law_like" : Str), s__law_like), (("_law_best" : Str), s__law_best), (("_law_pairs" : Str), s__law_pairs), (("_law_rule" : Str), s__law_rule), (("_law_taken" : Str), s__law_taken), (("_law_ruled" : Str), s__law_ruled), (("_law_count" : Str), s__law_count), (("_law_told_flaw" : Str), s__law_told_flaw), (("_law_is_row" : Str), s__law_is_row), (("_law_flaw_right" : Str), s__law_flaw_right), (("_law_best_right" : Str), s__law_best_right), (("_law_refused_right" : Str), s__law_refused_right), (("law" : Str), s_law)]

/-! ### what the top has left -/
def AllOf {α : Type} (P : α → Prop) : List α → Prop
  | [] => True
  | a :: r => P a ∧ AllOf P r
theorem AllOf.get {α : Type} {P : α → Prop} : ∀ {l : List α} {i : Nat} {a : α}, AllOf P l → l[i]? = some a → P a
  | [], _, _, _, h => by simp at h
  | b :: r, 0, a, h, e => by
    have e' : b = a := Option.some.inj e
    rw [← e']; exact h.1
  | b :: r, i + 1, a, h, e => AllOf.get (l := r) (i := i) h.2 e
/-- a def of the text stands under its name -/
def Has (K : PySem.W.Frag) (mg : Str → Option Value) (p : Str × Stmt) : Prop := ∃ f fd, Fun K p.1 p.1 p.2 f fd ∧ mg p.1 = some (.ref f)
structure Wr (K : PySem.W.Frag) (mg : Str → Option Value) : Prop where
  defs : AllOf (Has K mg) defs
  b_len : mg "len" = none
  b_isinstance : mg "isinstance" = none
  b_int : mg "int" = none
  b_bool : mg "bool" = none
  b_tuple : mg "tuple" = none
  b_list : mg "list" = none
  b_range : mg "range" = none
  b_enumerate : mg "enumerate" = none
  b_zip : mg "zip" = none
  b_reversed : mg "reversed" = none
  b_min : mg "min" = none
  b_sum : mg "sum" = none
  b_sorted : mg "sorted" = none
  b_repr : mg "repr" = none
  MOST_UNITS : ∃ t, mg "MOST_UNITS" = some (.int 3 t)
  MOST_RATIO : ∃ t, mg "MOST_RATIO" = some (.int 10 t)
  MOST_PIECES : ∃ t, mg "MOST_PIECES" = some (.int (10 ^ 60) t)
  MOST_ROWS : ∃ t, mg "MOST_ROWS" = some (.int 60 t)
  MOST_ASKED : ∃ t, mg "MOST_ASKED" = some (.int 1000 t)
/-- a module's constant int -/
theorem pe_gi {X : Cx} {x : Str} {n : Int} {pos : Pos} (hg : Gl X x) (hm : ∃ t, X.mg x = some (.int n t)) (hd : (x == ("__debug__" : Str)) = false := by decide) : PE X (.Name x pos) (tC (.int n)) := by
  obtain ⟨t, h⟩ := hm
  exact pe_glob hg h ⟨t, rfl⟩ hd

/-! ### a def for its callers -/
structure Df (P : Program) (w : World) (K : PySem.W.Frag) (mg : Str → Option Value) (base : Heap) (CX : CXT) (k : Nat) (x : Str) (sp : Sp) : Prop where
  ex : ∃ f fd ps, FnOk P w K mg base CX k f fd ps sp ∧ mg x = some (.ref f) ∧ PySem.W.keepIn K (.ref f) = true ∧ Binds K fd ps []
structure DfG (P : Program) (w : World) (K : PySem.W.Frag) (mg : Str → Option Value) (base : Heap) (CX : CXT) (k : Nat) (x : Str) (sp : Sp) : Prop where
  ex : ∃ f fd ps, FnG P w K mg base CX k f fd ps sp ∧ mg x = some (.ref f) ∧ PySem.W.keepIn K (.ref f) = true ∧ Binds K fd ps []
def tCal (sp : Sp) (E : XK) (t : TA) : TE := fun σ H Q => t σ H fun vs H1 => sp vs H1 Q E
section
variable {X : Cx} {CX : CXT} {j k : Nat} {x : Str} {sp : Sp} {e : Expr} {es : List Expr} {t : TA} {p pos : Pos}
theorem pe_dfE {E : XK} (D : Df X.prog X.w X.K X.mg X.base CX k x sp) (hr : Room j X.A) (hk : k ≤ j) (hg : Gl X x) (hx : Passes CX X E) (ha : PA X (e :: es) t) (hdb : (x == ("__debug__" : Str)) = false := by decide) (he : starEach (e :: es) X.env = (false, eval e X.env) :: starEach es X.env := by rfl)
    (hpl : (backTo pos (starEach es X.env)).any (·.1) = false := by rfl) : PE X (.Call (.Name x p) (e :: es) [] pos) (tCal sp E t) := by
  obtain ⟨f, fd, ps, F, hm, hkp, hb⟩ := D.ex
  have h : PE X (.Call (.Name x p) (e :: es) [] pos) (tCall sp [] E t) := pe_call F (hr.mono hk) hg hm hkp hb .nil hx ha hdb he hpl
  refine ⟨fun pins s σ H Q I q => h.run pins s σ H Q I ?_⟩
  have c : tCall sp [] E t = tCal sp E t := by
    unfold tCall tCal
    funext σ H Q
    congr 1
    funext vs H1
    rw [List.append_nil]
  rw [c]
  exact q
theorem pe_df (D : Df X.prog X.w X.K X.mg X.base CX k x sp) (hr : Room j X.A) (hk : k ≤ j) (hg : Gl X x) (hx : Passes CX X E0) (ha : PA X (e :: es) t) (hdb : (x == ("__debug__" : Str)) = false := by decide) (he : starEach (e :: es) X.env = (false, eval e X.env) :: starEach es X.env := by rfl)
    (hpl : (backTo pos (starEach es X.env)).any (·.1) = false := by rfl) : PE X (.Call (.Name x p) (e :: es) [] pos) (tCal sp E0 t) := pe_dfE D hr hk hg hx ha hdb he hpl
theorem pe_dfG (D : DfG X.prog X.w X.K X.mg X.base CX0 k x sp) (hgd : X.A.guards = some []) (hr : Room j X.A) (hk : k ≤ j) (hg : Gl X x) (ha : PA X (e :: es) t) (hdb : (x == ("__debug__" : Str)) = false := by decide) (he : starEach (e :: es) X.env = (false, eval e X.env) :: starEach es X.env := by rfl)
    (hpl : (backTo pos (starEach es X.env)).any (·.1) = false := by rfl) : PE X (.Call (.Name x p) (e :: es) [] pos) (tCal sp E0 t) := by
  obtain ⟨f, fd, ps, F, hm, hkp, hb⟩ := D.ex
  have h : PE X (.Call (.Name x p) (e :: es) [] pos) (tCall sp [] E0 t) := pe_callG F hgd (hr.mono hk) hg hm hkp hb .nil pass0 ha hdb he hpl
  refine ⟨fun pins s σ H Q I q => h.run pins s σ H Q I ?_⟩
  have c : tCall sp [] E0 t = tCal sp E0 t := by
    unfold tCall tCal
    funext σ H Q
    congr 1
    funext vs H1
    rw [List.append_nil]
  rw [c]
  exact q
theorem pe_dfG0 (D : DfG X.prog X.w X.K X.mg X.base CX0 k x sp) (hgd : X.A.guards = some []) (hr : Room j X.A) (hk : k ≤ j) (hg : Gl X x) (hdb : (x == ("__debug__" : Str)) = false := by decide) : PE X (.Call (.Name x p) [] [] pos) (tCal sp E0 tNil) := by
  obtain ⟨f, fd, ps, F, hm, hkp, hb⟩ := D.ex
  have h : PE X (.Call (.Name x p) [] [] pos) (tCall sp [] E0 tNil) := pe_callG0 F hgd (hr.mono hk) hg hm hkp hb .nil pass0 hdb
  exact h
end
/-- promises by the number of arguments -/
def sp1 (b : V → Hp → VK → XK → Prop) : Sp := fun vs H Q E => match vs with | [x] => b x H Q E | _ => False
def sp2 (b : V → V → Hp → VK → XK → Prop) : Sp := fun vs H Q E => match vs with | [x, y] => b x y H Q E | _ => False
def sp3 (b : V → V → V → Hp → VK → XK → Prop) : Sp := fun vs H Q E => match vs with | [x, y, z] => b x y z H Q E | _ => False
def sp4 (b : V → V → V → V → Hp → VK → XK → Prop) : Sp := fun vs H Q E => match vs with | [x, y, z, u] => b x y z u H Q E | _ => False
def sp5 (b : V → V → V → V → V → Hp → VK → XK → Prop) : Sp := fun vs H Q E => match vs with | [x, y, z, u, v] => b x y z u v H Q E | _ => False
section
variable {P : Program} {w : World} {K : PySem.W.Frag} {mg : Str → Option Value} {base : Heap} {x : Str} {st : Stmt} {N : List Str} {k : Nat}
abbrev BindL (x : Str) (st : Stmt) (ps : List Str) : Prop := ∀ (kV doc pm : Value) (an : Option Addr) (cdv ct : Value) (us : List Value), us.length = ps.length → bindArgs (PySem.W.fnOf x x (defArgs st) (defBody st) (defScope st) .none kV doc pm an cdv ct) ⟨us, []⟩ = pure (ps.zip us)
theorem df_of {ps : List Str} {sp : Sp} (h : Has K mg (x, st)) (S : FnScope N ps (defScope st)) (hb : BindL x st ps) (len : ∀ vs H Q E, sp vs H Q E → vs.length = ps.length)
    (body : ∀ (cdv : Value) (A : Around) (outer : List Env) (s : Shared) (H : Hp) (vs : List V) (Q : VK) (f : Addr) (E : XK), Room k (A.deeper (envOfC x (defScope st) s.heap.objs.size f cdv)) → sp vs H Q E →
      ∃ t, PSs (cxOf CX0 P w K mg base N x (defScope st) f cdv A outer s H E).nox (defBody st) t ∧ t { nx := fun _ H' => Q .non H', rt := Q } (start N vs) H) : Df P w K mg base CX0 (k + 1) x sp := by
  obtain ⟨f, fd, F, hm⟩ := h
  exact ⟨f, fd, ps, F.ok S len fun cdv A outer s H vs Q E hr hs => body cdv A outer s H vs Q f E hr hs, hm, F.kp, F.binds hb⟩
theorem dfX_of {ps : List Str} {sp : Sp} (h : Has K mg (x, st)) (S : FnScope N ps (defScope st)) (hb : BindL x st ps) (len : ∀ vs H Q E, sp vs H Q E → vs.length = ps.length)
    (body : ∀ (cdv : Value) (A : Around) (outer : List Env) (s : Shared) (H : Hp) (vs : List V) (Q : VK) (f : Addr) (E : XK), Room k (A.deeper (envOfC x (defScope st) s.heap.objs.size f cdv)) → sp vs H Q E →
      ∃ t, PSs (cxOf (L2.CX P w) P w K mg base N x (defScope st) f cdv A outer s H E) (defBody st) t ∧ t { nx := fun _ H' => Q .non H', rt := Q } (start N vs) H) : Df P w K mg base (L2.CX P w) (k + 1) x sp := by
  obtain ⟨f, fd, F, hm⟩ := h
  exact ⟨f, fd, ps, F.okX S len fun cdv A outer s H vs Q E hr hs => body cdv A outer s H vs Q f E hr hs, hm, F.kp, F.binds hb⟩
theorem dfG_of {ps : List Str} {sp : Sp} (h : Has K mg (x, st)) (S : FnScope N ps (defScope st)) (hb : BindL x st ps) (len : ∀ vs H Q E, sp vs H Q E → vs.length = ps.length)
    (body : ∀ (cdv : Value) (A : Around) (outer : List Env) (s : Shared) (H : Hp) (vs : List V) (Q : VK) (f : Addr) (E : XK), (A.deeper (envOfC x (defScope st) s.heap.objs.size f cdv)).guards = some [] → Room k (A.deeper (envOfC x (defScope st) s.heap.objs.size f cdv)) → sp vs H Q E →
      ∃ t, PSs (cxOf CX0 P w K mg base N x (defScope st) f cdv A outer s H E).nox (defBody st) t ∧ t { nx := fun _ H' => Q .non H', rt := Q } (start N vs) H) : DfG P w K mg base CX0 (k + 1) x sp := by
  obtain ⟨f, fd, F, hm⟩ := h
  exact ⟨f, fd, ps, okG F S len fun cdv A outer s H vs Q E hgd hr hs => body cdv A outer s H vs Q f E hgd hr hs, hm, F.kp, F.binds hb⟩
end
theorem len1 {b : V → Hp → VK → XK → Prop} {n : Nat} (hn : n = 1) : ∀ vs H Q E, sp1 b vs H Q E → vs.length = n := fun vs H Q E h => by
  subst hn
  match vs, h with
  | [_], _ => rfl
theorem inv1 {b : V → Hp → VK → XK → Prop} {vs : List V} {H : Hp} {Q : VK} {E : XK} (h : sp1 b vs H Q E) : ∃ xa, vs = [xa] ∧ b xa H Q E := by
  match vs, h with
  | [a], h => exact ⟨_, rfl, h⟩
theorem len2 {b : V → V → Hp → VK → XK → Prop} {n : Nat} (hn : n = 2) : ∀ vs H Q E, sp2 b vs H Q E → vs.length = n := fun vs H Q E h => by
  subst hn
  match vs, h with
  | [_, _], _ => rfl
theorem inv2 {b : V → V → Hp → VK → XK → Prop} {vs : List V} {H : Hp} {Q : VK} {E : XK} (h : sp2 b vs H Q E) : ∃ xa xb, vs = [xa, xb] ∧ b xa xb H Q E := by
  match vs, h with
  | [a, b], h => exact ⟨_, _, rfl, h⟩
theorem len3 {b : V → V → V → Hp → VK → XK → Prop} {n : Nat} (hn : n = 3) : ∀ vs H Q E, sp3 b vs H Q E → vs.length = n := fun vs H Q E h => by
  subst hn
  match vs, h with
  | [_, _, _], _ => rfl
theorem inv3 {b : V → V → V → Hp → VK → XK → Prop} {vs : List V} {H : Hp} {Q : VK} {E : XK} (h : sp3 b vs H Q E) : ∃ xa xb xc, vs = [xa, xb, xc] ∧ b xa xb xc H Q E := by
  match vs, h with
  | [a, b, c], h => exact ⟨_, _, _, rfl, h⟩
theorem len4 {b : V → V → V → V → Hp → VK → XK → Prop} {n : Nat} (hn : n = 4) : ∀ vs H Q E, sp4 b vs H Q E → vs.length = n := fun vs H Q E h => by
  subst hn
  match vs, h with
  | [_, _, _, _], _ => rfl
theorem inv4 {b : V → V → V → V → Hp → VK → XK → Prop} {vs : List V} {H : Hp} {Q : VK} {E : XK} (h : sp4 b vs H Q E) : ∃ xa xb xc xd, vs = [xa, xb, xc, xd] ∧ b xa xb xc xd H Q E := by
  match vs, h with
  | [a, b, c, d], h => exact ⟨_, _, _, _, rfl, h⟩
theorem len5 {b : V → V → V → V → V → Hp → VK → XK → Prop} {n : Nat} (hn : n = 5) : ∀ vs H Q E, sp5 b vs H Q E → vs.length = n := fun vs H Q E h => by
  subst hn
  match vs, h with
  | [_, _, _, _, _], _ => rfl
theorem inv5 {b : V → V → V → V → V → Hp → VK → XK → Prop} {vs : List V} {H : Hp} {Q : VK} {E : XK} (h : sp5 b vs H Q E) : ∃ xa xb xc xd xe, vs = [xa, xb, xc, xd, xe] ∧ b xa xb xc xd xe H Q E := by
  match vs, h with
  | [a, b, c, d, e], h => exact ⟨_, _, _, _, _, rfl, h⟩

/-! ### rows -/
/-- the first n values of f -/
def L (n : Nat) (f : Fn) : List Int := (List.range n).map f
def LV (n : Nat) (f : Fn) : List V := (L n f).map V.int
theorem L_len (n : Nat) (f : Fn) : (L n f).length = n := by unfold L; rw [List.length_map, List.length_range]
theorem LV_len (n : Nat) (f : Fn) : (LV n f).length = n := by unfold LV; rw [List.length_map, L_len]
theorem L_get {n i : Nat} {f : Fn} (h : i < n) : (L n f)[i]? = some (f i) := by
  unfold L
  rw [List.getElem?_map, List.getElem?_range h]; rfl
theorem LV_get {n i : Nat} {f : Fn} (h : i < n) : (LV n f)[i]? = some (.int (f i)) := by
  unfold LV
  rw [List.getElem?_map, L_get h]; rfl
theorem L_succ (n : Nat) (f : Fn) : L (n + 1) f = L n f ++ [f n] := by
  unfold L
  rw [List.range_succ, List.map_append]; rfl
theorem LV_succ (n : Nat) (f : Fn) : LV (n + 1) f = LV n f ++ [.int (f n)] := by
  unfold LV
  rw [L_succ, List.map_append]; rfl
theorem L_congr {n : Nat} {f g : Fn} (h : ∀ i, i < n → f i = g i) : L n f = L n g := by
  unfold L
  exact List.map_congr_left fun i hi => h i (List.mem_range.mp hi)
theorem LV_congr {n : Nat} {f g : Fn} (h : ∀ i, i < n → f i = g i) : LV n f = LV n g := by unfold LV; rw [L_congr h]
theorem L_inj {n : Nat} {f g : Fn} (h : L n f = L n g) : ∀ i, i < n → f i = g i := fun i hi => by
  have := L_get (f := f) hi
  rw [h, L_get hi] at this
  exact (Option.some.inj this).symm
/-- f, but v at i -/
def setF (f : Fn) (i : Nat) (v : Int) : Fn := fun j => if j = i then v else f j
theorem LV_set {n i : Nat} {f : Fn} {v : Int} : (LV n f).set i (.int v) = LV n (setF f i v) := by
  refine List.ext_getElem? fun j => ?_
  by_cases hj : j < n
  · rw [LV_get hj]
    by_cases e : i = j
    · subst e
      rw [List.getElem?_set_self (by rw [LV_len]; exact hj)]
      unfold setF; rw [if_pos rfl]
    · rw [List.getElem?_set_ne e, LV_get hj]
      unfold setF; rw [if_neg (fun z => e z.symm)]
  · rw [List.getElem?_eq_none (by rw [List.length_set, LV_len]; omega), List.getElem?_eq_none (by rw [LV_len]; omega)]
theorem LV_drop1 (n : Nat) (f : Fn) : (LV (n + 1) f).drop 1 = LV n (fun i => f (i + 1)) := by
  refine List.ext_getElem? fun j => ?_
  rw [List.getElem?_drop]
  by_cases hj : j < n
  · rw [LV_get hj, show 1 + j = j + 1 by omega, LV_get (by omega)]
  · rw [List.getElem?_eq_none (by rw [LV_len]; omega), List.getElem?_eq_none (by rw [LV_len]; omega)]
/-- a list of ints as a function -/
def fo (xs : List Int) : Fn := fun i => xs.getD i 0
theorem L_fo (xs : List Int) : L xs.length (fo xs) = xs := by
  refine List.ext_getElem? fun j => ?_
  by_cases hj : j < xs.length
  · rw [L_get hj]
    unfold fo
    rw [List.getD_eq_getElem?_getD, List.getElem?_eq_getElem hj]; rfl
  · rw [List.getElem?_eq_none (by rw [L_len]; omega), List.getElem?_eq_none (by omega)]
theorem fo_L {n i : Nat} {f : Fn} (h : i < n) : fo (L n f) i = f i := by
  unfold fo
  rw [List.getD_eq_getElem?_getD, L_get h]; rfl
theorem L_reverse (n : Nat) (f : Fn) : (L n f).reverse = L n (fun i => f (n - 1 - i)) := by
  refine List.ext_getElem? fun j => ?_
  by_cases hj : j < n
  · rw [L_get hj, List.getElem?_reverse (by rw [L_len]; exact hj), L_len, L_get (by omega)]
  · rw [List.getElem?_eq_none (by rw [List.length_reverse, L_len]; omega), List.getElem?_eq_none (by rw [L_len]; omega)]
theorem LV_reverse (n : Nat) (f : Fn) : (LV n f).reverse = LV n (fun i => f (n - 1 - i)) := by
  unfold LV
  rw [← List.map_reverse, L_reverse]
theorem atI_get {xs : List V} {j : Nat} {v : V} (h : xs[j]? = some v) : atI xs (j : Int) = some v := atI_nat h
theorem LV_at {n i : Nat} {f : Fn} (h : i < n) : atI (LV n f) (i : Int) = some (.int (f i)) := atI_nat (LV_get h)
theorem LV_last {n : Nat} {f : Fn} : atI (LV (n + 1) f) (-1) = some (.int (f n)) := by
  rw [LV_succ]
  exact atI_last _ _
theorem L_line {n : Nat} {f : Fn} (h : n ≤ 1000) : (LV n f).length ≤ sizeLine := by rw [LV_len]; exact Nat.le_of_lt (small1000 h)

/-- the row v: f's values 0 .. n - 1 -/
def RowF (H : Hp) (v : V) (n : Nat) (f : Fn) : Prop := ∃ a, v = .ref a ∧ H a = some (.tup (LV n f))
theorem RowF.congr {H : Hp} {v : V} {n : Nat} {f g : Fn} (r : RowF H v n f) (h : ∀ i, i < n → f i = g i) : RowF H v n g := by
  obtain ⟨a, e, h1⟩ := r
  exact ⟨a, e, by rw [← LV_congr h]; exact h1⟩
/-- the tuples stand -/
def Tx (H H' : Hp) : Prop := ∀ b xs, H b = some (.tup xs) → H' b = some (.tup xs)
theorem Tx.refl (H : Hp) : Tx H H := fun _ _ h => h
theorem Tx.trans {H H1 H2 : Hp} (a : Tx H H1) (b : Tx H1 H2) : Tx H H2 := fun c o h => b c o (a c o h)
theorem _root_.L2.Same.tx {H H' : Hp} (h : Same H H') : Tx H H' := fun b xs e => h b _ e
theorem Tx.new {H : Hp} {p : Addr} {o : HO} (h : H p = none) : Tx H (upd H p o) := fun b xs e => by rw [upd_ne (ne_of_none e h)]; exact e
theorem Tx.mut {H : Hp} {p : Addr} {o u : HO} (h : H p = some u) (hu : ∀ xs, u ≠ .tup xs) : Tx H (upd H p o) := fun b xs e => by
  rw [upd_ne (fun z => by rw [z, h] at e; exact hu xs (Option.some.inj e))]; exact e
theorem Tx.lst {H : Hp} {p : Addr} {o : HO} {xs : List V} (h : H p = some (.lst xs)) : Tx H (upd H p o) := Tx.mut h fun _ z => nomatch z
theorem RowF.tx {H H' : Hp} {v : V} {n : Nat} {f : Fn} (e : Tx H H') (r : RowF H v n f) : RowF H' v n f := let ⟨a, e1, h⟩ := r; ⟨a, e1, e _ _ h⟩
theorem same_new {H : Hp} {p : Addr} {o : HO} (h : H p = none) : Same H (upd H p o) := fun b x e => by
  rw [upd_ne (ne_of_none e h)]
  exact e
theorem _root_.L2.Same.mut {H H' : Hp} {p : Addr} {o : HO} (e : Same H H') (h : H p = none) : Same H (upd H' p o) := fun a u ha => by
  rw [upd_ne (ne_of_none ha h)]
  exact e a u ha
theorem _root_.L2.Same.keep {H H' : Hp} {p : Addr} {o : HO} (e : Same H H') (h : H p = some o) : H' p = some o := e p o h

/-! ### walks over tuples -/
section
variable {K : PySem.W.Frag} {a b : Addr} {xs ys : List V}
theorem walk_enumT : Walk (IteT K a) xs.length (fun H => SqT K H a xs) (YPair (fun i => some (.int (i : Nat))) (fun i => xs[i]?)) := by
  refine ⟨fun i _ hi q => ⟨xs, xs[i], q, by simp [hi]⟩, fun _ q => ⟨xs, q, Nat.le_refl _⟩, fun i H v H' _ q y => ?_⟩
  obtain ⟨T, x, h1, h2, h3, h4⟩ := y
  exact ⟨T, .int (i : Nat), x, h1, h2, h3, rfl, h4 xs q⟩
theorem walk_zipT {n : Nat} (hn : n = min xs.length ys.length) : Walk (RZ.ItzT K a b) n (fun H => SqT K H a xs ∧ SqT K H b ys) (YPair (fun i => xs[i]?) (fun i => ys[i]?)) := by
  subst hn
  refine ⟨fun i _ hi q => ?_, fun _ q => ⟨xs, ys, q.1, q.2, by omega⟩, fun i H v H' _ q y => ?_⟩
  · have h1 : i < xs.length := by omega
    have h2 : i < ys.length := by omega
    exact ⟨xs, ys, xs[i], ys[i], q.1, q.2, by simp [h1], by simp [h2]⟩
  · obtain ⟨T, x, z, h1, h2, h3, h4, h5⟩ := y
    exact ⟨T, x, z, h1, h2, h3, h4 xs q.1, h5 ys q.2⟩
end
end K21
end
section
set_option maxRecDepth 100000
set_option maxHeartbeats 4000000
/-! K21C: is_from, added, less, stair_from, row_from, within .. -/
namespace K21
open PySem PySem.Spec PyProof.Rows L2
theorem size2 : 2 ≤ sizeLine := by decide
theorem lt_line {n : Nat} (h : n ≤ 1000) : n < sizeLine := small1000 h
theorem cut1 (xs : List V) : cutV xs (some 1) none = xs.drop 1 := by
  unfold cutV
  rw [show HT.sIx xs.length 0 (some 1) = min 1 xs.length from HT.sIx_nat xs.length 0 1, HT.sIx_none]
  cases xs with
  | nil => rfl
  | cons x r =>
    rw [show min 1 (x :: r).length = 1 by
      rw [List.length_cons]
      omega]
    show (List.take ((x :: r).length - 1) r) = r
    rw [List.length_cons, Nat.add_sub_cancel]
    exact List.take_length
theorem inj_int {i j : Int} (h : some (V.int i) = some (V.int j)) : i = j := by cases h; rfl
/-- ratios -/
def UB (T : Nat) (u : Fn) : Prop := ∀ k, k < T → 2 ≤ u k ∧ u k ≤ 10
theorem UB.ok {T : Nat} {u : Fn} (h : UB T u) : UOk T u := fun k hk => (h k hk).1
theorem mul_u {T k : Nat} {u : Fn} (h : UB T u) (hk : k < T) {x : Int} : CMul (u k) x := by
  have := h k hk
  exact .inl ⟨by omega, by omega⟩
section
variable {P : Program} {w : World} {K : PySem.W.Frag} {mg : Str → Option Value} {base : Heap}
/-! ### is_from -/
def pIsFrom : Sp := sp3 fun a b c H Q _ => ∃ x lo hi : Int, a = .int x ∧ b = .int lo ∧ c = .int hi ∧ Q (.bl (decide (lo ≤ x) && decide (x ≤ hi))) H
theorem d_is_from (W : Wr K mg) : Df P w K mg base CX0 1 "is_from" pIsFrom := by
  refine df_of (W.defs.get (i := 0) rfl) sc_is_from (fun _ _ _ _ _ _ us hl => match us, hl with | [_, _, _], _ => rfl) (len3 rfl) fun cdv A outer s H vs Q f E hr h => ?_
  obtain ⟨a, b, c, rfl, x, lo, hi, rfl, rfl, rfl, q⟩ := inv3 h
  refine ⟨_, (pss_one (ps_ret (pe_and (pe_callB call_isi (by rfl) W.b_isinstance (by decide +kernel) (pa_cons (pv 0) (pa_cons (pe_bltn (v := .ty "int") (by rfl) W.b_int (by decide +kernel) rfl) pa_nil))) (pe_and (pe_not (pe_callB call_isi (by rfl) W.b_isinstance (by decide +kernel) (pa_cons (pv 0) (pa_cons (pe_bltn (v := .ty "bool") (by rfl) W.b_bool (by decide +kernel) rfl) pa_nil)))) (pe_one (pe_chain op_le op_le (pv 1) (pv 0) (pv 2))))))), ?_⟩
  refine ⟨.int x, rfl, .int x, .ty "int", .type "int", .type "int", true, rfl, .ty _, .base (.int _), kit_ty (by decide +kernel), true, rfl, iteT ⟨.int x, rfl, .int x, .ty "bool", .type "int", .type "bool", false, rfl, .ty _, .base (.int _), kit_ty (by decide +kernel), false, rfl, true, rfl, iteT ?_⟩⟩
  refine ⟨.int lo, rfl, .int x, rfl, lo, x, rfl, rfl, _, rfl, ite2 (fun h1 => ?_) (fun h1 => ?_)⟩
  · rw [h1] at q
    exact ⟨.int hi, rfl, x, hi, rfl, rfl, q⟩
  · rw [eq_false_of_ne_true h1] at q
    exact q

/-! ### added -/
def p_added : Sp := sp2 fun a b H Q _ => ∃ n f g, n ≤ 10 ∧ RowF H a n f ∧ RowF H b n g ∧ ∀ v H', Same H H' → RowF H' v n (fun i => f i + g i) → Q v H'
theorem d_added (W : Wr K mg) : Df P w K mg base CX0 1 "added" p_added := by
  refine df_of (W.defs.get (i := 6) rfl) sc_added (fun _ _ _ _ _ _ us hl => match us, hl with | [_, _], _ => rfl) (len2 rfl) fun cdv A outer s H vs Q fA E hr h => ?_
  obtain ⟨a, b, rfl, n, f, g, hn, ⟨a, rfl, ha⟩, ⟨b, rfl, hb⟩, q⟩ := inv2 h
  refine ⟨_, (pss_one (ps_ret (pe_callTy call_tuple_of (by rfl) W.b_tuple (by decide +kernel) (pa_cons (pe_lc (own := [("near", 2), ("far", 3)]) (g := gTup K 2 (gCons (gName 2) (gCons (gName 3) (gNil)))) rfl sc_added.nd (RZ.pi_zipA (by rfl) W.b_zip (pa_cons (pv 0) (pa_cons (pv 1) pa_nil))) (blkOk_by (own := [("near", 2), ("far", 3)]) (N := ["one", "other", "near", "far"]) (sc := defScope s_added) (by decide +kernel)) (fun _ _ _ _ _ => pg_tup rfl (pgs_cons (pg_name (i := 2) sc_added.nd rfl (Or.inl rfl)) (pgs_cons (pg_name (i := 3) sc_added.nd rfl (Or.inl rfl)) pgs_nil))) (fun _ _ _ _ _ => pts_nil) (fun _ _ _ _ _ => (pe_op op_add (pv 2) (pv 3)))) pa_nil)))), ?_⟩
  refine ⟨.ref a, rfl, .ref b, rfl, a, b, LV n f, LV n g, rfl, .inr ⟨.of ha, .of hb, fun D hD => ?_⟩⟩
  refine lc_it (walk_zipT (n := n) (by rw [LV_len, LV_len]; omega)) (fun i H' => Same H H' ∧ H' D = some (.lst (LV i (fun j => f j + g j)))) ⟨same_new hD, upd_same⟩ (fun i H' _ p => ⟨.of (p.1 _ _ ha), .of (p.1 _ _ hb)⟩) (fun i x H1 H2 hi p y => ?_) (fun H' p => ?_)
  · obtain ⟨T, x1, x2, rfl, nT, rfl, e1, e2⟩ := y
    obtain rfl : x1 = .int (f i) := Option.some.inj (e1.symm.trans (LV_get hi))
    obtain rfl : x2 = .int (g i) := Option.some.inj (e2.symm.trans (LV_get hi))
    have hDT : D ≠ T := ne_of_none p.2 nT
    refine ⟨T, _, rfl, .of upd_same, rfl, _, _, rfl, _, _, rfl, rfl, rfl, _, rfl, _, rfl, f i, g i, rfl, rfl, _, (upd_ne hDT).trans p.2, by rw [LV_len]; exact lt_line (by omega), ?_, ?_⟩
    · exact (p.1.trans (same_new nT)).mut hD
    · rw [upd_same, LV_succ]
  · exact ⟨D, _, rfl, .inl ⟨.of p.2, fun l hl => q (.ref l) _ (p.1.trans (same_new hl)) ⟨l, rfl, upd_same⟩⟩⟩

/-! ### less -/
def p_less : Sp := sp2 fun a b H Q _ => ∃ n f g, n ≤ 10 ∧ RowF H a n f ∧ RowF H b n g ∧ ∀ v H', Same H H' → RowF H' v n (fun i => f i - g i) → Q v H'
theorem d_less (W : Wr K mg) : Df P w K mg base CX0 1 "less" p_less := by
  refine df_of (W.defs.get (i := 7) rfl) sc_less (fun _ _ _ _ _ _ us hl => match us, hl with | [_, _], _ => rfl) (len2 rfl) fun cdv A outer s H vs Q fA E hr h => ?_
  obtain ⟨a, b, rfl, n, f, g, hn, ⟨a, rfl, ha⟩, ⟨b, rfl, hb⟩, q⟩ := inv2 h
  refine ⟨_, (pss_one (ps_ret (pe_callTy call_tuple_of (by rfl) W.b_tuple (by decide +kernel) (pa_cons (pe_lc (own := [("near", 2), ("far", 3)]) (g := gTup K 2 (gCons (gName 2) (gCons (gName 3) (gNil)))) rfl sc_less.nd (RZ.pi_zipA (by rfl) W.b_zip (pa_cons (pv 0) (pa_cons (pv 1) pa_nil))) (blkOk_by (own := [("near", 2), ("far", 3)]) (N := ["one", "other", "near", "far"]) (sc := defScope s_less) (by decide +kernel)) (fun _ _ _ _ _ => pg_tup rfl (pgs_cons (pg_name (i := 2) sc_less.nd rfl (Or.inl rfl)) (pgs_cons (pg_name (i := 3) sc_less.nd rfl (Or.inl rfl)) pgs_nil))) (fun _ _ _ _ _ => pts_nil) (fun _ _ _ _ _ => (pe_op op_sub (pv 2) (pv 3)))) pa_nil)))), ?_⟩
  refine ⟨.ref a, rfl, .ref b, rfl, a, b, LV n f, LV n g, rfl, .inr ⟨.of ha, .of hb, fun D hD => ?_⟩⟩
  refine lc_it (walk_zipT (n := n) (by rw [LV_len, LV_len]; omega)) (fun i H' => Same H H' ∧ H' D = some (.lst (LV i (fun j => f j - g j)))) ⟨same_new hD, upd_same⟩ (fun i H' _ p => ⟨.of (p.1 _ _ ha), .of (p.1 _ _ hb)⟩) (fun i x H1 H2 hi p y => ?_) (fun H' p => ?_)
  · obtain ⟨T, x1, x2, rfl, nT, rfl, e1, e2⟩ := y
    obtain rfl : x1 = .int (f i) := Option.some.inj (e1.symm.trans (LV_get hi))
    obtain rfl : x2 = .int (g i) := Option.some.inj (e2.symm.trans (LV_get hi))
    have hDT : D ≠ T := ne_of_none p.2 nT
    refine ⟨T, _, rfl, .of upd_same, rfl, _, _, rfl, _, _, rfl, rfl, rfl, _, rfl, _, rfl, f i, g i, rfl, rfl, _, (upd_ne hDT).trans p.2, by rw [LV_len]; exact lt_line (by omega), ?_, ?_⟩
    · exact (p.1.trans (same_new nT)).mut hD
    · rw [upd_same, LV_succ]
  · exact ⟨D, _, rfl, .inl ⟨.of p.2, fun l hl => q (.ref l) _ (p.1.trans (same_new hl)) ⟨l, rfl, upd_same⟩⟩⟩

/-! ### _law_beside -/
def p__law_beside : Sp := sp2 fun a b H Q _ => ∃ n f g, n ≤ 10 ∧ RowF H a n f ∧ RowF H b n g ∧ ∀ v H', Same H H' → RowF H' v n (fun i => f i + g i) → Q v H'
theorem d__law_beside (W : Wr K mg) : Df P w K mg base CX0 1 "_law_beside" p__law_beside := by
  refine df_of (W.defs.get (i := 33) rfl) sc__law_beside (fun _ _ _ _ _ _ us hl => match us, hl with | [_, _], _ => rfl) (len2 rfl) fun cdv A outer s H vs Q fA E hr h => ?_
  obtain ⟨a, b, rfl, n, f, g, hn, ⟨a, rfl, ha⟩, ⟨b, rfl, hb⟩, q⟩ := inv2 h
  refine ⟨_, (pss_one (ps_ret (pe_callTy call_tuple_of (by rfl) W.b_tuple (by decide +kernel) (pa_cons (pe_lc (own := [("_law_near", 2), ("_law_far", 3)]) (g := gTup K 2 (gCons (gName 2) (gCons (gName 3) (gNil)))) rfl sc__law_beside.nd (RZ.pi_zipA (by rfl) W.b_zip (pa_cons (pv 0) (pa_cons (pv 1) pa_nil))) (blkOk_by (own := [("_law_near", 2), ("_law_far", 3)]) (N := ["_law_one", "_law_other", "_law_near", "_law_far"]) (sc := defScope s__law_beside) (by decide +kernel)) (fun _ _ _ _ _ => pg_tup rfl (pgs_cons (pg_name (i := 2) sc__law_beside.nd rfl (Or.inl rfl)) (pgs_cons (pg_name (i := 3) sc__law_beside.nd rfl (Or.inl rfl)) pgs_nil))) (fun _ _ _ _ _ => pts_nil) (fun _ _ _ _ _ => (pe_op op_add (pv 2) (pv 3)))) pa_nil)))), ?_⟩
  refine ⟨.ref a, rfl, .ref b, rfl, a, b, LV n f, LV n g, rfl, .inr ⟨.of ha, .of hb, fun D hD => ?_⟩⟩
  refine lc_it (walk_zipT (n := n) (by rw [LV_len, LV_len]; omega)) (fun i H' => Same H H' ∧ H' D = some (.lst (LV i (fun j => f j + g j)))) ⟨same_new hD, upd_same⟩ (fun i H' _ p => ⟨.of (p.1 _ _ ha), .of (p.1 _ _ hb)⟩) (fun i x H1 H2 hi p y => ?_) (fun H' p => ?_)
  · obtain ⟨T, x1, x2, rfl, nT, rfl, e1, e2⟩ := y
    obtain rfl : x1 = .int (f i) := Option.some.inj (e1.symm.trans (LV_get hi))
    obtain rfl : x2 = .int (g i) := Option.some.inj (e2.symm.trans (LV_get hi))
    have hDT : D ≠ T := ne_of_none p.2 nT
    refine ⟨T, _, rfl, .of upd_same, rfl, _, _, rfl, _, _, rfl, rfl, rfl, _, rfl, _, rfl, f i, g i, rfl, rfl, _, (upd_ne hDT).trans p.2, by rw [LV_len]; exact lt_line (by omega), ?_, ?_⟩
    · exact (p.1.trans (same_new nT)).mut hD
    · rw [upd_same, LV_succ]
  · exact ⟨D, _, rfl, .inl ⟨.of p.2, fun l hl => q (.ref l) _ (p.1.trans (same_new hl)) ⟨l, rfl, upd_same⟩⟩⟩

/-! ### _law_without -/
def p__law_without : Sp := sp2 fun a b H Q _ => ∃ n f g, n ≤ 10 ∧ RowF H a n f ∧ RowF H b n g ∧ ∀ v H', Same H H' → RowF H' v n (fun i => f i - g i) → Q v H'
theorem d__law_without (W : Wr K mg) : Df P w K mg base CX0 1 "_law_without" p__law_without := by
  refine df_of (W.defs.get (i := 34) rfl) sc__law_without (fun _ _ _ _ _ _ us hl => match us, hl with | [_, _], _ => rfl) (len2 rfl) fun cdv A outer s H vs Q fA E hr h => ?_
  obtain ⟨a, b, rfl, n, f, g, hn, ⟨a, rfl, ha⟩, ⟨b, rfl, hb⟩, q⟩ := inv2 h
  refine ⟨_, (pss_one (ps_ret (pe_callTy call_tuple_of (by rfl) W.b_tuple (by decide +kernel) (pa_cons (pe_lc (own := [("_law_near", 2), ("_law_far", 3)]) (g := gTup K 2 (gCons (gName 2) (gCons (gName 3) (gNil)))) rfl sc__law_without.nd (RZ.pi_zipA (by rfl) W.b_zip (pa_cons (pv 0) (pa_cons (pv 1) pa_nil))) (blkOk_by (own := [("_law_near", 2), ("_law_far", 3)]) (N := ["_law_row_here", "_law_order", "_law_near", "_law_far"]) (sc := defScope s__law_without) (by decide +kernel)) (fun _ _ _ _ _ => pg_tup rfl (pgs_cons (pg_name (i := 2) sc__law_without.nd rfl (Or.inl rfl)) (pgs_cons (pg_name (i := 3) sc__law_without.nd rfl (Or.inl rfl)) pgs_nil))) (fun _ _ _ _ _ => pts_nil) (fun _ _ _ _ _ => (pe_op op_sub (pv 2) (pv 3)))) pa_nil)))), ?_⟩
  refine ⟨.ref a, rfl, .ref b, rfl, a, b, LV n f, LV n g, rfl, .inr ⟨.of ha, .of hb, fun D hD => ?_⟩⟩
  refine lc_it (walk_zipT (n := n) (by rw [LV_len, LV_len]; omega)) (fun i H' => Same H H' ∧ H' D = some (.lst (LV i (fun j => f j - g j)))) ⟨same_new hD, upd_same⟩ (fun i H' _ p => ⟨.of (p.1 _ _ ha), .of (p.1 _ _ hb)⟩) (fun i x H1 H2 hi p y => ?_) (fun H' p => ?_)
  · obtain ⟨T, x1, x2, rfl, nT, rfl, e1, e2⟩ := y
    obtain rfl : x1 = .int (f i) := Option.some.inj (e1.symm.trans (LV_get hi))
    obtain rfl : x2 = .int (g i) := Option.some.inj (e2.symm.trans (LV_get hi))
    have hDT : D ≠ T := ne_of_none p.2 nT
    refine ⟨T, _, rfl, .of upd_same, rfl, _, _, rfl, _, _, rfl, rfl, rfl, _, rfl, _, rfl, f i, g i, rfl, rfl, _, (upd_ne hDT).trans p.2, by rw [LV_len]; exact lt_line (by omega), ?_, ?_⟩
    · exact (p.1.trans (same_new nT)).mut hD
    · rw [upd_same, LV_succ]
  · exact ⟨D, _, rfl, .inl ⟨.of p.2, fun l hl => q (.ref l) _ (p.1.trans (same_new hl)) ⟨l, rfl, upd_same⟩⟩⟩

/-! ### stair_from -/
def p_stair_from : Sp := sp2 fun a b H Q _ => ∃ T u x, T ≤ 3 ∧ UB T u ∧ RowF H a T u ∧ RowF H b (T + 1) x ∧ ∀ v H', Same H H' → RowF H' v (T + 1) (S u x) → Q v H'
theorem d_stair_from (W : Wr K mg) : Df P w K mg base CX0 1 "stair_from" p_stair_from := by
  refine df_of (W.defs.get (i := 8) rfl) sc_stair_from (fun _ _ _ _ _ _ us hl => match us, hl with | [_, _], _ => rfl) (len2 rfl) fun cdv A outer s H vs Q fA E hr h => ?_
  obtain ⟨a, b, rfl, T, u, x, hT, hu, ⟨a, rfl, ha⟩, ⟨b, rfl, hb⟩, q⟩ := inv2 h
  refine ⟨_, (pss_cons (ps_set (i := 2) sc_stair_from.nd rfl (.inl rfl) (pe_lst (pa_cons (pe_ix ix_tup (pv 1) pe_int (fun _ _ => rfl)) pa_nil)))
      (pss_cons (ps_for PassesOwn.never rfl (RZ.pi_zipA (by rfl) W.b_zip (pa_cons (pv 0) (pa_cons (pe_slice sl_tupA (pv 1) (po_some pe_int) po_none) pa_nil))) (pg_tup rfl (pgs_cons (pg_name (i := 3) sc_stair_from.nd rfl (.inl rfl)) (pgs_cons (pg_name (i := 4) sc_stair_from.nd rfl (.inl rfl)) pgs_nil)))
        (pss_one (ps_expr (pe_bm PySem.F.plainAttrs_list PySem.F.slot_list_append PySem.F.type_list_append mt_append (pv 2) (pa_cons (pe_op op_add (pe_op op_mul (pv 3) (pe_ix ix_list (pv 2) (pe_un un_neg pe_int) (fun _ _ => rfl))) (pv 4)) pa_nil)))))
      (pss_one (ps_ret (pe_callTy call_tuple_of (by rfl) W.b_tuple (by decide +kernel) (pa_cons (pv 2) pa_nil)))))), ?_⟩
  -- found = [row[0]]
  refine ⟨.ref b, rfl, b, _, 0, _, rfl, rfl, .of hb, LV_at (i := 0) (Nat.succ_pos T), (by show 1 ≤ sizeLine; decide), fun D hD => ?_⟩
  -- zip(units, row[1:])
  have s1 : Same H (upd H D (.lst [.int (x 0)])) := same_new hD
  refine ⟨.ref a, rfl, .ref b, rfl, 1, rfl, b, LV (T + 1) x, rfl, .of (s1 _ _ hb), fun z => ?_, fun _ c nc => ?_⟩
  · have z1 := z.1
    rw [LV_len, show HT.sIx (T + 1) 0 (some 1) = min 1 (T + 1) from HT.sIx_nat (T + 1) 0 1] at z1
    omega
  have s2 := same_new (o := .tup (cutV (LV (T + 1) x) (some 1) none)) nc
  have nDc : D ≠ c := ne_of_none upd_same nc
  rw [cut1, LV_drop1] at s2 ⊢
  refine ⟨a, c, LV T u, LV T (fun i => x (i + 1)), rfl, .inr ⟨.of (s2 _ _ (s1 _ _ ha)), .of upd_same, ?_⟩⟩
  refine for_it (walk_zipT (n := T) (by rw [LV_len, LV_len]; omega)) (fun i σ H' => ∃ y3 y4, σ = [some (.ref a), some (.ref b), some (.ref D), y3, y4] ∧ Same H H' ∧ H' c = some (.tup (LV T (fun i => x (i + 1)))) ∧ H' D = some (.lst (LV (i + 1) (S u x))))
    ⟨none, none, rfl, s1.trans s2, upd_same, (upd_ne nDc).trans upd_same⟩ (fun i σ H' _ ⟨_, _, _, p1, p2, _⟩ => ⟨.of (p1 _ _ ha), .of p2⟩) (fun i v σ H1 H2 hi p y => ?_) (fun σ H' p => ?_)
  · obtain ⟨y3, y4, rfl, p1, p2, p3⟩ := p
    obtain ⟨T', x1, x2, rfl, nT, rfl, e1, e2⟩ := y
    obtain rfl : x1 = .int (u i) := Option.some.inj (e1.symm.trans (LV_get hi))
    obtain rfl : x2 = .int (x (i + 1)) := Option.some.inj (e2.symm.trans (LV_get hi))
    have hDT : D ≠ T' := ne_of_none p3 nT
    have eD : (upd H1 T' (.tup [.int (u i), .int (x (i + 1))])) D = some (.lst (LV (i + 1) (S u x))) := (upd_ne hDT).trans p3
    refine ⟨T', _, rfl, .of upd_same, rfl, _, _, rfl, _, _, rfl, rfl, ?_⟩
    refine ⟨.ref D, rfl, .inl ⟨rfl, _, .inl (.inl eD)⟩, _, rfl, .ref D, rfl, 1, rfl, D, _, -1, _, rfl, rfl, .of eD, LV_last, u i, S u x i, rfl, rfl, mul_u hu hi, _, rfl, _, _, rfl, rfl, D, _, _, rfl, rfl, eD, by rw [LV_len]; exact lt_line (by omega), ?_⟩
    refine ⟨_, _, rfl, (p1.trans (same_new nT)).mut hD, ?_, ?_⟩
    · rw [upd_ne (Ne.symm nDc)]
      exact (same_new nT) _ _ p2
    · rw [upd_same, LV_succ (i + 1)]
      rfl
  · obtain ⟨y3, y4, rfl, p1, p2, p3⟩ := p
    exact ⟨.ref D, rfl, D, _, rfl, .inl ⟨.of p3, fun l hl => q (.ref l) _ (p1.trans (same_new hl)) ⟨l, rfl, upd_same⟩⟩⟩

/-! ### row_from -/
def p_row_from : Sp := sp2 fun a b H Q _ => ∃ T u c, T ≤ 3 ∧ UB T u ∧ RowF H a T u ∧ RowF H b (T + 1) c ∧ ∀ v H', Same H H' → RowF H' v (T + 1) (rowF u c) → Q v H'
theorem d_row_from (W : Wr K mg) : Df P w K mg base CX0 1 "row_from" p_row_from := by
  refine df_of (W.defs.get (i := 9) rfl) sc_row_from (fun _ _ _ _ _ _ us hl => match us, hl with | [_, _], _ => rfl) (len2 rfl) fun cdv A outer s H vs Q fA E hr h => ?_
  obtain ⟨a, b, rfl, T, u, c, hT, hu, ⟨a, rfl, ha⟩, ⟨b, rfl, hb⟩, q⟩ := inv2 h
  refine ⟨_, (pss_cons (ps_set (i := 2) sc_row_from.nd rfl (.inl rfl) (pe_lst (pa_cons (pe_ix ix_tup (pv 1) pe_int (fun _ _ => rfl)) pa_nil)))
      (pss_cons (ps_for PassesOwn.never rfl (pi_enumT (by rfl) W.b_enumerate (pa_cons (pv 0) pa_nil)) (pg_tup rfl (pgs_cons (pg_name (i := 3) sc_row_from.nd rfl (.inl rfl)) (pgs_cons (pg_name (i := 4) sc_row_from.nd rfl (.inl rfl)) pgs_nil)))
        (pss_one (ps_expr (pe_bm PySem.F.plainAttrs_list PySem.F.slot_list_append PySem.F.type_list_append mt_append (pv 2) (pa_cons (pe_op op_sub (pe_ix ix_tup (pv 1) (pe_op op_add (pv 3) pe_int) (fun _ _ => rfl)) (pe_op op_mul (pv 4) (pe_ix ix_tup (pv 1) (pv 3) (fun _ _ => rfl)))) pa_nil)))))
      (pss_one (ps_ret (pe_callTy call_tuple_of (by rfl) W.b_tuple (by decide +kernel) (pa_cons (pv 2) pa_nil)))))), ?_⟩
  refine ⟨.ref b, rfl, b, _, 0, _, rfl, rfl, .of hb, LV_at (i := 0) (Nat.succ_pos T), (by show 1 ≤ sizeLine; decide), fun D hD => ?_⟩
  have s1 : Same H (upd H D (.lst [.int (c 0)])) := same_new hD
  refine ⟨.ref a, rfl, a, LV T u, rfl, .of (s1 _ _ ha), ?_⟩
  refine for_it (walk_enumT (xs := LV T u)) (fun i σ H' => ∃ y3 y4, σ = [some (.ref a), some (.ref b), some (.ref D), y3, y4] ∧ Same H H' ∧ H' D = some (.lst (LV (i + 1) (rowF u c))))
    ⟨none, none, rfl, s1, upd_same⟩ (fun i σ H' _ ⟨_, _, _, p1, _⟩ => .of (p1 _ _ ha)) (fun i v σ H1 H2 hi p y => ?_) (fun σ H' p => ?_)
  · rw [LV_len] at hi
    obtain ⟨y3, y4, rfl, p1, p3⟩ := p
    obtain ⟨T', x1, x2, rfl, nT, rfl, e1, e2⟩ := y
    obtain rfl : V.int (i : Nat) = x1 := Option.some.inj e1
    obtain rfl : x2 = .int (u i) := Option.some.inj (e2.symm.trans (LV_get hi))
    have hDT : D ≠ T' := ne_of_none p3 nT
    have eD : (upd H1 T' (.tup [.int (i : Nat), .int (u i)])) D = some (.lst (LV (i + 1) (rowF u c))) := (upd_ne hDT).trans p3
    have sT := same_new (o := .tup [.int (i : Nat), .int (u i)]) nT
    refine ⟨T', _, rfl, .of upd_same, rfl, _, _, rfl, _, _, rfl, rfl, ?_⟩
    refine ⟨.ref D, rfl, .inl ⟨rfl, _, .inl (.inl eD)⟩, .ref b, rfl, _, rfl, _, _, rfl, rfl, b, _, ((i : Nat) : Int) + 1, _, rfl, rfl, .of (sT _ _ (p1 _ _ hb)), LV_at (i := i + 1) (by omega), ?_⟩
    refine ⟨_, rfl, .ref b, rfl, _, rfl, b, _, ((i : Nat) : Int), _, rfl, rfl, .of (sT _ _ (p1 _ _ hb)), LV_at (i := i) (by omega), u i, c i, rfl, rfl, mul_u hu hi, c (i + 1), u i * c i, rfl, rfl, D, _, _, rfl, rfl, eD, by rw [LV_len]; exact lt_line (by omega), ?_⟩
    refine ⟨_, _, rfl, (p1.trans sT).mut hD, ?_⟩
    rw [upd_same, LV_succ (i + 1)]
    rfl
  · obtain ⟨y3, y4, rfl, p1, p3⟩ := p
    rw [LV_len] at p3
    exact ⟨.ref D, rfl, D, _, rfl, .inl ⟨.of p3, fun l hl => q (.ref l) _ (p1.trans (same_new hl)) ⟨l, rfl, upd_same⟩⟩⟩
end
end K21
end
section
set_option maxRecDepth 100000
set_option maxHeartbeats 4000000
/-! K21X: the errors' __init__, need_units. -/
namespace K21
open PySem PySem.Spec PyProof.Rows L2
abbrev s_iU : Stmt := inClass (topS 2) 0
abbrev s_iR : Stmt := inClass (topS 5) 0
abbrev s_iN : Stmt := inClass (topS 6) 0
theorem sc_iU : FnScope ["self", "value"] ["self", "value"] (defScope s_iU) := ⟨rfl, rfl, rfl, by decide +kernel, rfl, by decide +kernel, by decide +kernel⟩
theorem sc_iR : FnScope ["self", "place"] ["self", "place"] (defScope s_iR) := ⟨rfl, rfl, rfl, by decide +kernel, rfl, by decide +kernel, by decide +kernel⟩
theorem sc_iN : FnScope ["self"] ["self"] (defScope s_iN) := ⟨rfl, rfl, rfl, by decide +kernel, rfl, by decide +kernel, by decide +kernel⟩
/-- the base of the errors -/
structure Yd (K : PySem.W.Frag) (mg : Str → Option Value) (Y : Addr) : Prop where
  gY : mg "YardError" = some (.ref Y)
  ga : PySem.W.specialIn K (.ref Y) "__getattribute__" = some (some (.builtin "type.__getattribute__"))
  rd : PySem.W.readsIn K Y (.type "type") = true
  vV : PySem.W.findCls K (.ref Y) (.type "type") "__init__" = some (.val (.builtin "ValueError.__init__"))
/-- an error's class -/
structure Er (K : PySem.W.Frag) (mg : Str → Option Value) (x qual : Str) (st : Stmt) (C : Addr) : Prop where
  gC : mg x = some (.ref C)
  ox : OexC K C
  init : ∃ fI fd, Fun K "__init__" qual st fI fd ∧ PySem.W.findIn K (.ref C) "__init__" = some (some (.ref fI)) ∧ PySem.W.typeIn K (.ref fI) = some (.type "function")
abbrev ErU (K : PySem.W.Frag) (mg : Str → Option Value) (C : Addr) : Prop := Er K mg "BadUnits" "BadUnits.__init__" s_iU C ∧ PySem.W.findIn K (.ref C) "value" = some none
abbrev ErR (K : PySem.W.Frag) (mg : Str → Option Value) (C : Addr) : Prop := Er K mg "BadRule" "BadRule.__init__" s_iR C ∧ PySem.W.findIn K (.ref C) "place" = some none
abbrev ErN (K : PySem.W.Frag) (mg : Str → Option Value) (C : Addr) : Prop := Er K mg "NoRow" "NoRow.__init__" s_iN C
def pInit (C : Addr) (fld : Str) : Sp := sp2 fun self v H Q _ => ∃ a, self = .ref a ∧ H a = some (exo a C none) ∧ ∀ dx, H dx = none → dx ≠ a → Q .non (upd (upd H dx (exd dx [(fld, v)])) a (exo a C (some dx)))
def pInit0 (C : Addr) : Sp := sp1 fun self H Q _ => ∃ a, self = .ref a ∧ H a = some (exo a C none) ∧ Q .non H
section
variable {P : Program} {w : World} {K : PySem.W.Frag} {mg : Str → Option Value} {base : Heap} {Y C : Addr}
theorem okU (y : Yd K mg Y) (c : ErU K mg C) : ∃ fI fd, FnOk P w K mg base CX0 1 fI fd ["self", "value"] (pInit C "value") ∧ Binds K fd ["self", "value"] [] ∧ PySem.W.findIn K (.ref C) "__init__" = some (some (.ref fI)) ∧ PySem.W.typeIn K (.ref fI) = some (.type "function") := by
  obtain ⟨fI, fd, F, h1, h2⟩ := c.1.init
  refine ⟨fI, fd, F.ok sc_iU (len2 rfl) fun cdv A outer s H vs Q E hr h => ?_, F.binds fun _ _ _ _ _ _ us hl => match us, hl with | [_, _], _ => rfl, h1, h2⟩
  obtain ⟨a, v, rfl, a, rfl, ha, q⟩ := inv2 h
  refine ⟨_, pss_cons (ps_expr (pe_yinit (by rfl) y.gY y.ga y.rd y.vV (pa_cons (pv 0) (pa_cons pe_str pa_nil)))) (pss_one (ps_ost (pv 0) (pv 1))), ?_⟩
  refine ⟨.ref a, rfl, a, C, _, rfl, (by show 1 ≤ 1000; decide), c.1.ox, ha, ?_⟩
  exact ⟨v, rfl, .ref a, rfl, a, C, rfl, c.1.ox, c.2, .inl ⟨ha, fun dx h1 h2 => q dx h1 h2⟩⟩
theorem okR (y : Yd K mg Y) (c : ErR K mg C) : ∃ fI fd, FnOk P w K mg base CX0 1 fI fd ["self", "place"] (pInit C "place") ∧ Binds K fd ["self", "place"] [] ∧ PySem.W.findIn K (.ref C) "__init__" = some (some (.ref fI)) ∧ PySem.W.typeIn K (.ref fI) = some (.type "function") := by
  obtain ⟨fI, fd, F, h1, h2⟩ := c.1.init
  refine ⟨fI, fd, F.ok sc_iR (len2 rfl) fun cdv A outer s H vs Q E hr h => ?_, F.binds fun _ _ _ _ _ _ us hl => match us, hl with | [_, _], _ => rfl, h1, h2⟩
  obtain ⟨a, v, rfl, a, rfl, ha, q⟩ := inv2 h
  refine ⟨_, pss_cons (ps_expr (pe_yinit (by rfl) y.gY y.ga y.rd y.vV (pa_cons (pv 0) (pa_cons pe_str pa_nil)))) (pss_one (ps_ost (pv 0) (pv 1))), ?_⟩
  refine ⟨.ref a, rfl, a, C, _, rfl, (by show 1 ≤ 1000; decide), c.1.ox, ha, ?_⟩
  exact ⟨v, rfl, .ref a, rfl, a, C, rfl, c.1.ox, c.2, .inl ⟨ha, fun dx h1 h2 => q dx h1 h2⟩⟩
theorem okN (y : Yd K mg Y) (c : ErN K mg C) : ∃ fI fd, FnOk P w K mg base CX0 1 fI fd ["self"] (pInit0 C) ∧ Binds K fd ["self"] [] ∧ PySem.W.findIn K (.ref C) "__init__" = some (some (.ref fI)) ∧ PySem.W.typeIn K (.ref fI) = some (.type "function") := by
  obtain ⟨fI, fd, F, h1, h2⟩ := c.init
  refine ⟨fI, fd, F.ok sc_iN (len1 rfl) fun cdv A outer s H vs Q E hr h => ?_, F.binds fun _ _ _ _ _ _ us hl => match us, hl with | [_], _ => rfl, h1, h2⟩
  obtain ⟨a, rfl, a, rfl, ha, q⟩ := inv1 h
  refine ⟨_, pss_one (ps_expr (pe_yinit (by rfl) y.gY y.ga y.rd y.vV (pa_cons (pv 0) (pa_cons pe_str pa_nil)))), ?_⟩
  exact ⟨.ref a, rfl, a, C, _, rfl, (by show 1 ≤ 1000; decide), c.ox, ha, q⟩
/-- an error's end: a new dict with the field, all else as it was -/
def Exn (C : Addr) (fld : Str) (v : V) (H : Hp) (E : XK) : Prop := ∀ (d : Addr) (H' : Hp), Same H H' → H d = none → H' d = some (.xd [(fld, v)]) → E (.ref C) (some d) H'
theorem same_exn {H : Hp} {a dx : Addr} {o1 o2 : HO} {fs : List (Str × V)} (ha : H a = none) (hd : (upd H a o1) dx = none) (ne : dx ≠ a) : Same H (upd (del (upd (upd (upd H a o1) dx o2) a o1) a) dx (.xd fs)) := fun b o e => by
  have h1 : b ≠ a := ne_of_none e ha
  have h2 : H dx = none := by rw [upd_ne ne] at hd; exact hd
  have h3 : b ≠ dx := ne_of_none e h2
  rw [upd_ne h3, del_ne h1, upd_ne h1, upd_ne h3, upd_ne h1]
  exact e
theorem mkO_read {C : Addr} {fld : Str} {v : V} {H : Hp} {E : XK} (q : Exn C fld v H E) : ∀ a, H a = none → pInit C fld [.ref a, v] (upd H a (exo a C none))
    (fun x H2 => x = .non ∧ ∃ (d : Addr) (fs : List (Str × V)), H2 a = some (exo a C (some d)) ∧ H2 d = some (exd d fs) ∧ H d = none ∧ E (.ref C) (some d) (upd (del H2 a) d (.xd fs))) (fun _ _ _ => False) := fun a ha => by
  refine ⟨a, rfl, upd_same, fun dx h1 h2 => ⟨rfl, dx, [(fld, v)], upd_same, (upd_ne h2).trans upd_same, by rw [upd_ne h2] at h1; exact h1, ?_⟩⟩
  refine q dx _ (fun b o e => ?_) (by rw [upd_ne h2] at h1; exact h1) upd_same
  have n1 : b ≠ a := ne_of_none e ha
  have n2 : b ≠ dx := ne_of_none e (by rw [upd_ne h2] at h1; exact h1)
  rw [upd_ne n2, del_ne n1, upd_ne n1, upd_ne n2, upd_ne n1]
  exact e
/-! ### need_units -/
def p_need_units (CU : Addr) : Sp := sp1 fun a H Q E => ∃ T u, T ≤ 3 ∧ RowF H a T u ∧ ((UB T u ∧ Q a H) ∨ (T = 1 ∧ u 0 = 1 ∧ Exn CU "value" a H E))
theorem d_need_units (W : Wr K mg) {Y CU : Addr} (y : Yd K mg Y) (C_U : ErU K mg CU) : Df P w K mg base (L2.CX P w) 3 "need_units" (p_need_units CU) := by
  have D_is_from : Df P w K mg base CX0 1 "is_from" pIsFrom := d_is_from W
  obtain ⟨fI, fdI, ok_U, bI_U, iC_U, tI_U⟩ := okU (P := P) (w := w) (base := base) y C_U
  refine dfX_of (W.defs.get (i := 1) rfl) sc_need_units (fun _ _ _ _ _ _ us hl => match us, hl with | [_], _ => rfl) (len1 rfl) fun cdv A outer s H vs Q fA E hr h => ?_
  obtain ⟨a, rfl, T, u, hT, ⟨a, rfl, ha⟩, q⟩ := inv1 h
  refine ⟨_, (pss_cons (ps_if (PW.pt (pw_or (pt_not (pt_val (pe_callB call_isi (by rfl) W.b_isinstance (by decide +kernel) (pa_cons (pv 0) (pa_cons (pe_bltn (v := .ty "tuple") (by rfl) W.b_tuple (by decide +kernel) rfl) pa_nil))))) (pw_or1 (pt_cmpR op_gt (pe_callB call_len_seq (by rfl) W.b_len (by decide +kernel) (pa_cons (pv 0) pa_nil)) (pe_gi rfl W.MOST_UNITS) (nomark _))))) (pss_one (ps_raise rfl (takes_of rfl rfl rfl rfl) (pmk_oex C_U.1.ox iC_U tI_U ok_U (hr.mono (by decide)) bI_U .nil pass0 (by rfl) C_U.1.gC (pa_cons (pv 0) pa_nil)))) pss_nil)
      (pss_cons (ps_for (passes_of rfl) rfl (pi_tup (pv 0)) (pg_name (i := 1) sc_need_units.nd rfl (.inl rfl))
        (pss_one (ps_if (pt_not (pt_val (pe_df D_is_from hr (by decide) (by rfl) pass0 (pa_cons (pv 1) (pa_cons pe_int (pa_cons (pe_gi rfl W.MOST_RATIO) pa_nil)))))) (pss_one (ps_raise rfl (takes_of rfl rfl rfl rfl) (pmk_oex C_U.1.ox iC_U tI_U ok_U (hr.mono (by decide)) bI_U .nil pass0 (by rfl) C_U.1.gC (pa_cons (pv 0) pa_nil)))) pss_nil)))
      (pss_one (ps_ret (pv 0))))), ?_⟩
  refine ⟨.ref a, rfl, .ref a, .ty "tuple", .type "tuple", .type "tuple", true, rfl, .ty _, .base (.tup ha), kit_ty (by decide +kernel), true, rfl, ?_⟩
  refine ⟨.ref a, rfl, a, _, rfl, .inr (.of ha), _, _, rfl, rfl, _, rfl, ite2 (fun e => ?_) (fun e => ?_)⟩
  · have e1 := of_decide_eq_true e
    rw [LV_len] at e1
    omega
  refine ⟨.ref a, rfl, a, rfl, ⟨_, .of ha⟩, ?_⟩
  rcases q with ⟨hu, q⟩ | ⟨rfl, hu, q⟩
  · refine for_it (walk_tup (xs := LV T u)) (fun i σ H' => ∃ y, σ = [some (.ref a), y] ∧ H' = H) ⟨none, rfl, rfl⟩ (fun i σ H' _ ⟨_, _, e⟩ => by rw [e]; exact .of ha) (fun i v σ H1 H2 hi p y => ?_) (fun σ H' p => ?_)
    · rw [LV_len] at hi
      obtain ⟨y1, rfl, rfl⟩ := p
      obtain ⟨rfl, e1⟩ := y
      obtain rfl : v = .int (u i) := Option.some.inj (e1.symm.trans (LV_get hi))
      obtain ⟨h1, h2⟩ := hu i hi
      refine ⟨.int (u i), rfl, u i, 2, 10, rfl, rfl, rfl, _, rfl, ?_⟩
      rw [decide_eq_true h1, decide_eq_true h2]
      exact ⟨_, rfl, rfl⟩
    · obtain ⟨y1, rfl, rfl⟩ := p
      exact ⟨.ref a, rfl, q⟩
  · refine for_it (walk_tup (xs := LV 1 u)) (fun i σ H' => i = 0 ∧ ∃ y, σ = [some (.ref a), y] ∧ H' = H) ⟨rfl, none, rfl, rfl⟩ (fun i σ H' _ ⟨_, _, _, e⟩ => by rw [e]; exact .of ha) (fun i v σ H1 H2 hi p y => ?_) (fun σ H' p => ?_)
    · obtain ⟨rfl, y1, rfl, rfl⟩ := p
      obtain ⟨rfl, e1⟩ := y
      obtain rfl : v = .int (u 0) := Option.some.inj (e1.symm.trans (LV_get (by decide)))
      refine ⟨.int (u 0), rfl, u 0, 2, 10, rfl, rfl, rfl, _, rfl, ?_⟩
      rw [hu]
      exact ⟨.ref a, rfl, (by show 1 ≤ 1000; decide), mkO_read q⟩
    · have := p.1
      rw [LV_len] at this
      omega
end
end K21
end
section
set_option maxRecDepth 100000
set_option maxHeartbeats 4000000
/-! K21D: checks of rows, stairs within, rests, asks in turn. -/
namespace K21
open PySem PySem.Spec PyProof.Rows L2
/-- a row's numbers may stand -/
def RB (n : Nat) (x : Fn) : Prop := ∀ i, i < n → 0 ≤ x i ∧ x i ≤ 10 ^ 60
/-- a tuple of rows -/
def RowsF (H : Hp) (v : V) (n : Nat) (fs : List Fn) : Prop := ∃ a vs, v = .ref a ∧ H a = some (.tup vs) ∧ vs.length = fs.length ∧ ∀ (i : Nat) (f : Fn), fs[i]? = some f → ∃ w, vs[i]? = some w ∧ RowF H w n f
theorem RowsF.tx {H H' : Hp} {v : V} {n : Nat} {fs : List Fn} (e : Tx H H') (r : RowsF H v n fs) : RowsF H' v n fs := by
  obtain ⟨a, vs, e1, h1, h2, h3⟩ := r
  exact ⟨a, vs, e1, e _ _ h1, h2, fun i f hf => let ⟨w, q1, q2⟩ := h3 i f hf; ⟨w, q1, q2.tx e⟩⟩
theorem min_neg {n : Nat} {d : Fn} {m : Int} (h1 : m ∈ L n d) (h2 : ∀ y, y ∈ L n d → m ≤ y) : m < 0 ↔ ¬ ∀ i, i < n → 0 ≤ d i := by
  constructor
  · intro h z
    obtain ⟨i, hi, e⟩ := List.mem_map.mp h1
    have := z i (List.mem_range.mp hi)
    omega
  · intro h
    refine Int.not_le.mp fun z => h fun i hi => ?_
    have : d i ∈ L n d := List.mem_map.mpr ⟨i, List.mem_range.mpr hi, rfl⟩
    have := h2 _ this
    omega
section
variable {P : Program} {w : World} {K : PySem.W.Frag} {mg : Str → Option Value} {base : Heap} {Y CU : Addr}
/-! ### is_row, need_row, need_rows -/
def p_is_row : Sp := sp2 fun a b H Q _ => ∃ T u x, T ≤ 3 ∧ RowF H a T u ∧ RowF H b (T + 1) x ∧ RB (T + 1) x ∧ Q (.bl true) H
theorem d_is_row (W : Wr K mg) : Df P w K mg base CX0 2 "is_row" p_is_row := by
  have D_is_from : Df P w K mg base CX0 1 "is_from" pIsFrom := d_is_from W
  refine df_of (W.defs.get (i := 2) rfl) sc_is_row (fun _ _ _ _ _ _ us hl => match us, hl with | [_, _], _ => rfl) (len2 rfl) fun cdv A outer s H vs Q fA E hr h => ?_
  obtain ⟨a, b, rfl, T, u, x, hT, ⟨a, rfl, ha⟩, ⟨b, rfl, hb⟩, hx, q⟩ := inv2 h
  refine ⟨_, (pss_cons (ps_if (PW.pt (pw_or (pt_not (pt_val (pe_callB call_isi (by rfl) W.b_isinstance (by decide +kernel) (pa_cons (pv 1) (pa_cons (pe_bltn (v := .ty "tuple") (by rfl) W.b_tuple (by decide +kernel) rfl) pa_nil))))) (pw_or1 (pt_cmpR op_ne (pe_callB call_len_seq (by rfl) W.b_len (by decide +kernel) (pa_cons (pv 1) pa_nil)) (pe_op op_add (pe_callB call_len_seq (by rfl) W.b_len (by decide +kernel) (pa_cons (pv 0) pa_nil)) pe_int) (nomark _))))) (pss_one (ps_ret pe_bl)) pss_nil)
      (pss_cons (ps_for PassesOwn.never rfl (pi_tup (pv 1)) (pg_name (i := 2) sc_is_row.nd rfl (.inl rfl))
        (pss_one (ps_if (pt_not (pt_val (pe_df D_is_from hr (by decide) (by rfl) pass0 (pa_cons (pv 2) (pa_cons pe_int (pa_cons (pe_gi rfl W.MOST_PIECES) pa_nil)))))) (pss_one (ps_ret pe_bl)) pss_nil)))
      (pss_one (ps_ret pe_bl)))), ?_⟩
  refine ⟨.ref b, rfl, .ref b, .ty "tuple", .type "tuple", .type "tuple", true, rfl, .ty _, .base (.tup hb), kit_ty (by decide +kernel), true, rfl, ?_⟩
  refine ⟨.ref b, rfl, b, _, rfl, .inr (.of hb), .ref a, rfl, a, _, rfl, .inr (.of ha), _, _, rfl, rfl, rfl, _, rfl, ?_⟩
  rw [LV_len, LV_len, decide_eq_true (show V.int ((T + 1 : Nat) : Int) = V.int ((T : Nat) + 1) from rfl)]
  refine ⟨.ref b, rfl, b, rfl, ⟨_, .of hb⟩, ?_⟩
  refine for_it (walk_tup (xs := LV (T + 1) x)) (fun i σ H' => ∃ y, σ = [some (.ref a), some (.ref b), y] ∧ H' = H) ⟨none, rfl, rfl⟩ (fun i σ H' _ ⟨_, _, e⟩ => by rw [e]; exact .of hb) (fun i v σ H1 H2 hi p y => ?_) (fun σ H' p => ?_)
  · rw [LV_len] at hi
    obtain ⟨y1, rfl, rfl⟩ := p
    obtain ⟨rfl, e1⟩ := y
    obtain rfl : v = .int (x i) := Option.some.inj (e1.symm.trans (LV_get hi))
    obtain ⟨h1, h2⟩ := hx i hi
    refine ⟨.int (x i), rfl, x i, 0, 10 ^ 60, rfl, rfl, rfl, _, rfl, ?_⟩
    rw [decide_eq_true h1, decide_eq_true h2]
    exact ⟨_, rfl, rfl⟩
  · obtain ⟨y1, rfl, rfl⟩ := p
    exact q
def p_need_row : Sp := sp2 fun a b H Q _ => ∃ T u x, T ≤ 3 ∧ UB T u ∧ RowF H a T u ∧ RowF H b (T + 1) x ∧ RB (T + 1) x ∧ Q b H
theorem d_need_row (W : Wr K mg) (y : Yd K mg Y) (cU : ErU K mg CU) : Df P w K mg base CX0 4 "need_row" p_need_row := by
  have D_need_units : Df P w K mg base (L2.CX P w) 3 "need_units" (p_need_units CU) := d_need_units W y cU
  have D_is_row : Df P w K mg base CX0 2 "is_row" p_is_row := d_is_row W
  refine df_of (W.defs.get (i := 3) rfl) sc_need_row (fun _ _ _ _ _ _ us hl => match us, hl with | [_, _], _ => rfl) (len2 rfl) fun cdv A outer s H vs Q fA E hr h => ?_
  obtain ⟨a, b, rfl, T, u, x, hT, hu, ha, hb, hx, q⟩ := inv2 h
  refine ⟨_, (pss_cons (ps_expr (pe_df D_need_units hr (by decide) (by rfl) passL (pa_cons (pv 0) pa_nil)))
      (pss_cons (ps_if (pt_not (pt_val (pe_df D_is_row hr (by decide) (by rfl) pass0 (pa_cons (pv 0) (pa_cons (pv 1) pa_nil))))) (pss_one ps_never) pss_nil)
      (pss_one (ps_ret (pv 1))))), ?_⟩
  exact ⟨a, rfl, T, u, hT, ha, .inl ⟨hu, a, rfl, b, rfl, T, u, x, hT, ha, hb, hx, true, rfl, b, rfl, q⟩⟩
def p_need_rows : Sp := sp2 fun a b H Q _ => ∃ T u fs, T ≤ 3 ∧ UB T u ∧ RowF H a T u ∧ RowsF H b (T + 1) fs ∧ fs.length ≤ 60 ∧ (∀ f ∈ fs, RB (T + 1) f) ∧ ∀ H', Same H H' → Q b H'
theorem d_need_rows (W : Wr K mg) (y : Yd K mg Y) (cU : ErU K mg CU) : Df P w K mg base CX0 4 "need_rows" p_need_rows := by
  have D_need_units : Df P w K mg base (L2.CX P w) 3 "need_units" (p_need_units CU) := d_need_units W y cU
  have D_is_row : Df P w K mg base CX0 2 "is_row" p_is_row := d_is_row W
  refine df_of (W.defs.get (i := 4) rfl) sc_need_rows (fun _ _ _ _ _ _ us hl => match us, hl with | [_, _], _ => rfl) (len2 rfl) fun cdv A outer s H vs Q fA E hr h => ?_
  obtain ⟨a, b, rfl, T, u, fs, hT, hu, ha, ⟨b, ws, rfl, hb, hl, hw⟩, h60, hx, q⟩ := inv2 h
  refine ⟨_, (pss_cons (ps_expr (pe_df D_need_units hr (by decide) (by rfl) passL (pa_cons (pv 0) pa_nil)))
      (pss_cons (ps_if (PW.pt (pw_or (pt_not (pt_val (pe_callB call_isi (by rfl) W.b_isinstance (by decide +kernel) (pa_cons (pv 1) (pa_cons (pe_bltn (v := .ty "tuple") (by rfl) W.b_tuple (by decide +kernel) rfl) pa_nil))))) (pw_or1 (pt_cmpR op_gt (pe_callB call_len_seq (by rfl) W.b_len (by decide +kernel) (pa_cons (pv 1) pa_nil)) (pe_gi rfl W.MOST_ROWS) (nomark _))))) (pss_one ps_never) pss_nil)
      (pss_cons (ps_for PassesOwn.never rfl (pi_enumT (by rfl) W.b_enumerate (pa_cons (pv 1) pa_nil)) (pg_tup rfl (pgs_cons (pg_name (i := 2) sc_need_rows.nd rfl (.inl rfl)) (pgs_cons (pg_name (i := 3) sc_need_rows.nd rfl (.inl rfl)) pgs_nil)))
        (pss_one (ps_if (pt_not (pt_val (pe_df D_is_row hr (by decide) (by rfl) pass0 (pa_cons (pv 0) (pa_cons (pv 3) pa_nil))))) (pss_one ps_never) pss_nil)))
      (pss_one (ps_ret (pv 1)))))), ?_⟩
  refine ⟨a, rfl, T, u, hT, ha, .inl ⟨hu, .ref b, rfl, .ref b, .ty "tuple", .type "tuple", .type "tuple", true, rfl, .ty _, .base (.tup hb), kit_ty (by decide +kernel), true, rfl, ?_⟩⟩
  refine ⟨.ref b, rfl, b, _, rfl, .inr (.of hb), _, _, rfl, rfl, _, rfl, ite2 (fun e => ?_) (fun e => ?_)⟩
  · have e1 := of_decide_eq_true e
    omega
  refine ⟨.ref b, rfl, b, ws, rfl, .of hb, ?_⟩
  refine for_it (walk_enumT (xs := ws)) (fun i σ H' => ∃ y2 y3, σ = [some a, some (.ref b), y2, y3] ∧ Same H H') ⟨none, none, rfl, Same.refl H⟩ (fun i σ H' _ ⟨_, _, _, e⟩ => .of (e _ _ hb)) (fun i v σ H1 H2 hi p y => ?_) (fun σ H' p => ?_)
  · obtain ⟨y1, y2, rfl, p1⟩ := p
    obtain ⟨T', x1, x2, rfl, nT, rfl, e1, e2⟩ := y
    rw [hl] at hi
    obtain ⟨v2, q1, q2⟩ := hw i _ (List.getElem?_eq_getElem hi)
    obtain rfl : x2 = v2 := Option.some.inj (e2.symm.trans q1)
    have s1 := p1.trans (same_new (o := .tup [x1, x2]) nT)
    refine ⟨T', _, rfl, .of upd_same, rfl, _, _, rfl, _, _, rfl, rfl, ?_⟩
    exact ⟨a, rfl, x2, rfl, T, u, _, hT, ha.tx s1.tx, q2.tx s1.tx, hx _ (List.getElem_mem hi), _, rfl, _, _, rfl, s1⟩
  · obtain ⟨y1, y2, rfl, p1⟩ := p
    exact ⟨.ref b, rfl, q _ p1⟩
/-! ### within -/
def p_within : Sp := sp3 fun a b c H Q _ => ∃ T u o x, T ≤ 3 ∧ UB T u ∧ RowF H a T u ∧ RowF H b (T + 1) o ∧ RowF H c (T + 1) x ∧ ∀ r H', Same H H' → (r = true ↔ LeT T (S u o) (S u x)) → Q (.bl r) H'
theorem d_within (W : Wr K mg) : Df P w K mg base CX0 2 "within" p_within := by
  have D_less : Df P w K mg base CX0 1 "less" p_less := d_less W
  have D_stair_from : Df P w K mg base CX0 1 "stair_from" p_stair_from := d_stair_from W
  refine df_of (W.defs.get (i := 10) rfl) sc_within (fun _ _ _ _ _ _ us hl => match us, hl with | [_, _, _], _ => rfl) (len3 rfl) fun cdv A outer s H vs Q fA E hr h => ?_
  obtain ⟨a, b, c, rfl, T, u, o, x, hT, hu, ha, hb, hc, q⟩ := inv3 h
  refine ⟨_, (pss_one (ps_ret (pe_cmpR op_ge (pe_callB (cr_minT rfl) (by rfl) W.b_min (by decide +kernel) (pa_cons (pe_df D_less hr (by decide) (by rfl) pass0 (pa_cons (pe_df D_stair_from hr (by decide) (by rfl) pass0 (pa_cons (pv 0) (pa_cons (pv 2) pa_nil))) (pa_cons (pe_df D_stair_from hr (by decide) (by rfl) pass0 (pa_cons (pv 0) (pa_cons (pv 1) pa_nil))) pa_nil))) pa_nil)) pe_int (nomark _)))), ?_⟩
  refine ⟨a, rfl, c, rfl, T, u, x, hT, hu, ha, hc, fun v1 H1 s1 r1 => ?_⟩
  refine ⟨a, rfl, b, rfl, T, u, o, hT, hu, ha.tx s1.tx, hb.tx s1.tx, fun v2 H2 s2 r2 => ?_⟩
  refine ⟨T + 1, _, _, by omega, r1.tx s2.tx, r2, fun v3 H3 s3 r3 => ?_⟩
  obtain ⟨c3, rfl, h3⟩ := r3
  refine ⟨c3, _, rfl, .of h3, by rw [L_len]; omega, fun m hm1 hm2 => ⟨m, 0, rfl, rfl, q _ _ ((s1.trans s2).trans s3) ?_⟩⟩
  have := min_neg hm1 hm2
  rw [decide_eq_true_iff]
  constructor
  · intro h k hk
    have h1 : ∀ i, i < T + 1 → 0 ≤ S u x i - S u o i := Classical.byContradiction fun z => by
      have := this.mpr z
      omega
    have := h1 k (by omega)
    omega
  · intro h
    refine Int.not_lt.mp fun z => this.mp z fun i hi => ?_
    have := h i (by omega)
    show 0 ≤ S u x i - S u o i
    omega
/-! ### zeros_of, single -/
def p_zeros_of : Sp := sp1 fun a H Q _ => ∃ T u, 1 ≤ T ∧ T ≤ 3 ∧ RowF H a T u ∧ ∀ v H', Same H H' → RowF H' v (T + 1) (fun _ => 0) → Q v H'
theorem LV_zeros (n : Nat) : (List.replicate n [V.int 0]).flatten = LV n (fun _ => 0) := by
  induction n with
  | zero => rfl
  | succ n ih =>
    rw [LV_succ, ← ih, List.replicate_succ', List.flatten_append]
    rfl
theorem d_zeros_of (W : Wr K mg) : Df P w K mg base CX0 1 "zeros_of" p_zeros_of := by
  refine df_of (W.defs.get (i := 5) rfl) sc_zeros_of (fun _ _ _ _ _ _ us hl => match us, hl with | [_], _ => rfl) (len1 rfl) fun cdv A outer s H vs Q fA E hr h => ?_
  obtain ⟨a, rfl, T, u, h1, hT, ⟨a, rfl, ha⟩, q⟩ := inv1 h
  refine ⟨_, (pss_one (ps_ret (pe_op op_repT (pe_tup (pa_cons pe_int pa_nil)) (pe_op op_add (pe_callB call_len_seq (by rfl) W.b_len (by decide +kernel) (pa_cons (pv 0) pa_nil)) pe_int)))), ?_⟩
  refine ⟨(by show 1 ≤ sizeLine; decide), fun c hc => ?_⟩
  have s1 := same_new (o := .tup [.int 0]) hc
  refine ⟨.ref a, rfl, a, _, rfl, .inr (.of (s1 _ _ ha)), _, _, rfl, rfl, c, _, _, rfl, rfl, .of upd_same, (by simp), ?_⟩
  rw [LV_len]
  refine ⟨by omega, by omega, (by show 1 ≤ 1000; decide), fun p hp => q _ _ (s1.trans (same_new hp)) ⟨p, rfl, ?_⟩⟩
  rw [upd_same, show (((T : Nat) : Int) + 1).toNat = T + 1 by omega, LV_zeros]
def p_single : Sp := sp2 fun a b H Q _ => ∃ T u k, 1 ≤ T ∧ T ≤ 3 ∧ RowF H a T u ∧ b = .int (k : Nat) ∧ k ≤ T ∧ ∀ v H', Same H H' → RowF H' v (T + 1) (e k) → Q v H'
theorem ixN_nat {n k : Nat} (h : k < n) : ixN n (k : Int) = some k := by
  unfold ixN
  rw [if_pos (by omega), if_pos (by omega)]
  rfl
theorem d_single (W : Wr K mg) : Df P w K mg base CX0 2 "single" p_single := by
  have D_zeros_of : Df P w K mg base CX0 1 "zeros_of" p_zeros_of := d_zeros_of W
  refine df_of (W.defs.get (i := 20) rfl) sc_single (fun _ _ _ _ _ _ us hl => match us, hl with | [_, _], _ => rfl) (len2 rfl) fun cdv A outer s H vs Q fA E hr h => ?_
  obtain ⟨a, b, rfl, T, u, k, h1, hT, ha, rfl, hk, q⟩ := inv2 h
  refine ⟨_, (pss_cons (ps_set (i := 2) sc_single.nd rfl (.inl rfl) (pe_callTy call_list_of (by rfl) W.b_list (by decide +kernel) (pa_cons (pe_df D_zeros_of hr (by decide) (by rfl) pass0 (pa_cons (pv 0) pa_nil)) pa_nil)))
      (pss_cons (ps_asg pe_int (pg_sub (pv 2) (pv 1) set_list))
      (pss_one (ps_ret (pe_callTy call_tuple_of (by rfl) W.b_tuple (by decide +kernel) (pa_cons (pv 2) pa_nil)))))), ?_⟩
  refine ⟨a, rfl, T, u, h1, hT, ha, fun v1 H1 s1 r1 => ?_⟩
  obtain ⟨c, rfl, hc⟩ := r1
  refine ⟨c, _, rfl, .inr (.of hc), fun D hD => ?_⟩
  refine ⟨.ref D, rfl, .int k, rfl, D, _, k, k, rfl, rfl, upd_same, ixN_nat (by rw [LV_len]; omega), ?_⟩
  have s2 := s1.trans (same_new (o := .lst ((LV (T + 1) (fun _ => 0)))) hD)
  refine ⟨.ref D, rfl, D, _, rfl, .inl ⟨.of upd_same, fun l hl => q _ _ ((s2.mut (s1.free hD)).trans (same_new hl)) ⟨l, rfl, ?_⟩⟩⟩
  rw [upd_same, LV_set]
  rfl
/-! ### down_stair, rest_row -/
def p_down_stair : Sp := sp2 fun a b H Q _ => ∃ T u d, T ≤ 3 ∧ UB T u ∧ RowF H a T u ∧ RowF H b (T + 1) d ∧ (NN T d → ∀ v H', Same H H' → RowF H' v (T + 1) (DN u d T) → Q v H') ∧ (¬ NN T d → Q .non H)
theorem min_if (i j : Int) : (if j < i then j else i) = min i j := by
  rw [Int.min_def]
  split <;> split <;> omega
theorem d_down_stair (W : Wr K mg) : Df P w K mg base CX0 1 "down_stair" p_down_stair := by
  refine df_of (W.defs.get (i := 24) rfl) sc_down_stair (fun _ _ _ _ _ _ us hl => match us, hl with | [_, _], _ => rfl) (len2 rfl) fun cdv A outer s H vs Q fA E hr h => ?_
  obtain ⟨a, b, rfl, T, u, d, hT, hu, ⟨a, rfl, ha⟩, ⟨b, rfl, hb⟩, q1, q2⟩ := inv2 h
  refine ⟨_, (pss_cons (ps_if (pt_cmpR op_lt (pe_callB (cr_minT rfl) (by rfl) W.b_min (by decide +kernel) (pa_cons (pv 1) pa_nil)) pe_int (nomark _)) (pss_one (ps_ret pe_non)) pss_nil)
      (pss_cons (ps_set (i := 2) sc_down_stair.nd rfl (.inl rfl) (pe_lst (pa_cons (pe_ix ix_tup (pv 1) (pe_un un_neg pe_int) (fun _ _ => rfl)) pa_nil)))
      (pss_cons (ps_for PassesOwn.never rfl (pi_revR (by rfl) W.b_reversed (prg_1 (by rfl) W.b_range (pe_callB call_len_seq (by rfl) W.b_len (by decide +kernel) (pa_cons (pv 0) pa_nil)))) (pg_name (i := 3) sc_down_stair.nd rfl (.inl rfl))
        (pss_one (ps_expr (pe_bm PySem.F.plainAttrs_list PySem.F.slot_list_append PySem.F.type_list_append mt_append (pv 2) (pa_cons (pe_callB (call_min2 rfl) (by rfl) W.b_min (by decide +kernel) (pa_cons (pe_ix ix_tup (pv 1) (pv 3) (fun _ _ => rfl)) (pa_cons (pe_op op_fdivN (pe_ix ix_list (pv 2) (pe_un un_neg pe_int) (fun _ _ => rfl)) (pe_ix ix_tup (pv 0) (pv 3) (fun _ _ => rfl))) pa_nil))) pa_nil)))))
      (pss_one (ps_ret (RT.pe_tupRev rfl (by rfl) W.b_tuple (by rfl) W.b_reversed (pv 2))))))), ?_⟩
  refine ⟨.ref b, rfl, b, _, rfl, .of hb, by rw [L_len]; omega, fun m hm1 hm2 => ⟨m, 0, rfl, rfl, _, rfl, ite2 (fun e1 => ?_) (fun e1 => ?_)⟩⟩
  · have e2 : m < 0 := of_decide_eq_true e1
    exact q2 fun z => (min_neg hm1 hm2).mp e2 fun i hi => z i (by omega)
  have hd : NN T d := Classical.byContradiction fun z => e1 (decide_eq_true ((min_neg hm1 hm2).mpr fun y => z fun k hk => y k (by omega)))
  refine ⟨.ref b, rfl, 1, rfl, b, _, -1, _, rfl, rfl, .of hb, LV_last, (by show 1 ≤ sizeLine; decide), fun D hD => ?_⟩
  have s1 := same_new (o := .lst [.int (d T)]) hD
  refine ⟨.ref a, rfl, a, _, rfl, .inr (.of (s1 _ _ ha)), ?_⟩
  rw [LV_len]
  refine ⟨_, rfl, by omega, by omega, by omega, by omega, ?_⟩
  refine for_it (walk_rangeC) (fun i σ H' => ∃ y3, σ = [some (.ref a), some (.ref b), some (.ref D), y3] ∧ Same H H' ∧ H' D = some (.lst (LV (i + 1) (dn u d T)))) ⟨none, rfl, s1, upd_same⟩ (fun _ _ _ _ _ => trivial) (fun i v σ H1 H2 hi p y => ?_) (fun σ H' p => ?_)
  · obtain ⟨y3, rfl, p1, p2⟩ := p
    obtain ⟨rfl, e1⟩ := y
    have hi' : i < T := by omega
    have e2 : (0 : Int) + ((((T : Nat) : Int) - 0).toNat : Int) - 1 + (i : Int) * -1 = ((T - (i + 1) : Nat) : Int) := by omega
    replace e1 : v = .int ((0 : Int) + ((((T : Nat) : Int) - 0).toNat : Int) - 1 + (i : Int) * -1) := e1
    rw [e2] at e1
    subst e1
    have hk := hu (T - (i + 1)) (by omega)
    refine ⟨.ref D, rfl, .inl ⟨rfl, _, .inl (.inl p2)⟩, .ref b, rfl, _, rfl, b, _, _, _, rfl, rfl, .of (p1 _ _ hb), LV_at (by omega), ?_⟩
    refine ⟨.ref D, rfl, 1, rfl, D, _, -1, _, rfl, rfl, .of p2, LV_last, .ref a, rfl, _, rfl, a, _, _, _, rfl, rfl, .of (p1 _ _ ha), LV_at (by omega), _, _, rfl, rfl, ⟨by omega, by omega⟩, ?_⟩
    refine ⟨_, _, rfl, D, _, _, rfl, rfl, p2, by rw [LV_len]; exact lt_line (by omega), ?_⟩
    refine ⟨_, rfl, p1.mut hD, ?_⟩
    rw [upd_same, LV_succ (i + 1), min_if, Int.fdiv_eq_ediv_of_nonneg _ (by omega)]
    rfl
  · obtain ⟨y3, rfl, p1, p2⟩ := p
    refine ⟨.ref D, rfl, D, _, rfl, .of p2, fun l hl => q1 hd _ _ (p1.trans (same_new hl)) ⟨l, rfl, ?_⟩⟩
    rw [upd_same, LV_reverse]
    refine congrArg (fun z => some (HO.tup z)) (LV_congr fun i hi => ?_)
    rfl
/-- the rest, if there is one -/
noncomputable def restF (u : Fn) (T : Nat) (x o : Fn) : Option Fn := by
  classical exact if LeT T (S u o) (S u x) then some (rowF u (DN u (fun k => S u x k - S u o k) T)) else none
theorem restF_yes {u x o : Fn} {T : Nat} (h : LeT T (S u o) (S u x)) : restF u T x o = some (rowF u (DN u (fun k => S u x k - S u o k) T)) := by
  unfold restF; rw [if_pos h]
theorem restF_no {u x o : Fn} {T : Nat} (h : ¬ LeT T (S u o) (S u x)) : restF u T x o = none := by
  unfold restF; rw [if_neg h]
/-- a row or None -/
def OptF (H : Hp) (v : V) (n : Nat) : Option Fn → Prop
  | some f => RowF H v n f
  | none => v = .non
theorem OptF.tx {H H' : Hp} {v : V} {n : Nat} {o : Option Fn} (e : Tx H H') (r : OptF H v n o) : OptF H' v n o := by
  cases o with
  | some f => exact RowF.tx e r
  | none => exact r
def p_rest_row : Sp := sp3 fun a b c H Q _ => ∃ T u x o, T ≤ 3 ∧ UB T u ∧ RowF H a T u ∧ RowF H b (T + 1) x ∧ RowF H c (T + 1) o ∧ ∀ v H', Same H H' → OptF H' v (T + 1) (restF u T x o) → Q v H'
theorem d_rest_row (W : Wr K mg) : Df P w K mg base CX0 2 "rest_row" p_rest_row := by
  have D_less : Df P w K mg base CX0 1 "less" p_less := d_less W
  have D_stair_from : Df P w K mg base CX0 1 "stair_from" p_stair_from := d_stair_from W
  have D_row_from : Df P w K mg base CX0 1 "row_from" p_row_from := d_row_from W
  have D_down_stair : Df P w K mg base CX0 1 "down_stair" p_down_stair := d_down_stair W
  refine df_of (W.defs.get (i := 25) rfl) sc_rest_row (fun _ _ _ _ _ _ us hl => match us, hl with | [_, _, _], _ => rfl) (len3 rfl) fun cdv A outer s H vs Q fA E hr h => ?_
  obtain ⟨a, b, c, rfl, T, u, x, o, hT, hu, ha, hb, hc, q⟩ := inv3 h
  refine ⟨_, (pss_cons (ps_set (i := 3) sc_rest_row.nd rfl (.inl rfl) (pe_df D_down_stair hr (by decide) (by rfl) pass0 (pa_cons (pv 0) (pa_cons (pe_df D_less hr (by decide) (by rfl) pass0 (pa_cons (pe_df D_stair_from hr (by decide) (by rfl) pass0 (pa_cons (pv 0) (pa_cons (pv 1) pa_nil))) (pa_cons (pe_df D_stair_from hr (by decide) (by rfl) pass0 (pa_cons (pv 0) (pa_cons (pv 2) pa_nil))) pa_nil))) pa_nil))))
      (pss_one (ps_ret (pe_ifExp (pt_cmpR op_isN (pv 3) pe_non (nomark _)) pe_non (pe_df D_row_from hr (by decide) (by rfl) pass0 (pa_cons (pv 0) (pa_cons (pv 3) pa_nil))))))), ?_⟩
  refine ⟨a, rfl, a, rfl, b, rfl, T, u, x, hT, hu, ha, hb, fun v1 H1 s1 r1 => ?_⟩
  refine ⟨a, rfl, c, rfl, T, u, o, hT, hu, ha.tx s1.tx, hc.tx s1.tx, fun v2 H2 s2 r2 => ?_⟩
  refine ⟨T + 1, _, _, by omega, r1.tx s2.tx, r2, fun v3 H3 s3 r3 => ?_⟩
  have s := (s1.trans s2).trans s3
  refine ⟨T, u, _, hT, hu, ha.tx s.tx, r3, fun nn v4 H4 s4 r4 => ?_, fun nn => ?_⟩
  · have hle : LeT T (S u o) (S u x) := fun k hk => by have : 0 ≤ S u x k - S u o k := nn k hk; omega
    obtain ⟨c4, rfl, h4⟩ := r4
    refine ⟨.ref c4, rfl, rfl, _, rfl, ?_⟩
    refine ⟨a, rfl, .ref c4, rfl, T, u, _, hT, hu, (ha.tx s.tx).tx s4.tx, ⟨c4, rfl, h4⟩, fun v5 H5 s5 r5 => q _ _ ((s.trans s4).trans s5) ?_⟩
    rw [restF_yes hle]
    exact r5
  · have hle : ¬ LeT T (S u o) (S u x) := fun z => nn fun k hk => by have := z k hk; show 0 ≤ S u x k - S u o k; omega
    refine ⟨.non, rfl, rfl, _, rfl, q _ _ s ?_⟩
    rw [restF_no hle]
    rfl
/-! ### asks in turn -/
def turnR (step : Fn → Fn → Option Fn) : Fn → List Fn → Nat × Fn
  | x, [] => (0, x)
  | x, o :: r => match step x o with
    | none => (0, x)
    | some y => ((turnR step y r).1 + 1, (turnR step y r).2)
/-- (how many, what is left) -/
def EndF (H : Hp) (v : V) (n : Nat) (p : Nat × Fn) : Prop := ∃ a w, v = .ref a ∧ H a = some (.tup [.int (p.1 : Nat), w]) ∧ RowF H w n p.2
theorem EndF.tx {H H' : Hp} {v : V} {n : Nat} {p : Nat × Fn} (e : Tx H H') (r : EndF H v n p) : EndF H' v n p := by
  obtain ⟨a, w, e1, h1, h2⟩ := r
  exact ⟨a, w, e1, e _ _ h1, h2.tx e⟩
theorem turnR_go {step : Fn → Fn → Option Fn} {x y o : Fn} {r : List Fn} (h : step x o = some y) : turnR step x (o :: r) = ((turnR step y r).1 + 1, (turnR step y r).2) := by
  show (match step x o with | none => (0, x) | some y => ((turnR step y r).1 + 1, (turnR step y r).2)) = _
  rw [h]
theorem turnR_stop {step : Fn → Fn → Option Fn} {x o : Fn} {r : List Fn} (h : step x o = none) : turnR step x (o :: r) = (0, x) := by
  show (match step x o with | none => (0, x) | some y => ((turnR step y r).1 + 1, (turnR step y r).2)) = _
  rw [h]
def p_served : Sp := sp3 fun a b c H Q _ => ∃ T u x fs, T ≤ 3 ∧ UB T u ∧ RowF H a T u ∧ RowF H b (T + 1) x ∧ RB (T + 1) x ∧ RowsF H c (T + 1) fs ∧ fs.length ≤ 60 ∧ (∀ f ∈ fs, RB (T + 1) f) ∧ ∀ v H', Same H H' → EndF H' v (T + 1) (turnR (restF u T) x fs) → Q v H'
theorem d_served_in_turn (W : Wr K mg) (y : Yd K mg Y) (cU : ErU K mg CU) : Df P w K mg base CX0 5 "served_in_turn" p_served := by
  have D_need_row : Df P w K mg base CX0 4 "need_row" p_need_row := d_need_row W y cU
  have D_need_rows : Df P w K mg base CX0 4 "need_rows" p_need_rows := d_need_rows W y cU
  have D_rest_row : Df P w K mg base CX0 2 "rest_row" p_rest_row := d_rest_row W
  refine df_of (W.defs.get (i := 26) rfl) sc_served_in_turn (fun _ _ _ _ _ _ us hl => match us, hl with | [_, _, _], _ => rfl) (len3 rfl) fun cdv A outer s H vs Q fA E hr h => ?_
  obtain ⟨a, b, c, rfl, T, u, x, fs, hT, hu, ha, hb, hx, hc, h60, hfs, q⟩ := inv3 h
  refine ⟨_, (pss_cons (ps_expr (pe_df D_need_row hr (by decide) (by rfl) pass0 (pa_cons (pv 0) (pa_cons (pv 1) pa_nil))))
      (pss_cons (ps_expr (pe_df D_need_rows hr (by decide) (by rfl) pass0 (pa_cons (pv 0) (pa_cons (pv 2) pa_nil))))
      (pss_cons (ps_set (i := 3) sc_served_in_turn.nd rfl (.inl rfl) (pv 1))
      (pss_cons (ps_for PassesOwn.never rfl (pi_enumT (by rfl) W.b_enumerate (pa_cons (pv 2) pa_nil)) (pg_tup rfl (pgs_cons (pg_name (i := 4) sc_served_in_turn.nd rfl (.inl rfl)) (pgs_cons (pg_name (i := 5) sc_served_in_turn.nd rfl (.inl rfl)) pgs_nil)))
        (pss_cons (ps_set (i := 6) sc_served_in_turn.nd rfl (.inl rfl) (pe_df D_rest_row hr (by decide) (by rfl) pass0 (pa_cons (pv 0) (pa_cons (pv 3) (pa_cons (pv 5) pa_nil)))))
      (pss_cons (ps_if (pt_cmpR op_isN (pv 6) pe_non (nomark _)) (pss_one (ps_ret (pe_tup (pa_cons (pv 4) (pa_cons (pv 3) pa_nil))))) pss_nil)
      (pss_one (ps_set (i := 3) sc_served_in_turn.nd rfl (.inl rfl) (pv 6))))))
      (pss_one (ps_ret (pe_tup (pa_cons (pe_callB call_len_seq (by rfl) W.b_len (by decide +kernel) (pa_cons (pv 2) pa_nil)) (pa_cons (pv 3) pa_nil))))))))), ?_⟩
  refine ⟨a, rfl, b, rfl, T, u, x, hT, hu, ha, hb, hx, ?_⟩
  refine ⟨a, rfl, c, rfl, T, u, fs, hT, hu, ha, hc, h60, hfs, fun H1 s1 => ?_⟩
  refine ⟨b, rfl, ?_⟩
  obtain ⟨c, ws, rfl, hc, hl, hw⟩ := hc
  refine ⟨.ref c, rfl, c, ws, rfl, .of (s1 _ _ hc), ?_⟩
  refine for_it (walk_enumT (xs := ws)) (fun i σ H' => ∃ r y4 y5 y6 z, σ = [some a, some b, some (.ref c), some r, y4, y5, y6] ∧ Same H H' ∧ RowF H' r (T + 1) z ∧ i ≤ fs.length ∧ turnR (restF u T) x fs = (i + (turnR (restF u T) z (fs.drop i)).1, (turnR (restF u T) z (fs.drop i)).2))
    ⟨b, none, none, none, x, rfl, s1, hb.tx s1.tx, Nat.zero_le _, by rw [List.drop_zero, Nat.zero_add]⟩ (fun i σ H' _ p => ?_) (fun i v σ H1 H2 hi p y => ?_) (fun σ H' p => ?_)
  · obtain ⟨_, _, _, _, _, _, e, _⟩ := p
    exact .of (e _ _ hc)
  · obtain ⟨r, y4, y5, y6, z, rfl, p1, p2, p3, p4⟩ := p
    obtain ⟨T', x1, x2, rfl, nT, rfl, e1, e2⟩ := y
    rw [hl] at hi
    obtain ⟨v2, q1, q2⟩ := hw i _ (List.getElem?_eq_getElem hi)
    obtain rfl : x2 = v2 := Option.some.inj (e2.symm.trans q1)
    obtain rfl : V.int (i : Nat) = x1 := Option.some.inj e1
    have sN := p1.trans (same_new (o := .tup [.int (i : Nat), x2]) nT)
    refine ⟨T', _, rfl, .of upd_same, rfl, _, _, rfl, _, _, rfl, rfl, ?_⟩
    refine ⟨a, rfl, r, rfl, x2, rfl, T, u, z, fs[i], hT, hu, ha.tx sN.tx, p2.tx (same_new nT).tx, q2.tx sN.tx, fun v3 H3 s3 r3 => ?_⟩
    rw [List.drop_eq_getElem_cons hi] at p4
    cases hst : restF u T z fs[i] with
    | none =>
      rw [hst] at r3
      obtain rfl : v3 = .non := r3
      rw [turnR_stop hst] at p4
      refine ⟨.non, rfl, rfl, _, rfl, ?_⟩
      refine ⟨_, rfl, r, rfl, size2, fun p hp => q _ _ ((sN.trans s3).trans (same_new hp)) ?_⟩
      rw [p4]
      exact ⟨p, r, rfl, upd_same, (((p2.tx (same_new nT).tx).tx s3.tx).tx (Tx.new hp))⟩
    | some z2 =>
      rw [hst] at r3
      obtain ⟨c3, rfl, h3⟩ := r3
      rw [turnR_go hst] at p4
      refine ⟨.ref c3, rfl, rfl, _, rfl, .ref c3, rfl, ?_⟩
      refine ⟨.ref c3, _, _, _, z2, rfl, sN.trans s3, ⟨c3, rfl, h3⟩, hi, ?_⟩
      rw [p4]
      show (i + ((turnR (restF u T) z2 (fs.drop (i + 1))).1 + 1), _) = _
      rw [show i + ((turnR (restF u T) z2 (fs.drop (i + 1))).1 + 1) = i + 1 + (turnR (restF u T) z2 (fs.drop (i + 1))).1 by omega]
  · obtain ⟨r, y4, y5, y6, z, rfl, p1, p2, p3, p4⟩ := p
    rw [hl, List.drop_length] at p4
    refine ⟨.ref c, rfl, c, ws, rfl, .inr (.of (p1 _ _ hc)), r, rfl, size2, fun p hp => q _ _ (p1.trans (same_new hp)) ?_⟩
    rw [p4]
    refine ⟨p, r, rfl, ?_, p2.tx (Tx.new hp)⟩
    rw [upd_same, hl]
    rfl
end
end K21
end
section
set_option maxRecDepth 100000
set_option maxHeartbeats 4000000
/-! K21E: pieces taken by rules. -/
namespace K21
open PySem PySem.Spec PyProof.Rows L2
/-! ### lists of things in the heap -/
def ListR {α : Type} (R : Hp → V → α → Prop) (H : Hp) (vs : List V) (as : List α) : Prop := vs.length = as.length ∧ ∀ (i : Nat) (a : α), as[i]? = some a → ∃ w, vs[i]? = some w ∧ R H w a
def TupR {α : Type} (R : Hp → V → α → Prop) (H : Hp) (v : V) (as : List α) : Prop := ∃ a vs, v = .ref a ∧ H a = some (.tup vs) ∧ ListR R H vs as
section
variable {α : Type} {R : Hp → V → α → Prop} {H H' : Hp} {vs : List V} {as : List α} {v w : V} {a : α}
theorem ListR.tx (m : ∀ w a, R H w a → R H' w a) (h : ListR R H vs as) : ListR R H' vs as := ⟨h.1, fun i a e => let ⟨w, q1, q2⟩ := h.2 i a e; ⟨w, q1, m w a q2⟩⟩
theorem ListR.nil : ListR R H [] [] := ⟨rfl, fun i a e => by simp at e⟩
theorem ListR.snoc (h : ListR R H vs as) (r : R H w a) : ListR R H (vs ++ [w]) (as ++ [a]) := by
  refine ⟨by rw [List.length_append, List.length_append, h.1]; rfl, fun i b e => ?_⟩
  by_cases hi : i < as.length
  · rw [List.getElem?_append_left hi] at e
    obtain ⟨w', q1, q2⟩ := h.2 i b e
    exact ⟨w', by rw [List.getElem?_append_left (by rw [h.1]; exact hi)]; exact q1, q2⟩
  · rw [List.getElem?_append_right (by omega)] at e
    have e0 : i - as.length = 0 := by
      have := (List.getElem?_eq_some_iff.mp e).1
      simp at this
      omega
    rw [e0] at e
    have e1 : a = b := Option.some.inj e
    subst e1
    refine ⟨w, ?_, r⟩
    rw [List.getElem?_append_right (by rw [h.1]; omega), h.1, e0]
    rfl
theorem TupR.tx (e : Tx H H') (m : ∀ w a, R H w a → R H' w a) (h : TupR R H v as) : TupR R H' v as := by
  obtain ⟨a, vs, e1, h1, h2⟩ := h
  exact ⟨a, vs, e1, e _ _ h1, h2.tx m⟩
end
/-- (start, goal) -/
def PairR (H : Hp) (v : V) (p : Nat × Nat) : Prop := ∃ b, v = .ref b ∧ H b = some (.tup [.int (p.1 : Nat), .int (p.2 : Nat)])
abbrev ChF (H : Hp) (v : V) (cs : List (Nat × Nat)) : Prop := TupR PairR H v cs
abbrev RuF (H : Hp) (v : V) (rs : List (List (Nat × Nat))) : Prop := TupR ChF H v rs
theorem PairR.tx {H H' : Hp} {v : V} {p : Nat × Nat} (e : Tx H H') (h : PairR H v p) : PairR H' v p := let ⟨b, e1, h1⟩ := h; ⟨b, e1, e _ _ h1⟩
theorem ChF.tx {H H' : Hp} {v : V} {cs : List (Nat × Nat)} (e : Tx H H') (h : ChF H v cs) : ChF H' v cs := TupR.tx e (fun _ _ r => PairR.tx e r) h
theorem RuF.tx {H H' : Hp} {v : V} {rs : List (List (Nat × Nat))} (e : Tx H H') (h : RuF H v rs) : RuF H' v rs := TupR.tx e (fun _ _ r => ChF.tx e r) h
/-- a unit's choice can be made -/
structure ChOk (k : Nat) (p : Nat × Nat) : Prop where
  le : p.1 ≤ k
  le2 : p.2 ≤ k
  lt : p.1 < k → p.1 < p.2
  eq : p.1 = k → p.2 = k
theorem LV_ad {n k : Nat} {f : Fn} {v : Int} : (LV n f).set k (.int (f k + v)) = LV n (ad f k v) := by
  rw [LV_set]
  refine LV_congr fun i _ => ?_
  unfold setF ad
  by_cases h : i = k
  · subst h; simp only [if_true]
  · rw [if_neg h, if_neg h]
theorem LV_sub1 {n k : Nat} {f : Fn} : (LV n f).set k (.int (f k - 1)) = LV n (ad f k (-1)) := by
  rw [Int.sub_eq_add_neg]; exact LV_ad
theorem LV_cut {T s g : Nat} {u : Fn} (h1 : s ≤ g) (h2 : g ≤ T) : cutV (LV T u) (some (s : Int)) (some (g : Int)) = LV (g - s) (fun i => u (s + i)) := by
  unfold cutV
  rw [LV_len, HT.sIx_nat, HT.sIx_nat, Nat.min_eq_left (show s ≤ T by omega), Nat.min_eq_left h2]
  refine List.ext_getElem? fun j => ?_
  by_cases hj : j < g - s
  · rw [List.getElem?_take_of_lt hj, List.getElem?_drop, LV_get (by omega), LV_get hj]
  · rw [List.getElem?_eq_none (by rw [List.length_take, List.length_drop, LV_len]; omega), List.getElem?_eq_none (by rw [LV_len]; omega)]
theorem slA_read {K : PySem.W.Frag} {H : Hp} {a : Addr} {T s g : Nat} {u : Fn} {Q : VK} (h : H a = some (.tup (LV T u))) (h1 : s ≤ g) (h2 : g ≤ T)
    (q : ∀ b H', Same H H' → H' b = some (.tup (LV (g - s) (fun i => u (s + i)))) → Q (.ref b) H') : rSlA K (.ref a) (some (s : Int)) (some (g : Int)) H Q := by
  refine ⟨a, _, rfl, .of h, fun z => ?_, fun _ p hp => q p _ (same_new hp) ?_⟩
  · rw [LV_len, HT.sIx_nat, HT.sIx_nat] at z
    have e1 : s = 0 := by omega
    have e2 : g = T := by omega
    subst e1 e2
    refine q a H (Same.refl H) ?_
    rw [h, Nat.sub_zero]
    congr 2
    exact LV_congr fun i _ => by rw [Nat.zero_add]
  · rw [upd_same, LV_cut h1 h2]
theorem st_get {u x : Fn} {g n : Nat} : st u x g (n + 1) = cut u (st u x g n) (g + n) := rfl
section
variable {P : Program} {w : World} {K : PySem.W.Frag} {mg : Str → Option Value} {base : Heap} {Y CU : Addr}
/-! ### piece_taken -/
def p_piece_taken : Sp := sp5 fun a b c d f H Q _ => ∃ T u x s g k, T ≤ 3 ∧ UB T u ∧ RowF H a T u ∧ RowF H b (T + 1) x ∧ c = .int (s : Nat) ∧ d = .int (g : Nat) ∧ f = .int (k : Nat) ∧ k ≤ T ∧ ChOk k (s, g) ∧
  ∀ v H', Same H H' → RowF H' v (T + 1) (pt u x s g k) → Q v H'
theorem d_piece_taken (W : Wr K mg) : Df P w K mg base CX0 1 "piece_taken" p_piece_taken := by
  refine df_of (W.defs.get (i := 15) rfl) sc_piece_taken (fun _ _ _ _ _ _ us hl => match us, hl with | [_, _, _, _, _], _ => rfl) (len5 rfl) fun cdv A outer s0 H vs Q fA E hr h => ?_
  obtain ⟨a, b, c, d, f, rfl, T, u, x, s, g, k, hT, hu, ⟨a, rfl, ha⟩, ⟨b, rfl, hb⟩, rfl, rfl, rfl, hk, hch, q⟩ := inv5 h
  have hsk : s ≤ k := hch.le
  have hgk : g ≤ k := hch.le2
  refine ⟨_, (pss_cons (ps_set (i := 5) sc_piece_taken.nd rfl (.inl rfl) (pe_callTy call_list_of (by rfl) W.b_list (by decide +kernel) (pa_cons (pv 1) pa_nil)))
      (pss_cons (ps_asg (pe_op op_sub (pe_ix ix_list (pv 5) (pv 2) (fun _ _ => rfl)) pe_int) (pg_sub (pv 5) (pv 2) set_list))
      (pss_cons (ps_if (pt_cmpR op_lt (pv 2) (pv 4) (nomark _)) (pss_cons (ps_set (i := 6) sc_piece_taken.nd rfl (.inl rfl) pe_int)
      (pss_cons (ps_for PassesOwn.never rfl (pi_tup (pe_slice sl_tupA (pv 0) (po_some (pv 2)) (po_some (pv 3)))) (pg_name (i := 7) sc_piece_taken.nd rfl (.inl rfl))
        (pss_one (ps_set (i := 6) sc_piece_taken.nd rfl (.inl rfl) (pe_op op_mul (pv 6) (pv 7)))))
      (pss_cons (ps_asg (pe_op op_add (pe_ix ix_list (pv 5) (pv 3) (fun _ _ => rfl)) (pv 6)) (pg_sub (pv 5) (pv 3) set_list))
      (pss_cons (ps_for PassesOwn.never rfl (pi_range2 (by rfl) W.b_range (pa_cons (pv 3) (pa_cons (pv 4) pa_nil))) (pg_name (i := 8) sc_piece_taken.nd rfl (.inl rfl))
        (pss_cons (ps_asg (pe_op op_sub (pe_ix ix_list (pv 5) (pv 8) (fun _ _ => rfl)) pe_int) (pg_sub (pv 5) (pv 8) set_list))
      (pss_one (ps_asg (pe_op op_add (pe_ix ix_list (pv 5) (pe_op op_add (pv 8) pe_int) (fun _ _ => rfl)) (pe_ix ix_tup (pv 0) (pv 8) (fun _ _ => rfl))) (pg_sub (pv 5) (pe_op op_add (pv 8) pe_int) set_list)))))
      (pss_one (ps_asg (pe_op op_sub (pe_ix ix_list (pv 5) (pv 4) (fun _ _ => rfl)) pe_int) (pg_sub (pv 5) (pv 4) set_list))))))) pss_nil)
      (pss_one (ps_ret (pe_callTy call_tuple_of (by rfl) W.b_tuple (by decide +kernel) (pa_cons (pv 5) pa_nil))))))), ?_⟩
  refine ⟨.ref b, rfl, b, _, rfl, .inr (.of hb), fun D hD => ?_⟩
  have s1 := same_new (o := .lst (LV (T + 1) x)) hD
  refine ⟨.ref D, rfl, _, rfl, D, _, _, _, rfl, rfl, .of upd_same, LV_at (i := s) (by omega), x s, 1, rfl, rfl, .ref D, rfl, _, rfl, D, _, (s : Nat), s, rfl, rfl, upd_same, ixN_nat (by rw [LV_len]; omega), ?_⟩
  rw [LV_sub1, upd_upd]
  have s2 := same_new (o := .lst (LV (T + 1) (ad x s (-1)))) hD
  have fin : ∀ (H' : Hp) (F : Fn), Same H H' → H' D = some (.lst (LV (T + 1) F)) → (∀ j, j ≤ T → F j = pt u x s g k j) → ∀ l, H' l = none → Q (.ref l) (upd H' l (.tup (LV (T + 1) F))) := fun H' F e1 e2 e3 l hl =>
    q _ _ (e1.trans (same_new hl)) ⟨l, rfl, by rw [upd_same, LV_congr fun i hi => e3 i (by omega)]⟩
  refine ⟨_, rfl, _, rfl, _, _, rfl, rfl, _, rfl, ite2 (fun e1 => ?_) (fun e1 => ?_)⟩
  · have hlt : s < k := by have := of_decide_eq_true e1; omega
    have hsg : s < g := hch.lt hlt
    refine ⟨.ref a, rfl, _, rfl, _, rfl, _, rfl, _, rfl, slA_read (s2 _ _ ha) (Nat.le_of_lt hsg) (by omega) fun b2 H2 s3 hb2 => ?_⟩
    refine ⟨b2, rfl, ⟨_, .of hb2⟩, ?_⟩
    have s4 := s2.trans s3
    have hD2 : H2 D = some (.lst (LV (T + 1) (ad x s (-1)))) := s3 _ _ upd_same
    refine for_it (walk_tup (xs := LV (g - s) (fun i => u (s + i)))) (fun i σ H' => ∃ y7, σ = [some (.ref a), some (.ref b), some (.int (s : Nat)), some (.int (g : Nat)), some (.int (k : Nat)), some (.ref D), some (.int (pr u s i)), y7, none] ∧ H' = H2)
      ⟨none, rfl, rfl⟩ (fun i σ H' _ ⟨_, _, e⟩ => by rw [e]; exact .of hb2) (fun i v σ H1 H3 hi p y => ?_) (fun σ H' p => ?_)
    · rw [LV_len] at hi
      obtain ⟨y7, rfl, rfl⟩ := p
      obtain ⟨rfl, e2⟩ := y
      obtain rfl : v = .int (u (s + i)) := Option.some.inj (e2.symm.trans (LV_get hi))
      have := hu (s + i) (by omega)
      exact ⟨_, rfl, _, rfl, _, _, rfl, rfl, .inr ⟨by omega, by omega⟩, _, rfl, rfl⟩
    · obtain ⟨y7, rfl, rfl⟩ := p
      rw [LV_len]
      refine ⟨.ref D, rfl, _, rfl, D, _, _, _, rfl, rfl, .of hD2, LV_at (i := g) (by omega), _, rfl, _, _, rfl, rfl, .ref D, rfl, _, rfl, D, _, (g : Nat), g, rfl, rfl, hD2, ixN_nat (by rw [LV_len]; omega), ?_⟩
      rw [LV_ad]
      refine ⟨_, rfl, _, rfl, _, _, rfl, ⟨by omega, by omega, by omega, by omega⟩, ?_⟩
      refine for_it (walk_range) (fun i σ H' => ∃ y8, σ = [some (.ref a), some (.ref b), some (.int (s : Nat)), some (.int (g : Nat)), some (.int (k : Nat)), some (.ref D), some (.int (pr u s (g - s))), y7, y8] ∧ Same H H' ∧ H' D = some (.lst (LV (T + 1) (st u (ad (ad x s (-1)) g (pr u s (g - s))) g i))))
        ⟨none, rfl, s4.mut hD, upd_same⟩ (fun _ _ _ _ _ => trivial) (fun i v σ H1 H3 hi p y => ?_) (fun σ H' p => ?_)
      · obtain ⟨y8, rfl, p1, p2⟩ := p
        obtain ⟨rfl, e2⟩ := y
        have hi' : g + i < k := by omega
        replace e2 : v = .int ((g : Int) + (i : Nat)) := e2
        rw [show (g : Int) + (i : Nat) = ((g + i : Nat) : Int) by omega] at e2
        subst e2
        refine ⟨.ref D, rfl, _, rfl, D, _, _, _, rfl, rfl, .of p2, LV_at (i := g + i) (by omega), _, _, rfl, rfl, .ref D, rfl, _, rfl, D, _, ((g + i : Nat) : Int), g + i, rfl, rfl, p2, ixN_nat (by rw [LV_len]; omega), ?_⟩
        rw [LV_sub1]
        refine ⟨.ref D, rfl, _, rfl, ((g + i : Nat) : Int), 1, rfl, rfl, D, _, _, _, rfl, rfl, .of upd_same, LV_at (i := g + i + 1) (by omega), .ref a, rfl, _, rfl, a, _, _, _, rfl, rfl, .of ((p1.mut hD) _ _ ha), LV_at (i := g + i) (by omega), _, _, rfl, rfl, .ref D, rfl, _, rfl, ((g + i : Nat) : Int), 1, rfl, rfl, D, _, ((g + i + 1 : Nat) : Int), g + i + 1, rfl, rfl, upd_same, ixN_nat (by rw [LV_len]; omega), ?_⟩
        rw [LV_ad, upd_upd]
        exact ⟨_, rfl, p1.mut hD, upd_same⟩
      · obtain ⟨y8, rfl, p1, p2⟩ := p
        rw [show ((k : Int) - (g : Int)).toNat = k - g by omega] at p2
        refine ⟨.ref D, rfl, _, rfl, D, _, _, _, rfl, rfl, .of p2, LV_at (i := k) (by omega), _, _, rfl, rfl, .ref D, rfl, _, rfl, D, _, (k : Nat), k, rfl, rfl, p2, ixN_nat (by rw [LV_len]; omega), ?_⟩
        rw [LV_sub1]
        refine ⟨.ref D, rfl, D, _, rfl, .inl ⟨.of upd_same, fin _ _ (p1.mut hD) upd_same fun j _ => ?_⟩⟩
        unfold pt
        rw [if_pos hlt]
  · have hsk : s = k := by
      have : ¬ ((s : Int) < (k : Int)) := fun z => e1 (decide_eq_true z)
      omega
    refine ⟨.ref D, rfl, D, _, rfl, .inl ⟨.of upd_same, fin _ _ s2 upd_same fun j _ => ?_⟩⟩
    unfold pt
    rw [if_neg (by omega)]
/-! ### one_taken -/
def ChsOk (T : Nat) (rs : List (List (Nat × Nat))) : Prop := rs.length = T + 1 ∧ ∀ k, k ≤ T → ∀ p ∈ rs.getD k [], ChOk k p
theorem rs_get {T k : Nat} {rs : List (List (Nat × Nat))} (h : rs.length = T + 1) (hk : k ≤ T) : rs[k]? = some (rs.getD k []) := by
  rw [List.getD_eq_getElem?_getD, List.getElem?_eq_getElem (by omega)]; rfl
theorem oneT_cons {u x : Fn} {k : Nat} {p : Nat × Nat} {r : List (Nat × Nat)} : oneT u x k (p :: r) = if 0 < x p.1 then some (pt u x p.1 p.2 k) else oneT u x k r := rfl
def p_one_taken : Sp := sp4 fun a b c d H Q _ => ∃ T u rs x k, T ≤ 3 ∧ UB T u ∧ RowF H a T u ∧ RuF H b rs ∧ ChsOk T rs ∧ RowF H c (T + 1) x ∧ d = .int (k : Nat) ∧ k ≤ T ∧ ∀ v H', Same H H' → OptF H' v (T + 1) (oneT u x k (rs.getD k [])) → Q v H'
theorem d_one_taken (W : Wr K mg) : Df P w K mg base CX0 2 "one_taken" p_one_taken := by
  have D_piece_taken : Df P w K mg base CX0 1 "piece_taken" p_piece_taken := d_piece_taken W
  refine df_of (W.defs.get (i := 16) rfl) sc_one_taken (fun _ _ _ _ _ _ us hl => match us, hl with | [_, _, _, _], _ => rfl) (len4 rfl) fun cdv A outer s0 H vs Q fA E hr h => ?_
  obtain ⟨a, b, c, d, rfl, T, u, rs, x, k, hT, hu, ha, ⟨b, ws, rfl, hb, hbl⟩, hok, ⟨c, rfl, hc⟩, rfl, hk, q⟩ := inv4 h
  refine ⟨_, (pss_cons (ps_for PassesOwn.never rfl (pi_tup (pe_ix ix_tup (pv 1) (pv 3) (fun _ _ => rfl))) (pg_tup rfl (pgs_cons (pg_name (i := 4) sc_one_taken.nd rfl (.inl rfl)) (pgs_cons (pg_name (i := 5) sc_one_taken.nd rfl (.inl rfl)) pgs_nil)))
        (pss_one (ps_if (pt_cmpR op_gt (pe_ix ix_tup (pv 2) (pv 4) (fun _ _ => rfl)) pe_int (nomark _)) (pss_one (ps_ret (pe_df D_piece_taken hr (by decide) (by rfl) pass0 (pa_cons (pv 0) (pa_cons (pv 2) (pa_cons (pv 4) (pa_cons (pv 5) (pa_cons (pv 3) pa_nil)))))))) pss_nil)))
      (pss_one (ps_ret pe_non))), ?_⟩
  obtain ⟨w2, e2, b2, ws2, rfl, hb2, hl2⟩ := hbl.2 k _ (rs_get hok.1 hk)
  have chs := hok.2 k hk
  generalize rs.getD k [] = cs at *
  refine ⟨.ref b, rfl, _, rfl, b, _, _, _, rfl, rfl, .of hb, atI_nat e2, b2, rfl, ⟨_, .of hb2⟩, ?_⟩
  refine for_it (walk_tup (xs := ws2)) (fun i σ H' => ∃ y4 y5, σ = [some a, some (.ref b), some (.ref c), some (.int (k : Nat)), y4, y5] ∧ H' = H ∧ oneT u x k cs = oneT u x k (cs.drop i)) ⟨none, none, rfl, rfl, by rw [List.drop_zero]⟩ (fun i σ H' _ ⟨_, _, _, e, _⟩ => by rw [e]; exact .of hb2) (fun i v σ H1 H2 hi p y => ?_) (fun σ H' p => ?_)
  · rw [hl2.1] at hi
    obtain ⟨y4, y5, rfl, rfl, p3⟩ := p
    obtain ⟨rfl, e1⟩ := y
    obtain ⟨v2, q1, b3, rfl, hb3⟩ := hl2.2 i _ (List.getElem?_eq_getElem hi)
    obtain rfl : v = .ref b3 := Option.some.inj (e1.symm.trans q1)
    have hch : ChOk k cs[i] := chs _ (List.getElem_mem hi)
    rw [List.drop_eq_getElem_cons hi, oneT_cons] at p3
    refine ⟨b3, _, rfl, .of hb3, rfl, _, _, rfl, _, _, rfl, rfl, ?_⟩
    refine ⟨.ref c, rfl, _, rfl, c, _, _, _, rfl, rfl, .of hc, LV_at (i := cs[i].1) (by have := hch.le; omega), _, _, rfl, rfl, _, rfl, ite2 (fun e3 => ?_) (fun e3 => ?_)⟩
    · rw [if_pos (of_decide_eq_true e3)] at p3
      refine ⟨a, rfl, .ref c, rfl, _, rfl, _, rfl, _, rfl, T, u, x, cs[i].1, cs[i].2, k, hT, hu, ha, ⟨c, rfl, hc⟩, rfl, rfl, rfl, hk, hch, fun v3 H3 s3 r3 => q _ _ s3 ?_⟩
      rw [p3]
      exact r3
    · rw [if_neg (fun z => e3 (decide_eq_true z))] at p3
      exact ⟨_, _, rfl, rfl, p3⟩
  · obtain ⟨y4, y5, rfl, rfl, p3⟩ := p
    refine q _ _ (Same.refl _) ?_
    rw [p3, hl2.1, List.drop_length]
    rfl
/-! ### taken_so -/
def takeN (step : Fn → Option Fn) : Nat → Fn → Option Fn
  | 0, x => some x
  | n + 1, x => (step x).bind (takeN step n)
def takeFrom (u : Fn) (ρ : Nat → List (Nat × Nat)) (o : Fn) : Nat → Nat → Fn → Option Fn
  | _, 0, x => some x
  | k, m + 1, x => (takeN (fun y => oneT u y k (ρ k)) (o k).toNat x).bind (takeFrom u ρ o (k + 1) m)
/-- an order by a rule -/
def takenF (u : Fn) (T : Nat) (ρ : Nat → List (Nat × Nat)) (x o : Fn) : Option Fn := takeFrom u ρ o 0 (T + 1) x
def p_taken_so : Sp := sp4 fun a b c d H Q _ => ∃ T u rs x o, T ≤ 3 ∧ UB T u ∧ RowF H a T u ∧ RuF H b rs ∧ ChsOk T rs ∧ RowF H c (T + 1) x ∧ RowF H d (T + 1) o ∧ (∀ i, i ≤ T → 0 ≤ o i ∧ o i < 2 ^ 60) ∧ ∀ v H', Same H H' → OptF H' v (T + 1) (takenF u T (fun k => rs.getD k []) x o) → Q v H'
theorem d_taken_so (W : Wr K mg) : Df P w K mg base CX0 3 "taken_so" p_taken_so := by
  have D_one_taken : Df P w K mg base CX0 2 "one_taken" p_one_taken := d_one_taken W
  refine df_of (W.defs.get (i := 17) rfl) sc_taken_so (fun _ _ _ _ _ _ us hl => match us, hl with | [_, _, _, _], _ => rfl) (len4 rfl) fun cdv A outer s0 H vs Q fA E hr h => ?_
  obtain ⟨a, b, c, d, rfl, T, u, rs, x, o, hT, hu, ha, hb, hok, hc, ⟨d, rfl, hd⟩, ho, q⟩ := inv4 h
  refine ⟨_, (pss_cons (ps_set (i := 4) sc_taken_so.nd rfl (.inl rfl) (pv 2))
      (pss_cons (ps_for PassesOwn.never rfl (pi_enumT (by rfl) W.b_enumerate (pa_cons (pv 3) pa_nil)) (pg_tup rfl (pgs_cons (pg_name (i := 5) sc_taken_so.nd rfl (.inl rfl)) (pgs_cons (pg_name (i := 6) sc_taken_so.nd rfl (.inl rfl)) pgs_nil)))
        (pss_one (ps_for PassesOwn.never rfl (pi_range1 (by rfl) W.b_range (pa_cons (pv 6) pa_nil)) (pg_name (i := 7) sc_taken_so.nd rfl (.inl rfl))
        (pss_cons (ps_set (i := 4) sc_taken_so.nd rfl (.inl rfl) (pe_df D_one_taken hr (by decide) (by rfl) pass0 (pa_cons (pv 0) (pa_cons (pv 1) (pa_cons (pv 4) (pa_cons (pv 5) pa_nil))))))
      (pss_one (ps_if (pt_cmpR op_isN (pv 4) pe_non (nomark _)) (pss_one (ps_ret pe_non)) pss_nil))))))
      (pss_one (ps_ret (pv 4))))), ?_⟩
  refine ⟨c, rfl, .ref d, rfl, d, _, rfl, .of hd, ?_⟩
  refine for_it (walk_enumT (xs := LV (T + 1) o)) (fun i σ H' => ∃ r y5 y6 y7 z, σ = [some a, some b, some c, some (.ref d), some r, y5, y6, y7] ∧ Same H H' ∧ RowF H' r (T + 1) z ∧ i ≤ T + 1 ∧ takenF u T (fun k => rs.getD k []) x o = takeFrom u (fun k => rs.getD k []) o i (T + 1 - i) z)
    ⟨c, none, none, none, x, rfl, Same.refl H, hc, Nat.zero_le _, rfl⟩ (fun i σ H' _ p => by obtain ⟨_, _, _, _, _, _, e, _⟩ := p; exact .of (e _ _ hd)) (fun i v σ H1 H2 hi p y => ?_) (fun σ H' p => ?_)
  · rw [LV_len] at hi
    obtain ⟨r, y5, y6, y7, z, rfl, p1, p2, p3, p4⟩ := p
    obtain ⟨T', x1, x2, rfl, nT, rfl, e1, e2⟩ := y
    obtain rfl : V.int (i : Nat) = x1 := Option.some.inj e1
    obtain rfl : x2 = .int (o i) := Option.some.inj (e2.symm.trans (LV_get hi))
    have sN := p1.trans (same_new (o := .tup [.int (i : Nat), .int (o i)]) nT)
    refine ⟨T', _, rfl, .of upd_same, rfl, _, _, rfl, _, _, rfl, rfl, ?_⟩
    have hoi := ho i (by omega)
    refine ⟨_, rfl, o i, rfl, by omega, by omega, ?_⟩
    obtain ⟨m, hm⟩ : ∃ m, T + 1 - i = m + 1 := ⟨T - i, by omega⟩
    rw [hm] at p4
    replace p4 : takenF u T (fun k => rs.getD k []) x o = (takeN (fun y => oneT u y i (rs.getD i [])) (o i).toNat z).bind (takeFrom u (fun k => rs.getD k []) o (i + 1) m) := p4
    refine for_it (walk_range) (fun j σ H' => ∃ r y7 z2, σ = [some a, some b, some c, some (.ref d), some r, some (.int (i : Nat)), some (.int (o i)), y7] ∧ Same H H' ∧ RowF H' r (T + 1) z2 ∧ takenF u T (fun k => rs.getD k []) x o = (takeN (fun y => oneT u y i (rs.getD i [])) ((o i).toNat - j) z2).bind (takeFrom u (fun k => rs.getD k []) o (i + 1) m))
      ⟨r, y7, z, rfl, sN, p2.tx (same_new nT).tx, by rw [Nat.sub_zero]; exact p4⟩ (fun _ _ _ _ _ => trivial) (fun j v σ H3 H4 hj p y => ?_) (fun σ H' p => ?_)
    · obtain ⟨r2, y7, z2, rfl, r1, r3, r4⟩ := p
      obtain ⟨rfl, e3⟩ := y
      subst e3
      obtain ⟨m2, hm2⟩ : ∃ m2, (o i).toNat - j = m2 + 1 := ⟨(o i).toNat - j - 1, by omega⟩
      have hm3 : (o i).toNat - (j + 1) = m2 := by omega
      rw [hm2] at r4
      replace r4 : takenF u T (fun k => rs.getD k []) x o = ((oneT u z2 i (rs.getD i [])).bind (takeN (fun y => oneT u y i (rs.getD i [])) m2)).bind (takeFrom u (fun k => rs.getD k []) o (i + 1) m) := r4
      refine ⟨a, rfl, b, rfl, r2, rfl, _, rfl, T, u, rs, z2, i, hT, hu, ha.tx r1.tx, hb.tx r1.tx, hok, r3, rfl, by omega, fun v3 H3 s3 q3 => ?_⟩
      cases hst : oneT u z2 i (rs.getD i []) with
      | none =>
        rw [hst] at q3 r4
        obtain rfl : v3 = .non := q3
        refine ⟨.non, rfl, rfl, _, rfl, q _ _ (r1.trans s3) ?_⟩
        rw [r4]
        rfl
      | some z3 =>
        rw [hst] at q3 r4
        obtain ⟨c3, rfl, h3⟩ := q3
        refine ⟨.ref c3, rfl, rfl, _, rfl, .ref c3, _, z3, rfl, r1.trans s3, ⟨c3, rfl, h3⟩, ?_⟩
        rw [hm3]
        exact r4
    · obtain ⟨r2, y7, z2, rfl, r1, r3, r4⟩ := p
      rw [Nat.sub_self] at r4
      refine ⟨r2, _, _, y7, z2, rfl, r1, r3, by omega, ?_⟩
      rw [show T + 1 - (i + 1) = m by omega]
      exact r4
  · obtain ⟨r, y5, y6, y7, z, rfl, p1, p2, p3, p4⟩ := p
    rw [LV_len, Nat.sub_self] at p4
    refine ⟨r, rfl, q _ _ p1 ?_⟩
    rw [p4]
    exact p2
end
end K21
end
section
set_option maxRecDepth 100000
set_option maxHeartbeats 4000000
/-! K21F: rules checked, the best rule, runs of rules. -/
namespace K21
open PySem PySem.Spec PyProof.Rows L2
theorem eqV_int (i j : Int) : eqV (.int i) (.int j) = (i == j) := rfl
theorem inV_ints {x : Int} {ns : List Int} : inV (.int x) (ns.map V.int) = decide (x ∈ ns) := by
  unfold inV
  induction ns with
  | nil => rfl
  | cons n r ih =>
    rw [List.map_cons, List.any_cons, ih, eqV_int]
    by_cases h : n = x
    · subst h; simp
    · have h1 : (n == x) = false := beq_eq_false_iff_ne.mpr h
      have h2 : ¬ x = n := fun z => h z.symm
      rw [h1, Bool.false_or]
      simp [h2]
theorem flat_ints (ns : List Int) : (ns.map V.int).all flatV = true := by
  rw [List.all_map]
  exact List.all_eq_true.mpr fun _ _ => rfl
theorem desc_len (k : Nat) : ∀ m, (desc k m).length = m + 1
  | 0 => rfl
  | m + 1 => by
    show (desc k m).length + 1 = m + 1 + 1
    rw [desc_len k m]
theorem desc_get {k : Nat} : ∀ {m i : Nat}, i ≤ m → (desc k m)[i]? = some (m - i, min (m - i + 1) k)
  | 0, i, h => by
    have : i = 0 := by omega
    subst this; rfl
  | m + 1, 0, _ => rfl
  | m + 1, i + 1, h => by
    show (desc k m)[i]? = _
    rw [desc_get (by omega), show m + 1 - (i + 1) = m - i by omega]
theorem bestC_get {k i : Nat} (h : i ≤ k) : (bestC k)[i]? = some (k - i, min (k - i + 1) k) := desc_get h
theorem bestC_len (k : Nat) : (bestC k).length = k + 1 := desc_len k k
def bestL (T : Nat) : List (List (Nat × Nat)) := (List.range (T + 1)).map bestC
theorem bestL_len (T : Nat) : (bestL T).length = T + 1 := by unfold bestL; rw [List.length_map, List.length_range]
theorem bestL_get {T k : Nat} (h : k ≤ T) : (bestL T)[k]? = some (bestC k) := by
  unfold bestL
  rw [List.getElem?_map, List.getElem?_range (by omega)]; rfl
theorem nodup_at {l : List Nat} {i j x : Nat} (h : l.Nodup) (a : l[i]? = some x) (b : l[j]? = some x) : i = j := by
  obtain ⟨h1, e1⟩ := List.getElem?_eq_some_iff.mp a
  obtain ⟨h2, e2⟩ := List.getElem?_eq_some_iff.mp b
  exact (List.getElem_inj h).mp (e1.trans e2.symm)
theorem take_snoc {α : Type} {l : List α} {i : Nat} {a : α} (h : l[i]? = some a) : l.take (i + 1) = l.take i ++ [a] := by
  rw [List.take_add_one, h]; rfl
theorem bestC_ok {k : Nat} {p : Nat × Nat} (h : p ∈ bestC k) : ChOk k p := by
  obtain ⟨i, hi⟩ := List.mem_iff_getElem?.mp h
  have hl : i < k + 1 := by
    have := (List.getElem?_eq_some_iff.mp hi).1
    rw [bestC_len] at this
    exact this
  rw [bestC_get (by omega)] at hi
  have e := Option.some.inj hi
  subst e
  exact ⟨by show k - i ≤ k; omega, by show min (k - i + 1) k ≤ k; omega, fun z => by replace z : k - i < k := z; show k - i < min (k - i + 1) k; omega, fun z => by replace z : k - i = k := z; show min (k - i + 1) k = k; omega⟩
theorem getD_of {α : Type} {l : List (List α)} {k : Nat} {a : List α} (h : l[k]? = some a) : l.getD k [] = a := by
  rw [List.getD_eq_getElem?_getD, h]; rfl
theorem bestL_ok (T : Nat) : ChsOk T (bestL T) := ⟨bestL_len T, fun k hk p hp => by rw [getD_of (bestL_get hk)] at hp; exact bestC_ok hp⟩
theorem catA_read {K : PySem.W.Frag} {H : Hp} {a b : Addr} {xs ys : List V} {Q : VK} (ha : H a = some (.tup xs)) (hb : H b = some (.tup ys)) (hz : xs.length + ys.length ≤ sizeLine)
    (q : ∀ c H', Same H H' → H' c = some (.tup (xs ++ ys)) → Q (.ref c) H') : rCatA K (.ref a) (.ref b) H Q := by
  refine ⟨a, b, xs, ys, rfl, rfl, .of ha, .of hb, hz, fun e => ?_, fun _ e => ?_, fun _ _ p hp => q p _ (same_new hp) upd_same⟩
  · subst e
    exact q b H (Same.refl H) hb
  · subst e
    exact q a H (Same.refl H) (by rw [List.append_nil]; exact ha)
section
variable {P : Program} {w : World} {K : PySem.W.Frag} {mg : Str → Option Value} {base : Heap} {Y CU CR : Addr}
/-! ### is_choice, need_rule -/
def p_is_choice : Sp := sp3 fun a b c H Q _ => ∃ (k : Nat) (p : Nat × Nat) (ms : List Int) (l : Addr), a = .int (k : Nat) ∧ PairR H b p ∧ c = .ref l ∧ H l = some (.lst (ms.map V.int)) ∧ ChOk k p ∧ ((p.1 : Nat) : Int) ∉ ms ∧ Q (.bl true) H
theorem d_is_choice (W : Wr K mg) : Df P w K mg base CX0 2 "is_choice" p_is_choice := by
  have D_is_from : Df P w K mg base CX0 1 "is_from" pIsFrom := d_is_from W
  refine df_of (W.defs.get (i := 11) rfl) sc_is_choice (fun _ _ _ _ _ _ us hl => match us, hl with | [_, _, _], _ => rfl) (len3 rfl) fun cdv A outer s0 H vs Q fA E hr h => ?_
  obtain ⟨a, b, c, rfl, k, ⟨s, g⟩, ms, l, rfl, ⟨b, rfl, hb⟩, rfl, hl, hc, hn, q⟩ := inv3 h
  replace hn : ((s : Nat) : Int) ∉ ms := hn
  have h1 := hc.le
  have h2 := hc.le2
  have h3 := hc.lt
  have h4 := hc.eq
  replace h1 : s ≤ k := h1
  replace h2 : g ≤ k := h2
  replace h3 : s < k → s < g := h3
  replace h4 : s = k → g = k := h4
  refine ⟨_, (pss_cons (ps_if (PW.pt (pw_or (pt_not (pt_val (pe_callB call_isi (by rfl) W.b_isinstance (by decide +kernel) (pa_cons (pv 1) (pa_cons (pe_bltn (v := .ty "tuple") (by rfl) W.b_tuple (by decide +kernel) rfl) pa_nil))))) (pw_or (pt_cmpR op_ne (pe_callB call_len_seq (by rfl) W.b_len (by decide +kernel) (pa_cons (pv 1) pa_nil)) pe_int (nomark _)) (pw_or (pt_not (pt_val (pe_df D_is_from hr (by decide) (by rfl) pass0 (pa_cons (pe_ix ix_tup (pv 1) pe_int (fun _ _ => rfl)) (pa_cons pe_int (pa_cons (pv 0) pa_nil)))))) (pw_or1 (pt_cmpR op_in_seq (pe_ix ix_tup (pv 1) pe_int (fun _ _ => rfl)) (pv 2) (by rfl))))))) (pss_one (ps_ret pe_bl)) pss_nil)
      (pss_one (ps_ret (pe_df D_is_from hr (by decide) (by rfl) pass0 (pa_cons (pe_ix ix_tup (pv 1) pe_int (fun _ _ => rfl)) (pa_cons (pe_ifExp (pt_cmpR op_lt (pe_ix ix_tup (pv 1) pe_int (fun _ _ => rfl)) (pv 0) (nomark _)) (pe_op op_add (pe_ix ix_tup (pv 1) pe_int (fun _ _ => rfl)) pe_int) (pv 0)) (pa_cons (pv 0) pa_nil))))))), ?_⟩
  refine ⟨.ref b, rfl, .ref b, .ty "tuple", .type "tuple", .type "tuple", true, rfl, .ty _, .base (.tup hb), kit_ty (by decide +kernel), true, rfl, ?_⟩
  refine ⟨.ref b, rfl, b, _, rfl, .inr (.of hb), rfl, _, rfl, ?_⟩
  refine ⟨.ref b, rfl, b, _, 0, _, rfl, rfl, .of hb, atI_nat (j := 0) rfl, _, rfl, (s : Nat), 0, (k : Nat), rfl, rfl, rfl, _, rfl, ?_⟩
  rw [decide_eq_true (show (0 : Int) ≤ (s : Nat) by omega), decide_eq_true (show ((s : Nat) : Int) ≤ (k : Nat) by omega)]
  refine ⟨.ref b, rfl, b, _, 0, _, rfl, rfl, .of hb, atI_nat (j := 0) rfl, .ref l, rfl, l, _, rfl, .inl (.of hl), rfl, flat_ints ms, ?_⟩
  rw [if_neg Bool.false_ne_true, inV_ints, decide_eq_false hn]
  refine ⟨_, rfl, ?_⟩
  refine ⟨.ref b, rfl, b, _, 1, _, rfl, rfl, .of hb, atI_nat (j := 1) rfl, ?_⟩
  refine ⟨.ref b, rfl, b, _, 0, _, rfl, rfl, .of hb, atI_nat (j := 0) rfl, _, rfl, _, _, rfl, rfl, _, rfl, ite2 (fun e => ?_) (fun e => ?_)⟩
  · have e1 := of_decide_eq_true e
    refine ⟨.ref b, rfl, b, _, 0, _, rfl, rfl, .of hb, atI_nat (j := 0) rfl, _, _, rfl, rfl, _, rfl, (g : Nat), (s : Nat) + 1, (k : Nat), rfl, rfl, rfl, ?_⟩
    rw [decide_eq_true (show ((s : Nat) : Int) + 1 ≤ (g : Nat) by omega), decide_eq_true (show ((g : Nat) : Int) ≤ (k : Nat) by omega)]
    exact q
  · have e1 : ¬ ((s : Nat) : Int) < (k : Nat) := fun z => e (decide_eq_true z)
    refine ⟨_, rfl, _, rfl, (g : Nat), (k : Nat), (k : Nat), rfl, rfl, rfl, ?_⟩
    rw [decide_eq_true (show ((k : Nat) : Int) ≤ (g : Nat) by omega), decide_eq_true (show ((g : Nat) : Int) ≤ (k : Nat) by omega)]
    exact q
/-- the choices of unit k are a rule's -/
structure CsOk (k : Nat) (cs : List (Nat × Nat)) : Prop where
  len : cs.length = k + 1
  nd : (cs.map (·.1)).Nodup
  ok : ∀ p ∈ cs, ChOk k p
/-- an error whose field is a new tuple -/
def ExnP (C : Addr) (fld : Str) (vs : List V) (H : Hp) (E : XK) : Prop := ∀ (d p : Addr) (H' : Hp), Same H H' → H d = none → H' d = some (.xd [(fld, .ref p)]) → H' p = some (.tup vs) → E (.ref C) (some d) H'
theorem ExnP.at {C : Addr} {fld : Str} {vs : List V} {H H1 : Hp} {E : XK} (q : ExnP C fld vs H E) (s : Same H H1) {p : Addr} (hp : H1 p = none) : Exn C fld (.ref p) (upd H1 p (.tup vs)) E := fun d H' s2 hd e =>
  q d p H' ((s.trans (same_new hp)).trans s2) (s.free ((same_new hp).free hd)) e (s2 _ _ upd_same)
def p_need_rule (CU CR : Addr) : Sp := sp2 fun a b H Q E => ∃ T u, T ≤ 3 ∧ RowF H a T u ∧
  ((T = 1 ∧ u 0 = 1 ∧ Exn CU "value" a H E) ∨ (UB T u ∧ b = .non ∧ ExnP CR "place" [] H E) ∨
   (UB T u ∧ ∃ (bA : Addr) (vs : List V) (m : Nat) (rs : List (List (Nat × Nat))), b = .ref bA ∧ H bA = some (.tup vs) ∧ vs.length = T + 1 ∧ (∀ k : Nat, k < m → ∃ w cs, vs[k]? = some w ∧ rs[k]? = some cs ∧ ChF H w cs ∧ CsOk k cs) ∧
     ((m = T + 1 ∧ ∀ H', Same H H' → Q b H') ∨ (m ≤ T ∧ vs[m]? = some .non ∧ ExnP CR "place" [.int (m : Nat)] H E))))
theorem d_need_rule (W : Wr K mg) (y : Yd K mg Y) (cU : ErU K mg CU) (C_R : ErR K mg CR) : Df P w K mg base (L2.CX P w) 4 "need_rule" (p_need_rule CU CR) := by
  have D_need_units : Df P w K mg base (L2.CX P w) 3 "need_units" (p_need_units CU) := d_need_units W y cU
  have D_is_choice : Df P w K mg base CX0 2 "is_choice" p_is_choice := d_is_choice W
  obtain ⟨fI, fdI, ok_R, bI_R, iC_R, tI_R⟩ := okR (P := P) (w := w) (base := base) y C_R
  refine dfX_of (W.defs.get (i := 12) rfl) sc_need_rule (fun _ _ _ _ _ _ us hl => match us, hl with | [_, _], _ => rfl) (len2 rfl) fun cdv A outer s0 H vs0 Q fA E hr h => ?_
  obtain ⟨a, b, rfl, T, u, hT, ha, q⟩ := inv2 h
  refine ⟨_, (pss_cons (ps_expr (pe_dfE (E := E) D_need_units hr (by decide) (by rfl) (passes_call (takes_of rfl rfl rfl rfl) (fun _ _ _ _ h => h)) (pa_cons (pv 0) pa_nil)))
      (pss_cons (ps_if (PW.pt (pw_or (pt_not (pt_val (pe_callB call_isi (by rfl) W.b_isinstance (by decide +kernel) (pa_cons (pv 1) (pa_cons (pe_bltn (v := .ty "tuple") (by rfl) W.b_tuple (by decide +kernel) rfl) pa_nil))))) (pw_or1 (pt_cmpR op_ne (pe_callB call_len_seq (by rfl) W.b_len (by decide +kernel) (pa_cons (pv 1) pa_nil)) (pe_op op_add (pe_callB call_len_seq (by rfl) W.b_len (by decide +kernel) (pa_cons (pv 0) pa_nil)) pe_int) (nomark _))))) (pss_one (ps_raise rfl (takes_of rfl rfl rfl rfl) (pmk_oex C_R.1.ox iC_R tI_R ok_R (hr.mono (by decide)) bI_R .nil pass0 (by rfl) C_R.1.gC (pa_cons (pe_tup pa_nil) pa_nil)))) pss_nil)
      (pss_cons (ps_for (passes_of rfl) rfl (pi_enumT (by rfl) W.b_enumerate (pa_cons (pv 1) pa_nil)) (pg_tup rfl (pgs_cons (pg_name (i := 2) sc_need_rule.nd rfl (.inl rfl)) (pgs_cons (pg_name (i := 3) sc_need_rule.nd rfl (.inl rfl)) pgs_nil)))
        (pss_cons (ps_if (PW.pt (pw_or (pt_not (pt_val (pe_callB call_isi (by rfl) W.b_isinstance (by decide +kernel) (pa_cons (pv 3) (pa_cons (pe_bltn (v := .ty "tuple") (by rfl) W.b_tuple (by decide +kernel) rfl) pa_nil))))) (pw_or1 (pt_cmpR op_ne (pe_callB call_len_seq (by rfl) W.b_len (by decide +kernel) (pa_cons (pv 3) pa_nil)) (pe_op op_add (pv 2) pe_int) (nomark _))))) (pss_one (ps_raise rfl (takes_of rfl rfl rfl rfl) (pmk_oex C_R.1.ox iC_R tI_R ok_R (hr.mono (by decide)) bI_R .nil pass0 (by rfl) C_R.1.gC (pa_cons (pe_tup (pa_cons (pv 2) pa_nil)) pa_nil)))) pss_nil)
      (pss_cons (ps_set (i := 4) sc_need_rule.nd rfl (.inl rfl) (pe_lst pa_nil))
      (pss_one (ps_for (passes_of rfl) rfl (pi_enumT (by rfl) W.b_enumerate (pa_cons (pv 3) pa_nil)) (pg_tup rfl (pgs_cons (pg_name (i := 5) sc_need_rule.nd rfl (.inl rfl)) (pgs_cons (pg_name (i := 6) sc_need_rule.nd rfl (.inl rfl)) pgs_nil)))
        (pss_cons (ps_if (pt_not (pt_val (pe_df D_is_choice hr (by decide) (by rfl) pass0 (pa_cons (pv 2) (pa_cons (pv 6) (pa_cons (pv 4) pa_nil)))))) (pss_one ps_never) pss_nil)
      (pss_one (ps_expr (pe_bm PySem.F.plainAttrs_list PySem.F.slot_list_append PySem.F.type_list_append mt_append (pv 4) (pa_cons (pe_ix ix_tup (pv 6) pe_int (fun _ _ => rfl)) pa_nil))))))))))
      (pss_one (ps_ret (pv 1)))))), ?_⟩
  rcases q with ⟨h1, h2, q⟩ | ⟨hu, rfl, q⟩ | ⟨hu, bA, vs, m, rs, rfl, hb, hl, hw, q⟩
  · exact ⟨a, rfl, T, u, hT, ha, .inr ⟨h1, h2, q⟩⟩
  · refine ⟨a, rfl, T, u, hT, ha, .inl ⟨hu, .non, rfl, .non, .ty "tuple", .type "NoneType", .type "tuple", false, rfl, .ty _, .base .non, kit_ty (by decide +kernel), false, rfl, ?_⟩⟩
    refine ⟨Nat.zero_le _, fun p hp => ⟨(by show 1 ≤ 1000; decide), mkO_read (q.at (Same.refl H) hp)⟩⟩
  · refine ⟨a, rfl, T, u, hT, ha, .inl ⟨hu, .ref bA, rfl, .ref bA, .ty "tuple", .type "tuple", .type "tuple", true, rfl, .ty _, .base (.tup hb), kit_ty (by decide +kernel), true, rfl, ?_⟩⟩
    obtain ⟨aA, rfl, haA⟩ := ha
    refine ⟨.ref bA, rfl, bA, _, rfl, .inr (.of hb), .ref aA, rfl, aA, _, rfl, .inr (.of haA), _, _, rfl, rfl, rfl, _, rfl, ?_⟩
    rw [hl, LV_len, decide_eq_true (show V.int ((T + 1 : Nat) : Int) = V.int ((T : Nat) + 1) from rfl)]
    refine ⟨.ref bA, rfl, bA, vs, rfl, .of hb, ?_⟩
    have hm : m ≤ T + 1 := by rcases q with ⟨z, _⟩ | ⟨z, _⟩ <;> omega
    refine for_it (walk_enumT (xs := vs)) (fun i σ H' => ∃ y2 y3 y4 y5 y6, σ = [some (.ref aA), some (.ref bA), y2, y3, y4, y5, y6] ∧ Same H H' ∧ i ≤ m) ⟨none, none, none, none, none, rfl, Same.refl H, Nat.zero_le _⟩ (fun i σ H' _ p => by obtain ⟨_, _, _, _, _, _, e, _⟩ := p; exact .of (e _ _ hb)) (fun i v σ H1 H2 hi p y => ?_) (fun σ H' p => ?_)
    · rw [hl] at hi
      obtain ⟨y2, y3, y4, y5, y6, rfl, p1, p2⟩ := p
      obtain ⟨T', x1, x2, rfl, nT, rfl, e1, e2⟩ := y
      obtain rfl : V.int (i : Nat) = x1 := Option.some.inj e1
      have sN := p1.trans (same_new (o := .tup [.int (i : Nat), x2]) nT)
      refine ⟨T', _, rfl, .of upd_same, rfl, _, _, rfl, _, _, rfl, rfl, ?_⟩
      by_cases him : i < m
      · obtain ⟨w2, cs, q1, q2, q3, q4⟩ := hw i him
        obtain rfl : x2 = w2 := Option.some.inj (e2.symm.trans q1)
        obtain ⟨c2, ws2, rfl, hc2, hl2⟩ := ChF.tx sN.tx q3
        refine ⟨.ref c2, rfl, .ref c2, .ty "tuple", .type "tuple", .type "tuple", true, rfl, .ty _, .base (.tup hc2), kit_ty (by decide +kernel), true, rfl, ?_⟩
        refine ⟨.ref c2, rfl, c2, _, rfl, .inr (.of hc2), _, rfl, _, _, rfl, rfl, rfl, _, rfl, ?_⟩
        rw [hl2.1, q4.len, decide_eq_true (show V.int ((i + 1 : Nat) : Int) = V.int ((i : Nat) + 1) from rfl)]
        refine ⟨Nat.zero_le _, fun D hD => ?_⟩
        have sD := sN.trans (same_new (o := .lst []) hD)
        have nD : H D = none := sN.free hD
        have hc2D : (upd (upd H1 T' (.tup [.int (i : Nat), .ref c2])) D (.lst [])) c2 = some (.tup ws2) := (same_new hD) _ _ hc2
        refine ⟨.ref c2, rfl, c2, ws2, rfl, .of hc2D, ?_⟩
        refine for_it (walk_enumT (xs := ws2)) (fun j σ H' => ∃ y5 y6, σ = [some (.ref aA), some (.ref bA), some (.int (i : Nat)), some (.ref c2), some (.ref D), y5, y6] ∧ Same H H' ∧ Tx (upd (upd H1 T' (.tup [.int (i : Nat), .ref c2])) D (.lst [])) H' ∧ H' D = some (.lst (((cs.take j).map fun p => ((p.1 : Nat) : Int)).map V.int)))
          ⟨y5, y6, rfl, sD, Tx.refl _, upd_same⟩ (fun j σ H' _ p => by obtain ⟨_, _, _, _, e, _⟩ := p; exact .of (e _ _ hc2D)) (fun j v σ H3 H4 hj p y => ?_) (fun σ H' p => ?_)
        · rw [hl2.1] at hj
          obtain ⟨z5, z6, rfl, r1, r2, r3⟩ := p
          obtain ⟨T2, x3, x4, rfl, nT2, rfl, f1, f2⟩ := y
          obtain ⟨v4, g1, g2⟩ := hl2.2 j _ (List.getElem?_eq_getElem hj)
          obtain rfl : x4 = v4 := Option.some.inj (f2.symm.trans g1)
          obtain rfl : V.int (j : Nat) = x3 := Option.some.inj f1
          have hDT : D ≠ T2 := ne_of_none r3 nT2
          have g3 : PairR (upd H3 T2 (.tup [.int (j : Nat), x4])) x4 cs[j] := ((g2.tx (Tx.new hD)).tx r2).tx (Tx.new nT2)
          have eD := (upd_ne (o := .tup [.int (j : Nat), x4]) hDT).trans r3
          refine ⟨T2, _, rfl, .of upd_same, rfl, _, _, rfl, _, _, rfl, rfl, ?_⟩
          refine ⟨_, rfl, x4, rfl, .ref D, rfl, i, cs[j], _, D, rfl, g3, rfl, eD, q4.ok _ (List.getElem_mem hj), fun hmem => ?_, true, rfl, ?_⟩
          · obtain ⟨p', hp', ep'⟩ := List.mem_map.mp hmem
            obtain ⟨i', hi'⟩ := List.mem_iff_getElem?.mp hp'
            have hlt : i' < j := by
              have := (List.getElem?_eq_some_iff.mp hi').1
              rw [List.length_take] at this
              omega
            rw [List.getElem?_take_of_lt hlt] at hi'
            have e0 : p'.1 = cs[j].1 := by omega
            have nd := q4.nd
            have a1 : (cs.map (·.1))[i']? = some p'.1 := by rw [List.getElem?_map, hi']; rfl
            have a2 : (cs.map (·.1))[j]? = some cs[j].1 := by rw [List.getElem?_map, List.getElem?_eq_getElem hj]; rfl
            have := nodup_at nd a1 (by rw [e0]; exact a2)
            omega
          · obtain ⟨b5, rfl, hb5⟩ := g3
            refine ⟨.ref D, rfl, .inl ⟨rfl, _, .inl (.inl eD)⟩, .ref b5, rfl, b5, _, 0, _, rfl, rfl, .of hb5, atI_nat (j := 0) rfl, D, _, _, rfl, rfl, eD, by have := q4.len; rw [List.length_map, List.length_map, List.length_take]; exact lt_line (by omega), ?_⟩
            refine ⟨_, _, rfl, (r1.trans (same_new nT2)).mut nD, (r2.trans (Tx.new nT2)).trans (Tx.lst eD), ?_⟩
            rw [upd_same, take_snoc (List.getElem?_eq_getElem hj), List.map_append, List.map_append]
            rfl
        · obtain ⟨z5, z6, rfl, r1, r2, r3⟩ := p
          exact ⟨_, _, _, _, _, rfl, r1, him⟩
      · have e0 : i = m := by omega
        rcases q with ⟨z, _⟩ | ⟨hm2, hv, q⟩
        · omega
        subst e0
        obtain rfl : x2 = .non := Option.some.inj (e2.symm.trans hv)
        refine ⟨.non, rfl, .non, .ty "tuple", .type "NoneType", .type "tuple", false, rfl, .ty _, .base .non, kit_ty (by decide +kernel), false, rfl, ?_⟩
        refine ⟨_, rfl, (by show 1 ≤ sizeLine; decide), fun p hp => ⟨(by show 1 ≤ 1000; decide), mkO_read (q.at sN hp)⟩⟩
    · obtain ⟨y2, y3, y4, y5, y6, rfl, p1, p2⟩ := p
      rw [hl] at p2
      rcases q with ⟨_, q⟩ | ⟨hm2, _⟩
      · exact ⟨.ref bA, rfl, q _ p1⟩
      · omega
/-- a rule that may stand -/
structure RsOk (T : Nat) (rs : List (List (Nat × Nat))) : Prop where
  len : rs.length = T + 1
  ok : ∀ (k : Nat) (cs : List (Nat × Nat)), rs[k]? = some cs → CsOk k cs
theorem RsOk.chs {T : Nat} {rs : List (List (Nat × Nat))} (h : RsOk T rs) : ChsOk T rs := ⟨h.len, fun k hk p hp => by
  have e := rs_get h.len hk
  exact (h.ok k _ e).ok p hp⟩
theorem need_rule_ok {T : Nat} {u : Fn} {rs : List (List (Nat × Nat))} {a b : V} {H : Hp} {Q : VK} {E : XK} (hT : T ≤ 3) (hu : UB T u) (ha : RowF H a T u) (hb : RuF H b rs) (hr : RsOk T rs) (q : ∀ H', Same H H' → Q b H') : p_need_rule CU CR [a, b] H Q E := by
  obtain ⟨bA, vs, rfl, h1, h2⟩ := hb
  refine ⟨T, u, hT, ha, .inr (.inr ⟨hu, bA, vs, T + 1, rs, rfl, h1, by rw [h2.1, hr.len], fun k hk => ?_, .inl ⟨rfl, q⟩⟩)⟩
  have e := rs_get hr.len (show k ≤ T by omega)
  obtain ⟨w, q1, q2⟩ := h2.2 k _ e
  exact ⟨w, _, q1, e, q2, hr.ok k _ e⟩
theorem bestL_rs (T : Nat) : RsOk T (bestL T) := by
  refine ⟨bestL_len T, fun k cs e => ?_⟩
  have hk : k ≤ T := by
    have := (List.getElem?_eq_some_iff.mp e).1
    rw [bestL_len] at this
    omega
  rw [bestL_get hk] at e
  have e' := Option.some.inj e
  subst e'
  refine ⟨bestC_len k, ?_, fun p hp => bestC_ok hp⟩
  refine List.pairwise_iff_getElem.mpr fun i j hi hj hij z => ?_
  rw [List.length_map, bestC_len] at hj
  have a1 : ((bestC k).map (·.1))[i]? = some (k - i) := by rw [List.getElem?_map, bestC_get (by omega)]; rfl
  have a2 : ((bestC k).map (·.1))[j]? = some (k - j) := by rw [List.getElem?_map, bestC_get (by omega)]; rfl
  rw [List.getElem?_eq_getElem hi] at a1
  rw [List.getElem?_eq_getElem (by rw [List.length_map, bestC_len]; exact hj)] at a2
  have e1 := Option.some.inj a1
  have e2 := Option.some.inj a2
  rw [e1, e2] at z
  omega
/-! ### the best rule -/
def p_best : Sp := sp1 fun a H Q _ => ∃ T u, T ≤ 3 ∧ UB T u ∧ RowF H a T u ∧ ∀ v H', Same H H' → RuF H' v (bestL T) → Q v H'
theorem minN (a b : Nat) : (if ((b : Nat) : Int) < ((a : Nat) : Int) + 1 then ((b : Nat) : Int) else ((a : Nat) : Int) + 1) = ((min (a + 1) b : Nat) : Int) := by
  split <;> omega
theorem d_best_of (W : Wr K mg) : Df P w K mg base CX0 1 "best_of" p_best := by
  refine df_of (W.defs.get (i := 13) rfl) sc_best_of (fun _ _ _ _ _ _ us hl => match us, hl with | [_], _ => rfl) (len1 rfl) fun cdv A outer s0 H vs Q fA E hr h => ?_
  obtain ⟨a, rfl, T, u, hT, hu, ⟨a, rfl, ha⟩, q⟩ := inv1 h
  refine ⟨_, (pss_cons (ps_set (i := 1) sc_best_of.nd rfl (.inl rfl) (pe_lst pa_nil))
      (pss_cons (ps_for PassesOwn.never rfl (pi_range1 (by rfl) W.b_range (pa_cons (pe_op op_add (pe_callB call_len_seq (by rfl) W.b_len (by decide +kernel) (pa_cons (pv 0) pa_nil)) pe_int) pa_nil)) (pg_name (i := 2) sc_best_of.nd rfl (.inr rfl))
        (pss_one (ps_expr (pe_bm PySem.F.plainAttrs_list PySem.F.slot_list_append PySem.F.type_list_append mt_append (pv 1) (pa_cons (pe_callTy call_tuple_of (by rfl) W.b_tuple (by decide +kernel) (pa_cons (pe_lc (own := [("start", 3)]) (g := gName 3) rfl sc_best_of.nd (pi_revR (by rfl) W.b_reversed (prg_1 (by rfl) W.b_range (pe_op op_add (pv 2) pe_int))) (blkOk_by (own := [("start", 3)]) (N := ["units", "found", "unit", "start"]) (sc := defScope s_best_of) (by decide +kernel)) (fun _ _ _ _ _ => pg_name (i := 3) sc_best_of.nd rfl (Or.inl rfl)) (fun _ _ _ _ _ => pts_nil) (fun _ _ _ _ _ => (pe_tup (pa_cons (pv 3) (pa_cons (pe_callB (call_min2 rfl) (by rfl) W.b_min (by decide +kernel) (pa_cons (pe_op op_add (pv 3) pe_int) (pa_cons (pv 2) pa_nil))) pa_nil))))) pa_nil)) pa_nil)))))
      (pss_one (ps_ret (pe_callTy call_tuple_of (by rfl) W.b_tuple (by decide +kernel) (pa_cons (pv 1) pa_nil)))))), ?_⟩
  refine ⟨Nat.zero_le _, fun D hD => ?_⟩
  have s1 := same_new (o := .lst []) hD
  refine ⟨.ref a, rfl, a, _, rfl, .inr (.of (s1 _ _ ha)), _, _, rfl, rfl, _, rfl, by rw [LV_len]; omega, by rw [LV_len]; omega, ?_⟩
  rw [LV_len, show (((T : Nat) : Int) + 1).toNat = T + 1 by omega]
  refine for_it (walk_range) (fun i σ H' => ∃ y2 ws, σ = [some (.ref a), some (.ref D), y2, none] ∧ Same H H' ∧ H' D = some (.lst ws) ∧ ListR ChF H' ws ((bestL T).take i)) ⟨none, [], rfl, s1, upd_same, ListR.nil⟩ (fun _ _ _ _ _ => trivial) (fun i v σ H1 H2 hi p y => ?_) (fun σ H' p => ?_)
  · obtain ⟨y2, ws, rfl, p1, p2, p3⟩ := p
    obtain ⟨rfl, e1⟩ := y
    replace e1 : v = .int ((0 : Int) + (i : Nat)) := e1
    rw [Int.zero_add] at e1
    subst e1
    refine ⟨.ref D, rfl, .inl ⟨rfl, _, .inl (.inl p2)⟩, ?_⟩
    refine ⟨_, rfl, _, _, rfl, rfl, _, rfl, by omega, by omega, by omega, by omega, fun B hB => ?_⟩
    have nDB : D ≠ B := ne_of_none p2 hB
    refine lc_it (walk_rangeC) (fun j H' => Same H2 H' ∧ ∃ xs, H' B = some (.lst xs) ∧ ListR PairR H' xs ((bestC i).take j)) ⟨same_new hB, [], upd_same, ListR.nil⟩ (fun _ _ _ _ => trivial) (fun j x H3 H4 hj p y => ?_) (fun H' p => ?_)
    · obtain ⟨r1, xs, r2, r3⟩ := p
      obtain ⟨rfl, f1⟩ := y
      have hj' : j ≤ i := by omega
      replace f1 : x = .int ((0 : Int) + ((((i : Nat) : Int) + 1 - 0).toNat : Int) - 1 + (j : Int) * -1) := f1
      have f2 : (0 : Int) + ((((i : Nat) : Int) + 1 - 0).toNat : Int) - 1 + (j : Int) * -1 = ((i - j : Nat) : Int) := by omega
      rw [f2] at f1
      subst f1
      refine ⟨rfl, _, rfl, _, rfl, _, _, rfl, rfl, _, rfl, _, _, rfl, ?_⟩
      rw [minN]
      refine ⟨size2, fun p hp => ?_⟩
      have sP := same_new (o := .tup [.int ((i - j : Nat) : Int), .int ((min (i - j + 1) i : Nat) : Int)]) hp
      have hBp : B ≠ p := ne_of_none r2 hp
      have hl : xs.length < sizeLine := by
        rw [r3.1, List.length_take, bestC_len]
        exact lt_line (by omega)
      refine ⟨xs, (upd_ne hBp).trans r2, hl, ((r1.trans sP).mut hB), xs ++ [.ref p], upd_same, ?_⟩
      rw [take_snoc (bestC_get hj')]
      refine ListR.snoc (r3.tx fun _ _ r => (r.tx sP.tx).tx (Tx.lst ((upd_ne hBp).trans r2))) ⟨p, rfl, ?_⟩
      rw [upd_ne (Ne.symm hBp), upd_same]
    · obtain ⟨r1, xs, r2, r3⟩ := p
      rw [show (((i : Nat) : Int) + 1 - 0).toNat = i + 1 by omega, List.take_of_length_le (by rw [bestC_len]; omega)] at r3
      refine ⟨B, _, rfl, .inl ⟨.of r2, fun l hl => ?_⟩⟩
      have sL := r1.trans (same_new (o := .tup xs) hl)
      have eD := sL _ _ p2
      have hl2 : ws.length < sizeLine := by
        rw [p3.1, List.length_take, bestL_len]
        exact lt_line (by omega)
      refine ⟨D, ws, _, rfl, rfl, eD, hl2, ?_⟩
      refine ⟨_, _, rfl, (p1.trans sL).mut hD, upd_same, ?_⟩
      rw [take_snoc (bestL_get (show i ≤ T by omega))]
      have sD : Tx (upd H' l (.tup xs)) (upd (upd H' l (.tup xs)) D (.lst (ws ++ [.ref l]))) := Tx.lst eD
      refine ListR.snoc (p3.tx fun _ _ r => (r.tx sL.tx).tx sD) ⟨l, xs, rfl, sD _ _ upd_same, r3.tx fun _ _ r => (r.tx (Tx.new hl)).tx sD⟩
  · obtain ⟨y2, ws, rfl, p1, p2, p3⟩ := p
    rw [List.take_of_length_le (by rw [bestL_len]; omega)] at p3
    refine ⟨.ref D, rfl, D, _, rfl, .inl ⟨.of p2, fun l hl => q _ _ (p1.trans (same_new hl)) ⟨l, ws, rfl, upd_same, p3.tx fun _ _ r => r.tx (Tx.new hl)⟩⟩⟩
theorem d_best_rule (W : Wr K mg) (y : Yd K mg Y) (cU : ErU K mg CU) : Df P w K mg base CX0 4 "best_rule" p_best := by
  have D_need_units : Df P w K mg base (L2.CX P w) 3 "need_units" (p_need_units CU) := d_need_units W y cU
  have D_best_of : Df P w K mg base CX0 1 "best_of" p_best := d_best_of W
  refine df_of (W.defs.get (i := 14) rfl) sc_best_rule (fun _ _ _ _ _ _ us hl => match us, hl with | [_], _ => rfl) (len1 rfl) fun cdv A outer s0 H vs Q fA E hr h => ?_
  obtain ⟨a, rfl, T, u, hT, hu, ha, q⟩ := inv1 h
  refine ⟨_, (pss_cons (ps_expr (pe_df D_need_units hr (by decide) (by rfl) passL (pa_cons (pv 0) pa_nil)))
      (pss_one (ps_ret (pe_df D_best_of hr (by decide) (by rfl) pass0 (pa_cons (pv 0) pa_nil))))), ?_⟩
  exact ⟨a, rfl, T, u, hT, ha, .inl ⟨hu, a, rfl, T, u, hT, hu, ha, q⟩⟩
theorem d_law_best (W : Wr K mg) : Df P w K mg base CX0 1 "_law_best" p_best := by
  refine df_of (W.defs.get (i := 39) rfl) sc__law_best (fun _ _ _ _ _ _ us hl => match us, hl with | [_], _ => rfl) (len1 rfl) fun cdv A outer s0 H vs Q fA E hr h => ?_
  obtain ⟨a, rfl, T, u, hT, hu, ⟨a, rfl, ha⟩, q⟩ := inv1 h
  refine ⟨_, (pss_cons (ps_set (i := 1) sc__law_best.nd rfl (.inl rfl) (pe_tup pa_nil))
      (pss_cons (ps_for PassesOwn.never rfl (pi_range1 (by rfl) W.b_range (pa_cons (pe_op op_add (pe_callB call_len_seq (by rfl) W.b_len (by decide +kernel) (pa_cons (pv 0) pa_nil)) pe_int) pa_nil)) (pg_name (i := 2) sc__law_best.nd rfl (.inr rfl))
        (pss_one (ps_set (i := 1) sc__law_best.nd rfl (.inl rfl) (pe_op op_catA (pv 1) (pe_tup (pa_cons (pe_callTy call_tuple_of (by rfl) W.b_tuple (by decide +kernel) (pa_cons (pe_lc (own := [("_law_start", 3)]) (g := gName 3) rfl sc__law_best.nd (pi_range3 (by rfl) W.b_range (pa_cons (pv 2) (pa_cons (pe_un un_neg pe_int) (pa_cons (pe_un un_neg pe_int) pa_nil)))) (blkOk_by (own := [("_law_start", 3)]) (N := ["_law_units_so", "_law_found", "_law_unit", "_law_start"]) (sc := defScope s__law_best) (by decide +kernel)) (fun _ _ _ _ _ => pg_name (i := 3) sc__law_best.nd rfl (Or.inl rfl)) (fun _ _ _ _ _ => pts_nil) (fun _ _ _ _ _ => (pe_tup (pa_cons (pv 3) (pa_cons (pe_callB (call_min2 rfl) (by rfl) W.b_min (by decide +kernel) (pa_cons (pe_op op_add (pv 3) pe_int) (pa_cons (pv 2) pa_nil))) pa_nil))))) pa_nil)) pa_nil))))))
      (pss_one (ps_ret (pv 1))))), ?_⟩
  refine ⟨Nat.zero_le _, fun D0 hD => ?_⟩
  have s1 := same_new (o := .tup []) hD
  refine ⟨.ref a, rfl, a, _, rfl, .inr (.of (s1 _ _ ha)), _, _, rfl, rfl, _, rfl, by rw [LV_len]; omega, by rw [LV_len]; omega, ?_⟩
  rw [LV_len, show (((T : Nat) : Int) + 1).toNat = T + 1 by omega]
  refine for_it (walk_range) (fun i σ H' => ∃ y2 v, σ = [some (.ref a), some v, y2, none] ∧ Same H H' ∧ RuF H' v ((bestL T).take i)) ⟨none, .ref D0, rfl, s1, D0, [], rfl, upd_same, ListR.nil⟩ (fun _ _ _ _ _ => trivial) (fun i v σ H1 H2 hi p y => ?_) (fun σ H' p => ?_)
  · obtain ⟨y2, v0, rfl, p1, ⟨D, ws, rfl, p2, p3⟩⟩ := p
    obtain ⟨rfl, e1⟩ := y
    replace e1 : v = .int ((0 : Int) + (i : Nat)) := e1
    rw [Int.zero_add] at e1
    subst e1
    refine ⟨.ref D, rfl, ?_⟩
    refine ⟨_, rfl, 1, rfl, 1, rfl, _, _, _, _, rfl, RgC.neg (by omega) (by omega) (by omega) (by omega), fun B hB => ?_⟩
    refine lc_it (walk_rangeC) (fun j H' => Same H2 H' ∧ ∃ xs, H' B = some (.lst xs) ∧ ListR PairR H' xs ((bestC i).take j)) ⟨same_new hB, [], upd_same, ListR.nil⟩ (fun _ _ _ _ => trivial) (fun j x H3 H4 hj p y => ?_) (fun H' p => ?_)
    · obtain ⟨r1, xs, r2, r3⟩ := p
      obtain ⟨rfl, f1⟩ := y
      have hj' : j ≤ i := by omega
      replace f1 : x = .int (((i : Nat) : Int) + (j : Int) * -1) := f1
      have f2 : ((i : Nat) : Int) + (j : Int) * -1 = ((i - j : Nat) : Int) := by omega
      rw [f2] at f1
      subst f1
      refine ⟨rfl, _, rfl, _, rfl, _, _, rfl, rfl, _, rfl, _, _, rfl, ?_⟩
      rw [minN]
      refine ⟨size2, fun p hp => ?_⟩
      have sP := same_new (o := .tup [.int ((i - j : Nat) : Int), .int ((min (i - j + 1) i : Nat) : Int)]) hp
      have hBp : B ≠ p := ne_of_none r2 hp
      have hl : xs.length < sizeLine := by
        rw [r3.1, List.length_take, bestC_len]
        exact lt_line (by omega)
      refine ⟨xs, (upd_ne hBp).trans r2, hl, ((r1.trans sP).mut hB), xs ++ [.ref p], upd_same, ?_⟩
      rw [take_snoc (bestC_get hj')]
      refine ListR.snoc (r3.tx fun _ _ r => (r.tx sP.tx).tx (Tx.lst ((upd_ne hBp).trans r2))) ⟨p, rfl, ?_⟩
      rw [upd_ne (Ne.symm hBp), upd_same]
    · obtain ⟨r1, xs, r2, r3⟩ := p
      rw [show (((i : Nat) : Int) - -1).toNat = i + 1 by omega, List.take_of_length_le (by rw [bestC_len]; omega)] at r3
      refine ⟨B, _, rfl, .inl ⟨.of r2, fun l hl => ?_⟩⟩
      have sL := r1.trans (same_new (o := .tup xs) hl)
      refine ⟨(by show 1 ≤ sizeLine; decide), fun c hc => ?_⟩
      have sC := sL.trans (same_new (o := .tup [.ref l]) hc)
      have hl2 : ws.length + 1 ≤ sizeLine := by
        rw [p3.1, List.length_take, bestL_len]
        exact Nat.le_of_lt (lt_line (by omega))
      refine catA_read (sC _ _ p2) upd_same hl2 fun c2 H5 s5 h5 => ?_
      refine ⟨_, _, rfl, (p1.trans sC).trans s5, c2, _, rfl, h5, ?_⟩
      rw [take_snoc (bestL_get (show i ≤ T by omega))]
      have sA := (same_new (o := .tup [.ref l]) hc).trans s5
      refine ListR.snoc (p3.tx fun _ _ r => (r.tx sC.tx).tx s5.tx) ⟨l, xs, rfl, sA _ _ upd_same, r3.tx fun _ _ r => (r.tx (Tx.new hl)).tx sA.tx⟩
  · obtain ⟨y2, v0, rfl, p1, p2⟩ := p
    rw [List.take_of_length_le (by rw [bestL_len]; omega)] at p2
    exact ⟨_, rfl, q _ _ p1 p2⟩
end
end K21
end
section
set_option maxRecDepth 100000
set_option maxHeartbeats 4000000
/-! K21G: runs of rules. -/
namespace K21
open PySem PySem.Spec PyProof.Rows L2
/-- an ask of no great numbers -/
def AskOk (T : Nat) (o : Fn) : Prop := ∀ i, i ≤ T → 0 ≤ o i ∧ o i < 2 ^ 60
theorem AskOk.rb {T : Nat} {o : Fn} (h : AskOk T o) : RB (T + 1) o := fun i hi => by
  obtain ⟨h1, h2⟩ := h i (by omega)
  exact ⟨h1, by have : (2 : Int) ^ 60 ≤ 10 ^ 60 := by decide
                omega⟩
/-- the same by places told -/
theorem RowsF.at {H : Hp} {ws : List V} {n : Nat} {fs : List Fn} (hl : ws.length = fs.length) (hw : ∀ (i : Nat) (f : Fn), fs[i]? = some f → ∃ w, ws[i]? = some w ∧ RowF H w n f) {i : Nat} (hi : i < fs.length) {v : V} (e : ws[i]? = some v) : RowF H v n fs[i] := by
  obtain ⟨v2, q1, q2⟩ := hw i _ (List.getElem?_eq_getElem hi)
  obtain rfl : v = v2 := Option.some.inj (e.symm.trans q1)
  exact q2
section
variable {P : Program} {w : World} {K : PySem.W.Frag} {mg : Str → Option Value} {base : Heap} {Y CU CR CN : Addr}
theorem cr_sumK {X : Cx} {K : PySem.W.Frag} (hK : X.K = K) (hc : X.calm = true) : CallR X (.builtin "sum") (rSumT K) := by
  subst hK; exact cr_sumT hc
theorem call_isiK {X : Cx} {K : PySem.W.Frag} (hK : X.K = K) : CallR X (.builtin "isinstance") (rIsi K) := by
  subst hK; exact call_isi
/-! ### ruled_so -/

def p_ruled_so : Sp := sp4 fun a b c d H Q _ => ∃ T u rs x fs, T ≤ 3 ∧ UB T u ∧ RowF H a T u ∧ RuF H b rs ∧ ChsOk T rs ∧ RowF H c (T + 1) x ∧ RowsF H d (T + 1) fs ∧ fs.length ≤ 60 ∧ (∀ f ∈ fs, AskOk T f) ∧
  ∀ v H', Same H H' → EndF H' v (T + 1) (turnR (takenF u T (fun k => rs.getD k [])) x fs) → Q v H'

theorem d_ruled_so (W : Wr K mg) : Df P w K mg base CX0 4 "ruled_so" p_ruled_so := by
  have D_taken_so : Df P w K mg base CX0 3 "taken_so" p_taken_so := d_taken_so W
  refine df_of (W.defs.get (i := 18) rfl) sc_ruled_so (fun _ _ _ _ _ _ us hl => match us, hl with | [_, _, _, _], _ => rfl) (len4 rfl) fun cdv A outer s0 H vs Q fA E hr h => ?_
  obtain ⟨a, b, c, d, rfl, T, u, rs, x, fs, hT, hu, ha, hb, hok, hc, ⟨d, ws, rfl, hd, hl, hw⟩, h60, hfs, q⟩ := inv4 h
  refine ⟨_, (pss_cons (ps_set (i := 4) sc_ruled_so.nd rfl (.inl rfl) (pv 2))
      (pss_cons (ps_for PassesOwn.never rfl (pi_enumT (by rfl) W.b_enumerate (pa_cons (pv 3) pa_nil)) (pg_tup rfl (pgs_cons (pg_name (i := 5) sc_ruled_so.nd rfl (.inl rfl)) (pgs_cons (pg_name (i := 6) sc_ruled_so.nd rfl (.inl rfl)) pgs_nil)))
        (pss_cons (ps_set (i := 7) sc_ruled_so.nd rfl (.inl rfl) (pe_df D_taken_so hr (by decide) (by rfl) pass0 (pa_cons (pv 0) (pa_cons (pv 1) (pa_cons (pv 4) (pa_cons (pv 6) pa_nil))))))
      (pss_cons (ps_if (pt_cmpR op_isN (pv 7) pe_non (nomark _)) (pss_one (ps_ret (pe_tup (pa_cons (pv 5) (pa_cons (pv 4) pa_nil))))) pss_nil)
      (pss_one (ps_set (i := 4) sc_ruled_so.nd rfl (.inl rfl) (pv 7))))))
      (pss_one (ps_ret (pe_tup (pa_cons (pe_callB call_len_seq (by rfl) W.b_len (by decide +kernel) (pa_cons (pv 3) pa_nil)) (pa_cons (pv 4) pa_nil))))))), ?_⟩
  refine ⟨c, rfl, .ref d, rfl, d, ws, rfl, .of hd, ?_⟩
  generalize hst0 : takenF u T (fun k => rs.getD k []) = step at *
  refine for_it (walk_enumT (xs := ws)) (fun i σ H' => ∃ r y5 y6 y7 z, σ = [some a, some b, some c, some (.ref d), some r, y5, y6, y7] ∧ Same H H' ∧ RowF H' r (T + 1) z ∧ i ≤ fs.length ∧ turnR step x fs = (i + (turnR step z (fs.drop i)).1, (turnR step z (fs.drop i)).2))
    ⟨c, none, none, none, x, rfl, Same.refl H, hc, Nat.zero_le _, by rw [List.drop_zero, Nat.zero_add]⟩ (fun i σ H' _ p => by obtain ⟨_, _, _, _, _, _, e, _⟩ := p; exact .of (e _ _ hd)) (fun i v σ H1 H2 hi p y => ?_) (fun σ H' p => ?_)
  · obtain ⟨r, y5, y6, y7, z, rfl, p1, p2, p3, p4⟩ := p
    obtain ⟨T', x1, x2, rfl, nT, rfl, e1, e2⟩ := y
    rw [hl] at hi
    have q2 := RowsF.at hl hw hi e2
    obtain rfl : V.int (i : Nat) = x1 := Option.some.inj e1
    have sN := p1.trans (same_new (o := .tup [.int (i : Nat), x2]) nT)
    refine ⟨T', _, rfl, .of upd_same, rfl, _, _, rfl, _, _, rfl, rfl, ?_⟩
    refine ⟨a, rfl, b, rfl, r, rfl, x2, rfl, T, u, rs, z, fs[i], hT, hu, ha.tx sN.tx, hb.tx sN.tx, hok, p2.tx (same_new nT).tx, q2.tx sN.tx, hfs _ (List.getElem_mem hi), fun v3 H3 s3 r3 => ?_⟩
    rw [List.drop_eq_getElem_cons hi] at p4
    rw [hst0] at r3
    cases hst : step z fs[i] with
    | none =>
      rw [hst] at r3
      obtain rfl : v3 = .non := r3
      rw [turnR_stop hst] at p4
      refine ⟨.non, rfl, rfl, _, rfl, ?_⟩
      refine ⟨_, rfl, r, rfl, size2, fun p hp => q _ _ ((sN.trans s3).trans (same_new hp)) ?_⟩
      rw [p4]
      exact ⟨p, r, rfl, upd_same, (((p2.tx (same_new nT).tx).tx s3.tx).tx (Tx.new hp))⟩
    | some z2 =>
      rw [hst] at r3
      obtain ⟨c3, rfl, h3⟩ := r3
      rw [turnR_go hst] at p4
      refine ⟨.ref c3, rfl, rfl, _, rfl, .ref c3, rfl, ?_⟩
      refine ⟨.ref c3, _, _, _, z2, rfl, sN.trans s3, ⟨c3, rfl, h3⟩, hi, ?_⟩
      rw [p4]
      show (i + ((turnR step z2 (fs.drop (i + 1))).1 + 1), _) = _
      rw [show i + ((turnR step z2 (fs.drop (i + 1))).1 + 1) = i + 1 + (turnR step z2 (fs.drop (i + 1))).1 by omega]
  · obtain ⟨r, y5, y6, y7, z, rfl, p1, p2, p3, p4⟩ := p
    rw [hl, List.drop_length] at p4
    refine ⟨.ref d, rfl, d, ws, rfl, .inr (.of (p1 _ _ hd)), r, rfl, size2, fun p hp => q _ _ (p1.trans (same_new hp)) ?_⟩
    rw [p4]
    refine ⟨p, r, rfl, ?_, p2.tx (Tx.new hp)⟩
    rw [upd_same, hl]
    rfl
/-! ### ruled -/
def p_ruled : Sp := sp4 fun a b c d H Q _ => ∃ T u rs x fs, T ≤ 3 ∧ UB T u ∧ RowF H a T u ∧ RuF H b rs ∧ RsOk T rs ∧ RowF H c (T + 1) x ∧ RB (T + 1) x ∧ RowsF H d (T + 1) fs ∧ fs.length ≤ 60 ∧ (∀ f ∈ fs, AskOk T f) ∧
  (fs.map fun f => (L (T + 1) f).sum).sum ≤ 1000 ∧ ∀ v H', Same H H' → EndF H' v (T + 1) (turnR (takenF u T (fun k => rs.getD k [])) x fs) → Q v H'
theorem d_ruled (W : Wr K mg) (y : Yd K mg Y) (cU : ErU K mg CU) (cR : ErR K mg CR) : Df P w K mg base CX0 5 "ruled" p_ruled := by
  have D_need_rule : Df P w K mg base (L2.CX P w) 4 "need_rule" (p_need_rule CU CR) := d_need_rule W y cU cR
  have D_need_row : Df P w K mg base CX0 4 "need_row" p_need_row := d_need_row W y cU
  have D_need_rows : Df P w K mg base CX0 4 "need_rows" p_need_rows := d_need_rows W y cU
  have D_ruled_so : Df P w K mg base CX0 4 "ruled_so" p_ruled_so := d_ruled_so W
  refine df_of (W.defs.get (i := 19) rfl) sc_ruled (fun _ _ _ _ _ _ us hl => match us, hl with | [_, _, _, _], _ => rfl) (len4 rfl) fun cdv A outer s0 H vs Q fA E hr h => ?_
  obtain ⟨a, b, c, d, rfl, T, u, rs, x, fs, hT, hu, ha, hb, hok, hc, hx, hd, h60, hfs, hsum, q⟩ := inv4 h
  refine ⟨_, (pss_cons (ps_expr (pe_df D_need_rule hr (by decide) (by rfl) passL (pa_cons (pv 0) (pa_cons (pv 1) pa_nil))))
      (pss_cons (ps_expr (pe_df D_need_row hr (by decide) (by rfl) pass0 (pa_cons (pv 0) (pa_cons (pv 2) pa_nil))))
      (pss_cons (ps_expr (pe_df D_need_rows hr (by decide) (by rfl) pass0 (pa_cons (pv 0) (pa_cons (pv 3) pa_nil))))
      (pss_cons (ps_if (pt_cmpR op_gt (pe_callB (cr_sum rfl) (by rfl) W.b_sum (by decide +kernel) (pa_cons (pe_lc (own := [("order", 4)]) (g := gName 4) rfl sc_ruled.nd (pi_tup (pv 3)) (blkOk_by (own := [("order", 4)]) (N := ["units", "rule", "stock", "asks", "order"]) (sc := defScope s_ruled) (by decide +kernel)) (fun _ _ _ _ _ => pg_name (i := 4) sc_ruled.nd rfl (Or.inl rfl)) (fun _ _ _ _ _ => pts_nil) (fun _ _ _ _ _ => (pe_callB (cr_sumK (K := K) rfl rfl) (by rfl) W.b_sum (by decide +kernel) (pa_cons (pv 4) pa_nil)))) pa_nil)) (pe_gi rfl W.MOST_ASKED) (nomark _)) (pss_one ps_never) pss_nil)
      (pss_one (ps_ret (pe_df D_ruled_so hr (by decide) (by rfl) pass0 (pa_cons (pv 0) (pa_cons (pv 1) (pa_cons (pv 2) (pa_cons (pv 3) pa_nil))))))))))), ?_⟩
  refine ⟨a, rfl, b, rfl, need_rule_ok hT hu ha hb hok fun H1 s1 => ?_⟩
  refine ⟨a, rfl, c, rfl, T, u, x, hT, hu, ha.tx s1.tx, hc.tx s1.tx, hx, ?_⟩
  refine ⟨a, rfl, d, rfl, T, u, fs, hT, hu, ha.tx s1.tx, hd.tx s1.tx, h60, fun f hf => (hfs f hf).rb, fun H2 s2 => ?_⟩
  have s12 := s1.trans s2
  obtain ⟨dA, ws, rfl, hd2, hl, hw⟩ := hd.tx s12.tx
  refine ⟨.ref dA, rfl, dA, rfl, ⟨_, .of hd2⟩, fun D hD => ?_⟩
  refine lc_it (walk_tup (xs := ws)) (fun i H' => Same H2 H' ∧ H' D = some (.lst (((fs.take i).map fun f => (L (T + 1) f).sum).map V.int))) ⟨same_new hD, upd_same⟩ (fun i H' _ p => .of (p.1 _ _ hd2)) (fun i v H3 H4 hi p y => ?_) (fun H' p => ?_)
  · rw [hl] at hi
    obtain ⟨rfl, e1⟩ := y
    obtain ⟨f1, rfl, hf1⟩ := (RowsF.at hl hw hi e1).tx p.1.tx
    refine ⟨rfl, .ref f1, rfl, f1, _, rfl, .of hf1, _, p.2, by rw [List.length_map, List.length_map, List.length_take]; exact lt_line (by omega), p.1.mut hD, ?_⟩
    rw [upd_same, take_snoc (List.getElem?_eq_getElem hi), List.map_append, List.map_append]
    rfl
  · rw [hl, List.take_length] at p
    refine ⟨D, _, rfl, .of p.2, _, _, rfl, rfl, _, rfl, ite2 (fun e => ?_) (fun e => ?_)⟩
    · have := of_decide_eq_true e
      omega
    · exact ⟨a, rfl, b, rfl, c, rfl, .ref dA, rfl, T, u, rs, x, fs, hT, hu, (ha.tx s12.tx).tx p.1.tx, (hb.tx s12.tx).tx p.1.tx, hok.chs, (hc.tx s12.tx).tx p.1.tx, RowsF.tx p.1.tx ⟨dA, ws, rfl, hd2, hl, hw⟩, h60, hfs, fun v H5 s5 r5 => q v H5 ((s12.trans p.1).trans s5) r5⟩
/-! ### _law_taken, _law_ruled -/
theorem ad3 {x : Fn} {k j : Nat} : ad (ad (ad x k (-1)) k 1) k (-1) j = ad x k (-1) j := by
  unfold ad
  split <;> omega
theorem d_law_taken (W : Wr K mg) : Df P w K mg base CX0 1 "_law_taken" p_one_taken := by
  refine df_of (W.defs.get (i := 42) rfl) sc__law_taken (fun _ _ _ _ _ _ us hl => match us, hl with | [_, _, _, _], _ => rfl) (len4 rfl) fun cdv A outer s0 H vs Q fA E hr h => ?_
  obtain ⟨a, b, c, d, rfl, T, u, rs, x, k, hT, hu, ⟨a, rfl, ha⟩, ⟨b, ws, rfl, hb, hbl⟩, hok, ⟨c, rfl, hc⟩, rfl, hk, q⟩ := inv4 h
  refine ⟨_, (pss_cons (ps_for PassesOwn.never rfl (pi_tup (pe_ix ix_tup (pv 1) (pv 3) (fun _ _ => rfl))) (pg_tup rfl (pgs_cons (pg_name (i := 4) sc__law_taken.nd rfl (.inl rfl)) (pgs_cons (pg_name (i := 5) sc__law_taken.nd rfl (.inl rfl)) pgs_nil)))
        (pss_one (ps_if (pt_cmpR op_gt (pe_ix ix_tup (pv 2) (pv 4) (fun _ _ => rfl)) pe_int (nomark _)) (pss_cons (ps_par (i := 6) (j := 7) (by rfl) sc__law_taken.nd rfl rfl (by decide) rfl rfl (pa_cons (pe_callTy call_list_of (by rfl) W.b_list (by decide +kernel) (pa_cons (pv 2) pa_nil)) (pa_cons pe_int pa_nil)) (by rfl))
      (pss_cons (ps_for PassesOwn.never rfl (pi_range2 (by rfl) W.b_range (pa_cons (pv 4) (pa_cons (pv 5) pa_nil))) (pg_name (i := 8) sc__law_taken.nd rfl (.inl rfl))
        (pss_one (ps_set (i := 7) sc__law_taken.nd rfl (.inl rfl) (pe_op op_mul (pv 7) (pe_ix ix_tup (pv 0) (pv 8) (fun _ _ => rfl))))))
      (pss_cons (ps_asg (pe_op op_sub (pe_ix ix_list (pv 6) (pv 4) (fun _ _ => rfl)) pe_int) (pg_sub (pv 6) (pv 4) set_list))
      (pss_cons (ps_asg (pe_op op_add (pe_ix ix_list (pv 6) (pv 5) (fun _ _ => rfl)) (pv 7)) (pg_sub (pv 6) (pv 5) set_list))
      (pss_cons (ps_for PassesOwn.never rfl (pi_range2 (by rfl) W.b_range (pa_cons (pv 5) (pa_cons (pv 3) pa_nil))) (pg_name (i := 8) sc__law_taken.nd rfl (.inl rfl))
        (pss_cons (ps_asg (pe_op op_sub (pe_ix ix_list (pv 6) (pv 8) (fun _ _ => rfl)) pe_int) (pg_sub (pv 6) (pv 8) set_list))
      (pss_one (ps_asg (pe_op op_add (pe_ix ix_list (pv 6) (pe_op op_add (pv 8) pe_int) (fun _ _ => rfl)) (pe_ix ix_tup (pv 0) (pv 8) (fun _ _ => rfl))) (pg_sub (pv 6) (pe_op op_add (pv 8) pe_int) set_list)))))
      (pss_cons (ps_asg (pe_op op_sub (pe_ix ix_list (pv 6) (pv 3) (fun _ _ => rfl)) pe_int) (pg_sub (pv 6) (pv 3) set_list))
      (pss_one (ps_ret (pe_callTy call_tuple_of (by rfl) W.b_tuple (by decide +kernel) (pa_cons (pv 6) pa_nil)))))))))) pss_nil)))
      (pss_one (ps_ret pe_non))), ?_⟩
  obtain ⟨w2, e2, b2, ws2, rfl, hb2, hl2⟩ := hbl.2 k _ (rs_get hok.1 hk)
  have chs := hok.2 k hk
  generalize rs.getD k [] = cs at *
  refine ⟨.ref b, rfl, _, rfl, b, _, _, _, rfl, rfl, .of hb, atI_nat e2, b2, rfl, ⟨_, .of hb2⟩, ?_⟩
  refine for_it (walk_tup (xs := ws2)) (fun i σ H' => ∃ y4 y5, σ = [some (.ref a), some (.ref b), some (.ref c), some (.int (k : Nat)), y4, y5, none, none, none] ∧ H' = H ∧ oneT u x k cs = oneT u x k (cs.drop i)) ⟨none, none, rfl, rfl, by rw [List.drop_zero]⟩ (fun i σ H' _ ⟨_, _, _, e, _⟩ => by rw [e]; exact .of hb2) (fun i v σ H1 H2 hi p y => ?_) (fun σ H' p => ?_)
  · rw [hl2.1] at hi
    obtain ⟨y4, y5, rfl, rfl, p3⟩ := p
    obtain ⟨rfl, e1⟩ := y
    obtain ⟨v2, q1, b3, rfl, hb3⟩ := hl2.2 i _ (List.getElem?_eq_getElem hi)
    obtain rfl : v = .ref b3 := Option.some.inj (e1.symm.trans q1)
    have hch : ChOk k cs[i] := chs _ (List.getElem_mem hi)
    rw [List.drop_eq_getElem_cons hi, oneT_cons] at p3
    generalize cs[i] = pg at *
    obtain ⟨s, g⟩ := pg
    have hsk : s ≤ k := hch.le
    have hgk : g ≤ k := hch.le2
    have hlt : s < k → s < g := hch.lt
    have heq : s = k → g = k := hch.eq
    have hsg : s ≤ g := by
      rcases Nat.lt_or_eq_of_le hsk with z | z
      · exact Nat.le_of_lt (hlt z)
      · rw [heq z]; exact hsk
    refine ⟨b3, _, rfl, .of hb3, rfl, _, _, rfl, _, _, rfl, rfl, ?_⟩
    refine ⟨.ref c, rfl, _, rfl, c, _, _, _, rfl, rfl, .of hc, LV_at (i := s) (by omega), _, _, rfl, rfl, _, rfl, ite2 (fun e3 => ?_) (fun e3 => ?_)⟩
    · rw [if_pos (of_decide_eq_true e3)] at p3
      refine ⟨.ref c, rfl, c, _, rfl, .inr (.of hc), fun D hD => ?_⟩
      have s1 := same_new (o := .lst (LV (T + 1) x)) hD
      refine ⟨_, _, rfl, ?_⟩
      refine ⟨_, rfl, _, rfl, _, _, rfl, ⟨by omega, by omega, by omega, by omega⟩, ?_⟩
      refine for_it (walk_range) (fun j σ H' => ∃ y8, σ = [some (.ref a), some (.ref b), some (.ref c), some (.int (k : Nat)), some (.int (s : Nat)), some (.int (g : Nat)), some (.ref D), some (.int (pr u s j)), y8] ∧ H' = upd H2 D (.lst (LV (T + 1) x)))
        ⟨none, rfl, rfl⟩ (fun _ _ _ _ _ => trivial) (fun j v σ H3 H4 hj p y => ?_) (fun σ H' p => ?_)
      · obtain ⟨y8, rfl, rfl⟩ := p
        obtain ⟨rfl, f1⟩ := y
        replace f1 : v = .int ((s : Int) + (j : Nat)) := f1
        rw [show (s : Int) + (j : Nat) = ((s + j : Nat) : Int) by omega] at f1
        subst f1
        have := hu (s + j) (by omega)
        exact ⟨_, rfl, .ref a, rfl, _, rfl, a, _, _, _, rfl, rfl, .of (s1 _ _ ha), LV_at (i := s + j) (by omega), _, _, rfl, rfl, .inr ⟨by omega, by omega⟩, _, rfl, rfl⟩
      · obtain ⟨y8, rfl, rfl⟩ := p
        rw [show (((g : Nat) : Int) - ((s : Nat) : Int)).toNat = g - s by omega]
        refine ⟨.ref D, rfl, _, rfl, D, _, _, _, rfl, rfl, .of upd_same, LV_at (i := s) (by omega), _, 1, rfl, rfl, .ref D, rfl, _, rfl, D, _, (s : Nat), s, rfl, rfl, upd_same, ixN_nat (by rw [LV_len]; omega), ?_⟩
        rw [LV_sub1, upd_upd]
        refine ⟨.ref D, rfl, _, rfl, D, _, _, _, rfl, rfl, .of upd_same, LV_at (i := g) (by omega), _, rfl, _, _, rfl, rfl, .ref D, rfl, _, rfl, D, _, (g : Nat), g, rfl, rfl, upd_same, ixN_nat (by rw [LV_len]; omega), ?_⟩
        rw [LV_ad, upd_upd]
        refine ⟨_, rfl, _, rfl, _, _, rfl, ⟨by omega, by omega, by omega, by omega⟩, ?_⟩
        refine for_it (walk_range) (fun i σ H' => ∃ y8, σ = [some (.ref a), some (.ref b), some (.ref c), some (.int (k : Nat)), some (.int (s : Nat)), some (.int (g : Nat)), some (.ref D), some (.int (pr u s (g - s))), y8] ∧ Same H2 H' ∧ H' D = some (.lst (LV (T + 1) (st u (ad (ad x s (-1)) g (pr u s (g - s))) g i))))
          ⟨y8, rfl, same_new hD, upd_same⟩ (fun _ _ _ _ _ => trivial) (fun i v σ H3 H4 hi p y => ?_) (fun σ H' p => ?_)
        · obtain ⟨y8, rfl, p1, p2⟩ := p
          obtain ⟨rfl, e2⟩ := y
          have hi' : g + i < k := by omega
          replace e2 : v = .int ((g : Int) + (i : Nat)) := e2
          rw [show (g : Int) + (i : Nat) = ((g + i : Nat) : Int) by omega] at e2
          subst e2
          refine ⟨.ref D, rfl, _, rfl, D, _, _, _, rfl, rfl, .of p2, LV_at (i := g + i) (by omega), _, _, rfl, rfl, .ref D, rfl, _, rfl, D, _, ((g + i : Nat) : Int), g + i, rfl, rfl, p2, ixN_nat (by rw [LV_len]; omega), ?_⟩
          rw [LV_sub1]
          refine ⟨.ref D, rfl, _, rfl, ((g + i : Nat) : Int), 1, rfl, rfl, D, _, _, _, rfl, rfl, .of upd_same, LV_at (i := g + i + 1) (by omega), .ref a, rfl, _, rfl, a, _, _, _, rfl, rfl, .of ((p1.mut hD) _ _ ha), LV_at (i := g + i) (by omega), _, _, rfl, rfl, .ref D, rfl, _, rfl, ((g + i : Nat) : Int), 1, rfl, rfl, D, _, ((g + i + 1 : Nat) : Int), g + i + 1, rfl, rfl, upd_same, ixN_nat (by rw [LV_len]; omega), ?_⟩
          rw [LV_ad, upd_upd]
          exact ⟨_, rfl, p1.mut hD, upd_same⟩
        · obtain ⟨y8, rfl, p1, p2⟩ := p
          rw [show ((k : Int) - (g : Int)).toNat = k - g by omega] at p2
          refine ⟨.ref D, rfl, _, rfl, D, _, _, _, rfl, rfl, .of p2, LV_at (i := k) (by omega), _, _, rfl, rfl, .ref D, rfl, _, rfl, D, _, (k : Nat), k, rfl, rfl, p2, ixN_nat (by rw [LV_len]; omega), ?_⟩
          rw [LV_sub1]
          refine ⟨.ref D, rfl, D, _, rfl, .inl ⟨.of upd_same, fun l hl => q _ _ ((p1.mut hD).trans (same_new hl)) ?_⟩⟩
          rw [p3]
          refine ⟨l, rfl, ?_⟩
          rw [upd_same]
          refine congrArg (fun z => some (HO.tup z)) (LV_congr fun j _ => ?_)
          unfold pt
          by_cases z : s < k
          · rw [if_pos z]
          · rw [if_neg z]
            have z1 : s = k := by omega
            have z2 := heq z1
            subst z1 z2
            rw [Nat.sub_self]
            exact ad3
    · rw [if_neg (fun z => e3 (decide_eq_true z))] at p3
      exact ⟨_, _, rfl, rfl, p3⟩
  · obtain ⟨y4, y5, rfl, rfl, p3⟩ := p
    refine q _ _ (Same.refl _) ?_
    rw [p3, hl2.1, List.drop_length]
    rfl
theorem d_law_ruled (W : Wr K mg) : Df P w K mg base CX0 2 "_law_ruled" p_ruled_so := by
  have D__law_taken : Df P w K mg base CX0 1 "_law_taken" p_one_taken := d_law_taken W
  refine df_of (W.defs.get (i := 43) rfl) sc__law_ruled (fun _ _ _ _ _ _ us hl => match us, hl with | [_, _, _, _], _ => rfl) (len4 rfl) fun cdv A outer s0 H vs Q fA E hr h => ?_
  obtain ⟨a, b, c, d, rfl, T, u, rs, x, fs, hT, hu, ha, hb, hok, hc, ⟨d, ws, rfl, hd, hl, hw⟩, h60, hfs, q⟩ := inv4 h
  refine ⟨_, (pss_cons (ps_set (i := 4) sc__law_ruled.nd rfl (.inl rfl) (pv 2))
      (pss_cons (ps_for PassesOwn.never rfl (pi_enumT (by rfl) W.b_enumerate (pa_cons (pv 3) pa_nil)) (pg_tup rfl (pgs_cons (pg_name (i := 5) sc__law_ruled.nd rfl (.inl rfl)) (pgs_cons (pg_name (i := 6) sc__law_ruled.nd rfl (.inl rfl)) pgs_nil)))
        (pss_cons (ps_set (i := 7) sc__law_ruled.nd rfl (.inl rfl) (pv 4))
      (pss_cons (ps_for PassesOwn.never rfl (pi_enumT (by rfl) W.b_enumerate (pa_cons (pv 6) pa_nil)) (pg_tup rfl (pgs_cons (pg_name (i := 8) sc__law_ruled.nd rfl (.inl rfl)) (pgs_cons (pg_name (i := 9) sc__law_ruled.nd rfl (.inl rfl)) pgs_nil)))
        (pss_one (ps_for PassesOwn.never rfl (pi_range1 (by rfl) W.b_range (pa_cons (pv 9) pa_nil)) (pg_name (i := 10) sc__law_ruled.nd rfl (.inl rfl))
        (pss_one (ps_set (i := 7) sc__law_ruled.nd rfl (.inl rfl) (pe_ifExp (pt_cmpR op_isN (pv 7) pe_non (nomark _)) pe_non (pe_df D__law_taken hr (by decide) (by rfl) pass0 (pa_cons (pv 0) (pa_cons (pv 1) (pa_cons (pv 7) (pa_cons (pv 8) pa_nil)))))))))))
      (pss_cons (ps_if (pt_cmpR op_isN (pv 7) pe_non (nomark _)) (pss_one (ps_ret (pe_tup (pa_cons (pv 5) (pa_cons (pv 4) pa_nil))))) pss_nil)
      (pss_one (ps_set (i := 4) sc__law_ruled.nd rfl (.inl rfl) (pv 7)))))))
      (pss_one (ps_ret (pe_tup (pa_cons (pe_callB call_len_seq (by rfl) W.b_len (by decide +kernel) (pa_cons (pv 3) pa_nil)) (pa_cons (pv 4) pa_nil))))))), ?_⟩
  refine ⟨c, rfl, .ref d, rfl, d, ws, rfl, .of hd, ?_⟩
  refine for_it (walk_enumT (xs := ws)) (fun i σ H' => ∃ r y5 y6 y7 y8 y9 y10 z, σ = [some a, some b, some c, some (.ref d), some r, y5, y6, y7, y8, y9, y10] ∧ Same H H' ∧ RowF H' r (T + 1) z ∧ i ≤ fs.length ∧ turnR (takenF u T (fun k => rs.getD k [])) x fs = (i + (turnR (takenF u T (fun k => rs.getD k [])) z (fs.drop i)).1, (turnR (takenF u T (fun k => rs.getD k [])) z (fs.drop i)).2))
    ⟨c, none, none, none, none, none, none, x, rfl, Same.refl H, hc, Nat.zero_le _, by rw [List.drop_zero, Nat.zero_add]⟩ (fun i σ H' _ p => by obtain ⟨_, _, _, _, _, _, _, _, _, e, _⟩ := p; exact .of (e _ _ hd)) (fun i v σ H1 H2 hi p y => ?_) (fun σ H' p => ?_)
  · obtain ⟨r, y5, y6, y7, y8, y9, y10, z, rfl, p1, p2, p3, p4⟩ := p
    obtain ⟨T', x1, x2, rfl, nT, rfl, e1, e2⟩ := y
    rw [hl] at hi
    have q2 := RowsF.at hl hw hi e2
    obtain rfl : V.int (i : Nat) = x1 := Option.some.inj e1
    have sN := p1.trans (same_new (o := .tup [.int (i : Nat), x2]) nT)
    refine ⟨T', _, rfl, .of upd_same, rfl, _, _, rfl, _, _, rfl, rfl, ?_⟩
    rw [List.drop_eq_getElem_cons hi] at p4
    have hao := hfs _ (List.getElem_mem hi)
    generalize fs[i] = o at *
    obtain ⟨oA, rfl, hoA⟩ := q2.tx sN.tx
    refine ⟨r, rfl, .ref oA, rfl, oA, _, rfl, .of hoA, ?_⟩
    refine for_it (walk_enumT (xs := LV (T + 1) o)) (fun j σ H' => ∃ bv y8 y9 y10 ob, σ = [some a, some b, some c, some (.ref d), some r, some (.int (i : Nat)), some (.ref oA), some bv, y8, y9, y10] ∧ Same (upd H1 T' (.tup [.int (i : Nat), .ref oA])) H' ∧ OptF H' bv (T + 1) ob ∧ j ≤ T + 1 ∧ takenF u T (fun k => rs.getD k []) z o = ob.bind (takeFrom u (fun k => rs.getD k []) o j (T + 1 - j)))
      ⟨r, y8, y9, y10, some z, rfl, Same.refl _, p2.tx (same_new nT).tx, Nat.zero_le _, rfl⟩ (fun j σ H' _ p => by obtain ⟨_, _, _, _, _, _, e, _⟩ := p; exact .of (e _ _ hoA)) (fun j v σ H3 H4 hj p y => ?_) (fun σ H' p => ?_)
    · rw [LV_len] at hj
      obtain ⟨bv, y8, y9, y10, ob, rfl, r1, r2, r3, r4⟩ := p
      obtain ⟨T2, x1, x2, rfl, nT2, rfl, f1, f2⟩ := y
      obtain rfl : V.int (j : Nat) = x1 := Option.some.inj f1
      obtain rfl : x2 = .int (o j) := Option.some.inj (f2.symm.trans (LV_get hj))
      have hoj := hao j (by omega)
      have sM := r1.trans (same_new (o := .tup [.int (j : Nat), .int (o j)]) nT2)
      obtain ⟨m, hm⟩ : ∃ m, T + 1 - j = m + 1 := ⟨T - j, by omega⟩
      rw [hm] at r4
      replace r4 : takenF u T (fun k => rs.getD k []) z o = ob.bind (fun z1 => (takeN (fun y => oneT u y j (rs.getD j [])) (o j).toNat z1).bind (takeFrom u (fun k => rs.getD k []) o (j + 1) m)) := r4
      rw [← Option.bind_assoc] at r4
      refine ⟨T2, _, rfl, .of upd_same, rfl, _, _, rfl, _, _, rfl, rfl, ?_⟩
      refine ⟨_, rfl, o j, rfl, by omega, by omega, ?_⟩
      refine for_it (walk_range) (fun l σ H' => ∃ bv y10 ob, σ = [some a, some b, some c, some (.ref d), some r, some (.int (i : Nat)), some (.ref oA), some bv, some (.int (j : Nat)), some (.int (o j)), y10] ∧ Same (upd H1 T' (.tup [.int (i : Nat), .ref oA])) H' ∧ OptF H' bv (T + 1) ob ∧ takenF u T (fun k => rs.getD k []) z o = (ob.bind (takeN (fun y => oneT u y j (rs.getD j [])) ((o j).toNat - l))).bind (takeFrom u (fun k => rs.getD k []) o (j + 1) m))
        ⟨bv, y10, ob, rfl, sM, OptF.tx (Tx.new nT2) r2, by rw [Nat.sub_zero]; exact r4⟩ (fun _ _ _ _ _ => trivial) (fun l v σ H5 H6 hl5 p y => ?_) (fun σ H' p => ?_)
      · obtain ⟨bv2, y10, ob2, rfl, t1, t2, t3⟩ := p
        obtain ⟨rfl, f3⟩ := y
        subst f3
        obtain ⟨m2, hm2⟩ : ∃ m2, (o j).toNat - l = m2 + 1 := ⟨(o j).toNat - l - 1, by omega⟩
        have hm3 : (o j).toNat - (l + 1) = m2 := by omega
        rw [hm2] at t3
        cases ob2 with
        | none =>
          obtain rfl : bv2 = .non := t2
          refine ⟨.non, rfl, rfl, _, rfl, .non, _, none, rfl, t1, rfl, ?_⟩
          exact t3
        | some z2 =>
          obtain ⟨c2, rfl, hc2⟩ := t2
          replace t3 : takenF u T (fun k => rs.getD k []) z o = ((oneT u z2 j (rs.getD j [])).bind (takeN (fun y => oneT u y j (rs.getD j [])) m2)).bind (takeFrom u (fun k => rs.getD k []) o (j + 1) m) := t3
          have sT := sN.trans t1
          refine ⟨.ref c2, rfl, rfl, _, rfl, ?_⟩
          refine ⟨a, rfl, b, rfl, .ref c2, rfl, _, rfl, T, u, rs, z2, j, hT, hu, ha.tx sT.tx, hb.tx sT.tx, hok, ⟨c2, rfl, hc2⟩, rfl, by omega, fun v3 H7 s7 q7 => ?_⟩
          refine ⟨v3, _, oneT u z2 j (rs.getD j []), rfl, t1.trans s7, q7, ?_⟩
          rw [hm3]
          exact t3
      · obtain ⟨bv2, y10, ob2, rfl, t1, t2, t3⟩ := p
        rw [Nat.sub_self] at t3
        refine ⟨bv2, _, _, y10, ob2, rfl, t1, t2, by omega, ?_⟩
        rw [show T + 1 - (j + 1) = m by omega, t3]
        cases ob2 <;> rfl
    · obtain ⟨bv, y8, y9, y10, ob, rfl, r1, r2, r3, r4⟩ := p
      rw [LV_len, Nat.sub_self] at r4
      have r5 : takenF u T (fun k => rs.getD k []) z o = ob := by
        rw [r4]
        cases ob <;> rfl
      have sT := sN.trans r1
      cases ob with
      | none =>
        obtain rfl : bv = .non := r2
        rw [turnR_stop r5] at p4
        refine ⟨.non, rfl, rfl, _, rfl, ?_⟩
        refine ⟨_, rfl, r, rfl, size2, fun p hp => q _ _ (sT.trans (same_new hp)) ?_⟩
        rw [p4]
        exact ⟨p, r, rfl, upd_same, (((p2.tx (same_new nT).tx).tx r1.tx).tx (Tx.new hp))⟩
      | some z2 =>
        obtain ⟨c3, rfl, h3⟩ := r2
        rw [turnR_go r5] at p4
        refine ⟨.ref c3, rfl, rfl, _, rfl, .ref c3, rfl, ?_⟩
        refine ⟨.ref c3, _, _, _, _, _, _, z2, rfl, sT, ⟨c3, rfl, h3⟩, hi, ?_⟩
        rw [p4]
        show (i + ((turnR (takenF u T (fun k => rs.getD k [])) z2 (fs.drop (i + 1))).1 + 1), _) = _
        rw [show i + ((turnR (takenF u T (fun k => rs.getD k [])) z2 (fs.drop (i + 1))).1 + 1) = i + 1 + (turnR (takenF u T (fun k => rs.getD k [])) z2 (fs.drop (i + 1))).1 by omega]
  · obtain ⟨r, y5, y6, y7, y8, y9, y10, z, rfl, p1, p2, p3, p4⟩ := p
    rw [hl, List.drop_length] at p4
    refine ⟨.ref d, rfl, d, ws, rfl, .inr (.of (p1 _ _ hd)), r, rfl, size2, fun p hp => q _ _ (p1.trans (same_new hp)) ?_⟩
    rw [p4]
    refine ⟨p, r, rfl, ?_, p2.tx (Tx.new hp)⟩
    rw [upd_same, hl]
    rfl
end
end K21
end
section
set_option maxRecDepth 100000
set_option maxHeartbeats 4000000
/-! K21H: flaws of rules. -/
namespace K21
open PySem PySem.Spec PyProof.Rows L2
/-- the first pair of neighbours that goes up -/
def asc : List (Nat × Nat) → Option (Nat × Nat)
  | p :: q :: r => if p.1 < q.1 then some (p.1, q.1) else asc (q :: r)
  | _ => none
/-- the first start that is cut further than needed -/
def far2 : List (Nat × Nat) → Option Nat
  | [] => none
  | p :: r => if p.1 + 1 < p.2 then some p.1 else far2 r
/-- a flaw of a unit's choices: stock, first ask, second ask -/
def flawOf (k : Nat) (cs : List (Nat × Nat)) : Option (List Fn) :=
  match asc cs with
  | some (n, f) => some [fun i => e n i + e f i, e k, e n]
  | none => match far2 cs with
    | some s => some [e s, e k, e (s + 1)]
    | none => none
def flawFrom : Nat → List (List (Nat × Nat)) → Option (List Fn)
  | _, [] => none
  | k, cs :: r => match flawOf k cs with
    | some fl => some fl
    | none => flawFrom (k + 1) r
theorem asc_cons {p q : Nat × Nat} {r : List (Nat × Nat)} : asc (p :: q :: r) = if p.1 < q.1 then some (p.1, q.1) else asc (q :: r) := rfl
theorem far2_cons {p : Nat × Nat} {r : List (Nat × Nat)} : far2 (p :: r) = if p.1 + 1 < p.2 then some p.1 else far2 r := rfl
theorem rows3 {H : Hp} {p a b c : V} {q : Addr} {n : Nat} {f g h : Fn} (hq : H q = some (.tup [a, b, c])) (ra : RowF H a n f) (rb : RowF H b n g) (rc : RowF H c n h) : RowsF H (.ref q) n [f, g, h] := by
  refine ⟨q, _, rfl, hq, rfl, fun i x e => ?_⟩
  match i, e with
  | 0, e => exact ⟨a, rfl, by cases e; exact ra⟩
  | 1, e => exact ⟨b, rfl, by cases e; exact rb⟩
  | 2, e => exact ⟨c, rfl, by cases e; exact rc⟩
  | i + 3, e => simp at e
theorem rows2 {H : Hp} {a b : V} {q : Addr} {n : Nat} {f g : Fn} (hq : H q = some (.tup [a, b])) (ra : RowF H a n f) (rb : RowF H b n g) : RowsF H (.ref q) n [f, g] := by
  refine ⟨q, _, rfl, hq, rfl, fun i x e => ?_⟩
  match i, e with
  | 0, e => exact ⟨a, rfl, by cases e; exact ra⟩
  | 1, e => exact ⟨b, rfl, by cases e; exact rb⟩
  | i + 2, e => simp at e
section
variable {P : Program} {w : World} {K : PySem.W.Frag} {mg : Str → Option Value} {base : Heap} {Y CU CR CN : Addr}
/-! ### flaw_at -/
def p_flaw_at : Sp := sp3 fun a b c H Q _ => ∃ T u k cs, T ≤ 3 ∧ RowF H a T u ∧ b = .int (k : Nat) ∧ k ≤ T ∧ ChF H c cs ∧ cs.length = k + 1 ∧ (∀ p ∈ cs, ChOk k p) ∧
  (∀ fl v H', flawOf k cs = some fl → Same H H' → RowsF H' v (T + 1) fl → Q v H') ∧ (flawOf k cs = none → ∀ H', Same H H' → Q .non H')
theorem d_flaw_at (W : Wr K mg) : Df P w K mg base CX0 3 "flaw_at" p_flaw_at := by
  have D_single : Df P w K mg base CX0 2 "single" p_single := d_single W
  have D_added : Df P w K mg base CX0 1 "added" p_added := d_added W
  refine df_of (W.defs.get (i := 21) rfl) sc_flaw_at (fun _ _ _ _ _ _ us hl => match us, hl with | [_, _, _], _ => rfl) (len3 rfl) fun cdv A outer s0 H vs Q fA E hr h => ?_
  obtain ⟨a, b, c, rfl, T, u, k, cs, hT, ha, rfl, hk, ⟨c, ws, rfl, hc, hl⟩, hlen, hok, q1, q2⟩ := inv3 h
  refine ⟨_, (pss_cons (ps_for PassesOwn.never rfl (pi_range2 (by rfl) W.b_range (pa_cons pe_int (pa_cons (pe_callB call_len_seq (by rfl) W.b_len (by decide +kernel) (pa_cons (pv 2) pa_nil)) pa_nil))) (pg_name (i := 3) sc_flaw_at.nd rfl (.inl rfl))
        (pss_cons (ps_par (i := 4) (j := 5) (by rfl) sc_flaw_at.nd rfl rfl (by decide) rfl rfl (pa_cons (pe_ix ix_tup (pe_ix ix_tup (pv 2) (pe_op op_sub (pv 3) pe_int) (fun _ _ => rfl)) pe_int (fun _ _ => rfl)) (pa_cons (pe_ix ix_tup (pe_ix ix_tup (pv 2) (pv 3) (fun _ _ => rfl)) pe_int (fun _ _ => rfl)) pa_nil)) (by rfl))
      (pss_one (ps_if (pt_cmpR op_lt (pv 4) (pv 5) (nomark _)) (pss_one (ps_ret (pe_tup (pa_cons (pe_df D_added hr (by decide) (by rfl) pass0 (pa_cons (pe_df D_single hr (by decide) (by rfl) pass0 (pa_cons (pv 0) (pa_cons (pv 4) pa_nil))) (pa_cons (pe_df D_single hr (by decide) (by rfl) pass0 (pa_cons (pv 0) (pa_cons (pv 5) pa_nil))) pa_nil))) (pa_cons (pe_df D_single hr (by decide) (by rfl) pass0 (pa_cons (pv 0) (pa_cons (pv 1) pa_nil))) (pa_cons (pe_df D_single hr (by decide) (by rfl) pass0 (pa_cons (pv 0) (pa_cons (pv 4) pa_nil))) pa_nil)))))) pss_nil))))
      (pss_cons (ps_for PassesOwn.never rfl (pi_tup (pv 2)) (pg_tup rfl (pgs_cons (pg_name (i := 6) sc_flaw_at.nd rfl (.inl rfl)) (pgs_cons (pg_name (i := 7) sc_flaw_at.nd rfl (.inl rfl)) pgs_nil)))
        (pss_one (ps_if (pt_cmpR op_gt (pv 7) (pe_op op_add (pv 6) pe_int) (nomark _)) (pss_one (ps_ret (pe_tup (pa_cons (pe_df D_single hr (by decide) (by rfl) pass0 (pa_cons (pv 0) (pa_cons (pv 6) pa_nil))) (pa_cons (pe_df D_single hr (by decide) (by rfl) pass0 (pa_cons (pv 0) (pa_cons (pv 1) pa_nil))) (pa_cons (pe_df D_single hr (by decide) (by rfl) pass0 (pa_cons (pv 0) (pa_cons (pe_op op_add (pv 6) pe_int) pa_nil))) pa_nil)))))) pss_nil)))
      (pss_one (ps_ret pe_non)))), ?_⟩
  have at_ : ∀ {i : Nat} {H' : Hp}, Same H H' → (hi : i < cs.length) → ∃ b, ws[i]? = some (.ref b) ∧ H' b = some (.tup [.int (cs[i].1 : Nat), .int (cs[i].2 : Nat)]) := fun {i H'} s hi => by
    obtain ⟨v, e1, b, rfl, hb⟩ := hl.2 i _ (List.getElem?_eq_getElem hi)
    exact ⟨b, e1, s _ _ hb⟩
  refine ⟨.ref c, rfl, c, ws, rfl, .inr (.of hc), 1, _, rfl, ⟨by omega, by omega, by omega, by rw [hl.1]; omega⟩, ?_⟩
  rw [hl.1, hlen, show ((((k + 1 : Nat) : Int)) - 1).toNat = k by omega]
  refine for_it (walk_range) (fun i σ H' => ∃ y3 y4 y5, σ = [some a, some (.int (k : Nat)), some (.ref c), y3, y4, y5, none, none] ∧ H' = H ∧ asc cs = asc (cs.drop i)) ⟨none, none, none, rfl, rfl, by rw [List.drop_zero]⟩ (fun _ _ _ _ _ => trivial) (fun i v σ H1 H2 hi p y => ?_) (fun σ H' p => ?_)
  · obtain ⟨y3, y4, y5, rfl, e0, p3⟩ := p
    obtain ⟨e1, f1⟩ := y
    subst e1 e0
    replace f1 : v = .int ((1 : Int) + (i : Nat)) := f1
    rw [show (1 : Int) + (i : Nat) = ((i + 1 : Nat) : Int) by omega] at f1
    subst f1
    have h1 : i < cs.length := by omega
    have h2 : i + 1 < cs.length := by omega
    obtain ⟨b1, g1, hb1⟩ := at_ (Same.refl _) h1
    obtain ⟨b2, g2, hb2⟩ := at_ (Same.refl _) h2
    rw [List.drop_eq_getElem_cons h1, List.drop_eq_getElem_cons h2, asc_cons] at p3
    refine ⟨.ref c, rfl, _, rfl, ((i + 1 : Nat) : Int), 1, rfl, rfl, c, ws, ((i + 1 : Nat) : Int) - 1, _, rfl, rfl, .of hc, by rw [show ((i + 1 : Nat) : Int) - 1 = (i : Nat) by omega]; exact atI_nat g1, b1, _, 0, _, rfl, rfl, .of hb1, atI_nat (j := 0) rfl, ?_⟩
    refine ⟨.ref c, rfl, _, rfl, c, ws, ((i + 1 : Nat) : Int), _, rfl, rfl, .of hc, atI_nat g2, b2, _, 0, _, rfl, rfl, .of hb2, atI_nat (j := 0) rfl, _, _, rfl, ?_⟩
    refine ⟨_, rfl, _, rfl, _, _, rfl, rfl, _, rfl, ite2 (fun e => ?_) (fun e => ?_)⟩
    · have hlt : cs[i].1 < cs[i + 1].1 := by
        have : ((cs[i].1 : Nat) : Int) < ((cs[i + 1].1 : Nat) : Int) := of_decide_eq_true e
        omega
      rw [if_pos hlt] at p3
      have hn := (hok _ (List.getElem_mem h1)).le
      have hf := (hok _ (List.getElem_mem h2)).le
      have hT1 : 1 ≤ T := by omega
      refine ⟨a, rfl, _, rfl, T, u, cs[i].1, hT1, hT, ha, rfl, by omega, fun v1 H1 s1 r1 => ?_⟩
      refine ⟨a, rfl, _, rfl, T, u, cs[i + 1].1, hT1, hT, ha.tx s1.tx, rfl, by omega, fun v2 H2 s2 r2 => ?_⟩
      refine ⟨T + 1, _, _, by omega, r1.tx s2.tx, r2, fun v3 H3 s3 r3 => ?_⟩
      have s123 := (s1.trans s2).trans s3
      refine ⟨a, rfl, _, rfl, T, u, k, hT1, hT, ha.tx s123.tx, rfl, hk, fun v4 H4 s4 r4 => ?_⟩
      refine ⟨a, rfl, _, rfl, T, u, cs[i].1, hT1, hT, (ha.tx s123.tx).tx s4.tx, rfl, by omega, fun v5 H5 s5 r5 => ?_⟩
      refine ⟨(by show 3 ≤ sizeLine; decide), fun p hp => q1 _ _ _ ?_ (((s123.trans s4).trans s5).trans (same_new hp)) (rows3 (p := .non) upd_same (((r3.tx s4.tx).tx s5.tx).tx (Tx.new hp)) ((r4.tx s5.tx).tx (Tx.new hp)) (r5.tx (Tx.new hp)))⟩
      unfold flawOf
      rw [p3]
    · have hlt : ¬ cs[i].1 < cs[i + 1].1 := fun z => e (decide_eq_true (show ((cs[i].1 : Nat) : Int) < ((cs[i + 1].1 : Nat) : Int) by omega))
      rw [if_neg hlt] at p3
      refine ⟨_, _, _, rfl, rfl, ?_⟩
      rw [p3, List.drop_eq_getElem_cons h2]
  · obtain ⟨y3, y4, y5, rfl, e0, p3⟩ := p
    subst e0
    have hasc : asc cs = none := by
      rw [p3]
      have hk1 : k < cs.length := by omega
      rw [List.drop_eq_getElem_cons hk1, List.drop_of_length_le (by omega)]
      rfl
    refine ⟨.ref c, rfl, c, rfl, ⟨_, .of hc⟩, ?_⟩
    refine for_it (walk_tup (xs := ws)) (fun i σ H0 => ∃ y3 y4 y5 y6 y7, σ = [some a, some (.int (k : Nat)), some (.ref c), y3, y4, y5, y6, y7] ∧ H0 = H' ∧ far2 cs = far2 (cs.drop i)) ⟨_, _, _, none, none, rfl, rfl, by rw [List.drop_zero]⟩ (fun i σ H0 _ p => by obtain ⟨_, _, _, _, _, _, e, _⟩ := p; rw [e]; exact .of hc) (fun i v σ H1 H2 hi p y => ?_) (fun σ H0 p => ?_)
    · rw [hl.1] at hi
      obtain ⟨y3, y4, y5, y6, y7, rfl, e0, r3⟩ := p
      obtain ⟨e1, f1⟩ := y
      subst e1 e0
      obtain ⟨b1, g1, hb1⟩ := at_ (Same.refl _) hi
      obtain rfl : v = .ref b1 := Option.some.inj (f1.symm.trans g1)
      rw [List.drop_eq_getElem_cons hi, far2_cons] at r3
      refine ⟨b1, _, rfl, .of hb1, rfl, _, _, rfl, _, _, rfl, rfl, ?_⟩
      refine ⟨_, rfl, _, rfl, _, _, rfl, rfl, _, _, rfl, rfl, _, rfl, ite2 (fun e => ?_) (fun e => ?_)⟩
      · have hlt : cs[i].1 + 1 < cs[i].2 := by
          have : ((cs[i].1 : Nat) : Int) + 1 < ((cs[i].2 : Nat) : Int) := of_decide_eq_true e
          omega
        rw [if_pos hlt] at r3
        have hn := (hok _ (List.getElem_mem hi)).le
        have hf := (hok _ (List.getElem_mem hi)).le2
        have hT1 : 1 ≤ T := by omega
        refine ⟨a, rfl, _, rfl, T, u, cs[i].1, hT1, hT, ha, rfl, by omega, fun v1 H1 s1 r1 => ?_⟩
        refine ⟨a, rfl, _, rfl, T, u, k, hT1, hT, ha.tx s1.tx, rfl, hk, fun v2 H2 s2 r2 => ?_⟩
        refine ⟨a, rfl, _, rfl, _, _, rfl, rfl, T, u, cs[i].1 + 1, hT1, hT, (ha.tx s1.tx).tx s2.tx, rfl, by omega, fun v3 H3 s3 r3' => ?_⟩
        refine ⟨(by show 3 ≤ sizeLine; decide), fun p hp => q1 _ _ _ ?_ (((s1.trans s2).trans s3).trans (same_new hp)) (rows3 (p := .non) upd_same (((r1.tx s2.tx).tx s3.tx).tx (Tx.new hp)) ((r2.tx s3.tx).tx (Tx.new hp)) (r3'.tx (Tx.new hp)))⟩
        unfold flawOf
        rw [hasc, r3]
      · have hlt : ¬ cs[i].1 + 1 < cs[i].2 := fun z => e (decide_eq_true (show ((cs[i].1 : Nat) : Int) + 1 < ((cs[i].2 : Nat) : Int) by omega))
        rw [if_neg hlt] at r3
        exact ⟨_, _, _, _, _, rfl, rfl, r3⟩
    · obtain ⟨y3, y4, y5, y6, y7, rfl, e0, r3⟩ := p
      subst e0
      rw [hl.1, List.drop_length] at r3
      refine q2 ?_ _ (Same.refl _)
      unfold flawOf
      rw [hasc, r3]
      rfl
/-! ### rule_flaw -/
def p_rule_flaw (CU CR CN : Addr) : Sp := sp2 fun a b H Q E => ∃ T u, T ≤ 3 ∧ RowF H a T u ∧
  ((T = 1 ∧ u 0 = 1 ∧ Exn CU "value" a H E) ∨ (UB T u ∧ b = .non ∧ ExnP CR "place" [] H E) ∨
   (UB T u ∧ ∃ (bA : Addr) (vs : List V) (m : Nat) (cs : List (List (Nat × Nat))), b = .ref bA ∧ H bA = some (.tup vs) ∧ vs.length = T + 1 ∧ (∀ k : Nat, k < m → ∃ w c, vs[k]? = some w ∧ cs[k]? = some c ∧ ChF H w c ∧ CsOk k c) ∧ m ≤ T ∧ vs[m]? = some .non ∧ ExnP CR "place" [.int (m : Nat)] H E) ∨
   (UB T u ∧ ∃ rs, RuF H b rs ∧ RsOk T rs ∧ (∀ fl v H', flawFrom 0 rs = some fl → Same H H' → RowsF H' v (T + 1) fl → Q v H') ∧ (flawFrom 0 rs = none → ∀ H', Same H H' → E (.ref CN) none H')))
theorem d_rule_flaw (W : Wr K mg) (y : Yd K mg Y) (cU : ErU K mg CU) (cR : ErR K mg CR) (C_N : ErN K mg CN) : Df P w K mg base (L2.CX P w) 5 "rule_flaw" (p_rule_flaw CU CR CN) := by
  have D_need_rule : Df P w K mg base (L2.CX P w) 4 "need_rule" (p_need_rule CU CR) := d_need_rule W y cU cR
  have D_flaw_at : Df P w K mg base CX0 3 "flaw_at" p_flaw_at := d_flaw_at W
  obtain ⟨fI, fdI, ok_N, bI_N, iC_N, tI_N⟩ := okN (P := P) (w := w) (base := base) y C_N
  refine dfX_of (W.defs.get (i := 22) rfl) sc_rule_flaw (fun _ _ _ _ _ _ us hl => match us, hl with | [_, _], _ => rfl) (len2 rfl) fun cdv A outer s0 H vs Q fA E hr h => ?_
  obtain ⟨a, b, rfl, T, u, hT, ha, q⟩ := inv2 h
  refine ⟨_, (pss_cons (ps_expr (pe_dfE (E := E) D_need_rule hr (by decide) (by rfl) (passes_call (takes_of rfl rfl rfl rfl) (fun _ _ _ _ h => h)) (pa_cons (pv 0) (pa_cons (pv 1) pa_nil))))
      (pss_cons (ps_for (passes_of rfl) rfl (pi_enumT (by rfl) W.b_enumerate (pa_cons (pv 1) pa_nil)) (pg_tup rfl (pgs_cons (pg_name (i := 2) sc_rule_flaw.nd rfl (.inl rfl)) (pgs_cons (pg_name (i := 3) sc_rule_flaw.nd rfl (.inl rfl)) pgs_nil)))
        (pss_cons (ps_set (i := 4) sc_rule_flaw.nd rfl (.inl rfl) (pe_df D_flaw_at hr (by decide) (by rfl) pass0 (pa_cons (pv 0) (pa_cons (pv 2) (pa_cons (pv 3) pa_nil)))))
      (pss_one (ps_if (pt_cmpR op_notN (pv 4) pe_non (nomark _)) (pss_one (ps_ret (pv 4))) pss_nil))))
      (pss_one (ps_raise rfl (takes_of rfl rfl rfl rfl) (pmk_oex0 C_N.ox iC_N tI_N ok_N (hr.mono (by decide)) bI_N pass0 (by rfl) C_N.gC))))), ?_⟩
  rcases q with ⟨h1, h2, q⟩ | ⟨hu, hb, q⟩ | ⟨hu, bA, vs, m, cs, hb, hv, hl, hw, hm, hn, q⟩ | ⟨hu, rs, hb, hok, q1, q2⟩
  · exact ⟨a, rfl, b, rfl, T, u, hT, ha, .inl ⟨h1, h2, q⟩⟩
  · exact ⟨a, rfl, b, rfl, T, u, hT, ha, .inr (.inl ⟨hu, hb, q⟩)⟩
  · exact ⟨a, rfl, b, rfl, T, u, hT, ha, .inr (.inr ⟨hu, bA, vs, m, cs, hb, hv, hl, hw, .inr ⟨hm, hn, q⟩⟩)⟩
  · refine ⟨a, rfl, b, rfl, need_rule_ok hT hu ha hb hok fun H1 s1 => ?_⟩
    obtain ⟨bA, ws, rfl, hbA, hl⟩ := hb
    refine ⟨.ref bA, rfl, bA, ws, rfl, .of (s1 _ _ hbA), ?_⟩
    refine for_it (walk_enumT (xs := ws)) (fun i σ H' => ∃ y2 y3 y4, σ = [some a, some (.ref bA), y2, y3, y4] ∧ Same H H' ∧ flawFrom 0 rs = flawFrom i (rs.drop i)) ⟨none, none, none, rfl, s1, by rw [List.drop_zero]⟩ (fun i σ H' _ p => by obtain ⟨_, _, _, _, e, _⟩ := p; exact .of (e _ _ hbA)) (fun i v σ H2 H3 hi p y => ?_) (fun σ H' p => ?_)
    · rw [hl.1] at hi
      obtain ⟨y2, y3, y4, rfl, p1, p3⟩ := p
      obtain ⟨T', x1, x2, rfl, nT, rfl, e1, e2⟩ := y
      obtain rfl : V.int (i : Nat) = x1 := Option.some.inj e1
      obtain ⟨v2, g1, g2⟩ := hl.2 i _ (List.getElem?_eq_getElem hi)
      obtain rfl : x2 = v2 := Option.some.inj (e2.symm.trans g1)
      have sN := p1.trans (same_new (o := .tup [.int (i : Nat), x2]) nT)
      have hcs := hok.ok i _ (List.getElem?_eq_getElem hi)
      rw [List.drop_eq_getElem_cons hi] at p3
      replace p3 : flawFrom 0 rs = match flawOf i rs[i] with | some fl => some fl | none => flawFrom (i + 1) (rs.drop (i + 1)) := p3
      have hlen := hok.len
      refine ⟨T', _, rfl, .of upd_same, rfl, _, _, rfl, _, _, rfl, rfl, ?_⟩
      refine ⟨a, rfl, _, rfl, x2, rfl, T, u, i, rs[i], hT, ha.tx sN.tx, rfl, by omega, ChF.tx sN.tx g2, hcs.len, hcs.ok, fun fl v3 H4 hfl s4 r4 => ?_, fun hfl H4 s4 => ?_⟩
      · rw [hfl] at p3
        obtain ⟨c3, vs3, rfl, h3⟩ := r4
        exact ⟨.ref c3, rfl, rfl, _, rfl, .ref c3, rfl, q1 _ _ _ p3 (sN.trans s4) ⟨c3, vs3, rfl, h3⟩⟩
      · rw [hfl] at p3
        exact ⟨.non, rfl, rfl, _, rfl, _, _, _, rfl, sN.trans s4, p3⟩
    · obtain ⟨y2, y3, y4, rfl, p1, p3⟩ := p
      rw [hl.1, List.drop_length] at p3
      intro e he
      refine ⟨e, rfl, upd_same, rfl, upd_same, q2 p3 _ fun b o hb => ?_⟩
      have hne : b ≠ e := ne_of_none (p1 _ _ hb) he
      rw [del_ne hne, upd_ne hne]
      exact p1 _ _ hb
/-! ### is_rule_flaw -/
def p_is_rule_flaw : Sp := sp3 fun a b c H Q _ => ∃ T u rs x o p, T ≤ 3 ∧ UB T u ∧ RowF H a T u ∧ RuF H b rs ∧ RsOk T rs ∧ RowsF H c (T + 1) [x, o, p] ∧ RB (T + 1) x ∧ AskOk T o ∧ AskOk T p ∧ (L (T + 1) (fun i => o i + p i)).sum ≤ 1000 ∧
  LeT T (S u (fun i => o i + p i)) (S u x) ∧ (turnR (takenF u T (fun k => rs.getD k [])) x [o, p]).1 < 2 ∧ ∀ H', Same H H' → Q (.bl true) H'
theorem d_is_rule_flaw (W : Wr K mg) (y : Yd K mg Y) (cU : ErU K mg CU) (cR : ErR K mg CR) : Df P w K mg base CX0 5 "is_rule_flaw" p_is_rule_flaw := by
  have D_need_rule : Df P w K mg base (L2.CX P w) 4 "need_rule" (p_need_rule CU CR) := d_need_rule W y cU cR
  have D_is_row : Df P w K mg base CX0 2 "is_row" p_is_row := d_is_row W
  have D_added : Df P w K mg base CX0 1 "added" p_added := d_added W
  have D_within : Df P w K mg base CX0 2 "within" p_within := d_within W
  have D_ruled_so : Df P w K mg base CX0 4 "ruled_so" p_ruled_so := d_ruled_so W
  refine df_of (W.defs.get (i := 23) rfl) sc_is_rule_flaw (fun _ _ _ _ _ _ us hl => match us, hl with | [_, _, _], _ => rfl) (len3 rfl) fun cdv A outer s0 H vs Q fA E hr h => ?_
  obtain ⟨a, b, c, rfl, T, u, rs, x, o, p, hT, hu, ha, hb, hok, hc, hx, ho, hp, hsum, hle, hcnt, q⟩ := inv3 h
  refine ⟨_, (pss_cons (ps_expr (pe_df D_need_rule hr (by decide) (by rfl) passL (pa_cons (pv 0) (pa_cons (pv 1) pa_nil))))
      (pss_cons (ps_if (PW.pt (pw_or (pt_not (pt_val (pe_callB call_isi (by rfl) W.b_isinstance (by decide +kernel) (pa_cons (pv 2) (pa_cons (pe_bltn (v := .ty "tuple") (by rfl) W.b_tuple (by decide +kernel) rfl) pa_nil))))) (pw_or1 (pt_cmpR op_ne (pe_callB call_len_seq (by rfl) W.b_len (by decide +kernel) (pa_cons (pv 2) pa_nil)) pe_int (nomark _))))) (pss_one (ps_ret pe_bl)) pss_nil)
      (pss_cons (ps_for PassesOwn.never rfl (pi_tup (pv 2)) (pg_name (i := 3) sc_is_rule_flaw.nd rfl (.inl rfl))
        (pss_one (ps_if (pt_not (pt_val (pe_df D_is_row hr (by decide) (by rfl) pass0 (pa_cons (pv 0) (pa_cons (pv 3) pa_nil))))) (pss_one (ps_ret pe_bl)) pss_nil)))
      (pss_cons (ps_asg (pv 2) (pg_tup rfl (pgs_cons (pg_name (i := 4) sc_is_rule_flaw.nd rfl (.inl rfl)) (pgs_cons (pg_name (i := 5) sc_is_rule_flaw.nd rfl (.inl rfl)) (pgs_cons (pg_name (i := 6) sc_is_rule_flaw.nd rfl (.inl rfl)) pgs_nil)))))
      (pss_cons (ps_set (i := 7) sc_is_rule_flaw.nd rfl (.inl rfl) (pe_df D_added hr (by decide) (by rfl) pass0 (pa_cons (pv 5) (pa_cons (pv 6) pa_nil))))
      (pss_cons (ps_if (PW.pt (pw_or (pt_cmpR op_gt (pe_callB (cr_sumT rfl) (by rfl) W.b_sum (by decide +kernel) (pa_cons (pv 7) pa_nil)) (pe_gi rfl W.MOST_ASKED) (nomark _)) (pw_or1 (pt_not (pt_val (pe_df D_within hr (by decide) (by rfl) pass0 (pa_cons (pv 0) (pa_cons (pv 7) (pa_cons (pv 4) pa_nil))))))))) (pss_one (ps_ret pe_bl)) pss_nil)
      (pss_one (ps_ret (pe_cmpR op_lt (pe_ix ix_tup (pe_df D_ruled_so hr (by decide) (by rfl) pass0 (pa_cons (pv 0) (pa_cons (pv 1) (pa_cons (pv 4) (pa_cons (pe_tup (pa_cons (pv 5) (pa_cons (pv 6) pa_nil))) pa_nil))))) pe_int (fun _ _ => rfl)) pe_int (nomark _)))))))))), ?_⟩
  refine ⟨a, rfl, b, rfl, need_rule_ok hT hu ha hb hok fun H1 s1 => ?_⟩
  obtain ⟨cA, ws, rfl, hcA, hl, hw⟩ := hc.tx s1.tx
  refine ⟨.ref cA, rfl, .ref cA, .ty "tuple", .type "tuple", .type "tuple", true, rfl, .ty _, .base (.tup hcA), kit_ty (by decide +kernel), true, rfl, ?_⟩
  refine ⟨.ref cA, rfl, cA, _, rfl, .inr (.of hcA), rfl, _, rfl, ?_⟩
  rw [hl, decide_eq_true (show V.int (([x, o, p] : List Fn).length : Nat) = V.int 3 from rfl)]
  refine ⟨.ref cA, rfl, cA, rfl, ⟨_, .of hcA⟩, ?_⟩
  have hrb : ∀ (i : Nat) (hi : i < ([x, o, p] : List Fn).length), RB (T + 1) ([x, o, p] : List Fn)[i] := fun i hi => by
    match i, hi with
    | 0, _ => exact hx
    | 1, _ => exact ho.rb
    | 2, _ => exact hp.rb
  refine for_it (walk_tup (xs := ws)) (fun i σ H' => ∃ y3, σ = [some a, some b, some (.ref cA), y3, none, none, none, none] ∧ H' = H1) ⟨none, rfl, rfl⟩ (fun i σ H' _ ⟨_, _, e⟩ => by rw [e]; exact .of hcA) (fun i v σ H2 H3 hi p y => ?_) (fun σ H' p => ?_)
  · rw [hl] at hi
    obtain ⟨y3, rfl, e0⟩ := p
    obtain ⟨e1, f1⟩ := y
    subst e1 e0
    exact ⟨a, rfl, v, rfl, T, u, _, hT, ha.tx s1.tx, RowsF.at hl hw hi f1, hrb i hi, _, rfl, _, rfl, rfl⟩
  · obtain ⟨y3, rfl, e0⟩ := p
    subst e0
    obtain ⟨v0, g0, r0⟩ := hw 0 _ rfl
    obtain ⟨v1, g1, r1⟩ := hw 1 _ rfl
    obtain ⟨v2, g2, r2⟩ := hw 2 _ rfl
    have ews : ws = [v0, v1, v2] := by
      match ws, hl, g0, g1, g2 with
      | [_, _, _], _, g0, g1, g2 => cases g0; cases g1; cases g2; rfl
    subst ews
    refine ⟨.ref cA, rfl, cA, _, rfl, .of hcA, rfl, _, _, rfl, _, _, rfl, _, _, rfl, rfl, ?_⟩
    refine ⟨v1, rfl, v2, rfl, T + 1, _, _, by omega, r1, r2, fun v3 H3 s3 r3 => ?_⟩
    obtain ⟨c3, rfl, h3⟩ := r3
    have s13 := s1.trans s3
    refine ⟨.ref c3, rfl, c3, _, rfl, .of h3, _, _, rfl, rfl, _, rfl, ite2 (fun e => ?_) (fun e => ?_)⟩
    · have := of_decide_eq_true e
      omega
    · refine ⟨a, rfl, .ref c3, rfl, v0, rfl, T, u, _, x, hT, hu, ha.tx s13.tx, ⟨c3, rfl, h3⟩, r0.tx s3.tx, fun r H4 s4 hr4 => ?_⟩
      obtain rfl : r = true := hr4.mpr hle
      refine ⟨_, rfl, ?_⟩
      have s14 := s13.trans s4
      have s34 := s3.trans s4
      refine ⟨a, rfl, b, rfl, v0, rfl, v1, rfl, v2, rfl, size2, fun p5 hp5 => ?_⟩
      have s5 := same_new (o := .tup [v1, v2]) hp5
      refine ⟨T, u, rs, x, [o, p], hT, hu, (ha.tx s14.tx).tx s5.tx, (hb.tx s14.tx).tx s5.tx, hok.chs, (r0.tx s34.tx).tx s5.tx, rows2 upd_same ((r1.tx s34.tx).tx s5.tx) ((r2.tx s34.tx).tx s5.tx), (by show 2 ≤ 60; decide), fun f hf => ?_, fun v6 H6 s6 r6 => ?_⟩
      · rcases List.mem_cons.mp hf with z | z
        · rw [z]; exact ho
        · rw [List.mem_singleton.mp z]; exact hp
      · obtain ⟨c6, w6, rfl, h6, _⟩ := r6
        refine ⟨c6, _, 0, _, rfl, rfl, .of h6, atI_nat (j := 0) rfl, _, _, rfl, rfl, ?_⟩
        have e9 := decide_eq_true (show (((turnR (takenF u T (fun k => rs.getD k [])) x [o, p]).1 : Nat) : Int) < 2 by omega)
        show Q (V.bl (decide (_ < (2 : Int)))) _
        rw [e9]
        exact q _ ((s14.trans s5).trans s6)
/-! ### _law_told_flaw -/
def tCalS (sp : Sp) (E : L2.St → XK) (t : TA) : TE := fun σ H Q => t σ H fun vs H1 => sp vs H1 Q (E σ)
theorem pe_dfS {X : Cx} {CX : CXT} {j k : Nat} {x : Str} {sp : Sp} {e : Expr} {es : List Expr} {t : TA} {p pos : Pos} {E : L2.St → XK} (D : Df X.prog X.w X.K X.mg X.base CX k x sp) (hr : Room j X.A) (hk : k ≤ j) (hg : Gl X x) (hx : ∀ σ, PassesAt CX X σ (E σ)) (ha : PA X (e :: es) t) (hdb : (x == ("__debug__" : Str)) = false := by decide)
    (he : starEach (e :: es) X.env = (false, eval e X.env) :: starEach es X.env := by rfl) (hpl : (backTo pos (starEach es X.env)).any (·.1) = false := by rfl) : PE X (.Call (.Name x p) (e :: es) [] pos) (tCalS sp E t) := by
  obtain ⟨f, fd, ps, F, hm, hkp, hb⟩ := D.ex
  exact pe_callS F (hr.mono hk) hg hm hkp hb hx ha hdb he hpl
def p_told_flaw : Sp := sp2 fun a b H Q _ => ∃ T u rs, T ≤ 3 ∧ UB T u ∧ RowF H a T u ∧ RuF H b rs ∧ RsOk T rs ∧ (∀ fl l v H', flawFrom 0 rs = some fl → Same H H' → H' l = some (.lst [.str "told", v]) → RowsF H' v (T + 1) fl → Q (.ref l) H') ∧
  (flawFrom 0 rs = none → ∀ l H', Same H H' → H' l = some (.lst [.str "NoRow"]) → Q (.ref l) H')
theorem d_told_flaw (W : Wr K mg) (y : Yd K mg Y) (cU : ErU K mg CU) (cR : ErR K mg CR) (C_N : ErN K mg CN) (eN : PySem.W.exmOne K (.ref CN) (.ref CN) = some true) : Df P w K mg base CX0 6 "_law_told_flaw" p_told_flaw := by
  have D_rule_flaw : Df P w K mg base (L2.CX P w) 5 "rule_flaw" (p_rule_flaw CU CR CN) := d_rule_flaw W y cU cR C_N
  refine df_of (W.defs.get (i := 45) rfl) sc__law_told_flaw (fun _ _ _ _ _ _ us hl => match us, hl with | [_, _], _ => rfl) (len2 rfl) fun cdv A outer s0 H vs Q fA E hr h => ?_
  obtain ⟨a, b, rfl, T, u, rs, hT, hu, ha, hb, hok, q1, q2⟩ := inv2 h
  refine ⟨_, (pss_cons (ps_set (i := 2) sc__law_told_flaw.nd rfl (.inl rfl) pe_non)
      (pss_cons (ps_try_mix (Wout := fun _ _ _ _ => False) (tb := fun W => tAsg (tLst (tCons (tC (.str "told")) (tCons (tCalS (p_rule_flaw CU CR CN) (WE W) (tCons (tVar 0) (tCons (tVar 1) tNil))) tNil))) (gName 2)) rfl rfl sc__law_told_flaw.nd takes0
        (fun W pn xe tk _ => pss_one (ps_set (i := 2) sc__law_told_flaw.nd rfl (.inl rfl) (pe_lst (pa_cons pe_str (pa_cons (by exact (pe_dfS D_rule_flaw hr (by decide) (by rfl) (fun σ => passAt tk σ) (by exact (pa_cons (pv 0) (pa_cons (pv 1) pa_nil))))) pa_nil)))))
        (HdsMix.cons ⟨rfl, by decide, .inl C_N.gC⟩ (fun a oe cls d pn hz hf => pss_one (ps_set (i := 2) sc__law_told_flaw.nd rfl (.inl rfl) (pe_lst (pa_cons pe_str pa_nil))))
        (HdsMix.cons ⟨rfl, by decide, .inl y.gY⟩ (fun a oe cls d pn hz hf => pss_one (ps_set (i := 2) sc__law_told_flaw.nd rfl (.inl rfl) (pe_lst (pa_cons pe_str pa_nil)))) HdsMix.nil)))
      (pss_one (ps_ret (pv 2))))), ?_⟩
  refine ⟨a, rfl, b, rfl, T, u, hT, ha, .inr (.inr (.inr ⟨hu, rs, hb, hok, fun fl v H1 hfl s1 r1 => ?_, fun hfl H1 s1 => ?_⟩))⟩
  · refine ⟨size2, fun l hl => ?_⟩
    exact ⟨.ref l, rfl, q1 _ _ _ _ hfl (s1.trans (same_new hl)) upd_same (r1.tx (Tx.new hl))⟩
  · refine ⟨true, eN, fun _ z hz => ?_, fun z => nomatch z⟩
    refine ⟨(by show 1 ≤ sizeLine; decide), fun l hl => ?_⟩
    exact ⟨.ref l, rfl, q2 hfl _ _ (s1.trans (same_new hl)) upd_same⟩
end
end K21
end
section
set_option maxRecDepth 100000
set_option maxHeartbeats 4000000
/-! K21I: the law's state and draws. -/
namespace K21
open PySem PySem.Spec PyProof.Rows L2
/-- the state's dict -/
def stK (lc ll : Addr) (t : Int) : List (Key × V) := [(.inr "cells", .ref lc), (.inr "lefts", .ref ll), (.inr "at", .int t)]
/-- where the state stands: the dict, its lefts, its cells -/
abbrev Ad3 := Addr × Addr × Addr
/-- the law's state stands at z, at most N draws so far -/
def StA (z : Ad3) (N : Nat) (H : Hp) : Prop := ∃ (cs ls : List Int) (t : Nat), H z.1 = some (.dK (stK z.2.2 z.2.1 (t : Int))) ∧ H z.2.2 = some (.lst (cs.map V.int)) ∧ H z.2.1 = some (.lst (ls.map V.int)) ∧
  z.1 ≠ z.2.1 ∧ z.2.2 ≠ z.2.1 ∧ z.2.2 ≠ z.1 ∧ ls.length = cs.length ∧ 0 < cs.length ∧ cs.length ≤ 63 ∧ t ≤ N
/-- all but the state and its lefts stands -/
def SamX (z : Ad3) (H H' : Hp) : Prop := ∀ b o, b ≠ z.1 → b ≠ z.2.1 → H b = some o → H' b = some o
theorem StA.mono {z : Ad3} {N M : Nat} {H : Hp} (h : StA z N H) (hm : N ≤ M) : StA z M H := by
  obtain ⟨cs, ls, t, h1, h2, h3, h4, h5, h6, h7, h8, h9, h10⟩ := h
  exact ⟨cs, ls, t, h1, h2, h3, h4, h5, h6, h7, h8, h9, by omega⟩
theorem StA.same {z : Ad3} {N : Nat} {H H' : Hp} (h : StA z N H) (e : Same H H') : StA z N H' := by
  obtain ⟨cs, ls, t, h1, h2, h3, h4⟩ := h
  exact ⟨cs, ls, t, e _ _ h1, e _ _ h2, e _ _ h3, h4⟩
/-- an address that is none of the state's -/
def Off (z : Ad3) (b : Addr) : Prop := b ≠ z.1 ∧ b ≠ z.2.1 ∧ b ≠ z.2.2
theorem StA.off {z : Ad3} {N : Nat} {H : Hp} (h : StA z N H) {b : Addr} (hb : H b = none) : Off z b := by
  obtain ⟨cs, ls, t, h1, h2, h3, h4⟩ := h
  exact ⟨fun z => (by rw [z, h1] at hb; cases hb), fun z => (by rw [z, h3] at hb; cases hb), fun z => (by rw [z, h2] at hb; cases hb)⟩
theorem StA.put {z : Ad3} {N : Nat} {H : Hp} (h : StA z N H) {D : Addr} (n : Off z D) {o : HO} : StA z N (upd H D o) := by
  obtain ⟨cs, ls, t, h1, h2, h3, h4⟩ := h
  exact ⟨cs, ls, t, by rw [upd_ne n.1.symm]; exact h1, by rw [upd_ne n.2.2.symm]; exact h2, by rw [upd_ne n.2.1.symm]; exact h3, h4⟩
theorem SamX.refl (z : Ad3) (H : Hp) : SamX z H H := fun _ _ _ _ h => h
theorem SamX.trans {z : Ad3} {H H1 H2 : Hp} (a : SamX z H H1) (b : SamX z H1 H2) : SamX z H H2 := fun c o n1 n2 h => b c o n1 n2 (a c o n1 n2 h)
theorem SamX.at {z : Ad3} {H H' : Hp} (h : SamX z H H') {b : Addr} {o : HO} (n : Off z b) (e : H b = some o) : H' b = some o := h b o n.1 n.2.1 e
theorem _root_.L2.Same.sx {z : Ad3} {H H' : Hp} (h : Same H H') : SamX z H H' := fun b o _ _ e => h b o e
theorem SamX.tx {z : Ad3} {N : Nat} {H H' : Hp} (h : SamX z H H') (st : StA z N H) : Tx H H' := fun b xs e => by
  obtain ⟨cs, ls, t, h1, h2, h3, h4⟩ := st
  refine h b _ (fun z => ?_) (fun z => ?_) e
  · rw [z, h1] at e; cases e
  · rw [z, h3] at e; cases e
theorem SamX.mut {z : Ad3} {H H' : Hp} {p : Addr} {o : HO} (e : SamX z H H') (h : H p = none) : SamX z H (upd H' p o) := fun b u n1 n2 q => by
  rw [upd_ne (ne_of_none q h)]
  exact e b u n1 n2 q
theorem dg_cells {H : Hp} {s lc ll : Addr} {t : Int} (h : H s = some (.dK (stK lc ll t))) : DGet H s (.str "cells") (some (.ref lc)) := .inl ⟨_, .inr "cells", .inl h, rfl, rfl⟩
theorem dg_lefts {H : Hp} {s lc ll : Addr} {t : Int} (h : H s = some (.dK (stK lc ll t))) : DGet H s (.str "lefts") (some (.ref ll)) := .inl ⟨_, .inr "lefts", .inl h, rfl, rfl⟩
theorem dg_at {H : Hp} {s lc ll : Addr} {t : Int} (h : H s = some (.dK (stK lc ll t))) : DGet H s (.str "at") (some (.int t)) := .inl ⟨_, .inr "at", .inl h, rfl, rfl⟩
theorem dp_at {H : Hp} {s lc ll : Addr} {t j : Int} (h : H s = some (.dK (stK lc ll t))) : DPut H s (.str "at") (.int j) (upd H s (.dK (stK lc ll j))) := .inl ⟨_, .inr "at", h, rfl, (by show 3 < sizeLine; decide), rfl⟩
theorem ints_set {l : List Int} {j : Nat} {v : Int} : (l.map V.int).set j (.int v) = (l.set j v).map V.int := by rw [List.map_set]
section
variable {P : Program} {w : World} {K : PySem.W.Frag} {mg : Str → Option Value} {base : Heap} {Y CU CR : Addr}
/-! ### _law_mixed -/
def p_mixed : Sp := sp2 fun a b H Q _ => ∃ c k : Int, a = .int c ∧ b = .int k ∧ 0 ≤ k ∧ k ≤ 1000000 ∧ ∀ r : Int, 0 ≤ r → r < 2147483647 → Q (.int r) H
theorem sq_le {k : Int} (h0 : 0 ≤ k) (h1 : k ≤ 1000000) : 0 ≤ 2 * k * k ∧ 2 * k * k ≤ 2000000000000 := by
  have e : 0 ≤ k * k := Int.mul_nonneg h0 h0
  have e1 : k * k ≤ 1000000 * 1000000 := Int.mul_le_mul h1 h1 h0 (by omega)
  rw [Int.mul_assoc]
  omega
theorem d_law_mixed (W : Wr K mg) : Df P w K mg base CX0 1 "_law_mixed" p_mixed := by
  refine df_of (W.defs.get (i := 27) rfl) sc__law_mixed (fun _ _ _ _ _ _ us hl => match us, hl with | [_, _], _ => rfl) (len2 rfl) fun cdv A outer s0 H vs Q fA E hr h => ?_
  obtain ⟨a, b, rfl, c, k, rfl, rfl, h0, h1, q⟩ := inv2 h
  refine ⟨_, (pss_cons (ps_set (i := 0) sc__law_mixed.nd rfl (.inl rfl) (pe_op op_mod (pe_callTy call_int1 (by rfl) W.b_int (by decide +kernel) (pa_cons (pv 0) pa_nil)) pe_int))
      (pss_one (ps_ret (pe_op op_mod (pe_op op_mul (pe_op op_mod (pe_op op_add (pe_op op_add (pe_op op_mul (pv 0) (pe_op op_add pe_int (pe_op op_mul (pe_op op_mul pe_int (pv 1)) (pv 1)))) (pe_op op_mul pe_int (pv 1))) pe_int) pe_int) pe_int) pe_int)))), ?_⟩
  have hs := sq_le h0 h1
  have hc := Int.emod_nonneg c (show (2147483647 : Int) ≠ 0 by omega)
  have hc2 := Int.emod_lt_of_pos c (show (0 : Int) < 2147483647 by omega)
  refine ⟨.int c, rfl, .inl ⟨c, rfl, c, _, rfl, rfl, (by show (0 : Int) < 2147483647; omega), _, rfl, ?_⟩⟩
  refine ⟨_, rfl, _, _, rfl, rfl, .inr ⟨by omega, by omega⟩, _, rfl, _, _, rfl, rfl, .inr ⟨by omega, by omega⟩, _, _, rfl, rfl, ?_⟩
  refine ⟨_, _, rfl, rfl, .inl ⟨by omega, by omega⟩, _, rfl, _, _, rfl, rfl, .inr ⟨by omega, by omega⟩, _, _, rfl, rfl, _, _, rfl, rfl, ?_⟩
  refine ⟨_, _, rfl, rfl, (by show (0 : Int) < 2147483647; omega), _, _, rfl, rfl, .inr ⟨by omega, by omega⟩, _, _, rfl, rfl, (by show (0 : Int) < 2147483629; omega), ?_⟩
  refine q _ (Int.emod_nonneg _ (by omega)) (Int.lt_trans (Int.emod_lt_of_pos _ (by omega)) (by omega))
/-! ### _law_begin -/
def p_begin (K : PySem.W.Frag) : Sp := sp1 fun a H Q _ => ∃ (sc : Addr) (xs : List Int), a = .ref sc ∧ SqL K H sc (xs.map V.int) ∧ xs.length ≤ 63 ∧ ∀ z H', Same H H' → StA z 0 H' → Q (.ref z.1) H'
theorem eqv_nil_int (ds : List PyData) : PyData.eqv (.list ds) (.list []) = ds.isEmpty := by
  cases ds <;> rfl
theorem dp_ints {H : Hp} {xs : List Int} : DpAll K H (xs.map V.int) (xs.map PyData.int) := by
  induction xs with
  | nil => exact .nil
  | cons x r ih => exact .cons (.int x) ih
theorem lay_ints {xs : List Int} : PyData.canLayAll0 (xs.map PyData.int) = true ∧ PyData.depthAll (xs.map PyData.int) = 0 := by
  induction xs with
  | nil => exact ⟨by simp [PyData.canLayAll0], by simp [PyData.depthAll]⟩
  | cons x r ih => exact ⟨by simp [PyData.canLayAll0, PyData.canLay0, ih.1], by simp [PyData.depthAll, PyData.depth, ih.2]⟩
theorem shaped_ints {xs : List Int} : SeqAt.shaped (.list (xs.map PyData.int)) = true := by
  unfold SeqAt.shaped
  rw [Bool.and_eq_true, decide_eq_true_iff]
  exact ⟨by simp [PyData.canLay0, lay_ints.1], by simp [PyData.depth, lay_ints.2]⟩
/-- the left of a cell -/
def leftOf (c : Int) : Int := if c ≥ 10 ^ (18 : Int).toNat then c else 0
theorem d_law_begin (W : Wr K mg) : Df P w K mg base CX0 1 "_law_begin" (p_begin K) := by
  refine df_of (W.defs.get (i := 28) rfl) sc__law_begin (fun _ _ _ _ _ _ us hl => match us, hl with | [_], _ => rfl) (len1 rfl) fun cdv A outer s0 H vs Q fA E hr h => ?_
  obtain ⟨a, rfl, sc, xs, rfl, hsc, h63, q⟩ := inv1 h
  refine ⟨_, (pss_cons (ps_set (i := 1) sc__law_begin.nd rfl (.inl rfl) (pe_ifExp (pt_cmpR (op_neD hr.units) (pv 0) (pe_lst pa_nil) (nomark _)) (pe_callTy call_list_of (by rfl) W.b_list (by decide +kernel) (pa_cons (pv 0) pa_nil)) (pe_lst (pa_cons pe_int pa_nil))))
      (pss_one (ps_ret (pe_disp (pps_cons pe_str (pv 1) (pps_cons pe_str (pe_lc (own := [("_law_cell", 2)]) (g := gName 2) rfl sc__law_begin.nd (pi_list (pv 1)) (blkOk_by (own := [("_law_cell", 2)]) (N := ["_law_script", "_law_cells_so", "_law_cell"]) (sc := defScope s__law_begin) (by decide +kernel)) (fun _ _ _ _ _ => pg_name (i := 2) sc__law_begin.nd rfl (Or.inl rfl)) (fun _ _ _ _ _ => pts_nil) (fun _ _ _ _ _ => (pe_ifExp (pt_cmpR op_ge (pv 2) (pe_op op_pow pe_int pe_int) (nomark _)) (pv 2) pe_int))) (pps_cons pe_str pe_int pps_nil))) rfl rfl (fun z => nomatch z) (by decide))))), ?_⟩
  refine ⟨_, rfl, Nat.zero_le _, fun D0 hD0 => ⟨_, _, .lst ((same_new (o := .lst []) hD0).seq hsc) dp_ints, .lst (.of upd_same) .nil, shaped_ints, shaped_ints (xs := []), _, rfl, ite2 (fun e => ?_) (fun e => ?_)⟩⟩
  · refine ⟨_, rfl, sc, _, rfl, .inl ((same_new (o := .lst []) hD0).seq hsc), fun l hl0 => ?_⟩
    have s1 := (same_new (o := .lst []) hD0).trans (same_new (o := .lst (xs.map V.int)) hl0)
    obtain ⟨cs, hcs⟩ : ∃ cs, cs = xs := ⟨_, rfl⟩
    obtain ⟨H1, hH1⟩ : ∃ H1, H1 = upd (upd H D0 (.lst [])) l (.lst (xs.map V.int)) := ⟨_, rfl⟩
    have hl : H1 l = some (.lst (cs.map V.int)) := by rw [hH1, hcs]; exact upd_same
    rw [← hH1] at s1
    have c0 : 0 < cs.length := by
      rw [hcs]
      rcases xs with _ | ⟨x, r⟩
      · exact absurd e (by decide)
      · exact Nat.succ_pos _
    have c1 : cs.length ≤ 63 := by rw [hcs]; exact h63
    rw [← hH1]
    refine fun p hp => ?_
    have s2 := s1.trans (same_new (o := .dK []) hp)
    refine ⟨_, rfl, _, rfl, l, rfl, ⟨_, .of ((same_new (o := .dK []) hp) _ _ hl)⟩, fun D hD => ?_⟩
    have hDp : D ≠ p := fun z => by rw [z, upd_same] at hD; cases hD
    have hlD : D ≠ l := fun z => by rw [z, (same_new (o := .dK []) hp) _ _ hl] at hD; cases hD
    refine lc_it (walk_list (xs := cs.map V.int)) (fun i H' => Same (upd H1 p (.dK [])) H' ∧ H' D = some (.lst (((cs.take i).map leftOf).map V.int))) ⟨same_new hD, upd_same⟩ (fun i H' _ pv => .of (pv.1 _ _ ((same_new (o := .dK []) hp) _ _ hl))) (fun i x H3 H4 hi pv y => ?_) (fun H' pv => ?_)
    · obtain ⟨rfl, e1⟩ := y
      rw [List.length_map] at hi
      obtain rfl : x = .int cs[i] := Option.some.inj (e1.symm.trans (by rw [List.getElem?_map, List.getElem?_eq_getElem hi]; rfl))
      have fin : ∀ v, v = V.int (leftOf cs[i]) → ∃ acc, H4 D = some (.lst acc) ∧ acc.length < sizeLine ∧ (Same (upd H1 p (.dK [])) (upd H4 D (.lst (acc ++ [v]))) ∧ upd H4 D (.lst (acc ++ [v])) D = some (.lst (((cs.take (i + 1)).map leftOf).map V.int))) := fun v ev => by
        subst ev
        refine ⟨_, pv.2, by rw [List.length_map, List.length_map, List.length_take]; exact lt_line (by omega), pv.1.mut hD, ?_⟩
        rw [upd_same, List.take_succ, List.getElem?_eq_getElem hi, List.map_append, List.map_append]
        rfl
      refine ⟨rfl, _, rfl, _, _, rfl, rfl, ⟨by omega, by omega, by omega⟩, _, _, rfl, rfl, _, rfl, ite2 (fun e => ?_) (fun e => ?_)⟩
      · refine ⟨_, rfl, fin _ ?_⟩
        unfold leftOf
        rw [if_pos (of_decide_eq_true e)]
      · refine fin _ ?_
        unfold leftOf
        rw [if_neg (fun z => e (decide_eq_true z))]
    · rw [List.take_of_length_le (by rw [List.length_map]; omega)] at pv
      have e2 : H' p = some (.dK []) := pv.1 _ _ upd_same
      refine ⟨e2, stK l D 0, rfl, (by show 3 ≤ 15; omega), q (p, D, l) _ ((s2.trans pv.1).mut (s1.free hp)) ⟨cs, cs.map leftOf, 0, upd_same, ?_, ?_, hDp.symm, hlD.symm, ?_, by rw [List.length_map], c0, c1, Nat.le_refl _⟩⟩
      · show upd H' p _ l = _
        rw [upd_ne (fun z => by rw [z, hp] at hl; cases hl)]
        exact pv.1 _ _ ((same_new (o := .dK []) hp) _ _ hl)
      · show upd H' p _ D = _
        rw [upd_ne hDp]
        exact pv.2
      · exact fun z => by rw [show l = p from z, hp] at hl; cases hl
  · refine ⟨(by show 1 ≤ sizeLine; decide), fun l hl0 => ?_⟩
    have s1 := (same_new (o := .lst []) hD0).trans (same_new (o := .lst [V.int 0]) hl0)
    obtain ⟨cs, hcs⟩ : ∃ cs : List Int, cs = [0] := ⟨_, rfl⟩
    obtain ⟨H1, hH1⟩ : ∃ H1, H1 = upd (upd H D0 (.lst [])) l (.lst [V.int 0]) := ⟨_, rfl⟩
    have hl : H1 l = some (.lst (cs.map V.int)) := by rw [hH1, hcs]; exact upd_same
    rw [← hH1] at s1
    have c0 : 0 < cs.length := by rw [hcs]; exact Nat.succ_pos _
    have c1 : cs.length ≤ 63 := by rw [hcs]; decide
    rw [← hH1]
    refine fun p hp => ?_
    have s2 := s1.trans (same_new (o := .dK []) hp)
    refine ⟨_, rfl, _, rfl, l, rfl, ⟨_, .of ((same_new (o := .dK []) hp) _ _ hl)⟩, fun D hD => ?_⟩
    have hDp : D ≠ p := fun z => by rw [z, upd_same] at hD; cases hD
    have hlD : D ≠ l := fun z => by rw [z, (same_new (o := .dK []) hp) _ _ hl] at hD; cases hD
    refine lc_it (walk_list (xs := cs.map V.int)) (fun i H' => Same (upd H1 p (.dK [])) H' ∧ H' D = some (.lst (((cs.take i).map leftOf).map V.int))) ⟨same_new hD, upd_same⟩ (fun i H' _ pv => .of (pv.1 _ _ ((same_new (o := .dK []) hp) _ _ hl))) (fun i x H3 H4 hi pv y => ?_) (fun H' pv => ?_)
    · obtain ⟨rfl, e1⟩ := y
      rw [List.length_map] at hi
      obtain rfl : x = .int cs[i] := Option.some.inj (e1.symm.trans (by rw [List.getElem?_map, List.getElem?_eq_getElem hi]; rfl))
      have fin : ∀ v, v = V.int (leftOf cs[i]) → ∃ acc, H4 D = some (.lst acc) ∧ acc.length < sizeLine ∧ (Same (upd H1 p (.dK [])) (upd H4 D (.lst (acc ++ [v]))) ∧ upd H4 D (.lst (acc ++ [v])) D = some (.lst (((cs.take (i + 1)).map leftOf).map V.int))) := fun v ev => by
        subst ev
        refine ⟨_, pv.2, by rw [List.length_map, List.length_map, List.length_take]; exact lt_line (by omega), pv.1.mut hD, ?_⟩
        rw [upd_same, List.take_succ, List.getElem?_eq_getElem hi, List.map_append, List.map_append]
        rfl
      refine ⟨rfl, _, rfl, _, _, rfl, rfl, ⟨by omega, by omega, by omega⟩, _, _, rfl, rfl, _, rfl, ite2 (fun e => ?_) (fun e => ?_)⟩
      · refine ⟨_, rfl, fin _ ?_⟩
        unfold leftOf
        rw [if_pos (of_decide_eq_true e)]
      · refine fin _ ?_
        unfold leftOf
        rw [if_neg (fun z => e (decide_eq_true z))]
    · rw [List.take_of_length_le (by rw [List.length_map]; omega)] at pv
      have e2 : H' p = some (.dK []) := pv.1 _ _ upd_same
      refine ⟨e2, stK l D 0, rfl, (by show 3 ≤ 15; omega), q (p, D, l) _ ((s2.trans pv.1).mut (s1.free hp)) ⟨cs, cs.map leftOf, 0, upd_same, ?_, ?_, hDp.symm, hlD.symm, ?_, by rw [List.length_map], c0, c1, Nat.le_refl _⟩⟩
      · show upd H' p _ l = _
        rw [upd_ne (fun z => by rw [z, hp] at hl; cases hl)]
        exact pv.1 _ _ ((same_new (o := .dK []) hp) _ _ hl)
      · show upd H' p _ D = _
        rw [upd_ne hDp]
        exact pv.2
      · exact fun z => by rw [show l = p from z, hp] at hl; cases hl
/-! ### _law_draw -/
theorem StA.lt {z : Ad3} {N : Nat} {H : Hp} (h : StA z N H) : H z.1 ≠ none := by
  obtain ⟨cs, ls, t, h1, h2, h3, h4⟩ := h
  rw [h1]; exact fun z => nomatch z
def p_draw : Sp := sp2 fun a b H Q _ => ∃ (z : Ad3) (N : Nat) (lim : Int), a = .ref z.1 ∧ b = .int lim ∧ 0 < lim ∧ lim < 1000000 ∧ StA z N H ∧ N ≤ 900000 ∧ ∀ r H', SamX z H H' → StA z (N + 1) H' → 0 ≤ r → r < lim → Q (.int r) H'
theorem d_law_draw (W : Wr K mg) : Df P w K mg base CX0 2 "_law_draw" p_draw := by
  have D__law_mixed : Df P w K mg base CX0 1 "_law_mixed" p_mixed := d_law_mixed W
  refine df_of (W.defs.get (i := 29) rfl) sc__law_draw (fun _ _ _ _ _ _ us hl => match us, hl with | [_, _], _ => rfl) (len2 rfl) fun cdv A outer s0 H vs Q fA E hr h => ?_
  obtain ⟨a, b, rfl, ⟨s, ll, lc⟩, N, lim, rfl, rfl, l0, l1, ⟨cs, ls, t, h1, h2, h3, h4, h5, h6, h7, h8, h9, h10⟩, hN, q⟩ := inv2 h
  refine ⟨_, (pss_cons (ps_set (i := 2) sc__law_draw.nd rfl (.inl rfl) (pe_dget (hu_of hr) (pv 0) pe_str (fun _ _ => rfl)))
      (pss_cons (ps_dput (hu_of hr) (pv 0) pe_str (pe_op op_add (pv 2) pe_int) rfl)
      (pss_cons (ps_set (i := 3) sc__law_draw.nd rfl (.inl rfl) (pe_op op_mod (pe_callTy call_int1 (by rfl) W.b_int (by decide +kernel) (pa_cons (pv 2) pa_nil)) (pe_callB call_len_seq (by rfl) W.b_len (by decide +kernel) (pa_cons (pe_dget (hu_of hr) (pv 0) pe_str (fun _ _ => rfl)) pa_nil))))
      (pss_cons (ps_set (i := 4) sc__law_draw.nd rfl (.inl rfl) (pe_ix ix_list (pe_dget (hu_of hr) (pv 0) pe_str (fun _ _ => rfl)) (pv 3) (fun _ _ => rfl)))
      (pss_cons (ps_if (pt_cmpR op_gt (pv 4) pe_int (nomark _)) (pss_cons (ps_asg (pe_op op_fdiv (pv 4) (pv 1)) (pg_sub (pe_dget (hu_of hr) (pv 0) pe_str (fun _ _ => rfl)) (pv 3) set_list))
      (pss_one (ps_ret (pe_op op_mod (pe_callTy call_int1 (by rfl) W.b_int (by decide +kernel) (pa_cons (pv 4) pa_nil)) (pv 1))))) pss_nil)
      (pss_cons (ps_set (i := 5) sc__law_draw.nd rfl (.inl rfl) (pe_df D__law_mixed hr (by decide) (by rfl) pass0 (pa_cons (pe_df D__law_mixed hr (by decide) (by rfl) pass0 (pa_cons (pe_ix ix_list (pe_dget (hu_of hr) (pv 0) pe_str (fun _ _ => rfl)) (pv 3) (fun _ _ => rfl)) (pa_cons (pv 2) pa_nil))) (pa_cons (pe_op op_add pe_int (pv 2)) pa_nil))))
      (pss_one (ps_ret (pe_op op_mod (pe_op op_fdiv (pe_callTy call_int1 (by rfl) W.b_int (by decide +kernel) (pa_cons (pe_op op_add (pe_op op_mul (pv 5) pe_int) (pe_df D__law_mixed hr (by decide) (by rfl) pass0 (pa_cons (pv 5) (pa_cons (pe_op op_add pe_int (pv 2)) pa_nil)))) pa_nil)) pe_int) (pv 1)))))))))), ?_⟩
  replace h1 : H s = _ := h1
  replace h2 : H lc = _ := h2
  replace h3 : H ll = _ := h3
  replace h4 : s ≠ ll := h4
  replace h5 : lc ≠ ll := h5
  replace h6 : lc ≠ s := h6
  refine ⟨.ref s, rfl, s, _, rfl, dg_at h1, ?_⟩
  refine ⟨_, rfl, _, _, rfl, rfl, .ref s, rfl, s, _, rfl, dp_at h1, ?_⟩
  have k1 : upd H s (.dK (stK lc ll ((t : Int) + 1))) s = some (.dK (stK lc ll ((t : Int) + 1))) := upd_same
  have k2 : upd H s (.dK (stK lc ll ((t : Int) + 1))) lc = some (.lst (cs.map V.int)) := by rw [upd_ne h6]; exact h2
  have k3 : upd H s (.dK (stK lc ll ((t : Int) + 1))) ll = some (.lst (ls.map V.int)) := by rw [upd_ne h4.symm]; exact h3
  have kx : SamX (s, ll, lc) H (upd H s (.dK (stK lc ll ((t : Int) + 1)))) := fun b o n1 n2 e => by rw [upd_ne n1]; exact e
  have hcl : (0 : Int) < ((cs.length : Nat) : Int) := by omega
  have m0 := Int.emod_nonneg (t : Int) (show ((cs.length : Nat) : Int) ≠ 0 by omega)
  have m1 := Int.emod_lt_of_pos (t : Int) hcl
  obtain ⟨j, hj⟩ := Int.eq_ofNat_of_zero_le m0
  rw [hj] at m0 m1
  have hjl : j < ls.length := by omega
  have hjc : j < cs.length := by omega
  have at1 : atI (ls.map V.int) (j : Int) = some (.int ls[j]) := atI_nat (by rw [List.getElem?_map, List.getElem?_eq_getElem hjl]; rfl)
  have at2 : atI (cs.map V.int) (j : Int) = some (.int cs[j]) := atI_nat (by rw [List.getElem?_map, List.getElem?_eq_getElem hjc]; rfl)
  refine ⟨_, rfl, .inl ⟨_, rfl, .ref s, rfl, s, _, rfl, dg_cells k1, lc, _, rfl, .inl (.of k2), ?_⟩⟩
  rw [List.length_map]
  refine ⟨_, _, rfl, rfl, hcl, ?_⟩
  refine ⟨.ref s, rfl, s, _, rfl, dg_lefts k1, _, rfl, ll, _, _, _, rfl, rfl, .of k3, (by rw [hj]; exact at1), ?_⟩
  refine ⟨_, rfl, _, _, rfl, rfl, _, rfl, ite2 (fun e => ?_) (fun e => ?_)⟩
  · refine ⟨_, rfl, _, rfl, _, _, rfl, rfl, ⟨l0, by omega⟩, .ref s, rfl, s, _, rfl, dg_lefts k1, _, rfl, ll, _, _, j, rfl, rfl, k3, (by rw [hj]; exact ixN_nat (by rw [List.length_map]; exact hjl)), ?_⟩
    refine ⟨_, rfl, .inl ⟨_, rfl, _, rfl, _, _, rfl, rfl, l0, ?_⟩⟩
    refine q _ _ (fun b o n1 n2 e => by rw [upd_ne n2]; exact kx _ _ n1 n2 e) ?_ (Int.emod_nonneg _ (by omega)) (Int.emod_lt_of_pos _ l0)
    refine ⟨cs, _, t + 1, by rw [upd_ne h4]; exact k1, by rw [upd_ne h5]; exact k2, by rw [upd_same, ints_set], h4, h5, h6, by rw [List.length_set]; exact h7, h8, h9, by omega⟩
  · refine ⟨.ref s, rfl, s, _, rfl, dg_cells k1, _, rfl, lc, _, _, _, rfl, rfl, .of k2, (by rw [hj]; exact at2), _, rfl, cs[j], t, rfl, rfl, by omega, by omega, fun r1 r10 r11 => ?_⟩
    refine ⟨_, rfl, _, _, rfl, rfl, r1, _, rfl, rfl, by omega, by omega, fun r2 r20 r21 => ?_⟩
    refine ⟨_, rfl, _, _, rfl, rfl, .inl ⟨by omega, by omega⟩, _, rfl, _, rfl, _, _, rfl, rfl, r2, _, rfl, rfl, by omega, by omega, fun r3 r30 r31 => ?_⟩
    refine ⟨_, _, rfl, rfl, .inl ⟨_, rfl, _, _, rfl, rfl, ⟨by omega, by omega⟩, _, rfl, _, _, rfl, rfl, l0, ?_⟩⟩
    refine q _ _ kx ⟨cs, ls, t + 1, k1, k2, k3, h4, h5, h6, h7, h8, h9, by omega⟩ (Int.emod_nonneg _ (by omega)) (Int.emod_lt_of_pos _ l0)
/-! ### _law_units -/
def p_units : Sp := sp1 fun a H Q _ => ∃ (z : Ad3) (N : Nat), a = .ref z.1 ∧ StA z N H ∧ N ≤ 800000 ∧ ∀ v T u H', SamX z H H' → StA z (N + 3) H' → T ≤ 2 → (∀ i, i < T → 2 ≤ u i ∧ u i ≤ 4) → RowF H' v T u → Q v H'
theorem d_law_units (W : Wr K mg) : Df P w K mg base CX0 3 "_law_units" p_units := by
  have D__law_draw : Df P w K mg base CX0 2 "_law_draw" p_draw := d_law_draw W
  refine df_of (W.defs.get (i := 30) rfl) sc__law_units (fun _ _ _ _ _ _ us hl => match us, hl with | [_], _ => rfl) (len1 rfl) fun cdv A outer s0 H vs Q fA E hr h => ?_
  obtain ⟨a, rfl, z, N, rfl, st, hN, q⟩ := inv1 h
  refine ⟨_, (pss_one (ps_ret (pe_callTy call_tuple_of (by rfl) W.b_tuple (by decide +kernel) (pa_cons (pe_lc (own := [("_law_step", 1)]) (g := gName 1) rfl sc__law_units.nd (pi_range1 (by rfl) W.b_range (pa_cons (pe_df D__law_draw hr (by decide) (by rfl) pass0 (pa_cons (pv 0) (pa_cons pe_int pa_nil))) pa_nil)) (blkOk_by (own := [("_law_step", 1)]) (N := ["_law_state", "_law_step"]) (sc := defScope s__law_units) (by decide +kernel)) (fun _ _ _ _ _ => pg_name (i := 1) sc__law_units.nd rfl (Or.inl rfl)) (fun _ _ _ _ _ => pts_nil) (fun _ _ _ _ _ => (pe_op op_add pe_int (pe_df D__law_draw hr (by decide) (by rfl) pass0 (pa_cons (pv 0) (pa_cons pe_int pa_nil)))))) pa_nil)))), ?_⟩
  refine ⟨_, rfl, z, N, 3, rfl, rfl, by omega, by omega, st, by omega, fun r H1 sx1 st1 r0 r3 => ?_⟩
  obtain ⟨T, rfl⟩ := Int.eq_ofNat_of_zero_le r0
  have hT : T ≤ 2 := by omega
  refine ⟨_, rfl, by omega, by omega, fun D hD => ?_⟩
  have offD := st1.off hD
  rw [show ((T : Nat) : Int).toNat = T from rfl]
  refine lc_it walk_range (fun i H' => i ≤ T ∧ SamX z H1 H' ∧ StA z (N + 1 + i) H' ∧ ∃ f : Fn, H' D = some (.lst (LV i f)) ∧ ∀ j, j < i → 2 ≤ f j ∧ f j ≤ 4) ⟨Nat.zero_le _, (same_new hD).sx, st1.put offD, fun _ => 0, upd_same, fun _ hj => absurd hj (Nat.not_lt_zero _)⟩ (fun _ _ _ _ => trivial) (fun i x H3 H4 hi pv y => ?_) (fun H' pv => ?_)
  · obtain ⟨rfl, _⟩ := y
    obtain ⟨_, sx2, st2, f, hf, fb⟩ := pv
    refine ⟨rfl, _, rfl, z, N + 1 + i, 3, rfl, rfl, by omega, by omega, st2, by omega, fun r H5 sx5 st5 r0 r3 => ?_⟩
    refine ⟨_, _, rfl, rfl, _, sx5.at offD hf, by rw [LV_len]; exact lt_line (by omega), hi, (sx2.trans sx5).mut hD, st5.put offD, setF f i (2 + r), ?_, fun j hj => ?_⟩
    · rw [upd_same, LV_succ, LV_congr (fun j hj => (show setF f i (2 + r) j = f j from if_neg (by omega)))]
      rw [show setF f i (2 + r) i = 2 + r from if_pos rfl]
    · by_cases e : j = i
      · rw [show setF f i (2 + r) j = 2 + r from if_pos e]
        omega
      · rw [show setF f i (2 + r) j = f j from if_neg e]
        exact fb j (by omega)
  · obtain ⟨_, sx2, st2, f, hf, fb⟩ := pv
    refine ⟨D, _, rfl, .inl ⟨.of hf, fun l hl => ?_⟩⟩
    exact q _ T f _ ((sx1.trans sx2).trans (same_new hl).sx) ((st2.mono (by omega)).same (same_new hl)) hT fb ⟨l, rfl, upd_same⟩
end
end K21
end
section
set_option maxRecDepth 100000
set_option maxHeartbeats 4000000
/-! K21J: drawn rows and rules. -/
namespace K21
open PySem PySem.Spec PyProof.Rows L2
/-- a piece's size, d units from the least -/
def szd (u : Fn) (T : Nat) : Nat → Int
  | 0 => 1
  | d + 1 => szd u T d * u (T - (d + 1))
theorem szd_pos {u : Fn} {T : Nat} (hu : UB T u) : ∀ d, d ≤ T → 1 ≤ szd u T d ∧ szd u T d ≤ 10 ^ d
  | 0, _ => ⟨Int.le_refl _, Int.le_refl _⟩
  | d + 1, h => by
    obtain ⟨h1, h2⟩ := szd_pos hu d (by omega)
    obtain ⟨h3, h4⟩ := hu (T - (d + 1)) (by omega)
    constructor
    · have := Int.mul_le_mul h1 (show (1 : Int) ≤ u (T - (d + 1)) by omega) (by omega) (by omega)
      show 1 ≤ szd u T d * u (T - (d + 1))
      omega
    · have := Int.mul_le_mul h2 h4 (by omega) (by omega)
      show szd u T d * u (T - (d + 1)) ≤ _
      rw [Int.pow_succ]
      exact this
theorem szd_small {u : Fn} {T d : Nat} (hu : UB T u) (hT : T ≤ 3) (h : d ≤ T) : 1 ≤ szd u T d ∧ szd u T d ≤ 1000 := by
  obtain ⟨h1, h2⟩ := szd_pos hu d h
  refine ⟨h1, Int.le_trans h2 ?_⟩
  have : d = 0 ∨ d = 1 ∨ d = 2 ∨ d = 3 := by omega
  rcases this with rfl | rfl | rfl | rfl <;> decide
theorem S_szd {u x : Fn} {T k : Nat} (h : k < T) : S u x (k + 1) * szd u T (T - (k + 1)) = S u x k * szd u T (T - k) + x (k + 1) * szd u T (T - (k + 1)) := by
  show (u k * S u x k + x (k + 1)) * _ = _
  rw [show T - k = (T - (k + 1)) + 1 by omega]
  show _ = S u x k * (szd u T (T - (k + 1)) * u (T - (T - (k + 1) + 1))) + _
  rw [show T - (T - (k + 1) + 1) = k by omega, Int.add_mul]
  congr 1
  rw [Int.mul_comm (u k), Int.mul_assoc, Int.mul_comm (u k)]
section
variable {P : Program} {w : World} {K : PySem.W.Frag} {mg : Str → Option Value} {base : Heap} {Y CU CR : Addr}
def p_sizes : Sp := sp1 fun a H Q _ => ∃ T u, T ≤ 3 ∧ UB T u ∧ RowF H a T u ∧ ∀ v H', Same H H' → RowF H' v (T + 1) (fun k => szd u T (T - k)) → Q v H'
theorem d_law_sizes (W : Wr K mg) : Df P w K mg base CX0 1 "_law_sizes" p_sizes := by
  refine df_of (W.defs.get (i := 31) rfl) sc__law_sizes (fun _ _ _ _ _ _ us hl => match us, hl with | [_], _ => rfl) (len1 rfl) fun cdv A outer s0 H vs Q fA E hr h => ?_
  obtain ⟨a, rfl, T, u, hT, hu, ⟨a, rfl, ha⟩, q⟩ := inv1 h
  refine ⟨_, (pss_cons (ps_set (i := 1) sc__law_sizes.nd rfl (.inl rfl) (pe_tup (pa_cons pe_int pa_nil)))
      (pss_cons (ps_for PassesOwn.never rfl (pi_tup (pe_revT (pv 0))) (pg_name (i := 2) sc__law_sizes.nd rfl (.inl rfl))
        (pss_one (ps_set (i := 1) sc__law_sizes.nd rfl (.inl rfl) (pe_op op_catA (pe_tup (pa_cons (pe_op op_mul (pe_ix ix_tup (pv 1) pe_int (fun _ _ => rfl)) (pv 2)) pa_nil)) (pv 1)))))
      (pss_one (ps_ret (pv 1))))), ?_⟩
  refine ⟨(by show 1 ≤ sizeLine; decide), fun D0 hD0 => ?_⟩
  have s1 := same_new (o := .tup [V.int 1]) hD0
  refine ⟨_, rfl, a, _, rfl, .of (s1 _ _ ha), fun b hb => ?_⟩
  have s2 := s1.trans (same_new (o := .tup (LV T u).reverse) hb)
  refine ⟨b, rfl, ⟨_, .of upd_same⟩, ?_⟩
  refine for_it (walk_tup (xs := (LV T u).reverse)) (fun i σ H' => ∃ D y2, σ = [some (.ref a), some (.ref D), y2] ∧ Same (upd (upd H D0 (.tup [V.int 1])) b (.tup (LV T u).reverse)) H' ∧ H' D = some (.tup (LV (i + 1) (fun k => szd u T (i - k)))))
    ⟨D0, none, rfl, Same.refl _, (same_new hb) _ _ upd_same⟩ (fun i σ H' _ pv => ?_) (fun i v σ H1 H2 hi p y => ?_) (fun σ H' p => ?_)
  · obtain ⟨_, _, _, e, _⟩ := pv
    exact .of (e _ _ upd_same)
  · obtain ⟨D, y2, rfl, p1, p2⟩ := p
    obtain ⟨rfl, e2⟩ := y
    rw [List.length_reverse, LV_len] at hi
    rw [LV_reverse] at e2
    obtain rfl : v = .int (u (T - 1 - i)) := Option.some.inj (e2.symm.trans (LV_get hi))
    obtain ⟨z1, z2⟩ := szd_small hu hT (show i ≤ T by omega)
    refine ⟨_, rfl, D, _, _, _, rfl, rfl, .of p2, (LV_at (i := 0) (by omega)), _, rfl, _, _, rfl, rfl, .inl ⟨by rw [Nat.sub_zero]; omega, by rw [Nat.sub_zero]; omega⟩, (by show 1 ≤ sizeLine; decide), fun c hc => ?_⟩
    have s3 := same_new (o := .tup [V.int (szd u T (i - 0) * u (T - 1 - i))]) hc
    refine ⟨_, rfl, catA_read upd_same (s3 _ _ p2) (by rw [LV_len]; show 1 + (i + 1) ≤ sizeLine; exact Nat.le_of_lt (lt_line (by omega))) fun c2 H3 s4 h4 => ?_⟩
    refine ⟨c2, _, rfl, (p1.trans s3).trans s4, ?_⟩
    rw [h4]
    refine congrArg (fun z => some (HO.tup z)) (List.ext_getElem? fun j => ?_)
    by_cases hj : j < i + 2
    · rw [LV_get hj]
      rcases j with _ | j
      · show some (V.int (szd u T (i - 0) * u (T - 1 - i))) = some (V.int (szd u T (i + 1 - 0)))
        rw [Nat.sub_zero, Nat.sub_zero, show T - 1 - i = T - (i + 1) by omega]
        rfl
      · rw [List.singleton_append, List.getElem?_cons_succ, LV_get (by omega), show i + 1 - (j + 1) = i - j by omega]
    · rw [List.getElem?_eq_none (by rw [List.length_append, LV_len]; show 1 + (i + 1) ≤ j; omega), List.getElem?_eq_none (by rw [LV_len]; omega)]
  · obtain ⟨D, y2, rfl, p1, p2⟩ := p
    rw [List.length_reverse, LV_len] at p2
    exact ⟨_, rfl, q _ _ (s2.trans p1) ⟨D, rfl, p2⟩⟩
/-! ### _law_row -/
def p_row : Sp := sp3 fun a b c H Q _ => ∃ (z : Ad3) (N T : Nat) (u : Fn) (most : Nat), a = .ref z.1 ∧ StA z N H ∧ N ≤ 800000 ∧ T ≤ 3 ∧ UB T u ∧ RowF H b T u ∧ c = .int (most : Nat) ∧ most ≤ 100 ∧
  ∀ v x H', SamX z H H' → StA z (N + 5) H' → NN T x → S u x T ≤ (most : Int) → RowF H' v (T + 1) x → Q v H'
theorem d_law_row (W : Wr K mg) : Df P w K mg base CX0 3 "_law_row" p_row := by
  have D__law_draw : Df P w K mg base CX0 2 "_law_draw" p_draw := d_law_draw W
  have D__law_sizes : Df P w K mg base CX0 1 "_law_sizes" p_sizes := d_law_sizes W
  refine df_of (W.defs.get (i := 32) rfl) sc__law_row (fun _ _ _ _ _ _ us hl => match us, hl with | [_, _, _], _ => rfl) (len3 rfl) fun cdv A outer s0 H vs Q fA E hr h => ?_
  obtain ⟨a, b, c, rfl, z, N, T, u, most, rfl, st, hN, hT, hu, ⟨b, rfl, hb⟩, rfl, hm, q⟩ := inv3 h
  refine ⟨_, (pss_cons (ps_par (i := 3) (j := 4) (by rfl) sc__law_row.nd rfl rfl (by decide) rfl rfl (pa_cons (pe_tup pa_nil) (pa_cons (pe_df D__law_draw hr (by decide) (by rfl) pass0 (pa_cons (pv 0) (pa_cons (pe_op op_add (pv 2) pe_int) pa_nil))) pa_nil)) (by rfl))
      (pss_cons (ps_for PassesOwn.never rfl (pi_tup (pe_df D__law_sizes hr (by decide) (by rfl) pass0 (pa_cons (pv 1) pa_nil))) (pg_name (i := 5) sc__law_row.nd rfl (.inl rfl))
        (pss_cons (ps_set (i := 6) sc__law_row.nd rfl (.inl rfl) (pe_df D__law_draw hr (by decide) (by rfl) pass0 (pa_cons (pv 0) (pa_cons (pe_op op_add (pe_op op_fdiv (pe_callTy call_int1 (by rfl) W.b_int (by decide +kernel) (pa_cons (pv 4) pa_nil)) (pv 5)) pe_int) pa_nil))))
      (pss_one (ps_par (i := 3) (j := 4) (by rfl) sc__law_row.nd rfl rfl (by decide) rfl rfl (pa_cons (pe_op op_catA (pv 3) (pe_tup (pa_cons (pv 6) pa_nil))) (pa_cons (pe_op op_sub (pv 4) (pe_op op_mul (pv 6) (pv 5))) pa_nil)) (by rfl)))))
      (pss_one (ps_ret (pv 3))))), ?_⟩
  refine ⟨Nat.zero_le _, fun D0 hD0 => ?_⟩
  have s1 := same_new (o := .tup []) hD0
  refine ⟨_, rfl, _, rfl, _, _, rfl, rfl, z, N, _, rfl, rfl, by omega, by omega, st.same s1, by omega, fun r H1 sx1 st1 r0 r1 => ?_⟩
  refine ⟨_, _, rfl, ?_⟩
  have t1 := s1.tx.trans (sx1.tx (st.same s1))
  refine ⟨_, rfl, T, u, hT, hu, ⟨b, rfl, t1 _ _ hb⟩, fun v2 H2 s2 r2 => ?_⟩
  obtain ⟨c2, rfl, h2⟩ := r2
  refine ⟨c2, rfl, ⟨_, .of h2⟩, ?_⟩
  have t2 := t1.trans s2.tx
  have D1 : H1 D0 = some (.tup []) := (sx1.tx (st.same s1)) _ _ upd_same
  refine for_it (walk_tup (xs := LV (T + 1) (fun k => szd u T (T - k)))) (fun i σ H' => i ≤ T + 1 ∧ ∃ (D : Addr) (y5 y6 : Option V) (x : Fn) (l : Int), σ = [some (.ref z.1), some (.ref b), some (.int (most : Nat)), some (.ref D), some (.int l), y5, y6] ∧ SamX z H2 H' ∧ StA z (N + 1 + i) H' ∧ H' D = some (.tup (LV i x)) ∧
    (∀ j, j < i → 0 ≤ x j) ∧ 0 ≤ l ∧ l ≤ r ∧ (i = 0 → l = r) ∧ ∀ k, i = k + 1 → l = r - S u x k * szd u T (T - k))
    ⟨Nat.zero_le _, D0, none, none, fun _ => 0, r, rfl, SamX.refl _ _, st1.same s2, s2 _ _ D1, fun _ hj => absurd hj (Nat.not_lt_zero _), r0, Int.le_refl _, fun _ => rfl, fun k hk => by omega⟩ (fun i σ H' _ pv => ?_) (fun i v σ H3 H4 hi p y => ?_) (fun σ H' p => ?_)
  · obtain ⟨_, _, _, _, _, _, _, e, _⟩ := pv
    exact .of ((e.tx (st1.same s2)) _ _ h2)
  · obtain ⟨_, D, y5, y6, x, l, rfl, sx3, st3, hD, hx, l0, l1, hl0, hl⟩ := p
    obtain ⟨rfl, e2⟩ := y
    rw [LV_len] at hi
    obtain rfl : v = .int (szd u T (T - i)) := Option.some.inj (e2.symm.trans (LV_get hi))
    obtain ⟨z1, z2⟩ := szd_small hu hT (show T - i ≤ T by omega)
    have d0 : 0 ≤ l / szd u T (T - i) := Int.ediv_nonneg l0 (by omega)
    have d1 : l / szd u T (T - i) ≤ l := Int.ediv_le_self _ l0
    refine ⟨_, rfl, _, rfl, .inl ⟨_, rfl, _, rfl, _, _, rfl, rfl, ⟨by omega, by omega⟩, _, _, rfl, rfl, z, N + 1 + i, _, rfl, rfl, by omega, by omega, st3, by omega, fun n H5 sx5 st5 n0 n1 => ?_⟩⟩
    have t5 := sx5.tx st3
    refine ⟨_, rfl, _, rfl, (by show 1 ≤ sizeLine; decide), fun c5 hc5 => ?_⟩
    have s6 := same_new (o := .tup [V.int n]) hc5
    refine catA_read (s6 _ _ (t5 _ _ hD)) upd_same (by rw [LV_len]; exact Nat.le_of_lt (lt_line (by show i + 1 ≤ 1000; omega))) fun c7 H7 s7 h7 => ?_
    have mulb : n * szd u T (T - i) ≤ l := Int.le_trans (Int.mul_le_mul_of_nonneg_right (show n ≤ l / szd u T (T - i) by omega) (by omega)) (Int.ediv_mul_le _ (by omega))
    have mul0 : 0 ≤ n * szd u T (T - i) := Int.mul_nonneg n0 (by omega)
    refine ⟨_, rfl, _, rfl, _, rfl, _, _, rfl, rfl, .inr ⟨by omega, by omega⟩, _, _, rfl, rfl, _, _, rfl, ?_⟩
    refine ⟨hi, c7, _, _, setF x i n, _, rfl, (sx3.trans sx5).trans (s6.trans s7).sx, (st5.mono (by omega)).same (s6.trans s7), ?_, fun j hj => ?_, by omega, by omega, fun z => by omega, fun k hk => ?_⟩
    · rw [h7, LV_succ, LV_congr (fun j hj => (show setF x i n j = x j from if_neg (by omega)))]
      rw [show setF x i n i = n from if_pos rfl]
    · by_cases e : j = i
      · rw [show setF x i n j = n from if_pos e]
        exact n0
      · rw [show setF x i n j = x j from if_neg e]
        exact hx j (by omega)
    · obtain rfl : k = i := by omega
      rcases k with _ | k
      · rw [hl0 rfl, show S u (setF x 0 n) 0 = n from (if_pos rfl : setF x 0 n 0 = n)]
      · rw [S_szd (show k < T by omega), show setF x (k + 1) n (k + 1) = n from if_pos rfl, S_congr (show ∀ j, j ≤ k → setF x (k + 1) n j = x j from fun j hj => if_neg (by omega)), hl k rfl]
        omega
  · obtain ⟨_, D, y5, y6, x, l, rfl, sx3, st3, hD, hx, l0, l1, hl0, hl⟩ := p
    have e1 := hl T (by rw [LV_len])
    rw [Nat.sub_self, show szd u T 0 = 1 from rfl, Int.mul_one] at e1
    rw [LV_len] at hD hx st3
    refine ⟨_, rfl, q _ x _ ((s1.sx.trans sx1).trans (s2.sx.trans sx3)) (st3.mono (by omega)) (fun k hk => hx k (by omega)) (by omega) ⟨D, rfl, hD⟩⟩
/-! ### _law_pairs -/
theorem popIx {j n : Nat} (h : j < n) : seqIndex? (j : Int) n = some j := by
  unfold seqIndex?
  simp only [show ¬ ((j : Int) < 0) by omega, if_false]
  rw [if_pos (by rw [Bool.and_eq_true, decide_eq_true_iff, decide_eq_true_iff]; omega)]
  rfl
abbrev natV (n : Nat) : V := .int (n : Nat)
theorem rgV_nat {k : Nat} : rgV 0 ((k : Int) + 1) = (List.range (k + 1)).map natV := by
  unfold rgV
  rw [show (((k : Int) + 1) - 0).toNat = k + 1 by omega]
  exact List.map_congr_left fun i _ => by rw [Int.zero_add]
theorem erase_map {l : List Nat} {j : Nat} : (l.map natV).eraseIdx j = (l.eraseIdx j).map natV := by
  rw [List.eraseIdx_eq_take_drop_succ, List.eraseIdx_eq_take_drop_succ, List.map_append, List.map_take, List.map_drop]
theorem erase_not : ∀ {l : List Nat} {j : Nat}, l.Nodup → (h : j < l.length) → l[j] ∉ l.eraseIdx j
  | [], _, _, h => absurd h (Nat.not_lt_zero _)
  | x :: r, 0, nd, _ => (List.nodup_cons.mp nd).1
  | x :: r, j + 1, nd, h => by
    have h1 := List.nodup_cons.mp nd
    have hj : j < r.length := Nat.lt_of_succ_lt_succ h
    show r[j] ∉ x :: r.eraseIdx j
    intro z
    rcases List.mem_cons.mp z with e | e
    · exact h1.1 (e ▸ List.getElem_mem hj)
    · exact erase_not h1.2 hj e
def p_pairs : Sp := sp2 fun a b H Q _ => ∃ (z : Ad3) (N k : Nat), a = .ref z.1 ∧ b = .int (k : Nat) ∧ k ≤ 3 ∧ StA z N H ∧ N ≤ 800000 ∧ ∀ v cs H', SamX z H H' → StA z (N + 8) H' → CsOk k cs → ChF H' v cs → Q v H'
theorem d_law_pairs (W : Wr K mg) : Df P w K mg base CX0 3 "_law_pairs" p_pairs := by
  have D__law_draw : Df P w K mg base CX0 2 "_law_draw" p_draw := d_law_draw W
  refine df_of (W.defs.get (i := 40) rfl) sc__law_pairs (fun _ _ _ _ _ _ us hl => match us, hl with | [_, _], _ => rfl) (len2 rfl) fun cdv A outer s0 H vs Q fA E hr h => ?_
  obtain ⟨a, b, rfl, z, N, k, rfl, rfl, hk, st, hN, q⟩ := inv2 h
  refine ⟨_, (pss_cons (ps_par (i := 2) (j := 3) (by rfl) sc__law_pairs.nd rfl rfl (by decide) rfl rfl (pa_cons (pe_listRg rfl (by rfl) W.b_list (prg_1 (by rfl) W.b_range (pe_op op_add (pv 1) pe_int))) (pa_cons (pe_tup pa_nil) pa_nil)) (by rfl))
      (pss_cons (ps_for PassesOwn.never rfl (pi_range1 (by rfl) W.b_range (pa_cons (pe_op op_add (pv 1) pe_int) pa_nil)) (pg_name (i := 4) sc__law_pairs.nd rfl (.inl rfl))
        (pss_cons (ps_set (i := 5) sc__law_pairs.nd rfl (.inl rfl) (pe_bm PySem.F.plainAttrs_list PySem.F.slot_list_pop PySem.F.type_list_pop mt_popAt (pv 2) (pa_cons (pe_df D__law_draw hr (by decide) (by rfl) pass0 (pa_cons (pv 0) (pa_cons (pe_callB call_len_seq (by rfl) W.b_len (by decide +kernel) (pa_cons (pv 2) pa_nil)) pa_nil))) pa_nil)))
      (pss_cons (ps_set (i := 6) sc__law_pairs.nd rfl (.inl rfl) (pe_ifExp (pt_cmpR op_eq (pv 5) (pv 1) (nomark _)) (pv 1) (pe_op op_add (pe_op op_add (pv 5) pe_int) (pe_df D__law_draw hr (by decide) (by rfl) pass0 (pa_cons (pv 0) (pa_cons (pe_op op_sub (pv 1) (pv 5)) pa_nil))))))
      (pss_one (ps_set (i := 3) sc__law_pairs.nd rfl (.inl rfl) (pe_op op_catA (pv 3) (pe_tup (pa_cons (pe_tup (pa_cons (pv 5) (pa_cons (pv 6) pa_nil))) pa_nil))))))))
      (pss_one (ps_ret (pv 3))))), ?_⟩
  refine ⟨_, rfl, _, _, rfl, rfl, _, rfl, RgOk.of_le (by omega) (by omega) (by omega) (by omega), fun D hD => ?_⟩
  rw [rgV_nat]
  refine ⟨Nat.zero_le _, fun F0 hF => ⟨_, _, rfl, ?_⟩⟩
  have offD := st.off hD
  have s1 := (same_new (o := .lst ((List.range (k + 1)).map natV)) hD).trans (same_new (o := .tup []) hF)
  refine ⟨_, rfl, _, _, rfl, rfl, _, rfl, by omega, by omega, ?_⟩
  rw [show (((k : Nat) : Int) + 1).toNat = k + 1 by omega]
  refine for_it walk_range (fun i σ H' => i ≤ k + 1 ∧ ∃ (F : Addr) (y4 y5 y6 : Option V) (ln : List Nat) (vs : List V) (cs : List (Nat × Nat)), σ = [some (.ref z.1), some (.int (k : Nat)), some (.ref D), some (.ref F), y4, y5, y6] ∧ SamX z H H' ∧ StA z (N + 2 * i) H' ∧
    H' D = some (.lst (ln.map natV)) ∧ ln.Nodup ∧ (∀ n ∈ ln, n ≤ k) ∧ ln.length + i = k + 1 ∧ H' F = some (.tup vs) ∧ ListR PairR H' vs cs ∧ cs.length = i ∧ (cs.map (·.1)).Nodup ∧ (∀ p ∈ cs, ChOk k p) ∧ ∀ p ∈ cs, p.1 ∉ ln)
    ⟨Nat.zero_le _, F0, none, none, none, List.range (k + 1), [], [], rfl, s1.sx, st.same s1, (same_new hF) _ _ upd_same, List.nodup_range, fun n hn => by have := List.mem_range.mp hn; omega, by rw [List.length_range], upd_same, ListR.nil, rfl, List.nodup_nil, fun p hp => absurd hp List.not_mem_nil, fun p hp => absurd hp List.not_mem_nil⟩
    (fun _ _ _ _ _ => trivial) (fun i v σ H1 H2 hi p y => ?_) (fun σ H' p => ?_)
  · obtain ⟨_, F, y4, y5, y6, ln, ws, cs, rfl, sx, st1, hDl, nd, hle, hlen, hF1, hL, hcl, hnd, hok, hnot⟩ := p
    obtain ⟨rfl, e1⟩ := y
    refine ⟨.ref D, rfl, .inl ⟨rfl, _, .inl (.inl hDl)⟩, _, rfl, .ref D, rfl, D, _, rfl, .inl (.of hDl), z, N + 2 * i, _, rfl, rfl, ?_⟩
    rw [List.length_map]
    refine ⟨by omega, by omega, st1, by omega, fun r H3 sx3 st3 r0 r1 => ?_⟩
    obtain ⟨j, rfl⟩ := Int.eq_ofNat_of_zero_le r0
    have hj : j < ln.length := by omega
    have t3 := sx3.tx st1
    have hD3 := sx3.at offD hDl
    refine ⟨D, _, _, j, natV ln[j], rfl, rfl, hD3, by omega, by omega, by rw [List.length_map]; exact popIx hj, by rw [List.getElem?_map, List.getElem?_eq_getElem hj]; rfl, ?_⟩
    have hn := hle _ (List.getElem_mem hj)
    have xD : SamX z H (upd H3 D (.lst ((ln.map natV).eraseIdx j))) := (sx.trans sx3).mut hD
    have tD : Tx H3 (upd H3 D (.lst ((ln.map natV).eraseIdx j))) := Tx.lst hD3
    have st4 : StA z (N + 2 * i + 1) (upd H3 D (.lst ((ln.map natV).eraseIdx j))) := st3.put offD
    refine ⟨_, rfl, _, rfl, rfl, _, rfl, ite2 (fun e => ?_) (fun e => ?_)⟩
    · have e7 : ln[j] = k := Int.ofNat.inj (V.int.inj (of_decide_eq_true e))
      refine ⟨_, rfl, ?_⟩
      obtain ⟨far, hfar⟩ : ∃ far, far = k := ⟨_, rfl⟩
      have efar : V.int (k : Nat) = natV far := by rw [hfar]
      obtain ⟨H5, hH5⟩ : ∃ H5, H5 = upd H3 D (.lst ((ln.map natV).eraseIdx j)) := ⟨_, rfl⟩
      have sx5 : SamX z (upd H3 D (.lst ((ln.map natV).eraseIdx j))) H5 := by rw [hH5]; exact SamX.refl _ _
      have st5 : StA z (N + 2 * (i + 1)) H5 := by rw [hH5]; exact st4.mono (by omega)
      rw [← hH5]
      have hco : ChOk k (ln[j], far) := ⟨hn, by omega, fun z => by have : ln[j] < k := z; omega, fun _ => hfar⟩
      have t5 : Tx H2 H5 := (t3.trans tD).trans (sx5.tx (st3.put offD))
      have hD5 : H5 D = some (.lst ((ln.eraseIdx j).map natV)) := by rw [← erase_map]; exact sx5.at offD upd_same
      refine ⟨_, rfl, _, rfl, _, rfl, size2, fun p hp => ⟨(by show 1 ≤ sizeLine; decide), fun c hc => ?_⟩⟩
      have sP := same_new (o := .tup [natV ln[j], V.int (k : Nat)]) hp
      have sC := same_new (o := .tup [.ref p]) hc
      have hz : ws.length + 1 ≤ sizeLine := by
        rw [hL.1, hcl]
        exact Nat.le_of_lt (lt_line (by omega))
      refine catA_read (sC _ _ (sP _ _ (t5 _ _ hF1))) upd_same hz fun c7 H7 s7 h7 => ?_
      have s57 := (sP.trans sC).trans s7
      have hmem : ln[j] ∉ ln.eraseIdx j := fun z => by
        exact erase_not nd hj z
      refine ⟨hi, c7, _, _, _, ln.eraseIdx j, ws ++ [.ref p], cs ++ [(ln[j], far)], rfl, (xD.trans sx5).trans s57.sx, st5.same s57, s57 _ _ hD5, nd.sublist (List.eraseIdx_sublist ..), fun n hn => hle n ((List.eraseIdx_sublist ..).subset hn), ?_, h7, ?_, ?_, ?_, ?_, ?_⟩
      · rw [List.length_eraseIdx_of_lt hj]; omega
      · refine ListR.snoc (hL.tx fun _ _ r => (r.tx t5).tx s57.tx) ⟨p, rfl, ?_⟩
        show H7 p = some (HO.tup [natV ln[j], natV far])
        rw [← efar]
        exact s7 _ _ (sC _ _ upd_same)
      · rw [List.length_append, hcl]; rfl
      · rw [List.map_append, List.nodup_append]
        refine ⟨hnd, (by simp), fun x hx y hy => ?_⟩
        obtain ⟨p1, hp1, rfl⟩ := List.mem_map.mp hx
        obtain rfl := List.mem_singleton.mp hy
        exact fun z => hnot _ hp1 (by rw [z]; exact List.getElem_mem hj)
      · intro p1 hp1
        rcases List.mem_append.mp hp1 with z | z
        · exact hok _ z
        · rw [List.mem_singleton.mp z]; exact hco
      · intro p1 hp1
        rcases List.mem_append.mp hp1 with z | z
        · exact fun y => hnot _ z ((List.eraseIdx_sublist ..).subset y)
        · rw [List.mem_singleton.mp z]; exact hmem
    · have e7 : ln[j] ≠ k := fun z => e (decide_eq_true (by show V.int (ln[j] : Nat) = V.int (k : Nat); rw [z]))
      refine ⟨_, rfl, _, _, rfl, rfl, _, rfl, _, rfl, _, rfl, _, _, rfl, rfl, z, N + 2 * i + 1, _, rfl, rfl, by omega, by omega, st4, by omega, fun r5 H5 sx5 st5' r50 r51 => ?_⟩
      obtain ⟨dd, rfl⟩ := Int.eq_ofNat_of_zero_le r50
      obtain ⟨far, hfar⟩ : ∃ far, far = ln[j] + 1 + dd := ⟨_, rfl⟩
      have st5 : StA z (N + 2 * (i + 1)) H5 := st5'.mono (by omega)
      have hco : ChOk k (ln[j], far) := ⟨hn, by show far ≤ k; omega, fun _ => by show ln[j] < far; omega, fun z => absurd z e7⟩
      refine ⟨_, _, rfl, rfl, ?_⟩
      have efar : V.int (((ln[j] : Nat) : Int) + 1 + (dd : Nat)) = natV far := by rw [hfar]; rfl
      have t5 : Tx H2 H5 := (t3.trans tD).trans (sx5.tx (st3.put offD))
      have hD5 : H5 D = some (.lst ((ln.eraseIdx j).map natV)) := by rw [← erase_map]; exact sx5.at offD upd_same
      refine ⟨_, rfl, _, rfl, _, rfl, size2, fun p hp => ⟨(by show 1 ≤ sizeLine; decide), fun c hc => ?_⟩⟩
      have sP := same_new (o := .tup [natV ln[j], V.int (((ln[j] : Nat) : Int) + 1 + (dd : Nat))]) hp
      have sC := same_new (o := .tup [.ref p]) hc
      have hz : ws.length + 1 ≤ sizeLine := by
        rw [hL.1, hcl]
        exact Nat.le_of_lt (lt_line (by omega))
      refine catA_read (sC _ _ (sP _ _ (t5 _ _ hF1))) upd_same hz fun c7 H7 s7 h7 => ?_
      have s57 := (sP.trans sC).trans s7
      have hmem : ln[j] ∉ ln.eraseIdx j := fun z => by
        exact erase_not nd hj z
      refine ⟨hi, c7, _, _, _, ln.eraseIdx j, ws ++ [.ref p], cs ++ [(ln[j], far)], rfl, (xD.trans sx5).trans s57.sx, st5.same s57, s57 _ _ hD5, nd.sublist (List.eraseIdx_sublist ..), fun n hn => hle n ((List.eraseIdx_sublist ..).subset hn), ?_, h7, ?_, ?_, ?_, ?_, ?_⟩
      · rw [List.length_eraseIdx_of_lt hj]; omega
      · refine ListR.snoc (hL.tx fun _ _ r => (r.tx t5).tx s57.tx) ⟨p, rfl, ?_⟩
        show H7 p = some (HO.tup [natV ln[j], natV far])
        rw [← efar]
        exact s7 _ _ (sC _ _ upd_same)
      · rw [List.length_append, hcl]; rfl
      · rw [List.map_append, List.nodup_append]
        refine ⟨hnd, (by simp), fun x hx y hy => ?_⟩
        obtain ⟨p1, hp1, rfl⟩ := List.mem_map.mp hx
        obtain rfl := List.mem_singleton.mp hy
        exact fun z => hnot _ hp1 (by rw [z]; exact List.getElem_mem hj)
      · intro p1 hp1
        rcases List.mem_append.mp hp1 with z | z
        · exact hok _ z
        · rw [List.mem_singleton.mp z]; exact hco
      · intro p1 hp1
        rcases List.mem_append.mp hp1 with z | z
        · exact fun y => hnot _ z ((List.eraseIdx_sublist ..).subset y)
        · rw [List.mem_singleton.mp z]; exact hmem
  · obtain ⟨_, F, y4, y5, y6, ln, ws, cs, rfl, sx, st1, hDl, nd, hle, hlen, hF1, hL, hcl, hnd, hok, hnot⟩ := p
    exact ⟨_, rfl, q _ cs _ sx (st1.mono (by omega)) ⟨hcl, hnd, hok⟩ ⟨F, ws, rfl, hF1, hL⟩⟩
/-! ### _law_rule -/
theorem ListR.app {α : Type} {R : Hp → V → α → Prop} {H : Hp} {vs ws : List V} {as bs : List α} (h : ListR R H vs as) (g : ListR R H ws bs) : ListR R H (vs ++ ws) (as ++ bs) := by
  refine ⟨by rw [List.length_append, List.length_append, h.1, g.1], fun i b e => ?_⟩
  by_cases hi : i < as.length
  · rw [List.getElem?_append_left hi] at e
    obtain ⟨w, q1, q2⟩ := h.2 i b e
    exact ⟨w, by rw [List.getElem?_append_left (by rw [h.1]; exact hi)]; exact q1, q2⟩
  · rw [List.getElem?_append_right (by omega)] at e
    obtain ⟨w, q1, q2⟩ := g.2 _ b e
    exact ⟨w, by rw [List.getElem?_append_right (by rw [h.1]; omega), h.1]; exact q1, q2⟩
theorem ListR.take {α : Type} {R : Hp → V → α → Prop} {H : Hp} {vs : List V} {as : List α} (h : ListR R H vs as) (k : Nat) : ListR R H (vs.take k) (as.take k) := by
  refine ⟨by rw [List.length_take, List.length_take, h.1], fun i b e => ?_⟩
  rw [List.getElem?_take] at e
  split at e
  · obtain ⟨w, q1, q2⟩ := h.2 i b e
    exact ⟨w, by rw [List.getElem?_take, if_pos (by assumption)]; exact q1, q2⟩
  · cases e
theorem ListR.drop {α : Type} {R : Hp → V → α → Prop} {H : Hp} {vs : List V} {as : List α} (h : ListR R H vs as) (k : Nat) : ListR R H (vs.drop k) (as.drop k) := by
  refine ⟨by rw [List.length_drop, List.length_drop, h.1], fun i b e => ?_⟩
  rw [List.getElem?_drop] at e
  obtain ⟨w, q1, q2⟩ := h.2 _ b e
  exact ⟨w, by rw [List.getElem?_drop]; exact q1, q2⟩
theorem slA_any {K : PySem.W.Frag} {H : Hp} {a : Addr} {ws : List V} {lo hi : Option Int} {Q : VK} (h : H a = some (.tup ws)) (q : ∀ b H', Same H H' → H' b = some (.tup (cutV ws lo hi)) → Q (.ref b) H') : rSlA K (.ref a) lo hi H Q := by
  refine ⟨a, ws, rfl, .of h, fun z => q a H (Same.refl H) ?_, fun _ p hp => q p _ (same_new hp) upd_same⟩
  unfold cutV
  rw [z.1, z.2, List.drop_zero, Nat.sub_zero, List.take_length]
  exact h
theorem cut_lo {ws : List V} {k : Nat} (h : k ≤ ws.length) : cutV ws none (some (k : Int)) = ws.take k := by
  unfold cutV
  rw [HT.sIx_none, HT.sIx_nat, List.drop_zero, Nat.sub_zero, Nat.min_eq_left h]
theorem cut_hi {ws : List V} {k : Nat} (h : k ≤ ws.length) : cutV ws (some (k : Int)) none = ws.drop k := by
  unfold cutV
  rw [HT.sIx_none, HT.sIx_nat, Nat.min_eq_left h, List.take_of_length_le (by rw [List.length_drop]; omega)]
/-- the best rule but for one unit -/
def putR (rs : List (List (Nat × Nat))) (k : Nat) (cs : List (Nat × Nat)) : List (List (Nat × Nat)) := rs.take k ++ [cs] ++ rs.drop (k + 1)
theorem putR_ok {T k : Nat} {rs : List (List (Nat × Nat))} {cs : List (Nat × Nat)} (h : RsOk T rs) (hk : k ≤ T) (hc : CsOk k cs) : RsOk T (putR rs k cs) := by
  have hl := h.len
  refine ⟨by unfold putR; rw [List.length_append, List.length_append, List.length_take, List.length_drop, List.length_singleton]; omega, fun j c e => ?_⟩
  unfold putR at e
  rw [List.append_assoc] at e
  have h1 : (rs.take k).length = k := by rw [List.length_take]; omega
  by_cases hj : j < k
  · rw [List.getElem?_append_left (by omega), List.getElem?_take, if_pos hj] at e
    exact h.ok j c e
  · rw [List.getElem?_append_right (by omega), h1] at e
    by_cases hj2 : j = k
    · subst hj2
      rw [Nat.sub_self] at e
      obtain rfl : cs = c := Option.some.inj e
      exact hc
    · rw [show j - k = (j - (k + 1)) + 1 by omega, List.singleton_append, List.getElem?_cons_succ, List.getElem?_drop, show k + 1 + (j - (k + 1)) = j by omega] at e
      exact h.ok j c e
theorem eqv_nil_tup (ds : List PyData) : PyData.eqv (.tuple ds) (.tuple []) = ds.isEmpty := by
  cases ds <;> rfl
theorem shaped_intsT {xs : List Int} : SeqAt.shaped (.tuple (xs.map PyData.int)) = true := by
  unfold SeqAt.shaped
  rw [Bool.and_eq_true, decide_eq_true_iff]
  exact ⟨by simp [PyData.canLay0, lay_ints.1], by simp [PyData.depth, lay_ints.2]⟩
def p_rule : Sp := sp2 fun a b H Q _ => ∃ (z : Ad3) (N T : Nat) (u : Fn), a = .ref z.1 ∧ StA z N H ∧ N ≤ 700000 ∧ T ≤ 3 ∧ UB T u ∧ RowF H b T u ∧ ∀ v rs H', SamX z H H' → StA z (N + 40) H' → RsOk T rs → RuF H' v rs → Q v H'
theorem d_law_rule (W : Wr K mg) : Df P w K mg base CX0 4 "_law_rule" p_rule := by
  have D__law_draw : Df P w K mg base CX0 2 "_law_draw" p_draw := d_law_draw W
  have D__law_pairs : Df P w K mg base CX0 3 "_law_pairs" p_pairs := d_law_pairs W
  have D__law_best : Df P w K mg base CX0 1 "_law_best" p_best := d_law_best W
  refine df_of (W.defs.get (i := 41) rfl) sc__law_rule (fun _ _ _ _ _ _ us hl => match us, hl with | [_, _], _ => rfl) (len2 rfl) fun cdv A outer s0 H vs Q fA E hr h => ?_
  obtain ⟨a, b, rfl, z, N, T, u, rfl, st, hN, hT, hu, ⟨b, rfl, hb⟩, q⟩ := inv2 h
  refine ⟨_, (pss_cons (ps_par (i := 2) (j := 3) (by rfl) sc__law_rule.nd rfl rfl (by decide) rfl rfl (pa_cons (pe_df D__law_best hr (by decide) (by rfl) pass0 (pa_cons (pv 1) pa_nil)) (pa_cons (pe_df D__law_draw hr (by decide) (by rfl) pass0 (pa_cons (pv 0) (pa_cons pe_int pa_nil))) pa_nil)) (by rfl))
      (pss_cons (ps_if (pt_cmpR op_eq (pv 3) pe_int (nomark _)) (pss_one (ps_ret (pv 2))) pss_nil)
      (pss_cons (ps_if (pt_cmpR op_lt (pv 3) pe_int (nomark _)) (pss_cons (ps_set (i := 4) sc__law_rule.nd rfl (.inl rfl) (pe_ifExp (pt_cmpR (op_neD hr.units) (pv 1) (pe_tup pa_nil) (nomark _)) (pe_op op_sub (pe_callB call_len_seq (by rfl) W.b_len (by decide +kernel) (pa_cons (pv 1) pa_nil)) (pe_df D__law_draw hr (by decide) (by rfl) pass0 (pa_cons (pv 0) (pa_cons pe_int pa_nil)))) pe_int))
      (pss_one (ps_ret (pe_op op_catA (pe_op op_catA (pe_slice sl_tupA (pv 2) po_none (po_some (pv 4))) (pe_tup (pa_cons (pe_df D__law_pairs hr (by decide) (by rfl) pass0 (pa_cons (pv 0) (pa_cons (pv 4) pa_nil))) pa_nil))) (pe_slice sl_tupA (pv 2) (po_some (pe_op op_add (pv 4) pe_int)) po_none))))) pss_nil)
      (pss_one (ps_ret (pe_callTy call_tuple_of (by rfl) W.b_tuple (by decide +kernel) (pa_cons (pe_lc (own := [("_law_unit", 4)]) (g := gName 4) rfl sc__law_rule.nd (pi_range1 (by rfl) W.b_range (pa_cons (pe_op op_add (pe_callB call_len_seq (by rfl) W.b_len (by decide +kernel) (pa_cons (pv 1) pa_nil)) pe_int) pa_nil)) (blkOk_by (own := [("_law_unit", 4)]) (N := ["_law_state", "_law_units_so", "_law_best_here", "_law_pick", "_law_unit"]) (sc := defScope s__law_rule) (by decide +kernel)) (fun _ _ _ _ _ => pg_name (i := 4) sc__law_rule.nd rfl (Or.inl rfl)) (fun _ _ _ _ _ => pts_nil) (fun _ _ _ _ _ => (pe_df D__law_pairs hr (by decide) (by rfl) pass0 (pa_cons (pv 0) (pa_cons (pv 4) pa_nil))))) pa_nil))))))), ?_⟩
  refine ⟨_, rfl, T, u, hT, hu, ⟨b, rfl, hb⟩, fun v1 H1 s1 r1 => ⟨_, rfl, z, N, 4, rfl, rfl, by omega, by omega, st.same s1, by omega, fun pk H2 sx2 st2 p0 p1 => ⟨_, _, rfl, ?_⟩⟩⟩
  have t2 := sx2.tx (st.same s1)
  have sx := s1.sx.trans sx2
  have r2 := r1.tx t2
  refine ⟨_, rfl, rfl, _, rfl, ite2 (fun e => ?_) (fun e => ?_)⟩
  · exact ⟨_, rfl, q _ _ _ sx (st2.mono (by omega)) (bestL_rs T) r2⟩
  refine ⟨_, rfl, _, _, rfl, rfl, _, rfl, ite2 (fun e => ?_) (fun e => ?_)⟩
  · refine ⟨_, rfl, Nat.zero_le _, fun D0 hD0 => ?_⟩
    have s0 := same_new (o := .tup []) hD0
    have b0 := s0 _ _ (t2 _ _ (s1 _ _ hb))
    refine ⟨_, _, .tup (.of b0) dp_ints, .tup (.of upd_same) .nil, shaped_intsT, shaped_intsT (xs := []), _, rfl, ite2 (fun e => ?_) (fun e => ?_)⟩
    · have hT0 : T ≠ 0 := fun z => by rw [eqv_nil_tup, z] at e; exact absurd e (fun y => nomatch y)
      refine ⟨_, rfl, b, _, rfl, .inr (.of b0), ?_⟩
      rw [LV_len]
      refine ⟨_, rfl, z, N + 1, 2, rfl, rfl, by omega, by omega, st2.same s0, by omega, fun d H3 sx3' st3 d0 d1 => ⟨_, _, rfl, rfl, ?_⟩⟩
      have t3 : Tx H2 H3 := s0.tx.trans (sx3'.tx (st2.same s0))
      have sx3 : SamX z H H3 := (sx.trans s0.sx).trans sx3'
      obtain ⟨k, ek⟩ := Int.eq_ofNat_of_zero_le (show 0 ≤ ((T : Nat) : Int) - d by omega)
      have hk : k ≤ T := by omega
      replace ek : ((T : Nat) : Int) - d = (k : Nat) := ek
      have xr : RuF H3 v1 (bestL T) := r2.tx t3
      obtain ⟨bA, ws, rfl, hB, hL⟩ := xr
      have hwl : ws.length = T + 1 := by rw [hL.1, bestL_len]
      refine ⟨_, rfl, _, rfl, _, rfl, slA_any hB fun b4 H4 s4 h4 => ?_⟩
      rw [ek, cut_lo (show k ≤ ws.length by omega)] at h4
      refine ⟨_, rfl, _, rfl, z, N + 2, k, rfl, congrArg V.int ek, by omega, st3.same s4, by omega, fun v5 cs H5 sx5 st5 hcs r5 => ⟨(by show 1 ≤ sizeLine; decide), fun c6 hc6 => ?_⟩⟩
      have t5 := sx5.tx (st3.same s4)
      have s6 := same_new (o := .tup [v5]) hc6
      refine catA_read (s6 _ _ (t5 _ _ h4)) upd_same (by rw [List.length_take]; show _ + 1 ≤ sizeLine; exact Nat.le_of_lt (lt_line (by omega))) fun b7 H7 s7 h7 => ?_
      have t7 : Tx H3 H7 := ((s4.tx.trans t5).trans s6.tx).trans s7.tx
      refine ⟨_, rfl, _, rfl, _, _, rfl, rfl, _, rfl, ?_⟩
      simp only [tNoPart]
      refine slA_any (t7 _ _ hB) fun b8 H8 s8 h8 => ?_
      rw [ek, show ((k : Nat) : Int) + 1 = ((k + 1 : Nat) : Int) from rfl, cut_hi (show k + 1 ≤ ws.length by omega)] at h8
      refine catA_read (s8 _ _ h7) h8 (by rw [List.length_append, List.length_take, List.length_drop]; show _ + 1 + _ ≤ sizeLine; exact Nat.le_of_lt (lt_line (by omega))) fun b9 H9 s9 h9 => ?_
      have t9 : Tx H3 H9 := (t7.trans s8.tx).trans s9.tx
      have t59 : Tx H5 H9 := ((s6.tx.trans s7.tx).trans s8.tx).trans s9.tx
      refine q _ (putR (bestL T) k cs) _ ((sx3.trans s4.sx).trans (sx5.trans (((s6.trans s7).trans s8).trans s9).sx)) ((st5.mono (by omega)).same (((s6.trans s7).trans s8).trans s9)) (putR_ok (bestL_rs T) hk hcs) ⟨b9, _, rfl, h9, ?_⟩
      have hL9 : ListR ChF H9 ws (bestL T) := hL.tx fun _ _ r => ChF.tx t9 r
      exact (((hL9.take k).app (ListR.nil.snoc (r5.tx t59))).app (hL9.drop (k + 1)))
    · have hT0 : T = 0 := by
        rcases T with _ | T
        · rfl
        · exact absurd (by rw [eqv_nil_tup]; unfold L; rw [List.range_succ_eq_map]; rfl) e
      obtain ⟨H3, hH3⟩ : ∃ H3, H3 = upd H2 D0 (.tup []) := ⟨_, rfl⟩
      rw [← hH3] at s0 ⊢
      have t3 : Tx H2 H3 := s0.tx
      have sx3 : SamX z H H3 := sx.trans s0.sx
      have st3 : StA z (N + 2) H3 := (st2.mono (by omega)).same s0
      obtain ⟨k, ek⟩ : ∃ k : Nat, (0 : Int) = (k : Nat) := ⟨0, rfl⟩
      have hk : k ≤ T := by omega
      have xr : RuF H3 v1 (bestL T) := r2.tx t3
      obtain ⟨bA, ws, rfl, hB, hL⟩ := xr
      have hwl : ws.length = T + 1 := by rw [hL.1, bestL_len]
      refine ⟨_, rfl, _, rfl, _, rfl, slA_any hB fun b4 H4 s4 h4 => ?_⟩
      rw [show (0:Int) = (k : Nat) from ek, cut_lo (show k ≤ ws.length by omega)] at h4
      refine ⟨_, rfl, _, rfl, z, N + 2, k, rfl, congrArg V.int ek, by omega, st3.same s4, by omega, fun v5 cs H5 sx5 st5 hcs r5 => ⟨(by show 1 ≤ sizeLine; decide), fun c6 hc6 => ?_⟩⟩
      have t5 := sx5.tx (st3.same s4)
      have s6 := same_new (o := .tup [v5]) hc6
      refine catA_read (s6 _ _ (t5 _ _ h4)) upd_same (by rw [List.length_take]; show _ + 1 ≤ sizeLine; exact Nat.le_of_lt (lt_line (by omega))) fun b7 H7 s7 h7 => ?_
      have t7 : Tx H3 H7 := ((s4.tx.trans t5).trans s6.tx).trans s7.tx
      refine ⟨_, rfl, _, rfl, _, _, rfl, rfl, _, rfl, ?_⟩
      simp only [tNoPart]
      refine slA_any (t7 _ _ hB) fun b8 H8 s8 h8 => ?_
      rw [show (0:Int) = (k : Nat) from ek, show ((k : Nat) : Int) + 1 = ((k + 1 : Nat) : Int) from rfl, cut_hi (show k + 1 ≤ ws.length by omega)] at h8
      refine catA_read (s8 _ _ h7) h8 (by rw [List.length_append, List.length_take, List.length_drop]; show _ + 1 + _ ≤ sizeLine; exact Nat.le_of_lt (lt_line (by omega))) fun b9 H9 s9 h9 => ?_
      have t9 : Tx H3 H9 := (t7.trans s8.tx).trans s9.tx
      have t59 : Tx H5 H9 := ((s6.tx.trans s7.tx).trans s8.tx).trans s9.tx
      refine q _ (putR (bestL T) k cs) _ ((sx3.trans s4.sx).trans (sx5.trans (((s6.trans s7).trans s8).trans s9).sx)) ((st5.mono (by omega)).same (((s6.trans s7).trans s8).trans s9)) (putR_ok (bestL_rs T) hk hcs) ⟨b9, _, rfl, h9, ?_⟩
      have hL9 : ListR ChF H9 ws (bestL T) := hL.tx fun _ _ r => ChF.tx t9 r
      exact (((hL9.take k).app (ListR.nil.snoc (r5.tx t59))).app (hL9.drop (k + 1)))
  · refine ⟨_, rfl, b, _, rfl, .inr (.of (t2 _ _ (s1 _ _ hb))), ?_⟩
    rw [LV_len]
    refine ⟨_, _, rfl, rfl, _, rfl, by omega, by omega, fun D hD => ?_⟩
    rw [show (((T : Nat) : Int) + 1).toNat = T + 1 by omega]
    have offD := st2.off hD
    refine lc_it walk_range (fun i H' => i ≤ T + 1 ∧ SamX z H2 H' ∧ StA z (N + 1 + 8 * i) H' ∧ ∃ (ws : List V) (rs : List (List (Nat × Nat))), H' D = some (.lst ws) ∧ ListR ChF H' ws rs ∧ rs.length = i ∧ ∀ (k : Nat) (cs : List (Nat × Nat)), rs[k]? = some cs → CsOk k cs) ⟨Nat.zero_le _, (same_new hD).sx, st2.put offD, [], [], upd_same, ListR.nil, rfl, fun k cs e => by simp at e⟩ (fun _ _ _ _ => trivial) (fun i x H3 H4 hi pv y => ?_) (fun H' pv => ?_)
    · obtain ⟨rfl, e1⟩ := y
      replace e1 : x = .int ((0 : Int) + (i : Nat)) := e1
      rw [Int.zero_add] at e1
      subst e1
      obtain ⟨_, sx3, st3, ws, rs, hD3, hL, hrl, hok⟩ := pv
      refine ⟨rfl, _, rfl, _, rfl, z, N + 1 + 8 * i, i, rfl, rfl, by omega, st3, by omega, fun v5 cs H5 sx5 st5 hcs r5 => ?_⟩
      have hD5 := sx5.at offD hD3
      refine ⟨_, hD5, by rw [hL.1, hrl]; exact lt_line (by omega), hi, (sx3.trans sx5).mut hD, (st5.put offD).mono (by omega), ws ++ [v5], rs ++ [cs], upd_same, ?_, by rw [List.length_append, hrl]; rfl, fun k c e => ?_⟩
      · exact ListR.snoc (hL.tx fun _ _ r => (ChF.tx (sx5.tx st3) r).tx (Tx.lst hD5)) (r5.tx (Tx.lst hD5))
      · by_cases hk : k < rs.length
        · rw [List.getElem?_append_left hk] at e
          exact hok k c e
        · rw [List.getElem?_append_right (by omega)] at e
          have hk2 : k = rs.length := by
            have := (List.getElem?_eq_some_iff.mp e).1
            rw [List.length_singleton] at this
            omega
          subst hk2
          rw [Nat.sub_self] at e
          obtain rfl : cs = c := Option.some.inj e
          rw [hrl]; exact hcs
    · obtain ⟨_, sx3, st3, ws, rs, hD3, hL, hrl, hok⟩ := pv
      refine ⟨D, _, rfl, .inl ⟨.of hD3, fun l hl => ?_⟩⟩
      exact q _ rs _ ((sx.trans sx3).trans (same_new hl).sx) ((st3.mono (by omega)).same (same_new hl)) ⟨hrl, hok⟩ ⟨l, ws, rfl, upd_same, hL.tx fun _ _ r => ChF.tx (Tx.new hl) r⟩
end
end K21
end
section
set_option maxRecDepth 100000
set_option maxHeartbeats 4000000
/-! K21K: rows as lists, what cutting reaches, how many there are. -/
namespace K21
open PySem PySem.Spec PyProof.Rows L2
def fnL (z : List Int) : Fn := fun k => z.getD k 0
theorem fnL_L {n k : Nat} {f : Fn} (h : k < n) : fnL (L n f) k = f k := by
  unfold fnL L
  rw [List.getD_eq_getElem?_getD, List.getElem?_map, List.getElem?_range h]
  rfl
theorem L_fnL {z : List Int} {n : Nat} (h : z.length = n) : L n (fnL z) = z := by
  unfold L
  refine List.ext_getElem? fun j => ?_
  by_cases hj : j < n
  · rw [List.getElem?_map, List.getElem?_range hj, List.getElem?_eq_getElem (by omega)]
    show some (z.getD j 0) = _
    rw [List.getD_eq_getElem?_getD, List.getElem?_eq_getElem (by omega)]
    rfl
  · rw [List.getElem?_eq_none (by rw [List.length_map, List.length_range]; omega), List.getElem?_eq_none (by omega)]
/-! ### reach -/
def Closed (T : Nat) (u : Fn) (zs : List (List Int)) : Prop := ∀ z ∈ zs, ∀ i, i < T → 0 < fnL z i → L (T + 1) (cut u (fnL z) i) ∈ zs
def gap (a : Fn) : Nat → Int
  | 0 => a 0
  | k + 1 => gap a k + a (k + 1)
theorem gap_congr {a b : Fn} : ∀ {T : Nat}, (∀ k, k ≤ T → a k = b k) → gap a T = gap b T
  | 0, h => h 0 (Nat.le_refl _)
  | T + 1, h => by
    show gap a T + a (T + 1) = gap b T + b (T + 1)
    rw [gap_congr fun k hk => h k (by omega), h (T + 1) (Nat.le_refl _)]
theorem gap_nn {a : Fn} : ∀ {T : Nat}, NN T a → 0 ≤ gap a T ∧ ∀ k, k ≤ T → a k ≤ gap a T
  | 0, h => ⟨h 0 (Nat.le_refl _), fun k hk => by obtain rfl : k = 0 := by omega
                                                 exact Int.le_refl _⟩
  | T + 1, h => by
    obtain ⟨h1, h2⟩ := gap_nn (T := T) fun k hk => h k (by omega)
    have h3 := h (T + 1) (Nat.le_refl _)
    refine ⟨by show 0 ≤ gap a T + a (T + 1); omega, fun k hk => ?_⟩
    show a k ≤ gap a T + a (T + 1)
    by_cases e : k = T + 1
    · subst e; omega
    · have := h2 k (by omega); omega
theorem gap_dec {a : Fn} {i : Nat} : ∀ {T : Nat}, gap (fun j => a j - (if j = i then 1 else 0)) T = gap a T - (if i ≤ T then 1 else 0)
  | 0 => by
    show a 0 - _ = a 0 - _
    by_cases h : (0 : Nat) = i
    · rw [if_pos h, if_pos (by omega)]
    · rw [if_neg h, if_neg (by omega)]
  | T + 1 => by
    show gap (fun j => a j - (if j = i then 1 else 0)) T + (a (T + 1) - (if T + 1 = i then 1 else 0)) = gap a T + a (T + 1) - _
    rw [gap_dec (T := T)]
    by_cases h : i ≤ T
    · rw [if_pos h, if_neg (by omega), if_pos (by omega)]; omega
    · by_cases h2 : T + 1 = i
      · rw [if_neg h, if_pos h2, if_pos (by omega)]; omega
      · rw [if_neg h, if_neg h2, if_neg (by omega)]; omega
theorem first_pos {a : Fn} : ∀ {T : Nat}, NN T a → (∀ k, k ≤ T → a k = 0) ∨ ∃ k, k ≤ T ∧ 0 < a k ∧ ∀ j, j < k → a j = 0
  | 0, h => by
    have := h 0 (Nat.le_refl _)
    by_cases e : a 0 = 0
    · exact .inl fun k hk => by obtain rfl : k = 0 := by omega
                                exact e
    · exact .inr ⟨0, Nat.le_refl _, by omega, fun j hj => absurd hj (Nat.not_lt_zero _)⟩
  | T + 1, h => by
    rcases first_pos (T := T) fun k hk => h k (by omega) with h1 | ⟨k, h1, h2, h3⟩
    · have := h (T + 1) (Nat.le_refl _)
      by_cases e : a (T + 1) = 0
      · refine .inl fun k hk => ?_
        by_cases e2 : k = T + 1
        · subst e2; exact e
        · exact h1 k (by omega)
      · exact .inr ⟨T + 1, Nat.le_refl _, by omega, fun j hj => h1 j (by omega)⟩
    · exact .inr ⟨k, by omega, h2, h3⟩
theorem cut_nn {T i : Nat} {u x : Fn} (hu : UOk T u) (hx : NN T x) (hi : i < T) (hp : 0 < x i) : NN T (cut u x i) := fun k hk => by
  have := hx k hk
  have := hu i hi
  unfold cut ad
  by_cases h1 : k = i + 1
  · rw [if_pos h1, if_neg (by omega)]; omega
  · rw [if_neg h1]
    by_cases h2 : k = i
    · rw [if_pos h2]; subst h2; omega
    · rw [if_neg h2]; omega
theorem reach {T : Nat} {u : Fn} {zs : List (List Int)} (hu : UOk T u) (hc : Closed T u zs) {y : Fn} (hy : NN T y) :
    ∀ (n : Nat) (z : List Int), z ∈ zs → NN T (fnL z) → LeT T (S u y) (S u (fnL z)) → S u y T = S u (fnL z) T → gap (fun k => S u (fnL z) k - S u y k) T ≤ (n : Int) → L (T + 1) (fnL z) ∈ zs → L (T + 1) y ∈ zs := fun n => by
    refine Nat.strongRecOn n fun n ih z hz hn hle heq hg hm => ?_
    have ha : NN T (fun k => S u (fnL z) k - S u y k) := fun k hk => by have := hle k hk; show 0 ≤ S u (fnL z) k - S u y k; omega
    rcases first_pos ha with h1 | ⟨k, h1, h2, h3⟩
    · have : ∀ k, k ≤ T → fnL z k = y k := row_of_S (u := u) fun k hk => by
        have h9 : S u (fnL z) k - S u y k = 0 := h1 k hk
        omega
      have e : L (T + 1) (fnL z) = L (T + 1) y := L_congr fun i hi => this i (by omega)
      rw [← e]; exact hm
    · replace h2 : 0 < S u (fnL z) k - S u y k := h2
      replace h3 : ∀ j, j < k → S u (fnL z) j - S u y j = 0 := h3
      have hkT : k < T := by
        rcases Nat.lt_or_ge k T with h | h
        · exact h
        · obtain rfl : k = T := by omega
          omega
      have hkp : 0 < fnL z k := by
        have h5 := hy k h1
        rcases k with _ | k
        · have : S u (fnL z) 0 - S u y 0 = fnL z 0 - y 0 := rfl
          omega
        · have e1 : S u (fnL z) (k + 1) = u k * S u (fnL z) k + fnL z (k + 1) := rfl
          have e2 : S u y (k + 1) = u k * S u y k + y (k + 1) := rfl
          have e3 : S u (fnL z) k = S u y k := by have := h3 k (by omega); omega
          rw [e1, e2, e3] at h2
          omega
      have hmem := hc z hz k hkT hkp
      have hgp := (gap_nn ha).2 k h1
      replace hgp : S u (fnL z) k - S u y k ≤ _ := hgp
      have hcn := cut_nn hu hn hkT hkp
      have eS : ∀ j, j ≤ T → S u (fnL (L (T + 1) (cut u (fnL z) k))) j = S u (fnL z) j - (if j = k then 1 else 0) := fun j hj => by
        rw [← S_cut]
        exact S_congr fun i hi => fnL_L (by omega)
      rcases n with _ | n
      · omega
      · refine ih n (Nat.lt_succ_self n) (L (T + 1) (cut u (fnL z) k)) hmem (fun j hj => by rw [fnL_L (by omega)]; exact hcn j hj) (fun j hj => ?_) ?_ ?_ ?_
        · rw [eS j hj]
          have := hle j hj
          by_cases e : j = k
          · rw [if_pos e, e]; omega
          · rw [if_neg e]; omega
        · rw [eS T (Nat.le_refl _), if_neg (by omega)]; omega
        · rw [gap_congr (b := fun j => (S u (fnL z) j - S u y j) - (if j = k then 1 else 0)) (fun j hj => by show S u (fnL (L (T + 1) (cut u (fnL z) k))) j - S u y j = _; rw [eS j hj]; omega), gap_dec (a := fun j => S u (fnL z) j - S u y j), if_pos h1]
          omega
        · rw [L_congr fun i hi => fnL_L hi]
          exact hmem
/-! ### how many -/
theorem pig : ∀ (n : Nat) (l : List Nat), l.Nodup → (∀ x ∈ l, x < n) → l.length ≤ n
  | 0, l, _, h => by
    rcases l with _ | ⟨x, r⟩
    · exact Nat.le_refl _
    · exact absurd (h x (List.mem_cons_self ..)) (Nat.not_lt_zero _)
  | n + 1, l, nd, h => by
    have := pig n (l.erase n) (nd.erase n) fun x hx => by
      have h1 := h x (List.mem_of_mem_erase hx)
      have h2 : x ≠ n := fun z => by subst z; exact nd.not_mem_erase hx
      omega
    rw [List.length_erase] at this
    split at this <;> omega
theorem pigZ {zs : List (List Int)} {c : List Int → Nat} {M : Nat} (nd : zs.Nodup) (inj : ∀ z ∈ zs, ∀ z' ∈ zs, c z = c z' → z = z') (bd : ∀ z ∈ zs, c z < M) : zs.length ≤ M := by
  rw [← List.length_map (f := c)]
  refine pig M _ ?_ fun x hx => ?_
  · rw [List.Nodup, List.pairwise_map]
    exact nd.imp_of_mem fun ha hb hne h => hne (inj _ ha _ hb h)
  · obtain ⟨z, hz, rfl⟩ := List.mem_map.mp hx
    exact bd z hz
/-- a row of the total t -/
structure Row (T : Nat) (u : Fn) (t : Int) (z : List Int) : Prop where
  len : z.length = T + 1
  nn : NN T (fnL z)
  tot : S u (fnL z) T = t
theorem S_up {T : Nat} {u x : Fn} (hu : UOk T u) (hx : NN T x) {k : Nat} (h : k < T) : 2 * S u x k + x (k + 1) ≤ S u x (k + 1) ∧ 0 ≤ S u x k := by
  have h1 := S_nonneg hu hx (Nat.le_of_lt h)
  have h2 := Int.mul_le_mul_of_nonneg_right (hu k h) h1
  refine ⟨?_, h1⟩
  show _ ≤ u k * S u x k + x (k + 1)
  omega
theorem row_eq {T : Nat} {u : Fn} {t : Int} {z w : List Int} (hz : Row T u t z) (hw : Row T u t w) (h : ∀ k, k < T → fnL z k = fnL w k) : z = w := by
  rw [← L_fnL hz.len, ← L_fnL hw.len]
  refine L_congr fun i hi => ?_
  by_cases e : i < T
  · exact h i e
  · obtain rfl : i = T := by omega
    have h1 := hz.tot
    have h2 := hw.tot
    rcases i with _ | k
    · exact h1.trans h2.symm
    · have e1 : u k * S u (fnL z) k + fnL z (k + 1) = t := h1
      have e2 : u k * S u (fnL w) k + fnL w (k + 1) = t := h2
      rw [S_congr fun j hj => h j (by omega)] at e1
      omega
/-- a row's code -/
def cod (a b : Int) (T : Nat) (x : Fn) : Int := match T with
  | 0 => 0
  | 1 => x 0
  | 2 => x 0 * b + x 1
  | _ => x 0 * a + x 1 * b + x 2
theorem many {T : Nat} {u : Fn} {t : Int} {zs : List (List Int)} (hT : T ≤ 3) (hu : UOk T u) (nd : zs.Nodup) (h : ∀ z ∈ zs, Row T u t z) (ht : t ≤ 127) : zs.length ≤ 2097152 := by
  have key : ∀ z ∈ zs, (0 ≤ cod 16384 128 T (fnL z) ∧ cod 16384 128 T (fnL z) < 2097152) ∧ ∀ w ∈ zs, cod 16384 128 T (fnL z) = cod 16384 128 T (fnL w) → z = w := by
    have bd : ∀ z ∈ zs, ∀ k, k < T → 0 ≤ fnL z k ∧ fnL z k ≤ 127 := fun z hz => by
      have r := h z hz
      have S0 : S u (fnL z) 0 = fnL z 0 := rfl
      have := r.tot
      intro k hk
      have hk2 := r.nn k (by omega)
      refine ⟨hk2, ?_⟩
      rcases (show T = 1 ∨ T = 2 ∨ T = 3 by omega) with rfl | rfl | rfl
      · have a1 := S_up hu r.nn (show 0 < 1 by omega)
        have b1 := r.nn 1 (by omega)
        obtain rfl : k = 0 := by omega
        simp only [Nat.zero_add] at a1
        omega
      · have a1 := S_up hu r.nn (show 0 < 2 by omega)
        have a2 := S_up hu r.nn (show 1 < 2 by omega)
        have b1 := r.nn 1 (by omega)
        have b2 := r.nn 2 (by omega)
        simp only [Nat.zero_add, Nat.reduceAdd] at a1 a2
        rcases (show k = 0 ∨ k = 1 by omega) with rfl | rfl <;> omega
      · have a1 := S_up hu r.nn (show 0 < 3 by omega)
        have a2 := S_up hu r.nn (show 1 < 3 by omega)
        have a3 := S_up hu r.nn (show 2 < 3 by omega)
        have b1 := r.nn 1 (by omega)
        have b2 := r.nn 2 (by omega)
        have b3 := r.nn 3 (by omega)
        simp only [Nat.zero_add, Nat.reduceAdd] at a1 a2 a3
        rcases (show k = 0 ∨ k = 1 ∨ k = 2 by omega) with rfl | rfl | rfl <;> omega
    intro z hz
    rcases (show T = 0 ∨ T = 1 ∨ T = 2 ∨ T = 3 by omega) with rfl | rfl | rfl | rfl
    · exact ⟨⟨Int.le_refl _, by show (0 : Int) < 2097152; omega⟩, fun w hw _ => row_eq (h z hz) (h w hw) fun k hk => absurd hk (Nat.not_lt_zero _)⟩
    · have a0 := bd z hz 0 (by omega)
      refine ⟨⟨a0.1, by show fnL z 0 < 2097152; omega⟩, fun w hw e => row_eq (h z hz) (h w hw) fun k hk => ?_⟩
      obtain rfl : k = 0 := by omega
      exact e
    · have a0 := bd z hz 0 (by omega)
      have a1 := bd z hz 1 (by omega)
      refine ⟨⟨by show 0 ≤ fnL z 0 * 128 + fnL z 1; omega, by show fnL z 0 * 128 + fnL z 1 < 2097152; omega⟩, fun w hw e => row_eq (h z hz) (h w hw) fun k hk => ?_⟩
      have c0 := bd w hw 0 (by omega)
      have c1 := bd w hw 1 (by omega)
      replace e : fnL z 0 * 128 + fnL z 1 = fnL w 0 * 128 + fnL w 1 := e
      rcases (show k = 0 ∨ k = 1 by omega) with rfl | rfl <;> omega
    · have a0 := bd z hz 0 (by omega)
      have a1 := bd z hz 1 (by omega)
      have a2 := bd z hz 2 (by omega)
      refine ⟨⟨by show 0 ≤ fnL z 0 * 16384 + fnL z 1 * 128 + fnL z 2; omega, by show fnL z 0 * 16384 + fnL z 1 * 128 + fnL z 2 < 2097152; omega⟩, fun w hw e => row_eq (h z hz) (h w hw) fun k hk => ?_⟩
      have c0 := bd w hw 0 (by omega)
      have c1 := bd w hw 1 (by omega)
      have c2 := bd w hw 2 (by omega)
      replace e : fnL z 0 * 16384 + fnL z 1 * 128 + fnL z 2 = fnL w 0 * 16384 + fnL w 1 * 128 + fnL w 2 := e
      rcases (show k = 0 ∨ k = 1 ∨ k = 2 by omega) with rfl | rfl | rfl <;> omega
  refine pigZ (c := fun z => (cod 16384 128 T (fnL z)).toNat) nd (fun z hz w hw e => (key z hz).2 w hw ?_) fun z hz => ?_
  · have a := (key z hz).1
    have b := (key w hw).1
    omega
  · have a := (key z hz).1
    omega
theorem few {T : Nat} {u : Fn} {t : Int} {zs : List (List Int)} (hT : T ≤ 3) (hu : UOk T u) (nd : zs.Nodup) (h : ∀ z ∈ zs, Row T u t z) (ht : t ≤ 14) : zs.length < 64 := by
  have key : ∀ z ∈ zs, (0 ≤ cod 32 8 T (fnL z) ∧ cod 32 8 T (fnL z) < 63) ∧ ∀ w ∈ zs, cod 32 8 T (fnL z) = cod 32 8 T (fnL w) → z = w := by
    have up : ∀ z ∈ zs, ∀ k, k < T → 2 * S u (fnL z) k + fnL z (k + 1) ≤ S u (fnL z) (k + 1) ∧ 0 ≤ S u (fnL z) k ∧ 0 ≤ fnL z k ∧ 0 ≤ fnL z (k + 1) := fun z hz k hk => by
      have r := h z hz
      have a := S_up hu r.nn hk
      exact ⟨a.1, a.2, r.nn k (by omega), r.nn (k + 1) (by omega)⟩
    intro z hz
    have tz := (h z hz).tot
    have Sz : S u (fnL z) 0 = fnL z 0 := rfl
    rcases (show T = 0 ∨ T = 1 ∨ T = 2 ∨ T = 3 by omega) with rfl | rfl | rfl | rfl
    · exact ⟨⟨Int.le_refl _, by show (0 : Int) < 63; omega⟩, fun w hw _ => row_eq (h z hz) (h w hw) fun k hk => absurd hk (Nat.not_lt_zero _)⟩
    · have a0 := up z hz 0 (by omega)
      simp only [Nat.zero_add] at a0
      refine ⟨⟨a0.2.2.1, by show fnL z 0 < 63; omega⟩, fun w hw e => row_eq (h z hz) (h w hw) fun k hk => ?_⟩
      obtain rfl : k = 0 := by omega
      exact e
    · have a0 := up z hz 0 (by omega)
      have a1 := up z hz 1 (by omega)
      simp only [Nat.zero_add, Nat.reduceAdd] at a0 a1
      refine ⟨⟨by show 0 ≤ fnL z 0 * 8 + fnL z 1; omega, by show fnL z 0 * 8 + fnL z 1 < 63; omega⟩, fun w hw e => row_eq (h z hz) (h w hw) fun k hk => ?_⟩
      have c0 := up w hw 0 (by omega)
      have c1 := up w hw 1 (by omega)
      simp only [Nat.zero_add, Nat.reduceAdd] at c0 c1
      have tw := (h w hw).tot
      have Sw : S u (fnL w) 0 = fnL w 0 := rfl
      replace e : fnL z 0 * 8 + fnL z 1 = fnL w 0 * 8 + fnL w 1 := e
      rcases (show k = 0 ∨ k = 1 by omega) with rfl | rfl <;> omega
    · have a0 := up z hz 0 (by omega)
      have a1 := up z hz 1 (by omega)
      have a2 := up z hz 2 (by omega)
      simp only [Nat.zero_add, Nat.reduceAdd] at a0 a1 a2
      refine ⟨⟨by show 0 ≤ fnL z 0 * 32 + fnL z 1 * 8 + fnL z 2; omega, by show fnL z 0 * 32 + fnL z 1 * 8 + fnL z 2 < 63; omega⟩, fun w hw e => row_eq (h z hz) (h w hw) fun k hk => ?_⟩
      have c0 := up w hw 0 (by omega)
      have c1 := up w hw 1 (by omega)
      have c2 := up w hw 2 (by omega)
      simp only [Nat.zero_add, Nat.reduceAdd] at c0 c1 c2
      have tw := (h w hw).tot
      have Sw : S u (fnL w) 0 = fnL w 0 := rfl
      replace e : fnL z 0 * 32 + fnL z 1 * 8 + fnL z 2 = fnL w 0 * 32 + fnL w 1 * 8 + fnL w 2 := e
      rcases (show k = 0 ∨ k = 1 ∨ k = 2 by omega) with rfl | rfl | rfl <;> omega
  have := pigZ (M := 63) (c := fun z => (cod 32 8 T (fnL z)).toNat) nd (fun z hz w hw e => (key z hz).2 w hw (by
    have a := (key z hz).1
    have b := (key w hw).1
    omega)) fun z hz => by
    have a := (key z hz).1
    omega
  omega
end K21
end
section
set_option maxRecDepth 100000
set_option maxHeartbeats 4000000
/-! K21M: all ways of cutting. -/
namespace K21
open PySem PySem.Spec PyProof.Rows L2
def RowL (H : Hp) (v : V) (z : List Int) : Prop := ∃ a, v = .ref a ∧ H a = some (.tup (z.map V.int))
theorem RowL.tx {H H' : Hp} {v : V} {z : List Int} (e : Tx H H') (r : RowL H v z) : RowL H' v z := let ⟨a, e1, h⟩ := r; ⟨a, e1, e _ _ h⟩
theorem RowL.f {H : Hp} {v : V} {z : List Int} {n : Nat} (r : RowL H v z) (h : z.length = n) : RowF H v n (fnL z) := by
  obtain ⟨a, e, h1⟩ := r
  refine ⟨a, e, ?_⟩
  unfold LV
  rw [L_fnL h]; exact h1
theorem RowF.l {H : Hp} {v : V} {n : Nat} {f : Fn} (r : RowF H v n f) : RowL H v (L n f) := r
def kL (z : List Int) : List Key := z.map Sum.inl
theorem kL_kV (z : List Int) : (kL z).map kV = z.map V.int := by
  unfold kL
  rw [List.map_map]; rfl
theorem kL_inj {z w : List Int} (h : kL z = kL w) : z = w := by
  unfold kL at h
  exact List.map_inj_right (fun _ _ e => Sum.inl.inj e) |>.mp h
/-- what the cuts found so far are -/
structure BF (T : Nat) (u x : Fn) (zs : List (List Int)) (kvs : List (List Key × V)) : Prop where
  nd : zs.Nodup
  len : kvs.length = zs.length
  keys : ∀ z, (valV kvs (kL z)).isSome = decide (z ∈ zs)
  ok : ∀ z ∈ zs, Row T u (S u x T) z ∧ LeT T (S u (fnL z)) (S u x)
  root : L (T + 1) x ∈ zs
theorem BF.put {T : Nat} {u x : Fn} {zs : List (List Int)} {kvs : List (List Key × V)} (b : BF T u x zs kvs) {w : List Int} (hw : w ∉ zs) (h : Row T u (S u x T) w ∧ LeT T (S u (fnL w)) (S u x)) : BF T u x (zs ++ [w]) (putK kvs (kL w) (.bl true)) where
  nd := by
    rw [List.nodup_append]
    exact ⟨b.nd, by simp, fun a ha c hc => fun e => hw (by rw [← List.mem_singleton.mp hc, ← e]; exact ha)⟩
  len := by
    have h1 : ¬ (kvs.any fun kv => decide (kv.1 = kL w)) = true := by
      rw [valV_any, b.keys w, decide_eq_true_iff]
      exact hw
    unfold putK
    rw [if_neg h1, List.length_append, List.length_append, b.len]; rfl
  keys := fun z => by
    rw [valV_put]
    by_cases e : kL z = kL w
    · rw [if_pos e, kL_inj e]
      simp
    · rw [if_neg e, b.keys z]
      have : z ≠ w := fun y => e (by rw [y])
      simp [this]
  ok := fun z hz => by
    rcases List.mem_append.mp hz with y | y
    · exact b.ok z y
    · rw [List.mem_singleton.mp y]; exact h
  root := List.mem_append_left _ b.root
def Done (T : Nat) (u : Fn) (zs : List (List Int)) (n i : Nat) : Prop := ∀ (j : Nat) (z : List Int), zs[j]? = some z → ∀ k, k < T → (j < n ∨ (j = n ∧ k < i)) → 0 < fnL z k → L (T + 1) (cut u (fnL z) k) ∈ zs
theorem Done.put {T : Nat} {u : Fn} {zs : List (List Int)} {n i : Nat} (h : Done T u zs n i) (hn : n < zs.length) (w : List Int) : Done T u (zs ++ [w]) n i := fun j z e k hk c p => by
  rw [List.getElem?_append_left (by omega)] at e
  exact List.mem_append_left _ (h j z e k hk c p)
/-- all rows that cutting makes, of one row -/
structure CutsOk (T : Nat) (u x : Fn) (zs : List (List Int)) : Prop where
  ok : ∀ z ∈ zs, Row T u (S u x T) z ∧ LeT T (S u (fnL z)) (S u x)
  all : ∀ y, NN T y → LeT T (S u y) (S u x) → S u y T = S u x T → L (T + 1) y ∈ zs
theorem cuts_ok {T : Nat} {u x : Fn} {zs : List (List Int)} {kvs : List (List Key × V)} (hu : UB T u) (hx : NN T x) (b : BF T u x zs kvs) (d : Done T u zs zs.length 0) : CutsOk T u x zs where
  ok := b.ok
  all := fun y hy hle he => by
    have hc : Closed T u zs := fun z hz i hi hp => by
      obtain ⟨j, hj⟩ := List.mem_iff_getElem?.mp hz
      exact d j z hj i hi (.inl (List.getElem?_eq_some_iff.mp hj).1) hp
    have e1 : ∀ k, k ≤ T → fnL (L (T + 1) x) k = x k := fun k hk => fnL_L (by omega)
    have e2 : ∀ k, k ≤ T → S u (fnL (L (T + 1) x)) k = S u x k := fun k hk => S_congr fun j hj => e1 j (by omega)
    obtain ⟨n, hn⟩ : ∃ n : Nat, gap (fun k => S u (fnL (L (T + 1) x)) k - S u y k) T ≤ (n : Int) := ⟨_, Int.self_le_toNat _⟩
    exact reach hu.ok hc hy n _ b.root (fun k hk => by rw [e1 k hk]; exact hx k hk) (fun k hk => by rw [e2 k hk]; exact hle k hk) (by rw [e2 T (Nat.le_refl _)]; exact he) hn (by rw [L_congr fun i hi => e1 i (by omega)]; exact b.root)
theorem cut_row {T i : Nat} {u x : Fn} {z : List Int} {t : Int} (hu : UB T u) (h : Row T u t z ∧ LeT T (S u (fnL z)) (S u x)) (hi : i < T) (hp : 0 < fnL z i) : Row T u t (L (T + 1) (cut u (fnL z) i)) ∧ LeT T (S u (fnL (L (T + 1) (cut u (fnL z) i)))) (S u x) := by
  have e1 : ∀ k, k ≤ T → fnL (L (T + 1) (cut u (fnL z) i)) k = cut u (fnL z) i k := fun k hk => fnL_L (by omega)
  have e2 : ∀ k, k ≤ T → S u (fnL (L (T + 1) (cut u (fnL z) i))) k = S u (fnL z) k - (if k = i then 1 else 0) := fun k hk => by
    rw [← S_cut]
    exact S_congr fun j hj => e1 j (by omega)
  refine ⟨⟨L_len _ _, fun k hk => by rw [e1 k hk]; exact cut_nn hu.ok h.1.nn hi hp k hk, by rw [e2 T (Nat.le_refl _), if_neg (by omega), h.1.tot]; omega⟩, fun k hk => ?_⟩
  rw [e2 k hk]
  have := h.2 k hk
  split <;> omega
def muC (s : L2.St) : Nat := match List.getD s 4 none with
  | some (V.int n) => 2097153 - n.toNat
  | _ => 0
section
variable {P : Program} {w : World} {K : PySem.W.Frag} {mg : Str → Option Value} {base : Heap} {Y CU CR : Addr}
def p_cuts : Sp := sp2 fun a b H Q _ => ∃ T u x, T ≤ 3 ∧ UB T u ∧ RowF H a T u ∧ RowF H b (T + 1) x ∧ NN T x ∧ S u x T ≤ 127 ∧ ∀ D ws zs H', Same H H' → H' D = some (.lst ws) → ListR RowL H' ws zs → CutsOk T u x zs → Q (.ref D) H'
theorem d_law_cuts (W : Wr K mg) : Df P w K mg base CX0 1 "_law_cuts" p_cuts := by
  refine df_of (W.defs.get (i := 35) rfl) sc__law_cuts (fun _ _ _ _ _ _ us hl => match us, hl with | [_, _], _ => rfl) (len2 rfl) fun cdv A outer s0 H vs Q fA E hr h => ?_
  obtain ⟨a, b, rfl, T, u, x, hT, hu, ⟨a, rfl, ha⟩, ⟨b, rfl, hb⟩, hx, ht, q⟩ := inv2 h
  refine ⟨_, (pss_cons (ps_par3 (i := 2) (j := 3) (l := 4) (by rfl) sc__law_cuts.nd rfl rfl rfl (by decide) (by decide) (by decide) rfl rfl rfl (pa_cons (pe_lst (pa_cons (pv 1) pa_nil)) (pa_cons (pe_dispT1 (hu_of hr) (pv 1) pe_bl) (pa_cons pe_int pa_nil))) (by rfl))
      (pss_cons (ps_while PassesOwn.never (pt_cmpR op_lt (pv 4) (pe_callB call_len_seq (by rfl) W.b_len (by decide +kernel) (pa_cons (pv 2) pa_nil)) (nomark _)) (pss_cons (ps_par (i := 5) (j := 4) (by rfl) sc__law_cuts.nd rfl rfl (by decide) rfl rfl (pa_cons (pe_ix ix_list (pv 2) (pv 4) (fun _ _ => rfl)) (pa_cons (pe_op op_add (pv 4) pe_int) pa_nil)) (by rfl))
      (pss_one (ps_for PassesOwn.never rfl (pi_range1 (by rfl) W.b_range (pa_cons (pe_callB call_len_seq (by rfl) W.b_len (by decide +kernel) (pa_cons (pv 0) pa_nil)) pa_nil)) (pg_name (i := 6) sc__law_cuts.nd rfl (.inl rfl))
        (pss_one (ps_if (pt_cmpR op_gt (pe_ix ix_tup (pv 5) (pv 6) (fun _ _ => rfl)) pe_int (nomark _)) (pss_cons (ps_set (i := 7) sc__law_cuts.nd rfl (.inl rfl) (pe_callTy call_list_of (by rfl) W.b_list (by decide +kernel) (pa_cons (pv 5) pa_nil)))
      (pss_cons (ps_asg (pe_op op_sub (pe_ix ix_list (pv 7) (pv 6) (fun _ _ => rfl)) pe_int) (pg_sub (pv 7) (pv 6) set_list))
      (pss_cons (ps_asg (pe_op op_add (pe_ix ix_list (pv 7) (pe_op op_add (pv 6) pe_int) (fun _ _ => rfl)) (pe_ix ix_tup (pv 0) (pv 6) (fun _ _ => rfl))) (pg_sub (pv 7) (pe_op op_add (pv 6) pe_int) set_list))
      (pss_one (ps_if (pt_cmp (pc_dnotin (hu_of hr) (pe_callTy call_tuple_of (by rfl) W.b_tuple (by decide +kernel) (pa_cons (pv 7) pa_nil)) (pv 3))) (pss_cons (ps_dput (hu_of hr) (pv 3) (pe_callTy call_tuple_of (by rfl) W.b_tuple (by decide +kernel) (pa_cons (pv 7) pa_nil)) pe_bl rfl)
      (pss_one (ps_expr (pe_bm PySem.F.plainAttrs_list PySem.F.slot_list_append PySem.F.type_list_append mt_append (pv 2) (pa_cons (pe_callTy call_tuple_of (by rfl) W.b_tuple (by decide +kernel) (pa_cons (pv 7) pa_nil)) pa_nil))))) pss_nil))))) pss_nil))))))
      (pss_one (ps_ret (pv 2))))), ?_⟩
  have hrow : Row T u (S u x T) (L (T + 1) x) ∧ LeT T (S u (fnL (L (T + 1) x))) (S u x) := by
    have e1 : ∀ k, k ≤ T → fnL (L (T + 1) x) k = x k := fun k hk => fnL_L (by omega)
    have e2 : ∀ k, k ≤ T → S u (fnL (L (T + 1) x)) k = S u x k := fun k hk => S_congr fun j hj => e1 j (by omega)
    exact ⟨⟨L_len _ _, fun k hk => by rw [e1 k hk]; exact hx k hk, e2 T (Nat.le_refl _)⟩, fun k hk => by rw [e2 k hk]; exact Int.le_refl _⟩
  refine ⟨_, rfl, (by show 1 ≤ sizeLine; decide), fun D hD SD hSD => ?_⟩
  have s1 := same_new (o := .lst [V.ref b]) hD
  have s2 := s1.trans (same_new (o := .dT []) hSD)
  have hDS : D ≠ SD := fun z => by rw [← z, upd_same] at hSD; cases hSD
  refine ⟨_, rfl, b, kL (L (T + 1) x), .bl true, rfl, by rw [kL_kV]; exact s2 _ _ hb, upd_same, ?_⟩
  have hSD0 := s1.free hSD
  have s3 : Same H (upd (upd (upd H D (.lst [V.ref b])) SD (.dT [])) SD (.dT [(kL (L (T + 1) x), .bl true)])) := s2.mut hSD0
  refine ⟨_, _, _, rfl, ?_⟩
  refine while_by (fun σ H' => ∃ (n : Nat) (ws : List V) (zs : List (List Int)) (kvs : List (List Key × V)) (y5 y6 y7 : Option V), σ = [some (.ref a), some (.ref b), some (.ref D), some (.ref SD), some (.int (n : Nat)), y5, y6, y7] ∧ Same H H' ∧ n ≤ zs.length ∧ H' D = some (.lst ws) ∧ ListR RowL H' ws zs ∧
    H' SD = some (.dT kvs) ∧ BF T u x zs kvs ∧ Done T u zs n 0) (fun σ _ => muC σ) ⟨0, [.ref b], [L (T + 1) x], [(kL (L (T + 1) x), .bl true)], none, none, none, rfl, s3, Nat.zero_le _, by rw [upd_ne hDS, upd_ne hDS]; exact upd_same, ListR.nil.snoc ⟨b, rfl, s3 _ _ hb⟩, upd_same, ⟨by simp, rfl, fun z => ?_, fun z hz => ?_, by simp⟩, fun j z e k hk c p => ?_⟩ (fun σ H1 pv => ?_) (fun σ H1 Q1 Q2 hq h => ?_)
  · by_cases e : z = L (T + 1) x
    · subst e
      rw [valV_pos rfl]; simp
    · rw [valV_neg (fun y => e (kL_inj y).symm), valV_nil]; simp [e]
  · rw [List.mem_singleton.mp hz]; exact hrow
  · omega
  · obtain ⟨n, ws, zs, kvs, y5, y6, y7, rfl, sx, hn, hDw, hL, hSk, bf, dn⟩ := pv
    have hmany := many hT hu.ok bf.nd (fun z hz => (bf.ok z hz).1) ht
    refine ⟨_, rfl, _, rfl, D, _, rfl, .inl (.of hDw), _, _, rfl, rfl, _, rfl, ite2 (fun e => ?_) (fun e => ?_)⟩
    · have hlt : n < ws.length := by have := of_decide_eq_true e; omega
      have hltz : n < zs.length := by rw [← hL.1]; exact hlt
      obtain ⟨v5, hv5, ha5, rfl, h5⟩ := hL.2 n _ (List.getElem?_eq_getElem hltz)
      have rz := bf.ok _ (List.getElem_mem hltz)
      obtain ⟨z, hz⟩ : ∃ z, z = zs[n] := ⟨_, rfl⟩
      have hzn : zs[n]? = some z := by rw [hz]; exact List.getElem?_eq_getElem hltz
      rw [← hz] at h5 rz
      have h5L : H1 ha5 = some (.tup (LV (T + 1) (fnL z))) := by
        unfold LV
        rw [L_fnL rz.1.len]; exact h5
      refine ⟨_, rfl, _, rfl, D, _, _, _, rfl, rfl, .of hDw, atI_nat hv5, _, rfl, _, _, rfl, rfl, _, _, rfl, ?_⟩
      refine ⟨_, rfl, a, _, rfl, .inr (.of (sx _ _ ha)), ?_⟩
      rw [LV_len]
      refine ⟨_, rfl, by omega, by omega, ?_⟩
      rw [show ((T : Nat) : Int).toNat = T from rfl]
      refine for_it walk_range (fun i σ H' => i ≤ T ∧ ∃ (ws : List V) (zs : List (List Int)) (kvs : List (List Key × V)) (y6 y7 : Option V), σ = [some (.ref a), some (.ref b), some (.ref D), some (.ref SD), some (.int ((n : Nat) + 1)), some (.ref ha5), y6, y7] ∧ Same H H' ∧ H' ha5 = some (.tup (LV (T + 1) (fnL z))) ∧ zs[n]? = some z ∧ H' D = some (.lst ws) ∧ ListR RowL H' ws zs ∧
        H' SD = some (.dT kvs) ∧ BF T u x zs kvs ∧ Done T u zs n i) ⟨Nat.zero_le _, ws, zs, kvs, y6, y7, rfl, sx, h5L, hzn, hDw, hL, hSk, bf, dn⟩ (fun _ _ _ _ _ => trivial) (fun i v σ H2 H3 hi pv y => ?_) (fun σ H' pv => ?_)
      · obtain ⟨_, ws, zs, kvs, y6, y7, rfl, sx, h5L, hzn, hDw, hL, hSk, bf, dn⟩ := pv
        obtain ⟨rfl, e1⟩ := y
        replace e1 : v = .int ((0 : Int) + (i : Nat)) := e1
        rw [Int.zero_add] at e1
        subst e1
        have hmany := many hT hu.ok bf.nd (fun z hz => (bf.ok z hz).1) ht
        have hnl : n < zs.length := (List.getElem?_eq_some_iff.mp hzn).1
        have hstep : ∀ zs' : List (List Int), zs' = zs ∨ (∃ w, zs' = zs ++ [w]) → (0 < fnL z i → L (T + 1) (cut u (fnL z) i) ∈ zs') → Done T u zs' n (i + 1) := fun zs' hzs hin j w ej k hk c p => by
          have dn' : Done T u zs' n i := by
            rcases hzs with rfl | ⟨w, rfl⟩
            · exact dn
            · exact dn.put hnl w
          by_cases c2 : j = n ∧ k = i
          · obtain ⟨rfl, rfl⟩ := c2
            have : zs'[j]? = some z := by
              rcases hzs with rfl | ⟨w, rfl⟩
              · exact hzn
              · rw [List.getElem?_append_left hnl]; exact hzn
            obtain rfl := Option.some.inj (ej.symm.trans this)
            exact hin p
          · exact dn' j w ej k hk (by omega) p
        refine ⟨_, rfl, _, rfl, ha5, _, _, _, rfl, rfl, .of h5L, LV_at (by omega), _, _, rfl, rfl, _, rfl, ite2 (fun e => ?_) (fun e => ?_)⟩
        · have hp : 0 < fnL z i := of_decide_eq_true e
          refine ⟨_, rfl, ha5, _, rfl, .inr (.of h5L), fun B hB => ?_⟩
          have sB := same_new (o := .lst (LV (T + 1) (fnL z))) hB
          refine ⟨_, rfl, _, rfl, B, _, _, _, rfl, rfl, .of upd_same, LV_at (by omega), _, _, rfl, rfl, _, rfl, _, rfl, B, _, _, i, rfl, rfl, upd_same, ixN_nat (by rw [LV_len]; omega), ?_⟩
          rw [LV_sub1]
          have sB2 := sB.mut (o := .lst (LV (T + 1) (ad (fnL z) i (-1)))) hB
          refine ⟨_, rfl, _, rfl, _, _, rfl, rfl, B, _, ((i + 1 : Nat) : Int), _, rfl, rfl, .of upd_same, LV_at (by omega), _, rfl, _, rfl, a, _, _, _, rfl, rfl, .of (sB2 _ _ (sx _ _ ha)), LV_at (by omega), _, _, rfl, rfl, ?_⟩
          refine ⟨_, rfl, _, rfl, _, _, rfl, rfl, B, _, ((i + 1 : Nat) : Int), i + 1, rfl, rfl, upd_same, ixN_nat (by rw [LV_len]; omega), ?_⟩
          rw [LV_ad]
          have sB3 := sB2.mut (o := .lst (LV (T + 1) (ad (ad (fnL z) i (-1)) (i + 1) (u i)))) hB
          have hcr := cut_row hu (bf.ok _ (List.mem_iff_getElem?.mpr ⟨n, hzn⟩)) hi hp
          refine ⟨_, rfl, B, _, rfl, .inl ⟨.of upd_same, fun b1 hb1 => ⟨_, rfl, SD, _, rfl, DGet.t (k := kL (L (T + 1) (cut u (fnL z) i))) ((same_new hb1) _ _ (sB3 _ _ hSk)) (by rw [upd_same, kL_kV]; rfl), _, rfl, ite2 (fun e2 => ?_) (fun e2 => ?_)⟩⟩⟩
          · have hnot : L (T + 1) (cut u (fnL z) i) ∉ zs := by
              rw [bf.keys, Bool.not_eq_true'] at e2
              exact of_decide_eq_false e2
            have t1 := same_new (o := .tup (LV (T + 1) (cut u (fnL z) i))) hb1
            refine ⟨_, rfl, _, rfl, B, _, rfl, .inl ⟨.of (t1 _ _ upd_same), fun b2 hb2 => ?_⟩⟩
            have t2 := t1.trans (same_new (o := .tup (LV (T + 1) (cut u (fnL z) i))) hb2)
            refine ⟨SD, _, rfl, DPut.t (k := kL (L (T + 1) (cut u (fnL z) i))) (t2 _ _ (sB3 _ _ hSk)) (by rw [upd_same, kL_kV]; rfl) (by rw [bf.len]; exact Nat.lt_of_le_of_lt hmany (by decide)), ?_⟩
            have hSc := t2 _ _ (sB3 _ _ hSk)
            have hDc := t2 _ _ (sB3 _ _ hDw)
            have sHc := sx.trans (sB3.trans t2)
            have sHd := sHc.mut (o := .dT (putK kvs (kL (L (T + 1) (cut u (fnL z) i))) (.bl true))) hSD0
            have tcd := Tx.mut (o := .dT (putK kvs (kL (L (T + 1) (cut u (fnL z) i))) (.bl true))) hSc (fun _ y => nomatch y)
            have hBS : B ≠ SD := fun y => by rw [y, hSk] at hB; cases hB
            refine ⟨_, rfl, .inl ⟨rfl, _, .inl (.inl ((upd_ne hDS).trans hDc))⟩, _, rfl, B, _, rfl, .inl ⟨.of ((upd_ne hBS).trans (t2 _ _ upd_same)), fun b3 hb3 => ?_⟩⟩
            have hDe := (same_new (o := .tup (LV (T + 1) (cut u (fnL z) i))) hb3) _ _ ((upd_ne hDS).trans hDc)
            have hbD : b3 ≠ D := fun y => by
              subst y
              cases (hb3.symm.trans ((upd_ne hDS).trans hDc))
            have hbS : SD ≠ b3 := fun y => by
              subst y
              cases (hb3.symm.trans upd_same)
            refine ⟨D, _, _, rfl, rfl, hDe, by rw [hL.1]; exact Nat.lt_of_le_of_lt hmany (by decide), ?_⟩
            have tAll := (((sB3.trans t2).tx.trans tcd).trans (Tx.new (o := .tup (LV (T + 1) (cut u (fnL z) i))) hb3)).trans (Tx.lst (o := .lst (ws ++ [.ref b3])) hDe)
            refine ⟨hi, ws ++ [.ref b3], zs ++ [L (T + 1) (cut u (fnL z) i)], _, _, _, rfl, ((sHd.trans (same_new hb3)).mut hD), tAll _ _ h5L, ?_, upd_same, ListR.snoc (hL.tx fun _ _ r => r.tx tAll) ⟨b3, rfl, ?_⟩, ?_, bf.put hnot hcr, hstep _ (.inr ⟨_, rfl⟩) fun _ => List.mem_append_right _ (List.mem_singleton.mpr rfl)⟩
            · rw [List.getElem?_append_left hnl]; exact hzn
            · rw [upd_ne hbD]
              exact upd_same
            · rw [upd_ne hDS.symm, upd_ne hbS]
              exact upd_same
          · have hin : L (T + 1) (cut u (fnL z) i) ∈ zs := by
              rw [bf.keys, Bool.not_eq_true', decide_eq_false_iff_not, Classical.not_not] at e2
              exact e2
            have t1 := sB3.trans (same_new (o := .tup (LV (T + 1) (cut u (fnL z) i))) hb1)
            exact ⟨hi, ws, zs, kvs, _, _, rfl, sx.trans t1, t1 _ _ h5L, hzn, t1 _ _ hDw, hL.tx fun _ _ r => r.tx t1.tx, t1 _ _ hSk, bf, hstep zs (.inl rfl) fun _ => hin⟩
        · exact ⟨hi, ws, zs, kvs, _, _, rfl, sx, h5L, hzn, hDw, hL, hSk, bf, hstep zs (.inl rfl) fun p => absurd (decide_eq_true p) e⟩
      · obtain ⟨_, ws, zs, kvs, y6, y7, rfl, sx, h5L, hzn, hDw, hL, hSk, bf, dn⟩ := pv
        have hmany := many hT hu.ok bf.nd (fun z hz => (bf.ok z hz).1) ht
        have hnl : n < zs.length := (List.getElem?_eq_some_iff.mp hzn).1
        refine ⟨⟨n + 1, ws, zs, kvs, _, _, _, rfl, sx, hnl, hDw, hL, hSk, bf, fun j z e k hk c p => dn j z e k hk (by omega) p⟩, ?_⟩
        show 2097153 - ((n : Int) + 1).toNat < 2097153 - ((n : Nat) : Int).toNat
        omega
    · have hend : n = zs.length := by
        have : ¬ ((n : Nat) : Int) < ((ws.length : Nat) : Int) := fun z => e (decide_eq_true z)
        rw [hL.1] at this
        omega
      subst hend
      exact ⟨_, rfl, q D ws zs _ sx hDw hL (cuts_ok hu hx bf dn)⟩
  · obtain ⟨v, e1, v2, e2, p, ys, e3, hs, i, j, e4, e5, b, e6, q⟩ := h
    exact ⟨v, e1, v2, e2, p, ys, e3, hs, i, j, e4, e5, b, e6, hq _ _ q⟩
end
end K21
end
section
set_option maxRecDepth 100000
set_option maxHeartbeats 4000000
/-! K21N: what fits, what is left by all ways. -/
namespace K21
open PySem PySem.Spec PyProof.Rows L2
theorem eqvAll_ints : ∀ (as bs : List Int), PyData.eqvAll (as.map PyData.int) (bs.map PyData.int) = decide (as = bs)
  | [], [] => rfl
  | [], _ :: _ => rfl
  | _ :: _, [] => rfl
  | a :: as, b :: bs => by
    show (PyData.eqv (.int a) (.int b) && PyData.eqvAll (as.map PyData.int) (bs.map PyData.int)) = _
    rw [eqvAll_ints as bs]
    show (a == b && decide (as = bs)) = _
    rw [Bool.eq_iff_iff]
    simp
def dT (z : List Int) : PyData := .tuple (z.map PyData.int)
theorem any_rows (zs : List (List Int)) (z : List Int) : (zs.map dT).any (fun d => PyData.eqv d (dT z)) = decide (z ∈ zs) := by
  induction zs with
  | nil => rfl
  | cons a r ih =>
    rw [List.map_cons, List.any_cons, ih, show PyData.eqv (dT a) (dT z) = decide (a = z) from eqvAll_ints a z, Bool.eq_iff_iff, Bool.or_eq_true, decide_eq_true_iff, decide_eq_true_iff, decide_eq_true_iff, List.mem_cons]
    exact ⟨fun h => h.elim (fun e => .inl e.symm) .inr, fun h => h.elim (fun e => .inl e.symm) .inr⟩
theorem lay_rows {zs : List (List Int)} : PyData.canLayAll0 (zs.map dT) = true ∧ PyData.depthAll (zs.map dT) ≤ 1 := by
  induction zs with
  | nil => exact ⟨by simp [PyData.canLayAll0], by simp [PyData.depthAll]⟩
  | cons x r ih => exact ⟨by simp [PyData.canLayAll0, PyData.canLay0, dT, lay_ints.1, ih.1], by simp [PyData.depthAll, PyData.depth, dT, lay_ints.2]; exact Nat.max_le.mpr ⟨Nat.le_refl _, ih.2⟩⟩
theorem shaped_rows {zs : List (List Int)} : SeqAt.shaped (.list (zs.map dT)) = true := by
  unfold SeqAt.shaped
  rw [Bool.and_eq_true, decide_eq_true_iff]
  refine ⟨by simp [PyData.canLay0, lay_rows.1], ?_⟩
  show PyData.depthAll (zs.map dT) + 1 ≤ 64
  have := (lay_rows (zs := zs)).2
  omega
theorem RowL.dp {K : PySem.W.Frag} {H : Hp} {v : V} {z : List Int} (r : RowL H v z) : Dp K H v (dT z) := by
  obtain ⟨a, rfl, h⟩ := r
  exact .tup (.of h) dp_ints
theorem dp_rows {K : PySem.W.Frag} {H : Hp} : ∀ {ws : List V} {zs : List (List Int)}, ListR RowL H ws zs → DpAll K H ws (zs.map dT)
  | [], [], _ => .nil
  | [], _ :: _, h => absurd h.1 (by simp)
  | _ :: _, [], h => absurd h.1 (by simp)
  | w :: ws, z :: zs, h => by
    refine .cons ?_ (dp_rows ⟨by have := h.1; simpa using this, fun i a e => ?_⟩)
    · obtain ⟨w', e, r⟩ := h.2 0 z rfl
      obtain rfl : w = w' := Option.some.inj e
      exact r.dp
    · obtain ⟨w', e', r⟩ := h.2 (i + 1) a e
      exact ⟨w', e', r⟩
theorem ListR.inv {α : Type} {R : Hp → V → α → Prop} {H : Hp} {w : V} {ws : List V} {as : List α} (h : ListR R H (w :: ws) as) : ∃ a r, as = a :: r ∧ R H w a ∧ ListR R H ws r := by
  rcases as with _ | ⟨a, r⟩
  · exact absurd h.1 (by simp)
  · refine ⟨a, r, rfl, ?_, by have := h.1; simpa using this, fun i b e => ?_⟩
    · obtain ⟨w', e, q⟩ := h.2 0 a rfl
      obtain rfl : w = w' := Option.some.inj e
      exact q
    · obtain ⟨w', e', q⟩ := h.2 (i + 1) b e
      exact ⟨w', e', q⟩
theorem ListR.cons {α : Type} {R : Hp → V → α → Prop} {H : Hp} {w : V} {a : α} {ws : List V} {as : List α} (r : R H w a) (h : ListR R H ws as) : ListR R H (w :: ws) (a :: as) := by
  have := (ListR.nil.snoc r).app h
  exact this
theorem ListR.perm {α : Type} {R : Hp → V → α → Prop} {H : Hp} {ys xs : List V} (p : ys.Perm xs) : ∀ {as : List α}, ListR R H xs as → ∃ bs, bs.Perm as ∧ ListR R H ys bs := by
  induction p with
  | nil => exact fun h => ⟨_, .refl _, h⟩
  | cons x _ ih =>
    intro as h
    obtain ⟨a, r, rfl, h1, h2⟩ := h.inv
    obtain ⟨bs, q1, q2⟩ := ih h2
    exact ⟨a :: bs, q1.cons a, ListR.cons h1 q2⟩
  | swap x y l =>
    intro as h
    obtain ⟨a, r, rfl, h1, h2⟩ := h.inv
    obtain ⟨b, r2, rfl, h3, h4⟩ := h2.inv
    exact ⟨b :: a :: r2, List.Perm.swap a b r2, ListR.cons h3 (ListR.cons h1 h4)⟩
  | trans _ _ ih1 ih2 =>
    intro as h
    obtain ⟨bs, q1, q2⟩ := ih2 h
    obtain ⟨cs, q3, q4⟩ := ih1 q2
    exact ⟨cs, q3.trans q1, q4⟩
theorem ListR.mem {α : Type} {R : Hp → V → α → Prop} {H : Hp} {xs : List V} {as : List α} (h : ListR R H xs as) {x : V} (hx : x ∈ xs) : ∃ a, a ∈ as ∧ R H x a := by
  obtain ⟨i, hi⟩ := List.mem_iff_getElem?.mp hx
  have hl : i < as.length := by rw [← h.1]; exact (List.getElem?_eq_some_iff.mp hi).1
  obtain ⟨w, e, r⟩ := h.2 i _ (List.getElem?_eq_getElem hl)
  obtain rfl := Option.some.inj (hi.symm.trans e)
  exact ⟨_, List.getElem_mem hl, r⟩
/-- the rest, as a row: its total -/
theorem restF_tot {u x o R : Fn} {T : Nat} (h : restF u T x o = some R) : S u R T + S u o T = S u x T := by
  by_cases hle : LeT T (S u o) (S u x)
  · rw [restF_yes hle] at h
    rw [← Option.some.inj h, S_rowF, DN_last]
    omega
  · rw [restF_no hle] at h
    cases h
theorem restF_is {u x o R : Fn} {T : Nat} (hu : UOk T u) (h : restF u T x o = some R) : IsRest u T x o R ∧ LeT T (S u o) (S u x) := by
  by_cases hle : LeT T (S u o) (S u x)
  · rw [restF_yes hle] at h
    rw [← Option.some.inj h]
    exact ⟨isRest_down hu hle, hle⟩
  · rw [restF_no hle] at h
    cases h
theorem sub_add {u R o : Fn} {T : Nat} : L (T + 1) (fun k => fnL (L (T + 1) (fun j => R j + o j)) k - o k) = L (T + 1) R := L_congr fun i hi => by
  rw [fnL_L hi]; omega
theorem le_tot {T : Nat} {u x : Fn} (hu : UOk T u) (hx : NN T x) : ∀ (d k : Nat), k + d = T → x k ≤ S u x T := by
  have h1 : ∀ (d k : Nat), k + d = T → S u x k ≤ S u x T := fun d => by
    induction d with
    | zero => intro k e; rw [show k = T by omega]; exact Int.le_refl _
    | succ d ih =>
      intro k e
      have a := S_up hu hx (show k < T by omega)
      have b := hx (k + 1) (by omega)
      have c := ih (k + 1) (by omega)
      omega
  intro d k e
  have a := h1 d k e
  rcases k with _ | k
  · exact a
  · have b := S_up hu hx (show k < T by omega)
    omega
section
variable {P : Program} {w : World} {K : PySem.W.Frag} {mg : Str → Option Value} {base : Heap} {Y CU CR : Addr}
/-! ### _law_fits -/
def p_fits : Sp := sp3 fun a b c H Q _ => ∃ T u o x, T ≤ 3 ∧ UB T u ∧ RowF H a T u ∧ RowF H b (T + 1) o ∧ RowF H c (T + 1) x ∧ NN T x ∧ NN T o ∧ S u x T ≤ 127 ∧ LeT T (S u o) (S u x) ∧ ∀ H', Same H H' → Q (.bl true) H'
theorem d_law_fits (W : Wr K mg) : Df P w K mg base CX0 2 "_law_fits" p_fits := by
  have D__law_cuts : Df P w K mg base CX0 1 "_law_cuts" p_cuts := d_law_cuts W
  have D__law_without : Df P w K mg base CX0 1 "_law_without" p__law_without := d__law_without W
  refine df_of (W.defs.get (i := 36) rfl) sc__law_fits (fun _ _ _ _ _ _ us hl => match us, hl with | [_, _, _], _ => rfl) (len3 rfl) fun cdv A outer s0 H vs Q fA E hr h => ?_
  obtain ⟨a, b, c, rfl, T, u, o, x, hT, hu, ha, hb, hc, hx, ho, ht, hle, q⟩ := inv3 h
  refine ⟨_, (pss_cons (ps_for PassesOwn.never rfl (pi_list (pe_df D__law_cuts hr (by decide) (by rfl) pass0 (pa_cons (pv 0) (pa_cons (pv 2) pa_nil)))) (pg_name (i := 3) sc__law_fits.nd rfl (.inl rfl))
        (pss_one (ps_if (pt_cmpR op_ge (pe_callB (cr_minT rfl) (by rfl) W.b_min (by decide +kernel) (pa_cons (pe_df D__law_without hr (by decide) (by rfl) pass0 (pa_cons (pv 3) (pa_cons (pv 1) pa_nil))) pa_nil)) pe_int (nomark _)) (pss_one (ps_ret pe_bl)) pss_nil)))
      (pss_one (ps_ret pe_bl))), ?_⟩
  refine ⟨a, rfl, c, rfl, T, u, x, hT, hu, ha, hc, hx, ht, fun D ws zs H1 s1 hD hL ck => ?_⟩
  refine ⟨D, rfl, ⟨_, .of hD⟩, ?_⟩
  refine for_it (walk_list (xs := ws)) (fun i σ H' => ∃ y3, σ = [some a, some b, some c, y3] ∧ Same H1 H' ∧ ∀ (j : Nat) (z : List Int), j < i → zs[j]? = some z → ¬ ∀ k, k < T + 1 → 0 ≤ fnL z k - o k) ⟨none, rfl, Same.refl _, fun j z hj => absurd hj (Nat.not_lt_zero _)⟩ (fun i σ H' _ pv => .of (pv.choose_spec.2.1 _ _ hD)) (fun i v σ H2 H3 hi pv y => ?_) (fun σ H' pv => ?_)
  · obtain ⟨y3, rfl, sx, hn⟩ := pv
    obtain ⟨rfl, e1⟩ := y
    rw [hL.1] at hi
    obtain ⟨v2, q1, q2⟩ := hL.2 i _ (List.getElem?_eq_getElem hi)
    obtain rfl : v = v2 := Option.some.inj (e1.symm.trans q1)
    have rz := (ck.ok _ (List.getElem_mem hi)).1
    have s13 := s1.trans sx
    refine ⟨v, rfl, b, rfl, T + 1, _, o, by omega, (q2.tx sx.tx).f rz.len, hb.tx s13.tx, fun v4 H4 s4 r4 => ?_⟩
    obtain ⟨c4, rfl, h4⟩ := r4
    refine ⟨c4, _, rfl, .of h4, by rw [L_len]; omega, fun m hm1 hm2 => ⟨m, 0, rfl, rfl, _, rfl, ite2 (fun e => ?_) (fun e => ?_)⟩⟩
    · exact q _ (s13.trans s4)
    · refine ⟨_, rfl, sx.trans s4, fun j z hj hz => ?_⟩
      by_cases ej : j = i
      · subst ej
        obtain rfl := Option.some.inj ((List.getElem?_eq_getElem hi).symm.trans hz)
        exact (min_neg hm1 hm2).mp (Int.not_le.mp fun z => e (decide_eq_true z))
      · exact hn j z (by omega) hz
  · obtain ⟨y3, rfl, sx, hn⟩ := pv
    exfalso
    have hR := restF_yes hle
    obtain ⟨R, hR2⟩ : ∃ R, restF u T x o = some R := ⟨_, hR⟩
    have ir := (restF_is hu.ok hR2).1
    have tt := restF_tot hR2
    have hmem := ck.all (fun k => R k + o k) (fun k hk => by have := ir.nn k hk; have := ho k hk; show 0 ≤ R k + o k; omega) (fun k hk => by rw [S_add]; exact ir.le k hk) (by rw [S_add]; exact tt)
    obtain ⟨j, hj⟩ := List.mem_iff_getElem?.mp hmem
    refine hn j _ (by rw [hL.1]; exact (List.getElem?_eq_some_iff.mp hj).1) hj fun k hk => ?_
    rw [fnL_L hk]
    have := ir.nn k (by omega)
    omega
end
end K21
end
section
set_option maxRecDepth 100000
set_option maxHeartbeats 4000000
/-! K21O: what is left by all ways, counted. -/
namespace K21
open PySem PySem.Spec PyProof.Rows L2
theorem rU65 {A : Around} {k : Nat} (r : Room k A) : A.units + 65 < cLine := by have := r.un; omega
/-- all that all ways of cutting leave -/
structure LeftsOk (T : Nat) (u x o : Fn) (zs : List (List Int)) : Prop where
  ok : ∀ z ∈ zs, Row T u (S u x T - S u o T) z ∧ ∀ k, k ≤ T → S u (fnL z) k + S u o k ≤ S u x k
  all : ∀ y, NN T y → (∀ k, k ≤ T → S u y k + S u o k ≤ S u x k) → S u y T + S u o T = S u x T → L (T + 1) y ∈ zs
theorem left_row {T : Nat} {u x o : Fn} {z : List Int} (h : Row T u (S u x T) z ∧ LeT T (S u (fnL z)) (S u x)) (hn : ∀ k, k < T + 1 → 0 ≤ fnL z k - o k) :
    Row T u (S u x T - S u o T) (L (T + 1) (fun k => fnL z k - o k)) ∧ ∀ k, k ≤ T → S u (fnL (L (T + 1) (fun k => fnL z k - o k))) k + S u o k ≤ S u x k := by
  have e1 : ∀ k, k ≤ T → S u (fnL (L (T + 1) (fun k => fnL z k - o k))) k + S u o k = S u (fnL z) k := fun k hk => by
    rw [← S_add]
    exact S_congr fun j hj => by rw [fnL_L (by omega)]; omega
  refine ⟨⟨L_len _ _, fun k hk => by rw [fnL_L (by omega)]; exact hn k (by omega), ?_⟩, fun k hk => by rw [e1 k hk]; exact h.2 k hk⟩
  have := e1 T (Nat.le_refl _)
  rw [h.1.tot] at this
  omega
section
variable {P : Program} {w : World} {K : PySem.W.Frag} {mg : Str → Option Value} {base : Heap} {Y CU CR : Addr}
def p_lefts : Sp := sp3 fun a b c H Q _ => ∃ T u x o, T ≤ 3 ∧ UB T u ∧ RowF H a T u ∧ RowF H b (T + 1) x ∧ RowF H c (T + 1) o ∧ NN T x ∧ NN T o ∧ S u x T ≤ 14 ∧ ∀ D ws zs H', H D = none → Same H H' → H' D = some (.lst ws) → ListR RowL H' ws zs → LeftsOk T u x o zs → Q (.ref D) H'
theorem d_law_lefts (W : Wr K mg) : Df P w K mg base CX0 2 "_law_lefts" p_lefts := by
  have D__law_cuts : Df P w K mg base CX0 1 "_law_cuts" p_cuts := d_law_cuts W
  have D__law_without : Df P w K mg base CX0 1 "_law_without" p__law_without := d__law_without W
  refine df_of (W.defs.get (i := 37) rfl) sc__law_lefts (fun _ _ _ _ _ _ us hl => match us, hl with | [_, _, _], _ => rfl) (len3 rfl) fun cdv A outer s0 H vs Q fA E hr h => ?_
  obtain ⟨a, b, c, rfl, T, u, x, o, hT, hu, ha, hb, hc, hx, ho, ht, q⟩ := inv3 h
  refine ⟨_, (pss_cons (ps_set (i := 3) sc__law_lefts.nd rfl (.inl rfl) (pe_lst pa_nil))
      (pss_cons (ps_for PassesOwn.never rfl (pi_list (pe_df D__law_cuts hr (by decide) (by rfl) pass0 (pa_cons (pv 0) (pa_cons (pv 1) pa_nil)))) (pg_name (i := 4) sc__law_lefts.nd rfl (.inl rfl))
        (pss_cons (ps_set (i := 5) sc__law_lefts.nd rfl (.inl rfl) (pe_df D__law_without hr (by decide) (by rfl) pass0 (pa_cons (pv 4) (pa_cons (pv 2) pa_nil))))
      (pss_one (ps_if (PW.pt (pw_and (pt_cmpR op_ge (pe_callB (cr_minT rfl) (by rfl) W.b_min (by decide +kernel) (pa_cons (pv 5) pa_nil)) pe_int (nomark _)) (pw_and1 (pt_cmpR (op_notInD (rU65 hr)) (pv 5) (pv 3) (by rfl))))) (pss_one (ps_expr (pe_bm PySem.F.plainAttrs_list PySem.F.slot_list_append PySem.F.type_list_append mt_append (pv 3) (pa_cons (pv 5) pa_nil)))) pss_nil))))
      (pss_one (ps_ret (pe_callB (cr_sortT (d := T + 1) (B := 15) (by omega)) (by rfl) W.b_sorted (by decide +kernel) (pa_cons (pv 3) pa_nil)))))), ?_⟩
  refine ⟨Nat.zero_le _, fun F hF => ?_⟩
  have s0 := same_new (o := .lst []) hF
  refine ⟨a, rfl, b, rfl, T, u, x, hT, hu, ha.tx s0.tx, hb.tx s0.tx, hx, by omega, fun D ws zs H1 s1 hD hL ck => ?_⟩
  have hFD : F ≠ D := fun z => by
    subst z
    have e1 : HO.lst [] = HO.lst ws := Option.some.inj ((s1 _ _ upd_same).symm.trans hD)
    have e2 : ws = [] := (HO.lst.inj e1).symm
    have e3 := hL.1
    have e4 := List.length_pos_of_mem (ck.all x hx (fun _ _ => Int.le_refl _) rfl)
    rw [e2] at e3
    simp at e3
    omega
  refine ⟨D, rfl, ⟨_, .of hD⟩, ?_⟩
  have hso := S_nonneg hu.ok ho (Nat.le_refl T)
  refine for_it (walk_list (xs := ws)) (fun i σ H' => ∃ (y4 y5 : Option V) (fs : List V) (gs : List (List Int)), σ = [some a, some b, some c, some (.ref F), y4, y5] ∧ Same H H' ∧ Tx H1 H' ∧ H' D = some (.lst ws) ∧ H' F = some (.lst fs) ∧ ListR RowL H' fs gs ∧ gs.Nodup ∧
    (∀ z ∈ gs, Row T u (S u x T - S u o T) z ∧ ∀ k, k ≤ T → S u (fnL z) k + S u o k ≤ S u x k) ∧ ∀ (j : Nat) (z : List Int), j < i → zs[j]? = some z → (∀ k, k < T + 1 → 0 ≤ fnL z k - o k) → L (T + 1) (fun k => fnL z k - o k) ∈ gs)
    ⟨none, none, [], [], rfl, s0.trans s1, Tx.refl _, hD, s1 _ _ upd_same, ListR.nil, List.nodup_nil, fun z hz => absurd hz List.not_mem_nil, fun j z hj => absurd hj (Nat.not_lt_zero _)⟩ (fun i σ H' _ pv => ?_) (fun i v σ H2 H3 hi pv y => ?_) (fun σ H' pv => ?_)
  · obtain ⟨_, _, _, _, _, _, _, e, _⟩ := pv
    exact .of e
  · obtain ⟨y4, y5, fs, gs, rfl, sx, tx, hD2, hF2, hG, nd, gok, gall⟩ := pv
    obtain ⟨rfl, e1⟩ := y
    rw [hL.1] at hi
    obtain ⟨v2, q1, q2⟩ := hL.2 i _ (List.getElem?_eq_getElem hi)
    obtain rfl : v = v2 := Option.some.inj (e1.symm.trans q1)
    have rz := ck.ok _ (List.getElem_mem hi)
    have hfew := few hT hu.ok nd (fun z hz => (gok z hz).1) (by omega)
    refine ⟨v, rfl, c, rfl, T + 1, _, o, by omega, (q2.tx tx).f rz.1.len, hc.tx sx.tx, fun v4 H4 s4 r4 => ?_⟩
    obtain ⟨c4, rfl, h4⟩ := r4
    have hstep : ∀ gs' : List (List Int), (∀ z, z ∈ gs → z ∈ gs') → ((∀ k, k < T + 1 → 0 ≤ fnL zs[i] k - o k) → L (T + 1) (fun k => fnL zs[i] k - o k) ∈ gs') → ∀ (j : Nat) (z : List Int), j < i + 1 → zs[j]? = some z → (∀ k, k < T + 1 → 0 ≤ fnL z k - o k) → L (T + 1) (fun k => fnL z k - o k) ∈ gs' := fun gs' hg hin j z hj hz hn => by
      by_cases ej : j = i
      · subst ej
        obtain rfl := Option.some.inj ((List.getElem?_eq_getElem hi).symm.trans hz)
        exact hin hn
      · exact hg _ (gall j z (by omega) hz hn)
    refine ⟨_, rfl, c4, _, rfl, .of h4, by rw [L_len]; omega, fun m hm1 hm2 => ⟨m, 0, rfl, rfl, _, rfl, ite2 (fun e => ?_) (fun e => ?_)⟩⟩
    · have hnn : ∀ k, k < T + 1 → 0 ≤ fnL zs[i] k - o k := fun k hk => by
        have e9 : (0 : Int) ≤ m := of_decide_eq_true e
        have := hm2 _ (List.mem_map.mpr ⟨k, List.mem_range.mpr hk, rfl⟩)
        exact Int.le_trans e9 this
      have lr := left_row rz hnn
      have rl : RowL H4 (.ref c4) (L (T + 1) (fun k => fnL zs[i] k - o k)) := ⟨c4, rfl, h4⟩
      refine ⟨_, rfl, _, rfl, _, gs.map dT, rl.dp, .lst (.of (s4 _ _ hF2)) (dp_rows (hG.tx fun _ _ r => r.tx s4.tx)), shaped_intsT, shaped_rows, _, rfl, ?_⟩
      rw [any_rows]
      refine ite2 (fun e2 => ?_) (fun e2 => ?_)
      · have hnot : L (T + 1) (fun k => fnL zs[i] k - o k) ∉ gs := by
          rw [Bool.not_eq_true'] at e2
          exact of_decide_eq_false e2
        refine ⟨_, rfl, .inl ⟨rfl, _, .inl (.inl (s4 _ _ hF2))⟩, _, rfl, F, _, _, rfl, rfl, s4 _ _ hF2, by rw [hG.1]; exact lt_line (by omega), ?_⟩
        have tF := Tx.lst (o := .lst (fs ++ [.ref c4])) (s4 _ _ hF2)
        refine ⟨_, _, fs ++ [.ref c4], gs ++ [L (T + 1) (fun k => fnL zs[i] k - o k)], rfl, (sx.trans s4).mut hF, (tx.trans s4.tx).trans tF, ?_, upd_same, ListR.snoc (hG.tx fun _ _ r => (r.tx s4.tx).tx tF) ((rl.tx tF)), ?_, fun z hz => ?_, hstep _ (fun z hz => List.mem_append_left _ hz) fun _ => List.mem_append_right _ (List.mem_singleton.mpr rfl)⟩
        · rw [upd_ne hFD.symm]
          exact s4 _ _ hD2
        · rw [List.nodup_append]
          exact ⟨nd, by simp, fun a ha c hc => fun e => hnot (by rw [← List.mem_singleton.mp hc, ← e]; exact ha)⟩
        · rcases List.mem_append.mp hz with y | y
          · exact gok z y
          · rw [List.mem_singleton.mp y]; exact lr
      · have hin : L (T + 1) (fun k => fnL zs[i] k - o k) ∈ gs := by
          rw [Bool.not_eq_true', decide_eq_false_iff_not, Classical.not_not] at e2
          exact e2
        exact ⟨_, _, fs, gs, rfl, sx.trans s4, tx.trans s4.tx, s4 _ _ hD2, s4 _ _ hF2, hG.tx fun _ _ r => r.tx s4.tx, nd, gok, hstep gs (fun _ hz => hz) fun _ => hin⟩
    · refine ⟨_, _, fs, gs, rfl, sx.trans s4, tx.trans s4.tx, s4 _ _ hD2, s4 _ _ hF2, hG.tx fun _ _ r => r.tx s4.tx, nd, gok, hstep gs (fun _ hz => hz) fun hn => absurd ?_ e⟩
      refine decide_eq_true (?_ : (0 : Int) ≤ m)
      obtain ⟨k, hk, e3⟩ := List.mem_map.mp hm1
      rw [← e3]
      exact hn k (List.mem_range.mp hk)
  · obtain ⟨y4, y5, fs, gs, rfl, sx, tx, hD2, hF2, hG, nd, gok, gall⟩ := pv
    have hfew := few hT hu.ok nd (fun z hz => (gok z hz).1) (by omega)
    refine ⟨_, rfl, F, fs, rfl, .of hF2, by rw [hG.1]; exact hfew, fun y hy => ?_, fun ys p hp _ hpn => ?_⟩
    · obtain ⟨z, hz, t, rfl, hzt⟩ := hG.mem hy
      have r := (gok z hz).1
      refine ⟨z, ⟨t, rfl, .of hzt⟩, r.len, fun m hm => ?_⟩
      obtain ⟨k, hk⟩ := List.mem_iff_getElem?.mp hm
      have hkl := (List.getElem?_eq_some_iff.mp hk).1
      have e5 : fnL z k = m := by
        unfold fnL
        rw [List.getD_eq_getElem?_getD, hk]; rfl
      rw [r.len] at hkl
      have a1 := r.nn k (by omega)
      have a2 := le_tot hu.ok r.nn (T - k) k (by omega)
      rw [r.tot, e5] at a2
      rw [e5] at a1
      exact ⟨a1, by omega⟩
    · obtain ⟨bs, b1, b2⟩ := hG.perm hp
      refine q p ys bs _ (sx.free hpn) (sx.trans (same_new hpn)) upd_same (b2.tx fun _ _ r => r.tx (Tx.new hpn)) ⟨fun z hz => gok z (b1.mem_iff.mp hz), fun y hy hle he => b1.mem_iff.mpr ?_⟩
      have hmem := ck.all (fun k => y k + o k) (fun k hk => by have := hy k hk; have := ho k hk; show 0 ≤ y k + o k; omega) (fun k hk => by rw [S_add]; exact hle k hk) (by rw [S_add]; exact he)
      obtain ⟨j, hj⟩ := List.mem_iff_getElem?.mp hmem
      have := gall j _ (by rw [hL.1]; exact (List.getElem?_eq_some_iff.mp hj).1) hj fun k hk => by
        rw [fnL_L hk]
        have := hy k (by omega)
        omega
      rw [sub_add (u := u)] at this
      exact this
end
end K21
end
section
set_option maxRecDepth 100000
set_option maxHeartbeats 4000000
/-! K21P: asks counted by all ways of cutting. -/
namespace K21
open PySem PySem.Spec PyProof.Rows L2
section
variable {P : Program} {w : World} {K : PySem.W.Frag} {mg : Str → Option Value} {base : Heap} {Y CU CR : Addr}
def p_count : Sp := sp3 fun a b c H Q _ => ∃ T u x fs, T ≤ 3 ∧ UB T u ∧ RowF H a T u ∧ RowF H b (T + 1) x ∧ RowsF H c (T + 1) fs ∧ NN T x ∧ S u x T ≤ 14 ∧ (∀ f ∈ fs, NN T f) ∧ ∀ H', Same H H' → Q (.int ((turnR (restF u T) x fs).1 : Nat)) H'
theorem d_law_count (W : Wr K mg) : Df P w K mg base CX0 3 "_law_count" p_count := by
  have D__law_lefts : Df P w K mg base CX0 2 "_law_lefts" p_lefts := d_law_lefts W
  refine df_of (W.defs.get (i := 44) rfl) sc__law_count (fun _ _ _ _ _ _ us hl => match us, hl with | [_, _, _], _ => rfl) (len3 rfl) fun cdv A outer s0 H vs Q fA E hr h => ?_
  obtain ⟨a, b, c, rfl, T, u, x, fs, hT, hu, ha, ⟨b, rfl, hb⟩, ⟨c, cs, rfl, hc, hcl, hcs⟩, hx, ht, hfs, q⟩ := inv3 h
  refine ⟨_, (pss_cons (ps_set (i := 3) sc__law_count.nd rfl (.inl rfl) (pe_lst (pa_cons (pv 1) pa_nil)))
      (pss_cons (ps_for PassesOwn.never rfl (pi_enumT (by rfl) W.b_enumerate (pa_cons (pv 2) pa_nil)) (pg_tup rfl (pgs_cons (pg_name (i := 4) sc__law_count.nd rfl (.inl rfl)) (pgs_cons (pg_name (i := 5) sc__law_count.nd rfl (.inl rfl)) pgs_nil)))
        (pss_cons (ps_set (i := 6) sc__law_count.nd rfl (.inl rfl) (pe_lst pa_nil))
      (pss_cons (ps_for PassesOwn.never rfl (pi_list (pe_callTy call_list_of (by rfl) W.b_list (by decide +kernel) (pa_cons (pv 3) pa_nil))) (pg_name (i := 7) sc__law_count.nd rfl (.inl rfl))
        (pss_one (ps_for PassesOwn.never rfl (pi_list (pe_df D__law_lefts hr (by decide) (by rfl) pass0 (pa_cons (pv 0) (pa_cons (pv 7) (pa_cons (pv 5) pa_nil))))) (pg_name (i := 8) sc__law_count.nd rfl (.inl rfl))
        (pss_one (ps_if (pt_cmpR (op_notInD (rU65 hr)) (pv 8) (pv 6) (by rfl)) (pss_one (ps_expr (pe_bm PySem.F.plainAttrs_list PySem.F.slot_list_append PySem.F.type_list_append mt_append (pv 6) (pa_cons (pv 8) pa_nil)))) pss_nil)))))
      (pss_cons (ps_if (pt_cmpR (op_eqD hr.units) (pv 6) (pe_lst pa_nil) (nomark _)) (pss_one (ps_ret (pv 4))) pss_nil)
      (pss_one (ps_set (i := 3) sc__law_count.nd rfl (.inl rfl) (pe_callTy call_list_of (by rfl) W.b_list (by decide +kernel) (pa_cons (pv 6) pa_nil))))))))
      (pss_one (ps_ret (pe_callB call_len_seq (by rfl) W.b_len (by decide +kernel) (pa_cons (pv 2) pa_nil)))))), ?_⟩
  refine ⟨_, rfl, (by show 1 ≤ sizeLine; decide), fun R0 hR0 => ?_⟩
  have s0 := same_new (o := .lst [V.ref b]) hR0
  refine ⟨_, rfl, c, cs, rfl, .of (s0 _ _ hc), ?_⟩
  refine for_it (walk_enumT (xs := cs)) (fun i σ H' => ∃ (R : Addr) (ws : List V) (zs : List (List Int)) (y4 y5 y6 y7 y8 : Option V) (X : Fn), σ = [some a, some (.ref b), some (.ref c), some (.ref R), y4, y5, y6, y7, y8] ∧ Same H H' ∧ H' R = some (.lst ws) ∧ ListR RowL H' ws zs ∧ NN T X ∧ S u X T ≤ 14 ∧
    (∀ z ∈ zs, Row T u (S u X T) z ∧ LeT T (S u (fnL z)) (S u X)) ∧ L (T + 1) X ∈ zs ∧ i ≤ fs.length ∧ (turnR (restF u T) x fs).1 = i + (turnR (restF u T) X (fs.drop i)).1)
    ⟨R0, [.ref b], [L (T + 1) x], none, none, none, none, none, x, rfl, s0, upd_same, ListR.nil.snoc ⟨b, rfl, s0 _ _ hb⟩, hx, ht, fun z hz => ?_, List.mem_singleton.mpr rfl, Nat.zero_le _, by rw [List.drop_zero, Nat.zero_add]⟩ (fun i σ H' _ pv => ?_) (fun i v σ H1 H2 hi pv y => ?_) (fun σ H' pv => ?_)
  · rw [List.mem_singleton.mp hz]
    have e1 : ∀ k, k ≤ T → fnL (L (T + 1) x) k = x k := fun k hk => fnL_L (by omega)
    have e2 : ∀ k, k ≤ T → S u (fnL (L (T + 1) x)) k = S u x k := fun k hk => S_congr fun j hj => e1 j (by omega)
    exact ⟨⟨L_len _ _, fun k hk => by rw [e1 k hk]; exact hx k hk, e2 T (Nat.le_refl _)⟩, fun k hk => by rw [e2 k hk]; exact Int.le_refl _⟩
  · obtain ⟨_, _, _, _, _, _, _, _, _, _, e, _⟩ := pv
    exact .of (e _ _ hc)
  · obtain ⟨R, ws, zs, y4, y5, y6, y7, y8, X, rfl, sx, hR, hL, hX, hXt, hok, hroot, hil, htr⟩ := pv
    obtain ⟨T', x1, x2, rfl, nT, rfl, e1, e2⟩ := y
    rw [hcl] at hi
    obtain ⟨v2, q1, q2⟩ := hcs i _ (List.getElem?_eq_getElem hi)
    obtain rfl : x2 = v2 := Option.some.inj (e2.symm.trans q1)
    obtain rfl : V.int (i : Nat) = x1 := Option.some.inj e1
    have sT := same_new (o := .tup [.int (i : Nat), x2]) nT
    have sN := sx.trans sT
    obtain ⟨o, ho⟩ : ∃ o, o = fs[i] := ⟨_, rfl⟩
    have hoN : NN T o := by rw [ho]; exact hfs _ (List.getElem_mem hi)
    rw [← ho] at q2
    refine ⟨T', _, rfl, .of upd_same, rfl, _, _, rfl, _, _, rfl, rfl, ?_⟩
    refine ⟨Nat.zero_le _, fun B hB => ?_⟩
    have sB := sN.trans (same_new (o := .lst []) hB)
    refine ⟨_, rfl, R, _, rfl, .inl (.of ((same_new (o := .lst []) hB) _ _ (sT _ _ hR))), fun R2 hR2 => ?_⟩
    have s2 := sB.trans (same_new (o := .lst ws) hR2)
    have t2 := ((sT.trans (same_new (o := .lst []) hB)).trans (same_new (o := .lst ws) hR2)).tx
    have hBR : B ≠ R2 := fun z => by rw [← z, upd_same] at hR2; cases hR2
    have hso := S_nonneg hu.ok hoN (Nat.le_refl T)
    have hHB : H B = none := sN.free hB
    refine ⟨R2, rfl, ⟨_, .of upd_same⟩, ?_⟩
    refine for_it (walk_list (xs := ws)) (fun j σ H' => ∃ (y7 y8 : Option V) (bs : List V) (gs : List (List Int)), σ = [some a, some (.ref b), some (.ref c), some (.ref R), some (.int (i : Nat)), some x2, some (.ref B), y7, y8] ∧ Same H H' ∧ Tx H1 H' ∧ H' R2 = some (.lst ws) ∧ H' B = some (.lst bs) ∧ ListR RowL H' bs gs ∧ gs.Nodup ∧
      (∀ z ∈ gs, Row T u (S u X T - S u o T) z ∧ ∀ k, k ≤ T → S u (fnL z) k + S u o k ≤ S u X k) ∧ ∀ (m : Nat) (z : List Int), m < j → zs[m]? = some z → ∀ y, NN T y → (∀ k, k ≤ T → S u y k + S u o k ≤ S u (fnL z) k) → S u y T + S u o T = S u (fnL z) T → L (T + 1) y ∈ gs)
      ⟨y7, y8, [], [], rfl, s2, t2, upd_same, (same_new hR2) _ _ upd_same, ListR.nil, List.nodup_nil, fun z hz => absurd hz List.not_mem_nil, fun j z hj => absurd hj (Nat.not_lt_zero _)⟩ (fun _ σ H' _ pv => ?_) (fun j v σ H3 H4 hj pv y => ?_) (fun σ H' pv => ?_)
    · obtain ⟨_, _, _, _, _, _, _, e, _⟩ := pv
      exact .of e
    · obtain ⟨y7, y8, bs, gs, rfl, sx2, tx2, hR3, hB3, hG, nd, gok, gall⟩ := pv
      obtain ⟨rfl, e1⟩ := y
      rw [hL.1] at hj
      obtain ⟨v3, q3, q4⟩ := hL.2 j _ (List.getElem?_eq_getElem hj)
      obtain rfl : v = v3 := Option.some.inj (e1.symm.trans q3)
      have rz := hok _ (List.getElem_mem hj)
      refine ⟨a, rfl, v, rfl, x2, rfl, T, u, fnL zs[j], o, hT, hu, ha.tx sx2.tx, (q4.tx tx2).f rz.1.len, q2.tx sx2.tx, rz.1.nn, hoN, by rw [rz.1.tot]; exact hXt, fun D3 ws3 zs3 H5 hD3n s5 hD3 hL3 lk => ?_⟩
      have hBD : B ≠ D3 := fun z => by rw [← z, hB3] at hD3n; cases hD3n
      refine ⟨D3, rfl, ⟨_, .of hD3⟩, ?_⟩
      refine for_it (walk_list (xs := ws3)) (fun m σ H' => ∃ (y8 : Option V) (bs : List V) (gs' : List (List Int)), σ = [some a, some (.ref b), some (.ref c), some (.ref R), some (.int (i : Nat)), some x2, some (.ref B), some v, y8] ∧ Same H H' ∧ Tx H5 H' ∧ H' R2 = some (.lst ws) ∧ H' D3 = some (.lst ws3) ∧ H' B = some (.lst bs) ∧ ListR RowL H' bs gs' ∧ gs'.Nodup ∧
        (∀ z ∈ gs', Row T u (S u X T - S u o T) z ∧ ∀ k, k ≤ T → S u (fnL z) k + S u o k ≤ S u X k) ∧ (∀ z ∈ gs, z ∈ gs') ∧ ∀ (l : Nat) (z : List Int), l < m → zs3[l]? = some z → z ∈ gs')
        ⟨y8, bs, gs, rfl, sx2.trans s5, Tx.refl _, s5 _ _ hR3, hD3, s5 _ _ hB3, hG.tx fun _ _ r => r.tx s5.tx, nd, gok, fun _ hz => hz, fun l z hl => absurd hl (Nat.not_lt_zero _)⟩ (fun _ σ H' _ pv => ?_) (fun m v4 σ H6 H7 hm pv y => ?_) (fun σ H' pv => ?_)
      · obtain ⟨_, _, _, _, _, _, _, e, _⟩ := pv
        exact .of e
      · obtain ⟨y8, bs, gs', rfl, sx6, tx6, hR6, hD6, hB6, hG6, nd6, gok6, gsub, gall6⟩ := pv
        obtain ⟨rfl, e4⟩ := y
        rw [hL3.1] at hm
        obtain ⟨v5, q5, q6⟩ := hL3.2 m _ (List.getElem?_eq_getElem hm)
        obtain rfl : v4 = v5 := Option.some.inj (e4.symm.trans q5)
        have hfew := few hT hu.ok nd6 (fun z hz => (gok6 z hz).1) (by omega)
        have hstep : ∀ gs2 : List (List Int), (∀ z, z ∈ gs' → z ∈ gs2) → zs3[m] ∈ gs2 → ∀ (l : Nat) (z : List Int), l < m + 1 → zs3[l]? = some z → z ∈ gs2 := fun gs2 hg hin l z hl hz => by
          by_cases el : l = m
          · subst el
            obtain rfl := Option.some.inj ((List.getElem?_eq_getElem hm).symm.trans hz)
            exact hin
          · exact hg _ (gall6 l z (by omega) hz)
        refine ⟨_, rfl, _, rfl, _, gs'.map dT, (q6.tx tx6).dp, .lst (.of hB6) (dp_rows hG6), shaped_intsT, shaped_rows, _, rfl, ?_⟩
        rw [any_rows]
        refine ite2 (fun e2 => ?_) (fun e2 => ?_)
        · have hnot : zs3[m] ∉ gs' := by
            rw [Bool.not_eq_true'] at e2
            exact of_decide_eq_false e2
          refine ⟨_, rfl, .inl ⟨rfl, _, .inl (.inl hB6)⟩, _, rfl, B, _, _, rfl, rfl, hB6, by rw [hG6.1]; exact lt_line (by omega), ?_⟩
          have tF := Tx.lst (o := .lst (bs ++ [v4])) hB6
          refine ⟨_, bs ++ [v4], gs' ++ [zs3[m]], rfl, sx6.mut hHB, tx6.trans tF, ?_, ?_, upd_same, ListR.snoc (hG6.tx fun _ _ r => r.tx tF) ((q6.tx tx6).tx tF), ?_, fun z hz => ?_, fun z hz => List.mem_append_left _ (gsub z hz), hstep _ (fun z hz => List.mem_append_left _ hz) (List.mem_append_right _ (List.mem_singleton.mpr rfl))⟩
          · rw [upd_ne hBR.symm]; exact hR6
          · rw [upd_ne hBD.symm]; exact hD6
          · rw [List.nodup_append]
            exact ⟨nd6, by simp, fun a ha c hc => fun e => hnot (by rw [← List.mem_singleton.mp hc, ← e]; exact ha)⟩
          · rcases List.mem_append.mp hz with y | y
            · exact gok6 z y
            · rw [List.mem_singleton.mp y]
              have l1 := lk.ok _ (List.getElem_mem hm)
              rw [rz.1.tot] at l1
              exact ⟨l1.1, fun k hk => Int.le_trans (l1.2 k hk) (rz.2 k hk)⟩
        · have hin : zs3[m] ∈ gs' := by
            rw [Bool.not_eq_true', decide_eq_false_iff_not, Classical.not_not] at e2
            exact e2
          exact ⟨_, bs, gs', rfl, sx6, tx6, hR6, hD6, hB6, hG6, nd6, gok6, gsub, hstep gs' (fun _ hz => hz) hin⟩
      · obtain ⟨y8, bs, gs', rfl, sx6, tx6, hR6, hD6, hB6, hG6, nd6, gok6, gsub, gall6⟩ := pv
        refine ⟨_, _, bs, gs', rfl, sx6, (tx2.trans s5.tx).trans tx6, hR6, hB6, hG6, nd6, gok6, fun m z hm hz y hy hle he => ?_⟩
        by_cases em : m = j
        · subst em
          obtain rfl := Option.some.inj ((List.getElem?_eq_getElem hj).symm.trans hz)
          obtain ⟨l, hl⟩ := List.mem_iff_getElem?.mp (lk.all y hy hle he)
          exact gall6 l _ (by rw [hL3.1]; exact (List.getElem?_eq_some_iff.mp hl).1) hl
        · exact gsub _ (gall m z (by omega) hz y hy hle he)
    · obtain ⟨y7, y8, bs, gs, rfl, sx2, tx2, hR3, hB3, hG, nd, gok, gall⟩ := pv
      obtain ⟨j0, hj0⟩ := List.mem_iff_getElem?.mp hroot
      have hfind : ∀ X', restF u T X o = some X' → L (T + 1) X' ∈ gs := fun X' hX' => by
        have ir := (restF_is hu.ok hX').1
        have eS : ∀ k, k ≤ T → S u (fnL (L (T + 1) X)) k = S u X k := fun k hk => S_congr fun j hj => fnL_L (by omega)
        exact gall j0 _ (by rw [hL.1]; exact (List.getElem?_eq_some_iff.mp hj0).1) hj0 X' ir.nn (fun k hk => by rw [eS k hk]; exact ir.le k hk) (by rw [eS T (Nat.le_refl _)]; exact restF_tot hX')
      rw [List.drop_eq_getElem_cons hi, ← ho] at htr
      refine ⟨_, rfl, Nat.zero_le _, fun E1 hE1 => ⟨_, _, .lst (.of ((same_new hE1) _ _ hB3)) (dp_rows (hG.tx fun _ _ r => r.tx (same_new hE1).tx)), .lst (.of upd_same) .nil, shaped_rows, shaped_rows (zs := []), _, rfl, ?_⟩⟩
      rw [eqv_nil_int]
      have sE := same_new (o := .lst []) hE1
      refine ite2 (fun e => ?_) (fun e => ?_)
      · have hgs : gs = [] := by
          rcases gs with _ | ⟨g, r⟩
          · rfl
          · exact absurd e (by simp)
        have hno : restF u T X o = none := by
          cases hr : restF u T X o with
          | none => rfl
          | some X' =>
            have := hfind X' hr
            rw [hgs] at this
            exact absurd this List.not_mem_nil
        rw [turnR_stop hno] at htr
        have := q _ (sx2.trans sE)
        rw [htr] at this
        exact ⟨_, rfl, this⟩
      · obtain ⟨g, hg⟩ : ∃ g, g ∈ gs := by
          rcases gs with _ | ⟨g, r⟩
          · exact absurd rfl e
          · exact ⟨g, List.mem_cons_self ..⟩
        have hgo := gok g hg
        have hle : LeT T (S u o) (S u X) := fun k hk => by
          have a1 := hgo.2 k hk
          have a2 := S_nonneg hu.ok hgo.1.nn hk
          omega
        obtain ⟨X', hX'⟩ : ∃ X', restF u T X o = some X' := ⟨_, restF_yes hle⟩
        have ir := (restF_is hu.ok hX').1
        have tt := restF_tot hX'
        rw [turnR_go hX'] at htr
        refine ⟨_, rfl, B, bs, rfl, .inl (.of (sE _ _ hB3)), fun R4 hR4 => ?_⟩
        have sR := sE.trans (same_new (o := .lst bs) hR4)
        refine ⟨R4, bs, gs, _, _, _, _, _, X', rfl, sx2.trans sR, upd_same, hG.tx fun _ _ r => r.tx sR.tx, ir.nn, by omega, fun z hz => ⟨?_, fun k hk => ir.most _ (gok z hz).1.nn (gok z hz).2 k hk⟩, hfind X' hX', hi, ?_⟩
        · rw [show S u X' T = S u X T - S u o T by omega]
          exact (gok z hz).1
        · rw [htr]
          show i + ((turnR (restF u T) X' (fs.drop (i + 1))).1 + 1) = _
          omega
  · obtain ⟨R, ws, zs, y4, y5, y6, y7, y8, X, rfl, sx, hR, hL, hX, hXt, hok, hroot, hil, htr⟩ := pv
    rw [hcl, List.drop_length] at htr
    refine ⟨_, rfl, c, cs, rfl, .inr (.of (sx _ _ hc)), ?_⟩
    rw [hcl]
    have := q _ sx
    rw [htr] at this
    exact this
end
end K21
end
section
set_option maxRecDepth 100000
set_option maxHeartbeats 4000000
/-! K21Q: the plain law. -/
namespace K21
open PySem PySem.Spec PyProof.Rows L2
def EqT (T : Nat) (x y : Fn) : Prop := ∀ k, k ≤ T → x k = y k
/-- what an order leaves, or that it cannot be served -/
def Serve (u : Fn) (T : Nat) (x o : Fn) : Option Fn → Prop
  | some y => IsRest u T x o y
  | none => ¬ LeT T (S u o) (S u x)
theorem IsRest.goesTo {u x o y : Fn} {T : Nat} (hu : UOk T u) (h : IsRest u T x o y) : LeT T (S u o) (S u x) := fun k hk => by
  have := h.le k hk
  have := S_nonneg hu h.nn hk
  omega
theorem Serve.order {u x o p : Fn} {T : Nat} {r : Option Fn} (h : Serve u T x o r) (e : ∀ k, k ≤ T → S u o k = S u p k) : Serve u T x p r := by
  cases r with
  | none => exact fun z => h fun k hk => by rw [e k hk]; exact z k hk
  | some y => exact ⟨h.nn, fun k hk => by rw [← e k hk]; exact h.le k hk, fun n hn q => h.most n hn fun k hk => by rw [e k hk]; exact q k hk⟩
theorem Serve.stock {u x z o : Fn} {T : Nat} {r : Option Fn} (h : Serve u T x o r) (e : ∀ k, k ≤ T → S u x k = S u z k) : Serve u T z o r := by
  cases r with
  | none => exact fun q => h fun k hk => by rw [e k hk]; exact q k hk
  | some y => exact ⟨h.nn, fun k hk => by rw [← e k hk]; exact h.le k hk, fun n hn q => h.most n hn fun k hk => by rw [e k hk]; exact q k hk⟩
theorem serve_rest {u x o : Fn} {T : Nat} (hu : UOk T u) : Serve u T x o (restF u T x o) := by
  by_cases h : LeT T (S u o) (S u x)
  · rw [restF_yes h]
    exact isRest_down hu h
  · rw [restF_no h]
    exact h
theorem serve_bind {u x o p : Fn} {T : Nat} {r : Option Fn} {f : Fn → Option Fn} (hu : UOk T u) (hp : NN T p) (h : Serve u T x o r) (g : ∀ y, NN T y → Serve u T y p (f y)) : Serve u T x (fun j => o j + p j) (r.bind f) := by
  cases r with
  | none =>
    exact fun z => h fun k hk => by
      have h1 := z k hk
      have h2 := S_nonneg hu hp hk
      rw [S_add] at h1
      omega
  | some y =>
    have q := g y h.nn
    show Serve u T x _ (f y)
    cases hf : f y with
    | some z =>
      rw [hf] at q
      exact IsRest.comp hp h q
    | none =>
      rw [hf] at q
      exact fun z => q (IsRest.goes hp h fun k hk => by have := z k hk; rw [S_add] at this; exact this)
theorem serve_zero {u x o : Fn} {T : Nat} (hx : NN T x) (ho : ∀ k, k ≤ T → o k = 0) : Serve u T x o (some x) := IsRest.zero hx fun k hk => S_zero fun j hj => ho j (by omega)
theorem serve_one {u x : Fn} {T k : Nat} (hu : UOk T u) (hk : k ≤ T) (hx : NN T x) : Serve u T x (e k) (oneT u x k (bestC k)) := by
  rcases oneT_best hu hk hx with ⟨y, J, h1, h2, _⟩ | ⟨h1, h2⟩
  · rw [h1]; exact h2
  · rw [h1]
    intro z
    have := z k hk
    rw [S_e_self] at this
    omega
theorem serve_takeN {u : Fn} {T k : Nat} (hu : UOk T u) (hk : k ≤ T) : ∀ (n : Nat) (x : Fn), NN T x → Serve u T x (fun j => (n : Int) * e k j) (takeN (fun y => oneT u y k (bestC k)) n x)
  | 0, x, hx => serve_zero hx fun j _ => by simp
  | n + 1, x, hx => by
    refine (serve_bind hu (p := fun j => (n : Int) * e k j) (fun j hj => ?_) (serve_one hu hk hx) fun y hy => serve_takeN hu hk n y hy).order fun i _ => S_congr fun j _ => ?_
    · have := e_nn T k j hj
      exact Int.mul_nonneg (by omega) this
    · show e k j + (n : Int) * e k j = ((n + 1 : Nat) : Int) * e k j
      rw [Int.natCast_add, Int.add_mul]; omega
theorem serve_takeFrom {u o : Fn} {T : Nat} {ρ : Nat → List (Nat × Nat)} (hu : UOk T u) (hρ : ∀ k, k ≤ T → ρ k = bestC k) (ho : NN T o) : ∀ (m k : Nat), k + m ≤ T + 1 → ∀ x, NN T x → Serve u T x (fun j => if k ≤ j ∧ j < k + m then o j else 0) (takeFrom u ρ o k m x)
  | 0, k, _, x, hx => serve_zero hx fun j _ => by rw [if_neg (by omega)]
  | m + 1, k, h, x, hx => by
    have e1 : takeFrom u ρ o k (m + 1) x = (takeN (fun y => oneT u y k (bestC k)) (o k).toNat x).bind (takeFrom u ρ o (k + 1) m) := by
      show (takeN (fun y => oneT u y k (ρ k)) (o k).toNat x).bind _ = _
      rw [hρ k (by omega)]
    rw [e1]
    refine (serve_bind hu (p := fun j => if k + 1 ≤ j ∧ j < k + 1 + m then o j else 0) (fun j hj => ?_) (serve_takeN hu (by omega) _ x hx) fun y hy => serve_takeFrom hu hρ ho m (k + 1) (by omega) y hy).order fun i hi => S_congr fun j hj => ?_
    · have := ho j hj
      show 0 ≤ (if k + 1 ≤ j ∧ j < k + 1 + m then o j else 0)
      split <;> omega
    · have ok := ho k (by omega)
      show ((o k).toNat : Int) * e k j + (if k + 1 ≤ j ∧ j < k + 1 + m then o j else 0) = if k ≤ j ∧ j < k + (m + 1) then o j else 0
      unfold e
      by_cases h1 : j = k
      · rw [if_pos h1, if_neg (by omega), if_pos (by omega), h1]; omega
      · rw [if_neg h1]
        by_cases h2 : k + 1 ≤ j ∧ j < k + 1 + m
        · rw [if_pos h2, if_pos (by omega)]; omega
        · rw [if_neg h2, if_neg (by omega)]; omega
/-- the best rule takes the rest -/
theorem serve_best {u x o : Fn} {T : Nat} (hu : UOk T u) (hx : NN T x) (ho : NN T o) : Serve u T x o (takenF u T (fun k => (bestL T).getD k []) x o) := by
  refine (serve_takeFrom hu (fun k hk => getD_of (bestL_get hk)) ho (T + 1) 0 (by omega) x hx).order fun k hk => S_congr fun j hj => ?_
  show (if 0 ≤ j ∧ j < 0 + (T + 1) then o j else 0) = o j
  rw [if_pos (by omega)]
theorem turn_eq {u : Fn} {T : Nat} {s1 s2 : Fn → Fn → Option Fn} (hu : UOk T u) (h1 : ∀ x o, NN T x → NN T o → Serve u T x o (s1 x o)) (h2 : ∀ x o, NN T x → NN T o → Serve u T x o (s2 x o)) :
    ∀ (fs : List Fn) (x z : Fn), NN T x → EqT T x z → (∀ f ∈ fs, NN T f) → (turnR s1 x fs).1 = (turnR s2 z fs).1 ∧ EqT T (turnR s1 x fs).2 (turnR s2 z fs).2
  | [], x, z, _, e, _ => ⟨rfl, e⟩
  | o :: r, x, z, hx, e, hf => by
    have hz : NN T z := fun k hk => by rw [← e k hk]; exact hx k hk
    have ho := hf o (List.mem_cons_self ..)
    have a := h1 x o hx ho
    have b := (h2 z o hz ho).stock (z := x) fun k hk => S_congr fun j hj => (e j (by omega)).symm
    cases r1 : s1 x o with
    | none =>
      rw [r1] at a
      cases r2 : s2 z o with
      | none => rw [turnR_stop r1, turnR_stop r2]; exact ⟨rfl, e⟩
      | some y =>
        rw [r2] at b
        exact absurd (IsRest.goesTo hu b) a
    | some y =>
      rw [r1] at a
      cases r2 : s2 z o with
      | none =>
        rw [r2] at b
        exact absurd (IsRest.goesTo hu a) b
      | some w =>
        rw [r2] at b
        obtain ⟨q1, q2⟩ := turn_eq hu h1 h2 r y w a.nn (IsRest.uniq a b) fun f hm => hf f (List.mem_cons_of_mem _ hm)
        rw [turnR_go r1, turnR_go r2]
        exact ⟨by rw [q1], q2⟩
theorem turn_nn {u : Fn} {T : Nat} {s1 : Fn → Fn → Option Fn} (hu : UOk T u) (h1 : ∀ x o, NN T x → NN T o → Serve u T x o (s1 x o)) :
    ∀ (fs : List Fn) (x : Fn), NN T x → (∀ f ∈ fs, NN T f) → (turnR s1 x fs).1 ≤ fs.length ∧ NN T (turnR s1 x fs).2 ∧ S u (turnR s1 x fs).2 T ≤ S u x T
  | [], x, hx, _ => ⟨Nat.le_refl _, hx, Int.le_refl _⟩
  | o :: r, x, hx, hf => by
    have ho := hf o (List.mem_cons_self ..)
    have a := h1 x o hx ho
    cases r1 : s1 x o with
    | none => rw [turnR_stop r1]; exact ⟨Nat.zero_le _, hx, Int.le_refl _⟩
    | some y =>
      rw [r1] at a
      obtain ⟨q1, q2, q3⟩ := turn_nn hu h1 r y a.nn fun f hm => hf f (List.mem_cons_of_mem _ hm)
      have h4 := a.le T (Nat.le_refl _)
      have h5 := S_nonneg hu ho (Nat.le_refl T)
      rw [turnR_go r1]
      exact ⟨by rw [List.length_cons]; show _ + 1 ≤ _; omega, q2, by show S u (turnR s1 y r).2 T ≤ _; omega⟩
/-! ### flaws -/
theorem asc_some : ∀ {cs : List (Nat × Nat)} {n f : Nat}, asc cs = some (n, f) → ∃ pre g1 g2 suf, cs = pre ++ (n, g1) :: (f, g2) :: suf ∧ n < f
  | [], _, _, h => nomatch h
  | [_], _, _, h => nomatch h
  | p :: q :: r, n, f, h => by
    rw [asc_cons] at h
    by_cases c : p.1 < q.1
    · rw [if_pos c] at h
      have h := Option.some.inj h
      obtain ⟨rfl, rfl⟩ := Prod.mk.inj h
      exact ⟨[], p.2, q.2, r, rfl, c⟩
    · rw [if_neg c] at h
      obtain ⟨pre, g1, g2, suf, e1, e2⟩ := asc_some h
      exact ⟨p :: pre, g1, g2, suf, by rw [e1]; rfl, e2⟩
theorem asc_none : ∀ {cs : List (Nat × Nat)}, asc cs = none → ∀ (i : Nat) (p q : Nat × Nat), cs[i]? = some p → cs[i + 1]? = some q → q.1 ≤ p.1
  | [], _, _, _, _, h, _ => by simp at h
  | [_], _, i, _, _, _, h => by simp at h
  | a :: b :: r, h, i, p, q, e1, e2 => by
    rw [asc_cons] at h
    by_cases c : a.1 < b.1
    · rw [if_pos c] at h; cases h
    · rw [if_neg c] at h
      rcases i with _ | i
      · obtain rfl := Option.some.inj e1
        obtain rfl := Option.some.inj e2
        omega
      · exact asc_none h i p q e1 e2
theorem far2_some : ∀ {cs : List (Nat × Nat)} {s : Nat}, far2 cs = some s → ∃ pre g suf, cs = pre ++ (s, g) :: suf ∧ s + 1 < g
  | [], _, h => nomatch h
  | p :: r, s, h => by
    rw [far2_cons] at h
    by_cases c : p.1 + 1 < p.2
    · rw [if_pos c] at h
      obtain rfl := Option.some.inj h
      exact ⟨[], p.2, r, rfl, c⟩
    · rw [if_neg c] at h
      obtain ⟨pre, g, suf, e1, e2⟩ := far2_some h
      exact ⟨p :: pre, g, suf, by rw [e1]; rfl, e2⟩
theorem far2_none : ∀ {cs : List (Nat × Nat)}, far2 cs = none → ∀ p ∈ cs, ¬ p.1 + 1 < p.2
  | [], _, _, h => absurd h List.not_mem_nil
  | a :: r, h, p, hp => by
    rw [far2_cons] at h
    by_cases c : a.1 + 1 < a.2
    · rw [if_pos c] at h; cases h
    · rw [if_neg c] at h
      rcases List.mem_cons.mp hp with e | e
      · rw [e]; exact c
      · exact far2_none h p e
theorem best_flawless (k : Nat) : flawOf k (bestC k) = none := by
  have h1 : asc (bestC k) = none := by
    cases h : asc (bestC k) with
    | none => rfl
    | some nf =>
      obtain ⟨pre, g1, g2, suf, e1, e2⟩ := asc_some (n := nf.1) (f := nf.2) h
      have a1 : (bestC k)[pre.length]? = some (nf.1, g1) := by rw [e1, List.getElem?_append_right (Nat.le_refl _), Nat.sub_self]; rfl
      have a2 : (bestC k)[pre.length + 1]? = some (nf.2, g2) := by rw [e1, List.getElem?_append_right (by omega), Nat.add_sub_cancel_left]; rfl
      have b2 := (List.getElem?_eq_some_iff.mp a2).1
      rw [bestC_len] at b2
      rw [bestC_get (by omega)] at a1 a2
      have c1 := congrArg (·.1) (Option.some.inj a1)
      have c2 := congrArg (·.1) (Option.some.inj a2)
      replace c1 : k - pre.length = nf.1 := c1
      replace c2 : k - (pre.length + 1) = nf.2 := c2
      omega
  have h2 : far2 (bestC k) = none := by
    cases h : far2 (bestC k) with
    | none => rfl
    | some s =>
      obtain ⟨pre, g, suf, e1, e2⟩ := far2_some h
      have a1 : (bestC k)[pre.length]? = some (s, g) := by rw [e1, List.getElem?_append_right (Nat.le_refl _), Nat.sub_self]; rfl
      have b1 := (List.getElem?_eq_some_iff.mp a1).1
      rw [bestC_len] at b1
      rw [bestC_get (by omega)] at a1
      obtain ⟨c1, c2⟩ := Prod.mk.inj (Option.some.inj a1)
      omega
  unfold flawOf
  rw [h1]
  show (match far2 (bestC k) with | some s => _ | none => none) = none
  rw [h2]
theorem flawless_best {k : Nat} {cs : List (Nat × Nat)} (hc : CsOk k cs) (h : flawOf k cs = none) : cs = bestC k := by
  have h1 : asc cs = none := by
    cases h1 : asc cs with
    | none => rfl
    | some nf =>
      unfold flawOf at h
      rw [h1] at h
      cases h
  have h2 : far2 cs = none := by
    cases h2 : far2 cs with
    | none => rfl
    | some s =>
      unfold flawOf at h
      rw [h1] at h
      replace h : (match far2 cs with | some s => some [e s, e k, e (s + 1)] | none => none) = none := h
      rw [h2] at h
      cases h
  have lt : ∀ (i : Nat) (p q : Nat × Nat), cs[i]? = some p → cs[i + 1]? = some q → q.1 < p.1 := fun i p q e1 e2 => by
    have a := asc_none h1 i p q e1 e2
    have hl2 := (List.getElem?_eq_some_iff.mp e2).1
    have b : p.1 ≠ q.1 := fun z => by
      have n1 := List.pairwise_iff_getElem.mp hc.nd i (i + 1) (by rw [List.length_map]; omega) (by rw [List.length_map]; omega) (by omega)
      refine n1 ?_
      rw [List.getElem_map, List.getElem_map]
      have g1 : cs[i] = p := Option.some.inj ((List.getElem?_eq_getElem (by omega)).symm.trans e1)
      have g2 : cs[i + 1] = q := Option.some.inj ((List.getElem?_eq_getElem hl2).symm.trans e2)
      rw [g1, g2, z]
    omega
  have up : ∀ (i : Nat) (hi : i < cs.length), cs[i].1 + i ≤ k := fun i => by
    induction i with
    | zero => intro hi; exact (hc.ok _ (List.getElem_mem hi)).le
    | succ i ih =>
      intro hi
      have a := ih (by omega)
      have b := lt i _ _ (List.getElem?_eq_getElem (by omega)) (List.getElem?_eq_getElem hi)
      omega
  have dn : ∀ (d : Nat) (hd : d < cs.length), d ≤ (cs[k - d]'(by have := hc.len; omega)).1 := fun d => by
    induction d with
    | zero => intro _; exact Nat.zero_le _
    | succ d ih =>
      intro hd
      have hl := hc.len
      have a := ih (by omega)
      have b := lt (k - (d + 1)) _ _ (List.getElem?_eq_getElem (by omega)) (List.getElem?_eq_getElem (by omega))
      have e9 : k - (d + 1) + 1 = k - d := by omega
      simp only [e9] at b
      omega
  have hl := hc.len
  refine List.ext_getElem? fun i => ?_
  by_cases hi : i ≤ k
  · have hil : i < cs.length := by omega
    rw [bestC_get hi, List.getElem?_eq_getElem hil]
    have a := up i hil
    have b := dn (k - i) (by omega)
    have e9 : k - (k - i) = i := by omega
    simp only [e9] at b
    have c := hc.ok _ (List.getElem_mem hil)
    have f := far2_none h2 _ (List.getElem_mem hil)
    refine congrArg some (Prod.ext (by show cs[i].1 = k - i; omega) ?_)
    show cs[i].2 = min (k - i + 1) k
    by_cases z : cs[i].1 = k
    · have := c.eq z
      omega
    · have := c.lt (by have := c.le; omega)
      have := c.le2
      omega
  · rw [List.getElem?_eq_none (by omega), List.getElem?_eq_none (by rw [bestC_len]; omega)]
theorem flawFrom_some : ∀ {l : List (List (Nat × Nat))} {k : Nat} {fl : List Fn}, flawFrom k l = some fl → ∃ (i : Nat) (cs : List (Nat × Nat)), l[i]? = some cs ∧ flawOf (k + i) cs = some fl
  | [], _, _, h => nomatch h
  | c :: r, k, fl, h => by
    cases hc : flawOf k c with
    | some g =>
      unfold flawFrom at h
      rw [hc] at h
      obtain rfl := Option.some.inj h
      exact ⟨0, c, rfl, hc⟩
    | none =>
      unfold flawFrom at h
      rw [hc] at h
      obtain ⟨i, cs, e1, e2⟩ := flawFrom_some h
      exact ⟨i + 1, cs, e1, by rw [show k + (i + 1) = k + 1 + i by omega]; exact e2⟩
theorem flawFrom_none : ∀ {l : List (List (Nat × Nat))} {k : Nat}, flawFrom k l = none → ∀ (i : Nat) (cs : List (Nat × Nat)), l[i]? = some cs → flawOf (k + i) cs = none
  | [], _, _, _, _, h => by simp at h
  | c :: r, k, h, i, cs, e1 => by
    cases hc : flawOf k c with
    | some g =>
      unfold flawFrom at h
      rw [hc] at h
      cases h
    | none =>
      unfold flawFrom at h
      rw [hc] at h
      rcases i with _ | i
      · obtain rfl := Option.some.inj e1
        exact hc
      · rw [show k + (i + 1) = k + 1 + i by omega]
        exact flawFrom_none h i cs e1
theorem best_none (T : Nat) : flawFrom 0 (bestL T) = none := by
  cases h : flawFrom 0 (bestL T) with
  | none => rfl
  | some fl =>
    obtain ⟨i, cs, e1, e2⟩ := flawFrom_some h
    have hi := (List.getElem?_eq_some_iff.mp e1).1
    rw [bestL_len] at hi
    rw [bestL_get (by omega)] at e1
    obtain rfl := Option.some.inj e1
    rw [Nat.zero_add, best_flawless] at e2
    cases e2
theorem none_best {T : Nat} {rs : List (List (Nat × Nat))} (hr : RsOk T rs) (h : flawFrom 0 rs = none) : rs = bestL T := by
  refine List.ext_getElem? fun i => ?_
  by_cases hi : i ≤ T
  · have e1 := rs_get hr.len hi
    have := flawFrom_none h i _ e1
    rw [Nat.zero_add] at this
    rw [bestL_get hi, e1, flawless_best (hr.ok i _ e1) this]
  · have := hr.len
    rw [List.getElem?_eq_none (by omega), List.getElem?_eq_none (by rw [bestL_len]; omega)]
end K21
end
section
set_option maxRecDepth 100000
set_option maxHeartbeats 4000000
/-! K21R: every flaw told is one. -/
namespace K21
open PySem PySem.Spec PyProof.Rows L2
theorem oneT_skip {u x : Fn} {k : Nat} {r : List (Nat × Nat)} : ∀ {pre : List (Nat × Nat)}, (∀ p ∈ pre, x p.1 ≤ 0) → oneT u x k (pre ++ r) = oneT u x k r
  | [], _ => rfl
  | p :: t, h => by
    rw [List.cons_append, oneT_cons, if_neg (by have := h p (List.mem_cons_self ..); omega)]
    exact oneT_skip fun q hq => h q (List.mem_cons_of_mem _ hq)
theorem oneT_none {u x : Fn} {k : Nat} : ∀ {l : List (Nat × Nat)}, (∀ p ∈ l, x p.1 ≤ 0) → oneT u x k l = none
  | [], _ => rfl
  | p :: t, h => by
    rw [oneT_cons, if_neg (by have := h p (List.mem_cons_self ..); omega)]
    exact oneT_none fun q hq => h q (List.mem_cons_of_mem _ hq)
theorem takeFrom_e {u : Fn} {ρ : Nat → List (Nat × Nat)} {n : Nat} : ∀ (m k : Nat) (x : Fn), takeFrom u ρ (e n) k m x = if k ≤ n ∧ n < k + m then oneT u x n (ρ n) else some x
  | 0, k, x => by rw [if_neg (by omega)]; rfl
  | m + 1, k, x => by
    show (takeN (fun y => oneT u y k (ρ k)) (e n k).toNat x).bind (takeFrom u ρ (e n) (k + 1) m) = _
    by_cases h : k = n
    · subst h
      rw [show e k k = 1 from if_pos rfl]
      show ((oneT u x k (ρ k)).bind some).bind (takeFrom u ρ (e k) (k + 1) m) = _
      rw [if_pos (by omega)]
      cases h2 : oneT u x k (ρ k) with
      | none => rfl
      | some y =>
        show takeFrom u ρ (e k) (k + 1) m y = some y
        rw [takeFrom_e m (k + 1) y, if_neg (by omega)]
    · rw [show e n k = 0 from if_neg h]
      show takeFrom u ρ (e n) (k + 1) m x = _
      rw [takeFrom_e m (k + 1) x]
      by_cases c : k + 1 ≤ n ∧ n < k + 1 + m
      · rw [if_pos c, if_pos (by omega)]
      · rw [if_neg c, if_neg (by omega)]
theorem takenF_e {u x : Fn} {T n : Nat} {ρ : Nat → List (Nat × Nat)} (h : n ≤ T) : takenF u T ρ x (e n) = oneT u x n (ρ n) := by
  unfold takenF
  rw [takeFrom_e, if_pos (by omega)]
theorem pt_low {u x : Fn} {s g k j : Nat} (hs : s < k) (hj : j < g) (hg : g ≤ k) (hsg : s < g) : pt u x s g k j = if j = s then x j - 1 else x j := by
  unfold pt
  rw [if_pos hs]
  have hA : ad (ad x s (-1)) g (pr u s (g - s)) j = if j = s then x j - 1 else x j := by
    show (if j = g then _ else ad x s (-1) j) = _
    rw [if_neg (by omega)]
    show (if j = s then x j + -1 else x j) = _
    rfl
  show (if j = k then _ else st u (ad (ad x s (-1)) g (pr u s (g - s))) g (k - g) j) = _
  rw [if_neg (show ¬ j = k by omega), st_at, if_neg (show ¬ (g ≤ j ∧ j < g + (k - g)) by omega), if_neg (show ¬ (g < j ∧ j ≤ g + (k - g)) by omega), hA]
  omega
theorem sum_L (n : Nat) (f : Fn) : (L (n + 1) f).sum = (L n f).sum + f n := by
  rw [L_succ, List.sum_append]; simp
theorem sum_e (k : Nat) : ∀ n, (L n (e k)).sum = if k < n then 1 else 0
  | 0 => rfl
  | n + 1 => by
    rw [sum_L, sum_e k n]
    unfold e
    by_cases h : n = k
    · rw [if_pos h, if_neg (by omega), if_pos (by omega)]; omega
    · by_cases h2 : k < n
      · rw [if_neg h, if_pos h2, if_pos (by omega)]; omega
      · rw [if_neg h, if_neg h2, if_neg (by omega)]; omega
theorem sum_add (f g : Fn) : ∀ n, (L n (fun i => f i + g i)).sum = (L n f).sum + (L n g).sum
  | 0 => rfl
  | n + 1 => by
    rw [sum_L, sum_L, sum_L, sum_add f g n]; omega
theorem S_e0 {u : Fn} {T : Nat} (hu : UOk T u) (h4 : ∀ i, i < T → u i ≤ 4) : ∀ k, k ≤ T → S u (e 0) k ≤ 4 ^ k
  | 0, _ => Int.le_refl _
  | k + 1, h => by
    have h1 := S_e0 hu h4 k (by omega)
    have h2 := S_e_nn (k := 0) hu (show k ≤ T by omega)
    show u k * S u (e 0) k + e 0 (k + 1) ≤ _
    rw [show e 0 (k + 1) = 0 from if_neg (by omega), Int.add_zero, Int.pow_succ, Int.mul_comm]
    exact Int.mul_le_mul h1 (h4 k (by omega)) (by have := hu k (by omega); omega) (Int.le_trans h2 h1)
/-- a flaw: the stock x, the asks o, p -/
structure FlawOk (T : Nat) (u : Fn) (rs : List (List (Nat × Nat))) (x o p : Fn) : Prop where
  nx : ∀ i, i ≤ T → 0 ≤ x i ∧ x i ≤ 2
  no : ∀ i, i ≤ T → 0 ≤ o i ∧ o i ≤ 1
  np : ∀ i, i ≤ T → 0 ≤ p i ∧ p i ≤ 1
  sx : (L (T + 1) x).sum ≤ 2
  so : (L (T + 1) o).sum = 1
  sp : (L (T + 1) p).sum = 1
  tot : S u x T ≤ 127
  le : LeT T (S u (fun i => o i + p i)) (S u x)
  bad : (turnR (takenF u T (fun k => rs.getD k [])) x [o, p]).1 = 1
theorem e_bd (T k : Nat) : ∀ i, i ≤ T → 0 ≤ e k i ∧ e k i ≤ 1 := fun i _ => by unfold e; split <;> omega
theorem flaw_ok {T : Nat} {u : Fn} {rs : List (List (Nat × Nat))} {fl : List Fn} (hT : T ≤ 3) (hu : UOk T u) (h4 : ∀ i, i < T → u i ≤ 4) (hr : RsOk T rs) (h : flawFrom 0 rs = some fl) : ∃ x o p, fl = [x, o, p] ∧ FlawOk T u rs x o p := by
  obtain ⟨k, cs, e1, e2⟩ := flawFrom_some h
  rw [Nat.zero_add] at e2
  have hk : k ≤ T := by
    have := (List.getElem?_eq_some_iff.mp e1).1
    have := hr.len
    omega
  have hc := hr.ok k cs e1
  have hρ : rs.getD k [] = cs := getD_of e1
  have hp4 : (4 : Int) ^ T ≤ 64 := by
    have : T = 0 ∨ T = 1 ∨ T = 2 ∨ T = 3 := by omega
    rcases this with rfl | rfl | rfl | rfl <;> decide
  have h64 : ∀ n, S u (e n) T ≤ 64 := fun n => Int.le_trans (S_e_mono hu (Nat.zero_le n) (Nat.le_refl T)) (Int.le_trans (S_e0 hu h4 T (Nat.le_refl T)) hp4)
  have starts : ∀ n, n ≤ T → ∀ p ∈ rs.getD n [], p.1 ≤ n := fun n hn p hp => (hr.chs.2 n hn p hp).le
  unfold flawOf at e2
  cases ha : asc cs with
  | some nf =>
    obtain ⟨n, f⟩ := nf
    rw [ha] at e2
    obtain rfl := Option.some.inj e2
    obtain ⟨pre, g1, g2, suf, d1, d2⟩ := asc_some ha
    have c1 : ChOk k (n, g1) := hc.ok _ (by rw [d1]; simp)
    have c2 : ChOk k (f, g2) := hc.ok _ (by rw [d1]; simp)
    have hfk : f ≤ k := c2.le
    have hnk : n < k := by omega
    have hng : n < g1 := c1.lt hnk
    have hgk : g1 ≤ k := c1.le2
    have hnd := hc.nd
    rw [d1, List.map_append, List.map_cons, List.map_cons, List.nodup_append] at hnd
    have xs : ∀ i, e n i + e f i = (if i = n then 1 else 0) + (if i = f then 1 else 0) := fun i => rfl
    have hpre : ∀ p ∈ pre, (fun i => e n i + e f i) p.1 ≤ 0 := fun p hp => by
      have m1 := hnd.2.2 p.1 (List.mem_map.mpr ⟨p, hp, rfl⟩)
      have a1 := m1 n (List.mem_cons_self ..)
      have a2 := m1 f (List.mem_cons_of_mem _ (List.mem_cons_self ..))
      show e n p.1 + e f p.1 ≤ 0
      rw [xs, if_neg a1, if_neg a2]; omega
    have t1 : takenF u T (fun k => rs.getD k []) (fun i => e n i + e f i) (e k) = some (pt u (fun i => e n i + e f i) n g1 k) := by
      rw [takenF_e hk, hρ, d1, oneT_skip hpre, oneT_cons, if_pos (by show 0 < e n n + e f n; rw [xs, if_pos rfl, if_neg (by omega)]; omega)]
    have t2 : takenF u T (fun k => rs.getD k []) (pt u (fun i => e n i + e f i) n g1 k) (e n) = none := by
      rw [takenF_e (by omega)]
      refine oneT_none fun p hp => ?_
      have hs := starts n (by omega) p hp
      rw [pt_low hnk (by omega) hgk hng]
      by_cases z : p.1 = n
      · rw [if_pos z, z, xs, if_pos rfl, if_neg (by omega)]; omega
      · rw [if_neg z, xs, if_neg z, if_neg (by omega)]; omega
    have two := S_e_two (a := n) hu (Nat.le_refl T)
    have mono := S_e_mono (a := n + 1) (b := f) hu (by omega) (Nat.le_refl T)
    refine ⟨_, _, _, rfl, ⟨fun i hi => ?_, e_bd T k, e_bd T n, ?_, by rw [sum_e, if_pos (by omega)], by rw [sum_e, if_pos (by omega)], ?_, fun j hj => ?_, ?_⟩⟩
    · have := e_bd T n i hi
      have := e_bd T f i hi
      show 0 ≤ e n i + e f i ∧ e n i + e f i ≤ 2
      omega
    · rw [sum_add, sum_e, sum_e, if_pos (by omega), if_pos (by omega)]; omega
    · rw [S_add]
      have := h64 n
      omega
    · rw [S_add, S_add]
      have := S_e_mono (a := f) (b := k) hu hfk hj
      omega
    · rw [turnR_go t1, turnR_stop t2]
  | none =>
    rw [ha] at e2
    replace e2 : (match far2 cs with | some s => some [e s, e k, e (s + 1)] | none => none) = some fl := e2
    cases hf : far2 cs with
    | none => rw [hf] at e2; cases e2
    | some s =>
      rw [hf] at e2
      obtain rfl := Option.some.inj e2
      obtain ⟨pre, g, suf, d1, d2⟩ := far2_some hf
      have c1 : ChOk k (s, g) := hc.ok _ (by rw [d1]; simp)
      have hgk : g ≤ k := c1.le2
      have hnd := hc.nd
      rw [d1, List.map_append, List.map_cons, List.nodup_append] at hnd
      have xs : ∀ i, e s i = (if i = s then 1 else 0) := fun i => rfl
      have hpre : ∀ p ∈ pre, e s p.1 ≤ 0 := fun p hp => by
        have m1 := hnd.2.2 p.1 (List.mem_map.mpr ⟨p, hp, rfl⟩)
        have a1 := m1 s (List.mem_cons_self ..)
        rw [xs, if_neg a1]; omega
      have t1 : takenF u T (fun k => rs.getD k []) (e s) (e k) = some (pt u (e s) s g k) := by
        rw [takenF_e hk, hρ, d1, oneT_skip hpre, oneT_cons, if_pos (by rw [xs, if_pos rfl]; omega)]
      have t2 : takenF u T (fun k => rs.getD k []) (pt u (e s) s g k) (e (s + 1)) = none := by
        rw [takenF_e (by omega)]
        refine oneT_none fun p hp => ?_
        have hs := starts (s + 1) (by omega) p hp
        rw [pt_low (by omega) (by omega) hgk (by omega)]
        by_cases z : p.1 = s
        · rw [if_pos z, z, xs, if_pos rfl]; omega
        · rw [if_neg z, xs, if_neg z]; omega
      refine ⟨_, _, _, rfl, ⟨fun i hi => ?_, e_bd T k, e_bd T (s + 1), ?_, by rw [sum_e, if_pos (by omega)], by rw [sum_e, if_pos (by omega)], ?_, fun j hj => ?_, ?_⟩⟩
      · have := e_bd T s i hi
        omega
      · rw [sum_e]; split <;> omega
      · have := h64 s
        omega
      · rw [S_add]
        have a1 := S_e_two (a := s) hu hj
        have a2 := S_e_mono (a := s + 1) (b := k) hu (by omega) hj
        omega
      · rw [turnR_go t1, turnR_stop t2]
theorem FlawOk.best {T : Nat} {u : Fn} {rs : List (List (Nat × Nat))} {x o p : Fn} (hu : UOk T u) (h : FlawOk T u rs x o p) : (turnR (takenF u T (fun k => (bestL T).getD k [])) x [o, p]).1 = 2 := by
  have nx : NN T x := fun i hi => (h.nx i hi).1
  have no : NN T o := fun i hi => (h.no i hi).1
  have np : NN T p := fun i hi => (h.np i hi).1
  have a := serve_best hu nx no
  have hle := h.le
  cases r1 : takenF u T (fun k => (bestL T).getD k []) x o with
  | none =>
    rw [r1] at a
    exact absurd (fun k hk => by
      have := hle k hk
      rw [S_add] at this
      have := S_nonneg hu np hk
      omega) a
  | some y =>
    rw [r1] at a
    have b := serve_best hu a.nn np
    cases r2 : takenF u T (fun k => (bestL T).getD k []) y p with
    | none =>
      rw [r2] at b
      exact absurd (IsRest.goes np a fun k hk => by have := hle k hk; rw [S_add] at this; exact this) b
    | some z =>
      rw [turnR_go r1, turnR_go r2]
      rfl
end K21
end
section
set_option maxRecDepth 100000
set_option maxHeartbeats 4000000
/-! K21S: alike as texts; a told flaw is right. -/
namespace K21
open PySem PySem.Spec PyProof.Rows L2
theorem rU200 {A : Around} {k : Nat} (r : Room k A) : A.units + 200 < cLine := by have := r.un; omega
/-- small data -/
structure Sm (d : PyData) (dep w : Nat) : Prop where
  cl : d.canLay0 = true
  dp : d.depth ≤ dep
  wt : d.weight ≤ w
  sh : d.showable = true
  ii : d.intsShort 13 = true
theorem ints_small : ∀ n : Fin 128, (decide ((PyData.int (n.1 : Int)).weight ≤ 8) && (PyData.int (n.1 : Int)).showable && (PyData.int (n.1 : Int)).intsShort 13) = true := by decide +kernel
theorem Sm.nat {n : Nat} (h : n < 128) : Sm (.int (n : Nat)) 0 8 := by
  have := ints_small ⟨n, h⟩
  rw [Bool.and_eq_true, Bool.and_eq_true, decide_eq_true_iff] at this
  exact ⟨by simp [PyData.canLay0], by simp [PyData.depth], this.1.1, this.1.2, this.2⟩
theorem Sm.int {i : Int} (h0 : 0 ≤ i) (h : i ≤ 127) : Sm (.int i) 0 8 := by
  obtain ⟨n, rfl⟩ := Int.eq_ofNat_of_zero_le h0
  exact Sm.nat (by omega)
theorem Sm.mono {d : PyData} {a b x y : Nat} (h : Sm d a x) (h1 : a ≤ b) (h2 : x ≤ y) : Sm d b y := ⟨h.cl, Nat.le_trans h.dp h1, Nat.le_trans h.wt h2, h.sh, h.ii⟩
theorem sm_all {dep w : Nat} : ∀ {ds : List PyData}, (∀ d ∈ ds, Sm d dep w) → PyData.canLayAll0 ds = true ∧ PyData.depthAll ds ≤ dep ∧ PyData.weightAll ds ≤ ds.length * (w + 1) ∧ PyData.showableAll ds = true ∧ PyData.intsShortAll 13 ds = true
  | [], _ => ⟨by simp [PyData.canLayAll0], by simp [PyData.depthAll], by simp [PyData.weightAll], by simp [PyData.showableAll], by simp [PyData.intsShortAll]⟩
  | d :: r, h => by
    have a := h d (List.mem_cons_self ..)
    obtain ⟨b1, b2, b3, b4, b5⟩ := sm_all (ds := r) fun e he => h e (List.mem_cons_of_mem _ he)
    refine ⟨by simp [PyData.canLayAll0, a.cl, b1], ?_, ?_, by simp [PyData.showableAll, a.sh, b4], by simp [PyData.intsShortAll, a.ii, b5]⟩
    · simp only [PyData.depthAll]
      exact Nat.max_le.mpr ⟨a.dp, b2⟩
    · simp only [PyData.weightAll]
      have := a.wt
      rw [List.length_cons, Nat.add_mul, Nat.one_mul]
      omega
theorem Sm.tup {ds : List PyData} {dep w : Nat} (h : ∀ d ∈ ds, Sm d dep w) : Sm (.tuple ds) (dep + 1) (ds.length * (w + 1)) := by
  obtain ⟨b1, b2, b3, b4, b5⟩ := sm_all h
  exact ⟨by simp [PyData.canLay0, b1], by simp only [PyData.depth]; omega, by simp only [PyData.weight]; exact b3, by simp [PyData.showable, b4], by simp [PyData.intsShort, b5]⟩
theorem Sm.lay {d : PyData} {dep w : Nat} (h : Sm d dep w) (h1 : dep ≤ 64) (h2 : w ≤ 1048576) : d.layable0 = true := by
  unfold PyData.layable0
  rw [Bool.and_eq_true, Bool.and_eq_true, decide_eq_true_iff, decide_eq_true_iff]
  exact ⟨⟨h.cl, Nat.le_trans h.dp h1⟩, Nat.le_trans h.wt h2⟩
/-! ### data of rows and rules -/
theorem dp_list {α : Type} {R : Hp → V → α → Prop} {K : PySem.W.Frag} {H : Hp} {f : α → PyData} (hR : ∀ w a, R H w a → Dp K H w (f a)) : ∀ {ws : List V} {as : List α}, ListR R H ws as → DpAll K H ws (as.map f)
  | [], [], _ => .nil
  | [], _ :: _, h => absurd h.1 (by simp)
  | w :: ws, as, h => by
    obtain ⟨a, r, rfl, h1, h2⟩ := h.inv
    exact .cons (hR w a h1) (dp_list hR h2)
theorem dp_tup {α : Type} {R : Hp → V → α → Prop} {K : PySem.W.Frag} {H : Hp} {f : α → PyData} {v : V} {as : List α} (hR : ∀ w a, R H w a → Dp K H w (f a)) (h : TupR R H v as) : Dp K H v (.tuple (as.map f)) := by
  obtain ⟨a, ws, rfl, h1, h2⟩ := h
  exact .tup (.of h1) (dp_list hR h2)
def dP (p : Nat × Nat) : PyData := .tuple [.int (p.1 : Nat), .int (p.2 : Nat)]
def dC (cs : List (Nat × Nat)) : PyData := .tuple (cs.map dP)
def dR (rs : List (List (Nat × Nat))) : PyData := .tuple (rs.map dC)
theorem RuF.dp {K : PySem.W.Frag} {H : Hp} {v : V} {rs : List (List (Nat × Nat))} (h : RuF H v rs) : Dp K H v (dR rs) :=
  dp_tup (fun w cs hc => dp_tup (fun w p hp => by
    obtain ⟨b, rfl, hb⟩ := hp
    exact .tup (.of hb) (.cons (.int _) (.cons (.int _) .nil))) hc) h
theorem sm_rule {T : Nat} {rs : List (List (Nat × Nat))} (hT : T ≤ 3) (h : RsOk T rs) : Sm (dR rs) 3 500 := by
  have h1 : ∀ d ∈ rs.map dC, Sm d 2 96 := fun d hd => by
    obtain ⟨cs, hcs, rfl⟩ := List.mem_map.mp hd
    obtain ⟨k, hk⟩ := List.mem_iff_getElem?.mp hcs
    have hkl := (List.getElem?_eq_some_iff.mp hk).1
    have hl := h.len
    have c := h.ok k cs hk
    have h2 : ∀ d ∈ cs.map dP, Sm d 1 18 := fun d hd => by
      obtain ⟨p, hp, rfl⟩ := List.mem_map.mp hd
      have q := c.ok p hp
      have q1 := q.le
      have q2 := q.le2
      refine (Sm.tup (dep := 0) (w := 8) fun d hd => ?_).mono (Nat.le_refl _) (by simp)
      rcases List.mem_cons.mp hd with e | e
      · rw [e]; exact Sm.nat (by omega)
      · rw [List.mem_singleton.mp e]; exact Sm.nat (by omega)
    refine (Sm.tup h2).mono (Nat.le_refl _) ?_
    rw [List.length_map, c.len]
    omega
  refine (Sm.tup h1).mono (Nat.le_refl _) ?_
  rw [List.length_map, h.len]
  omega
def dE (n : Nat) (p : Nat × Fn) : PyData := .tuple [.int (p.1 : Nat), dT (L n p.2)]
theorem EndF.dp {K : PySem.W.Frag} {H : Hp} {v : V} {n : Nat} {p : Nat × Fn} (h : EndF H v n p) : Dp K H v (dE n p) := by
  obtain ⟨a, w, rfl, h1, h2⟩ := h
  exact .tup (.of h1) (.cons (.int _) (.cons (RowL.dp h2.l) .nil))
theorem sm_row {n : Nat} {f : Fn} (hn : n ≤ 4) (h : ∀ i, i < n → 0 ≤ f i ∧ f i ≤ 127) : Sm (dT (L n f)) 1 36 := by
  refine (Sm.tup (dep := 0) (w := 8) fun d hd => ?_).mono (Nat.le_refl _) (by rw [List.length_map, L_len]; omega)
  obtain ⟨i, hi, rfl⟩ := List.mem_map.mp hd
  obtain ⟨k, hk, rfl⟩ := List.mem_map.mp hi
  have := h k (List.mem_range.mp hk)
  exact Sm.int this.1 this.2
theorem sm_end {n : Nat} {p : Nat × Fn} (hn : n ≤ 4) (h1 : p.1 ≤ 100) (h : ∀ i, i < n → 0 ≤ p.2 i ∧ p.2 i ≤ 127) : Sm (dE n p) 2 100 := by
  refine (Sm.tup (dep := 1) (w := 36) fun d hd => ?_).mono (Nat.le_refl _) (by simp)
  rcases List.mem_cons.mp hd with e | e
  · rw [e]; exact (Sm.nat (by omega)).mono (by omega) (by omega)
  · rw [List.mem_singleton.mp e]; exact sm_row hn h
section
variable {P : Program} {w : World} {K : PySem.W.Frag} {mg : Str → Option Value} {base : Heap} {Y CU CR CN : Addr}
/-! ### _law_like -/
def p_like (K : PySem.W.Frag) : Sp := sp2 fun a b H Q _ => ∃ (pa pb : Addr) (d : PyData) (dep w : Nat), a = .ref pa ∧ b = .ref pb ∧ Dp K H (.ref pa) d ∧ Dp K H (.ref pb) d ∧ Sm d dep w ∧ dep ≤ 64 ∧ w ≤ 1048576 ∧ Q (.bl true) H
theorem d_law_like (W : Wr K mg) : DfG P w K mg base CX0 1 "_law_like" (p_like K) := by
  refine dfG_of (W.defs.get (i := 38) rfl) sc__law_like (fun _ _ _ _ _ _ us hl => match us, hl with | [_, _], _ => rfl) (len2 rfl) fun cdv A outer s0 H vs Q fA E hgd hr h => ?_
  obtain ⟨a, b, rfl, pa, pb, d, dep, w, rfl, rfl, ha, hb, sm, h1, h2, q⟩ := inv2 h
  refine ⟨_, (pss_one (ps_ret (pe_cmpR op_eq (pe_callB (cr_repr hgd (rU200 hr)) (by rfl) W.b_repr (by decide +kernel) (pa_cons (pv 0) pa_nil)) (pe_callB (cr_repr hgd (rU200 hr)) (by rfl) W.b_repr (by decide +kernel) (pa_cons (pv 1) pa_nil)) (nomark _)))), ?_⟩
  have hl := sm.lay h1 h2
  have hz : d.shown.length ≤ sizeLine := Nat.le_trans (shown_le13 hl sm.ii) (by decide)
  refine ⟨_, rfl, pa, d, rfl, ha, hl, sm.sh, hz, _, rfl, pb, d, rfl, hb, hl, sm.sh, hz, rfl, ?_⟩
  rw [decide_eq_true rfl]
  exact q
/-! ### _law_is_row -/
def p_law_is_row : Sp := sp2 fun a b H Q _ => ∃ T u x, T ≤ 3 ∧ RowF H a T u ∧ RowF H b (T + 1) x ∧ NN T x ∧ ∀ H', Same H H' → Q (.bl true) H'
theorem d_law_is_row (W : Wr K mg) : Df P w K mg base CX0 1 "_law_is_row" p_law_is_row := by
  refine df_of (W.defs.get (i := 46) rfl) sc__law_is_row (fun _ _ _ _ _ _ us hl => match us, hl with | [_, _], _ => rfl) (len2 rfl) fun cdv A outer s0 H vs Q fA E hr h => ?_
  obtain ⟨a, b, rfl, T, u, x, hT, ⟨a, rfl, ha⟩, ⟨b, rfl, hb⟩, hx, q⟩ := inv2 h
  refine ⟨_, (pss_cons (ps_if (PW.pt (pw_or (pt_not (pt_val (pe_callB call_isi (by rfl) W.b_isinstance (by decide +kernel) (pa_cons (pv 1) (pa_cons (pe_bltn (v := .ty "tuple") (by rfl) W.b_tuple (by decide +kernel) rfl) pa_nil))))) (pw_or1 (pt_cmpR op_ne (pe_callB call_len_seq (by rfl) W.b_len (by decide +kernel) (pa_cons (pv 1) pa_nil)) (pe_op op_add (pe_callB call_len_seq (by rfl) W.b_len (by decide +kernel) (pa_cons (pv 0) pa_nil)) pe_int) (nomark _))))) (pss_one (ps_ret pe_bl)) pss_nil)
      (pss_one (ps_ret (pe_cmpR (op_eqD hr.units) (pe_lc (own := [("_law_number", 2)]) (g := gName 2) rfl sc__law_is_row.nd (pi_tup (pv 1)) (blkOk_by (own := [("_law_number", 2)]) (N := ["_law_units_so", "_law_value", "_law_number"]) (sc := defScope s__law_is_row) (by decide +kernel)) (fun _ _ _ _ _ => pg_name (i := 2) sc__law_is_row.nd rfl (Or.inl rfl)) (fun _ _ _ _ _ => pts_one (PW.pt (pw_or (pt_not (pt_val (pe_callB (call_isiK (K := K) rfl) (by rfl) W.b_isinstance (by decide +kernel) (pa_cons (pv 2) (pa_cons (pe_bltn (v := .ty "int") (by rfl) W.b_int (by decide +kernel) rfl) pa_nil))))) (pw_or (pt_val (pe_callB (call_isiK (K := K) rfl) (by rfl) W.b_isinstance (by decide +kernel) (pa_cons (pv 2) (pa_cons (pe_bltn (v := .ty "bool") (by rfl) W.b_bool (by decide +kernel) rfl) pa_nil)))) (pw_or1 (pt_cmpR op_lt (pv 2) pe_int (nomark _))))))) (fun _ _ _ _ _ => pe_int)) (pe_lst pa_nil) (nomark _))))), ?_⟩
  refine ⟨.ref b, rfl, .ref b, .ty "tuple", .type "tuple", .type "tuple", true, rfl, .ty _, .base (.tup hb), kit_ty (by decide +kernel), true, rfl, ?_⟩
  refine ⟨.ref b, rfl, b, _, rfl, .inr (.of hb), .ref a, rfl, a, _, rfl, .inr (.of ha), _, _, rfl, rfl, rfl, _, rfl, ?_⟩
  rw [LV_len, LV_len, decide_eq_true (show V.int ((T + 1 : Nat) : Int) = V.int ((T : Nat) + 1) from rfl)]
  refine ⟨.ref b, rfl, b, rfl, ⟨_, .of hb⟩, fun D hD => ?_⟩
  have s1 := same_new (o := .lst []) hD
  refine lc_it (walk_tup (xs := LV (T + 1) x)) (fun i H' => H' = upd H D (.lst [])) rfl (fun i H' _ e => by rw [e]; exact .of (s1 _ _ hb)) (fun i v H1 H2 hi p y => ?_) (fun H' p => ?_)
  · subst p
    obtain ⟨rfl, e1⟩ := y
    rw [LV_len] at hi
    obtain rfl : v = .int (x i) := Option.some.inj (e1.symm.trans (LV_get hi))
    have := hx i (by omega)
    refine ⟨rfl, .int (x i), rfl, .int (x i), .ty "int", .type "int", .type "int", true, rfl, .ty _, .base (.int _), kit_ty (by decide +kernel), true, rfl, ?_⟩
    refine ⟨.int (x i), rfl, .int (x i), .ty "bool", .type "int", .type "bool", false, rfl, .ty _, .base (.int _), kit_ty (by decide +kernel), false, rfl, ?_⟩
    refine ⟨_, rfl, _, _, rfl, rfl, _, rfl, ?_⟩
    rw [decide_eq_false (show ¬ x i < 0 by omega)]
    exact rfl
  · subst p
    refine ⟨Nat.zero_le _, fun D2 hD2 => ⟨_, _, .lst (.of ((same_new hD2) _ _ upd_same)) .nil, .lst (.of upd_same) .nil, shaped_rows (zs := []), shaped_rows (zs := []), q _ (s1.trans (same_new hD2))⟩⟩
end
end K21
end
section
set_option maxRecDepth 100000
set_option maxHeartbeats 4000000
/-! K21T: a told flaw is right. -/
namespace K21
open PySem PySem.Spec PyProof.Rows L2
theorem rows3_inv {H : Hp} {v : V} {n : Nat} {x o p : Fn} (h : RowsF H v n [x, o, p]) : ∃ c v0 v1 v2, v = .ref c ∧ H c = some (.tup [v0, v1, v2]) ∧ RowF H v0 n x ∧ RowF H v1 n o ∧ RowF H v2 n p := by
  obtain ⟨c, ws, rfl, hc, hl, hw⟩ := h
  obtain ⟨v0, a0, b0⟩ := hw 0 x rfl
  obtain ⟨v1, a1, b1⟩ := hw 1 o rfl
  obtain ⟨v2, a2, b2⟩ := hw 2 p rfl
  match ws, hl, a0, a1, a2 with
  | [w0, w1, w2], _, a0, a1, a2 =>
    obtain rfl := Option.some.inj a0
    obtain rfl := Option.some.inj a1
    obtain rfl := Option.some.inj a2
    exact ⟨c, _, _, _, rfl, hc, b0, b1, b2⟩
section
variable {P : Program} {w : World} {K : PySem.W.Frag} {mg : Str → Option Value} {base : Heap} {Y CU CR CN : Addr}
def p_flaw_right : Sp := sp2 fun a b H Q _ => ∃ T u rs, T ≤ 3 ∧ UB T u ∧ (∀ i, i < T → u i ≤ 4) ∧ RowF H a T u ∧ RuF H b rs ∧ RsOk T rs ∧ rs ≠ bestL T ∧ ∀ H', Same H H' → Q (.bl true) H'
theorem d_law_flaw_right (W : Wr K mg) (y : Yd K mg Y) (cU : ErU K mg CU) (cR : ErR K mg CR) (C_N : ErN K mg CN) (eN : PySem.W.exmOne K (.ref CN) (.ref CN) = some true) : Df P w K mg base CX0 7 "_law_flaw_right" p_flaw_right := by
  have D__law_told_flaw : Df P w K mg base CX0 6 "_law_told_flaw" p_told_flaw := d_told_flaw W y cU cR C_N eN
  have D__law_is_row : Df P w K mg base CX0 1 "_law_is_row" p_law_is_row := d_law_is_row W
  have D__law_fits : Df P w K mg base CX0 2 "_law_fits" p_fits := d_law_fits W
  have D__law_beside : Df P w K mg base CX0 1 "_law_beside" p__law_beside := d__law_beside W
  have D__law_ruled : Df P w K mg base CX0 2 "_law_ruled" p_ruled_so := d_law_ruled W
  have D_ruled : Df P w K mg base CX0 5 "ruled" p_ruled := d_ruled W y cU cR
  have D_is_rule_flaw : Df P w K mg base CX0 5 "is_rule_flaw" p_is_rule_flaw := d_is_rule_flaw W y cU cR
  have D_best_rule : Df P w K mg base CX0 4 "best_rule" p_best := d_best_rule W y cU
  refine df_of (W.defs.get (i := 47) rfl) sc__law_flaw_right (fun _ _ _ _ _ _ us hl => match us, hl with | [_, _], _ => rfl) (len2 rfl) fun cdv A outer s0 H vs Q fA E hr h => ?_
  obtain ⟨a, b, rfl, T, u, rs, hT, hu, h4, ha, hb, hok, hne, q⟩ := inv2 h
  refine ⟨_, (pss_cons (ps_set (i := 2) sc__law_flaw_right.nd rfl (.inl rfl) (pe_df D__law_told_flaw hr (by decide) (by rfl) pass0 (pa_cons (pv 0) (pa_cons (pv 1) pa_nil))))
      (pss_cons (ps_if (PW.pt (pw_or (pt_cmpR op_ne (pe_ix ix_list (pv 2) pe_int (fun _ _ => rfl)) pe_str (nomark _)) (pw_or (pt_not (pt_val (pe_callB call_isi (by rfl) W.b_isinstance (by decide +kernel) (pa_cons (pe_ix ix_list (pv 2) pe_int (fun _ _ => rfl)) (pa_cons (pe_bltn (v := .ty "tuple") (by rfl) W.b_tuple (by decide +kernel) rfl) pa_nil))))) (pw_or1 (pt_cmpR op_ne (pe_callB call_len_seq (by rfl) W.b_len (by decide +kernel) (pa_cons (pe_ix ix_list (pv 2) pe_int (fun _ _ => rfl)) pa_nil)) pe_int (nomark _)))))) (pss_one (ps_ret pe_bl)) pss_nil)
      (pss_cons (ps_if (pt_cmpR (op_neD hr.units) (pe_lc (own := [("_law_row_here", 3)]) (g := gName 3) rfl sc__law_flaw_right.nd (pi_tup (pe_ix ix_list (pv 2) pe_int (fun _ _ => rfl))) (blkOk_by (own := [("_law_row_here", 3)]) (N := ["_law_units_so", "_law_rule_so", "_law_told", "_law_row_here", "_law_stock", "_law_first", "_law_second"]) (sc := defScope s__law_flaw_right) (by decide +kernel)) (fun _ _ _ _ _ => pg_name (i := 3) sc__law_flaw_right.nd rfl (Or.inl rfl)) (fun _ _ _ _ _ => pts_one (pt_not (pt_val (pe_df D__law_is_row hr (by decide) (by rfl) pass0 (pa_cons (pv 0) (pa_cons (pv 3) pa_nil)))))) (fun _ _ _ _ _ => pe_int)) (pe_lst pa_nil) (nomark _)) (pss_one (ps_ret pe_bl)) pss_nil)
      (pss_cons (ps_asg (pe_ix ix_list (pv 2) pe_int (fun _ _ => rfl)) (pg_tup rfl (pgs_cons (pg_name (i := 4) sc__law_flaw_right.nd rfl (.inl rfl)) (pgs_cons (pg_name (i := 5) sc__law_flaw_right.nd rfl (.inl rfl)) (pgs_cons (pg_name (i := 6) sc__law_flaw_right.nd rfl (.inl rfl)) pgs_nil)))))
      (pss_cons (ps_if (PW.pt (pw_or (pt_cmpR op_gt (pe_callB (cr_sumT rfl) (by rfl) W.b_sum (by decide +kernel) (pa_cons (pv 4) pa_nil)) pe_int (nomark _)) (pw_or (pt_cmpR op_ne (pe_callB (cr_sumT rfl) (by rfl) W.b_sum (by decide +kernel) (pa_cons (pv 5) pa_nil)) pe_int (nomark _)) (pw_or1 (pt_cmpR op_ne (pe_callB (cr_sumT rfl) (by rfl) W.b_sum (by decide +kernel) (pa_cons (pv 6) pa_nil)) pe_int (nomark _)))))) (pss_one (ps_ret pe_bl)) pss_nil)
      (pss_cons (ps_if (pt_not (pt_val (pe_df D__law_fits hr (by decide) (by rfl) pass0 (pa_cons (pv 0) (pa_cons (pe_df D__law_beside hr (by decide) (by rfl) pass0 (pa_cons (pv 5) (pa_cons (pv 6) pa_nil))) (pa_cons (pv 4) pa_nil)))))) (pss_one (ps_ret pe_bl)) pss_nil)
      (pss_cons (ps_if (pt_cmpR op_gt (pe_ix ix_tup (pe_df D__law_ruled hr (by decide) (by rfl) pass0 (pa_cons (pv 0) (pa_cons (pv 1) (pa_cons (pv 4) (pa_cons (pe_tup (pa_cons (pv 5) (pa_cons (pv 6) pa_nil))) pa_nil))))) pe_int (fun _ _ => rfl)) pe_int (nomark _)) (pss_one (ps_ret pe_bl)) pss_nil)
      (pss_cons (ps_if (PW.pt (pw_or (pt_cmpR op_gt (pe_ix ix_tup (pe_df D_ruled hr (by decide) (by rfl) pass0 (pa_cons (pv 0) (pa_cons (pv 1) (pa_cons (pv 4) (pa_cons (pe_tup (pa_cons (pv 5) (pa_cons (pv 6) pa_nil))) pa_nil))))) pe_int (fun _ _ => rfl)) pe_int (nomark _)) (pw_or1 (pt_cmpR op_notBl (pe_df D_is_rule_flaw hr (by decide) (by rfl) pass0 (pa_cons (pv 0) (pa_cons (pv 1) (pa_cons (pe_ix ix_list (pv 2) pe_int (fun _ _ => rfl)) pa_nil)))) pe_bl (nomark _))))) (pss_one (ps_ret pe_bl)) pss_nil)
      (pss_one (ps_ret (pe_cmpR op_eq (pe_ix ix_tup (pe_df D_ruled hr (by decide) (by rfl) pass0 (pa_cons (pv 0) (pa_cons (pe_df D_best_rule hr (by decide) (by rfl) pass0 (pa_cons (pv 0) pa_nil)) (pa_cons (pv 4) (pa_cons (pe_tup (pa_cons (pv 5) (pa_cons (pv 6) pa_nil))) pa_nil))))) pe_int (fun _ _ => rfl)) pe_int (nomark _)))))))))))), ?_⟩
  refine ⟨a, rfl, b, rfl, T, u, rs, hT, hu, ha, hb, hok, fun fl l v H1 hfl s1 hl hv => ?_, fun hn => absurd (none_best hok hn) hne⟩
  obtain ⟨x, o, p, rfl, fo⟩ := flaw_ok hT hu.ok h4 hok hfl
  obtain ⟨c, v0, v1, v2, rfl, hc, r0, r1, r2⟩ := rows3_inv hv
  have fb := fo.best hu.ok
  have nx : NN T x := fun i hi => (fo.nx i hi).1
  have no : NN T o := fun i hi => (fo.no i hi).1
  have np : NN T p := fun i hi => (fo.np i hi).1
  have ao : AskOk T o := fun i hi => by have := fo.no i hi; omega
  have ap : AskOk T p := fun i hi => by have := fo.np i hi; omega
  have bx : RB (T + 1) x := fun i hi => by have := fo.nx i (by omega); have : (2 : Int) ≤ 10 ^ 60 := by decide
                                           omega
  have hops : (L (T + 1) (fun i => o i + p i)).sum ≤ 1000 := by rw [sum_add, fo.so, fo.sp]; omega
  refine ⟨_, rfl, l, _, 0, _, rfl, rfl, .of hl, atI_nat (j := 0) rfl, rfl, _, rfl, ?_⟩
  rw [decide_eq_true rfl]
  refine ⟨_, rfl, l, _, 1, _, rfl, rfl, .of hl, atI_nat (j := 1) rfl, .ref c, .ty "tuple", .type "tuple", .type "tuple", true, rfl, .ty _, .base (.tup hc), kit_ty (by decide +kernel), true, rfl, ?_⟩
  refine ⟨_, rfl, l, _, 1, _, rfl, rfl, .of hl, atI_nat (j := 1) rfl, c, _, rfl, .inr (.of hc), rfl, _, rfl, ?_⟩
  refine ⟨_, rfl, l, _, 1, _, rfl, rfl, .of hl, atI_nat (j := 1) rfl, c, rfl, ⟨_, .of hc⟩, fun D hD => ?_⟩
  have sD := same_new (o := .lst []) hD
  refine lc_it (walk_tup (xs := [v0, v1, v2])) (fun i H' => Same (upd H1 D (.lst [])) H') (Same.refl _) (fun i H' _ e => .of (e _ _ (sD _ _ hc))) (fun i v3 H2 H3 hi pv y => ?_) (fun H' pv => ?_)
  · obtain ⟨rfl, e1⟩ := y
    have key : ∃ f, RowF H1 v3 (T + 1) f ∧ NN T f := by
      rcases (show i = 0 ∨ i = 1 ∨ i = 2 by have : i < 3 := hi; omega) with rfl | rfl | rfl
      · obtain rfl := Option.some.inj e1; exact ⟨x, r0, nx⟩
      · obtain rfl := Option.some.inj e1; exact ⟨o, r1, no⟩
      · obtain rfl := Option.some.inj e1; exact ⟨p, r2, np⟩
    obtain ⟨f, rf, nf⟩ := key
    have s13 := sD.trans pv
    exact ⟨rfl, a, rfl, v3, rfl, T, u, f, hT, ha.tx (s1.trans s13).tx, rf.tx s13.tx, nf, fun H4 s4 => ⟨true, rfl, pv.trans s4⟩⟩
  · have s13 := sD.trans pv
    have hD3 := pv _ _ upd_same
    refine ⟨Nat.zero_le _, fun D2 hD2 => ⟨_, _, .lst (.of ((same_new hD2) _ _ hD3)) .nil, .lst (.of upd_same) .nil, shaped_rows (zs := []), shaped_rows (zs := []), _, rfl, ?_⟩⟩
    have s2 := s13.trans (same_new (o := .lst []) hD2)
    obtain ⟨H2, hH2⟩ : ∃ H2, H2 = upd H' D2 (.lst []) := ⟨_, rfl⟩
    rw [← hH2] at s2
    rw [← hH2]
    have hl2 := s2 _ _ hl
    have hc2 := s2 _ _ hc
    replace r0 := r0.tx s2.tx
    replace r1 := r1.tx s2.tx
    replace r2 := r2.tx s2.tx
    replace ha := ha.tx (s1.trans s2).tx
    replace hb := hb.tx (s1.trans s2).tx
    have sA := s1.trans s2
    refine ⟨_, rfl, l, _, 1, _, rfl, rfl, .of hl2, atI_nat (j := 1) rfl, c, _, rfl, .of hc2, rfl, _, _, rfl, _, _, rfl, _, _, rfl, rfl, ?_⟩
    obtain ⟨c0, rfl, k0⟩ := id r0
    obtain ⟨c1, rfl, k1⟩ := id r1
    obtain ⟨c2, rfl, k2⟩ := id r2
    refine ⟨_, rfl, c0, L (T + 1) x, rfl, .of k0, _, _, rfl, rfl, _, rfl, ?_⟩
    rw [decide_eq_false (show ¬ (L (T + 1) x).sum > 2 by have := fo.sx; omega)]
    refine ⟨_, rfl, c1, L (T + 1) o, rfl, .of k1, rfl, _, rfl, ?_⟩
    rw [decide_eq_true (show V.int (L (T + 1) o).sum = V.int 1 by rw [fo.so])]
    refine ⟨_, rfl, c2, L (T + 1) p, rfl, .of k2, rfl, _, rfl, ?_⟩
    rw [decide_eq_true (show V.int (L (T + 1) p).sum = V.int 1 by rw [fo.sp])]
    refine ⟨a, rfl, _, rfl, _, rfl, T + 1, o, p, by omega, r1, r2, fun v3 H3 s3 r3 => ⟨_, rfl, T, u, _, x, hT, hu, ha.tx s3.tx, r3, r0.tx s3.tx, nx, fun i hi => by have := no i hi; have := np i hi; show 0 ≤ o i + p i; omega, fo.tot, fo.le, fun H4 s4 => ⟨true, rfl, ?_⟩⟩⟩
    have s34 := s3.trans s4
    refine ⟨a, rfl, b, rfl, _, rfl, _, rfl, _, rfl, size2, fun p5 hp5 => ?_⟩
    have s5 := s34.trans (same_new (o := .tup [.ref c1, .ref c2]) hp5)
    refine ⟨T, u, rs, x, [o, p], hT, hu, ha.tx s5.tx, hb.tx s5.tx, hok.chs, r0.tx s5.tx, rows2 upd_same (r1.tx s5.tx) (r2.tx s5.tx), (by show 2 ≤ 60; decide), fun f hf => ?_, fun v6 H6 s6 r6 => ?_⟩
    · rcases List.mem_cons.mp hf with z | z
      · rw [z]; exact ao
      · rw [List.mem_singleton.mp z]; exact ap
    obtain ⟨c6, w6, rfl, h6, _⟩ := r6
    refine ⟨c6, _, 0, _, rfl, rfl, .of h6, atI_nat (j := 0) rfl, _, _, rfl, rfl, _, rfl, ?_⟩
    rw [decide_eq_false (show ¬ (((turnR (takenF u T (fun k => rs.getD k [])) x [o, p]).1 : Nat) : Int) > 1 by rw [fo.bad]; omega)]
    have sB := s5.trans s6
    refine ⟨a, rfl, b, rfl, _, rfl, _, rfl, _, rfl, size2, fun p7 hp7 => ?_⟩
    have s7 := sB.trans (same_new (o := .tup [.ref c1, .ref c2]) hp7)
    refine ⟨T, u, rs, x, [o, p], hT, hu, ha.tx s7.tx, hb.tx s7.tx, hok, r0.tx s7.tx, bx, rows2 upd_same (r1.tx s7.tx) (r2.tx s7.tx), (by show 2 ≤ 60; decide), fun f hf => ?_, (by show (L (T + 1) o).sum + ((L (T + 1) p).sum + 0) ≤ 1000; rw [fo.so, fo.sp]; omega), fun v8 H8 s8 r8 => ?_⟩
    · rcases List.mem_cons.mp hf with z | z
      · rw [z]; exact ao
      · rw [List.mem_singleton.mp z]; exact ap
    obtain ⟨c8, w8, rfl, h8, _⟩ := r8
    have s9 := s7.trans s8
    refine ⟨c8, _, 0, _, rfl, rfl, .of h8, atI_nat (j := 0) rfl, _, _, rfl, rfl, _, rfl, ?_⟩
    rw [decide_eq_false (show ¬ (((turnR (takenF u T (fun k => rs.getD k [])) x [o, p]).1 : Nat) : Int) > 1 by rw [fo.bad]; omega)]
    refine ⟨a, rfl, b, rfl, _, rfl, l, _, 1, _, rfl, rfl, .of (s9 _ _ hl2), atI_nat (j := 1) rfl, T, u, rs, x, o, p, hT, hu, ha.tx s9.tx, hb.tx s9.tx, hok, rows3 (p := .non) (s9 _ _ hc2) (r0.tx s9.tx) (r1.tx s9.tx) (r2.tx s9.tx), bx, ao, ap, hops, fo.le, by rw [fo.bad]; omega, fun H10 s10 => ?_⟩
    have s11 := s9.trans s10
    refine ⟨_, _, rfl, rfl, _, rfl, ?_⟩
    refine ⟨a, rfl, a, rfl, T, u, hT, hu, ha.tx s11.tx, fun vb Hb sb rb => ?_⟩
    have s12 := s11.trans sb
    refine ⟨_, rfl, _, rfl, _, rfl, size2, fun p13 hp13 => ?_⟩
    have t13 := (same_new (o := .tup [.ref c1, .ref c2]) hp13)
    have s13 := s12.trans t13
    refine ⟨T, u, bestL T, x, [o, p], hT, hu, ha.tx s13.tx, rb.tx t13.tx, bestL_rs T, r0.tx s13.tx, bx, rows2 upd_same (r1.tx s13.tx) (r2.tx s13.tx), (by show 2 ≤ 60; decide), fun f hf => ?_, (by show (L (T + 1) o).sum + ((L (T + 1) p).sum + 0) ≤ 1000; rw [fo.so, fo.sp]; omega), fun v14 H14 s14 r14 => ?_⟩
    · rcases List.mem_cons.mp hf with z | z
      · rw [z]; exact ao
      · rw [List.mem_singleton.mp z]; exact ap
    obtain ⟨c14, w14, rfl, h14, _⟩ := r14
    refine ⟨c14, _, 0, _, rfl, rfl, .of h14, atI_nat (j := 0) rfl, rfl, ?_⟩
    rw [decide_eq_true (show V.int ((turnR (takenF u T (fun k => (bestL T).getD k [])) x [o, p]).1 : Nat) = V.int 2 by rw [fb]; rfl)]
    exact q _ (sA.trans (s13.trans s14))
end
end K21
end
section
set_option maxRecDepth 100000
set_option maxHeartbeats 4000000
/-! K21U: the best rule is right. -/
namespace K21
open PySem PySem.Spec PyProof.Rows L2
theorem sum_le {l : List Int} {B : Int} (h : ∀ a ∈ l, a ≤ B) : l.sum ≤ l.length * B := by
  induction l with
  | nil => simp
  | cons a r ih =>
    have h1 := h a (List.mem_cons_self ..)
    have h2 := ih fun b hb => h b (List.mem_cons_of_mem _ hb)
    rw [List.sum_cons, List.length_cons, Int.natCast_add, Int.add_mul]
    omega
theorem sum_row {n : Nat} {f : Fn} {B : Int} (h : ∀ i, i < n → f i ≤ B) : (L n f).sum ≤ n * B := by
  have := sum_le (l := L n f) (B := B) fun a ha => by
    obtain ⟨i, hi, rfl⟩ := List.mem_map.mp ha
    exact h i (List.mem_range.mp hi)
  rw [L_len] at this
  exact this
theorem sm_norow : Sm (.list [.str "NoRow"]) 1 10 := ⟨by decide +kernel, by decide +kernel, by decide +kernel, by decide +kernel, by decide +kernel⟩
section
variable {P : Program} {w : World} {K : PySem.W.Frag} {mg : Str → Option Value} {base : Heap} {Y CU CR CN : Addr}
def p_best_right : Sp := sp3 fun a b c H Q _ => ∃ (z : Ad3) (N T : Nat) (u : Fn), a = .ref z.1 ∧ StA z N H ∧ N ≤ 600000 ∧ T ≤ 3 ∧ UB T u ∧ RowF H b T u ∧ RuF H c (bestL T) ∧ ∀ H', SamX z H H' → StA z (N + 40) H' → Q (.bl true) H'
theorem d_law_best_right (W : Wr K mg) (y : Yd K mg Y) (cU : ErU K mg CU) (cR : ErR K mg CR) (C_N : ErN K mg CN) (eN : PySem.W.exmOne K (.ref CN) (.ref CN) = some true) : DfG P w K mg base CX0 7 "_law_best_right" p_best_right := by
  have D__law_like : DfG P w K mg base CX0 1 "_law_like" (p_like K) := d_law_like W
  have D_best_rule : Df P w K mg base CX0 4 "best_rule" p_best := d_best_rule W y cU
  have D__law_told_flaw : Df P w K mg base CX0 6 "_law_told_flaw" p_told_flaw := d_told_flaw W y cU cR C_N eN
  have D__law_row : Df P w K mg base CX0 3 "_law_row" p_row := d_law_row W
  have D__law_draw : Df P w K mg base CX0 2 "_law_draw" p_draw := d_law_draw W
  have D__law_ruled : Df P w K mg base CX0 2 "_law_ruled" p_ruled_so := d_law_ruled W
  have D__law_count : Df P w K mg base CX0 3 "_law_count" p_count := d_law_count W
  have D_ruled : Df P w K mg base CX0 5 "ruled" p_ruled := d_ruled W y cU cR
  have D_served_in_turn : Df P w K mg base CX0 5 "served_in_turn" p_served := d_served_in_turn W y cU
  refine dfG_of (W.defs.get (i := 48) rfl) sc__law_best_right (fun _ _ _ _ _ _ us hl => match us, hl with | [_, _, _], _ => rfl) (len3 rfl) fun cdv A outer s0 H vs Q fA E hgd hr h => ?_
  obtain ⟨a, b, c, rfl, z, N, T, u, rfl, st, hN, hT, hu, hb, hc, q⟩ := inv3 h
  refine ⟨_, (pss_cons (ps_if (PW.pt (pw_or (pt_not (pt_val (pe_dfG D__law_like hgd hr (by decide) (by rfl) (pa_cons (pe_df D_best_rule hr (by decide) (by rfl) pass0 (pa_cons (pv 1) pa_nil)) (pa_cons (pv 2) pa_nil))))) (pw_or1 (pt_not (pt_val (pe_dfG D__law_like hgd hr (by decide) (by rfl) (pa_cons (pe_df D__law_told_flaw hr (by decide) (by rfl) pass0 (pa_cons (pv 1) (pa_cons (pv 2) pa_nil))) (pa_cons (pe_lst (pa_cons pe_str pa_nil)) pa_nil)))))))) (pss_one (ps_ret pe_bl)) pss_nil)
      (pss_cons (ps_set (i := 3) sc__law_best_right.nd rfl (.inl rfl) (pe_df D__law_row hr (by decide) (by rfl) pass0 (pa_cons (pv 0) (pa_cons (pv 1) (pa_cons pe_int pa_nil)))))
      (pss_cons (ps_set (i := 4) sc__law_best_right.nd rfl (.inl rfl) (pe_callTy call_tuple_of (by rfl) W.b_tuple (by decide +kernel) (pa_cons (pe_lc (own := [("_law_step", 5)]) (g := gName 5) rfl sc__law_best_right.nd (pi_range1 (by rfl) W.b_range (pa_cons (pe_op op_add pe_int (pe_df D__law_draw hr (by decide) (by rfl) pass0 (pa_cons (pv 0) (pa_cons pe_int pa_nil)))) pa_nil)) (blkOk_by (own := [("_law_step", 5)]) (N := ["_law_state", "_law_units_so", "_law_best_here", "_law_stock", "_law_asks_so", "_law_step", "_law_due"]) (sc := defScope s__law_best_right) (by decide +kernel)) (fun _ _ _ _ _ => pg_name (i := 5) sc__law_best_right.nd rfl (Or.inl rfl)) (fun _ _ _ _ _ => pts_nil) (fun _ _ _ _ _ => (pe_df D__law_row hr (by decide) (by rfl) pass0 (pa_cons (pv 0) (pa_cons (pv 1) (pa_cons pe_int pa_nil)))))) pa_nil)))
      (pss_cons (ps_set (i := 6) sc__law_best_right.nd rfl (.inl rfl) (pe_df D__law_ruled hr (by decide) (by rfl) pass0 (pa_cons (pv 1) (pa_cons (pv 2) (pa_cons (pv 3) (pa_cons (pv 4) pa_nil))))))
      (pss_cons (ps_if (pt_cmpR op_ne (pe_ix ix_tup (pv 6) pe_int (fun _ _ => rfl)) (pe_df D__law_count hr (by decide) (by rfl) pass0 (pa_cons (pv 1) (pa_cons (pv 3) (pa_cons (pv 4) pa_nil)))) (nomark _)) (pss_one (ps_ret pe_bl)) pss_nil)
      (pss_cons (ps_if (pt_not (pt_val (pe_dfG D__law_like hgd hr (by decide) (by rfl) (pa_cons (pe_df D_ruled hr (by decide) (by rfl) pass0 (pa_cons (pv 1) (pa_cons (pv 2) (pa_cons (pv 3) (pa_cons (pv 4) pa_nil))))) (pa_cons (pv 6) pa_nil))))) (pss_one (ps_ret pe_bl)) pss_nil)
      (pss_one (ps_ret (pe_dfG D__law_like hgd hr (by decide) (by rfl) (pa_cons (pe_df D_served_in_turn hr (by decide) (by rfl) pass0 (pa_cons (pv 1) (pa_cons (pv 3) (pa_cons (pv 4) pa_nil)))) (pa_cons (pv 6) pa_nil))))))))))), ?_⟩
  have hrs := bestL_rs T
  have smr := sm_rule hT hrs
  refine ⟨b, rfl, T, u, hT, hu, hb, fun v1 H1 s1 r1 => ?_⟩
  obtain ⟨p1, ws1, rfl, k1, l1⟩ := id r1
  obtain ⟨pc, wsc, rfl, kc, lc⟩ := id hc
  refine ⟨_, rfl, p1, pc, dR (bestL T), 3, 500, rfl, rfl, r1.dp, (hc.tx s1.tx).dp, smr, by omega, by omega, true, rfl, ?_⟩
  refine ⟨b, rfl, _, rfl, T, u, bestL T, hT, hu, hb.tx s1.tx, hc.tx s1.tx, hrs, fun fl _ _ _ hf => absurd ((best_none T).symm.trans hf) (fun y => nomatch y), fun hn l H2 s2 hl => ⟨(by show 1 ≤ sizeLine; decide), fun l2 hl2 => ?_⟩⟩
  have s3 := same_new (o := .lst [V.str "NoRow"]) hl2
  refine ⟨l, l2, .list [.str "NoRow"], 1, 10, rfl, rfl, .lst (.of (s3 _ _ hl)) (.cons (.str _) .nil), .lst (.of upd_same) (.cons (.str _) .nil), sm_norow, by omega, by omega, true, rfl, ?_⟩
  have s123 := (s1.trans s2).trans s3
  have st0 := st.same s123
  have t0 := s123.tx
  refine ⟨_, rfl, b, rfl, z, N, T, u, 14, rfl, st0, by omega, hT, hu, hb.tx t0, rfl, by omega, fun v3 x H3 sx3 st3 nx tot rx => ?_⟩
  have t3 := t0.trans (sx3.tx st0)
  refine ⟨_, rfl, z, N + 5, 4, rfl, rfl, by omega, by omega, st3, by omega, fun r H4 sx4 st4 r0 r4 => ⟨_, _, rfl, rfl, ?_⟩⟩
  obtain ⟨m, rfl⟩ := Int.eq_ofNat_of_zero_le r0
  have t4 := t3.trans (sx4.tx st3)
  refine ⟨_, rfl, by omega, by omega, fun D hD => ?_⟩
  rw [show ((1 : Int) + ((m : Nat) : Int)).toNat = 1 + m by omega]
  have offD := st4.off hD
  have tD := Tx.new (o := .lst []) hD
  refine lc_it walk_range (fun i H' => i ≤ 1 + m ∧ SamX z H4 H' ∧ StA z (N + 6 + 5 * i) H' ∧ ∃ (ws : List V) (fs : List Fn), H' D = some (.lst ws) ∧ ListR (fun H v f => RowF H v (T + 1) f) H' ws fs ∧ fs.length = i ∧ ∀ f ∈ fs, NN T f ∧ S u f T ≤ 5)
    ⟨Nat.zero_le _, (same_new hD).sx, st4.put offD, [], [], upd_same, ListR.nil, rfl, fun f hf => absurd hf List.not_mem_nil⟩ (fun _ _ _ _ => trivial) (fun i v H5 H6 hi pv y => ?_) (fun H' pv => ?_)
  · obtain ⟨rfl, _⟩ := y
    obtain ⟨_, sx5, st5, ws, fs, hD5, hL, hfl, hfs⟩ := pv
    refine ⟨rfl, _, rfl, b, rfl, z, N + 6 + 5 * i, T, u, 5, rfl, st5, by omega, hT, hu, (hb.tx t4).tx (sx5.tx st4), rfl, by omega, fun v6 f H7 sx7 st7 nf ft rf => ?_⟩
    have hD7 := sx7.at offD hD5
    refine ⟨_, hD7, by rw [hL.1, hfl]; exact lt_line (by omega), hi, (sx5.trans sx7).mut hD, (st7.put offD).mono (by omega), ws ++ [v6], fs ++ [f], upd_same, ListR.snoc (hL.tx fun _ _ r => (RowF.tx (sx7.tx st5) r).tx (Tx.lst hD7)) (rf.tx (Tx.lst hD7)), by rw [List.length_append, hfl]; rfl, fun g hg => ?_⟩
    rcases List.mem_append.mp hg with y | y
    · exact hfs g y
    · rw [List.mem_singleton.mp y]; exact ⟨nf, ft⟩
  · obtain ⟨_, sx5, st5, ws, fs, hD5, hL, hfl, hfs⟩ := pv
    refine ⟨D, _, rfl, .inl ⟨.of hD5, fun qa hqa => ?_⟩⟩
    have sq := same_new (o := .tup ws) hqa
    obtain ⟨H8, hH8⟩ : ∃ H8, H8 = upd H' qa (.tup ws) := ⟨_, rfl⟩
    have rows : RowsF H8 (.ref qa) (T + 1) fs := ⟨qa, ws, rfl, by rw [hH8]; exact upd_same, hL.1, (hL.tx fun _ _ r => by rw [hH8]; exact RowF.tx sq.tx r).2⟩
    have st8 : StA z (N + 40) H8 := by rw [hH8]; exact (st5.mono (by omega)).same sq
    have sx8 : SamX z H H8 := by rw [hH8]; exact ((s123.sx.trans sx3).trans sx4).trans (sx5.trans sq.sx)
    have t8 : Tx H H8 := by rw [hH8]; exact (t4.trans (sx5.tx st4)).trans sq.tx
    have t38 : Tx H3 H8 := by rw [hH8]; exact ((sx4.tx st3).trans (sx5.tx st4)).trans sq.tx
    rw [← hH8]
    replace hb := hb.tx t8
    replace hc := hc.tx t8
    replace rx := rx.tx t38
    have nfs : ∀ f ∈ fs, NN T f := fun f hf => (hfs f hf).1
    have afs : ∀ f ∈ fs, AskOk T f := fun f hf i hi => by
      have a1 := (hfs f hf).1 i hi
      have a2 := le_tot hu.ok (hfs f hf).1 (T - i) i (by omega)
      have a3 := (hfs f hf).2
      exact ⟨a1, by have : (5 : Int) < 2 ^ 60 := by decide
                    omega⟩
    have bx : ∀ i, i < T + 1 → 0 ≤ x i ∧ x i ≤ 14 := fun i hi => ⟨nx i (by omega), Int.le_trans (le_tot hu.ok nx (T - i) i (by omega)) tot⟩
    have bx60 : RB (T + 1) x := fun i hi => ⟨(bx i hi).1, Int.le_trans (bx i hi).2 (by decide)⟩
    have hlen : fs.length ≤ 4 := by omega
    have hsum : (fs.map fun f => (L (T + 1) f).sum).sum ≤ 1000 := by
      have := sum_le (l := fs.map fun f => (L (T + 1) f).sum) (B := 20) fun a ha => by
        obtain ⟨f, hf, rfl⟩ := List.mem_map.mp ha
        have := sum_row (n := T + 1) (f := f) (B := 5) fun i hi => Int.le_trans (le_tot hu.ok (hfs f hf).1 (T - i) i (by omega)) (hfs f hf).2
        have : ((T + 1 : Nat) : Int) * 5 ≤ 20 := by omega
        omega
      rw [List.length_map] at this
      omega
    obtain ⟨e1, e2⟩ := turn_eq hu.ok (fun x o hx ho => serve_best hu.ok hx ho) (fun x o hx ho => serve_rest (x := x) (o := o) hu.ok) fs x x nx (fun _ _ => rfl) nfs
    obtain ⟨n1, n2, n3⟩ := turn_nn hu.ok (fun x o hx ho => serve_best hu.ok hx ho) fs x nx nfs
    obtain ⟨B, hB⟩ : ∃ B, B = turnR (takenF u T (fun k => (bestL T).getD k [])) x fs := ⟨_, rfl⟩
    obtain ⟨R, hR⟩ : ∃ R, R = turnR (restF u T) x fs := ⟨_, rfl⟩
    rw [← hB] at n1 n2 n3 e1 e2
    rw [← hR] at e1 e2
    have sme : Sm (dE (T + 1) B) 2 100 := sm_end (by omega) (by omega) fun i hi => ⟨n2 i (by omega), by
      have := le_tot hu.ok n2 (T - i) i (by omega)
      omega⟩
    have edE : dE (T + 1) R = dE (T + 1) B := by
      unfold dE
      rw [e1, L_congr fun i hi => e2 i (by omega)]
    refine ⟨b, rfl, _, rfl, v3, rfl, _, rfl, T, u, bestL T, x, fs, hT, hu, hb, hc, bestL_ok T, rx, rows, by omega, afs, fun v9 H9 s9 r9 => ?_⟩
    rw [← hB] at r9
    obtain ⟨c9, w9, rfl, h9, g9⟩ := id r9
    refine ⟨_, rfl, c9, _, 0, _, rfl, rfl, .of h9, atI_nat (j := 0) rfl, b, rfl, v3, rfl, _, rfl, T, u, x, fs, hT, hu, hb.tx s9.tx, rx.tx s9.tx, rows.tx s9.tx, nx, tot, nfs, fun H10 s10 => ⟨rfl, _, rfl, ?_⟩⟩
    rw [decide_eq_true (show V.int (B.1 : Nat) = V.int ((turnR (restF u T) x fs).1 : Nat) by rw [← hR, e1])]
    have s910 := s9.trans s10
    refine ⟨b, rfl, _, rfl, v3, rfl, _, rfl, T, u, bestL T, x, fs, hT, hu, hb.tx s910.tx, hc.tx s910.tx, hrs, rx.tx s910.tx, bx60, rows.tx s910.tx, by omega, afs, hsum, fun v11 H11 s11 r11 => ?_⟩
    rw [← hB] at r11
    obtain ⟨c11, w11, rfl, h11, g11⟩ := id r11
    refine ⟨_, rfl, c11, c9, dE (T + 1) B, 2, 100, rfl, rfl, r11.dp, (r9.tx (s10.trans s11).tx).dp, sme, by omega, by omega, true, rfl, ?_⟩
    have s12 := s910.trans s11
    refine ⟨b, rfl, v3, rfl, _, rfl, T, u, x, fs, hT, hu, hb.tx s12.tx, rx.tx s12.tx, bx60, rows.tx s12.tx, by omega, fun f hf => (afs f hf).rb, fun v13 H13 s13 r13 => ?_⟩
    rw [← hR] at r13
    have d13 := r13.dp (K := K)
    rw [edE] at d13
    obtain ⟨c13, w13, rfl, h13, g13⟩ := id r13
    exact ⟨_, rfl, c13, c9, dE (T + 1) B, 2, 100, rfl, rfl, d13, (r9.tx ((s10.trans s11).trans s13).tx).dp, sme, by omega, by omega, q _ (sx8.trans (s12.trans s13).sx) (st8.same (s12.trans s13))⟩
end
end K21
end
section
set_option maxRecDepth 100000
set_option maxHeartbeats 4000000
/-! K21V: what is refused. -/
namespace K21
open PySem PySem.Spec PyProof.Rows L2
def tTryMix (K : PySem.W.Frag) (Wout : WX) (l : List Clause) (tb : WX → TS) : TS := fun D σ H => tb (wMix K Wout D l) D σ H
theorem ps_try_mixD {X : Cx} {body : List Stmt} {h₀ : ExceptHandler} {hds : List ExceptHandler} {l : List Clause} {pos : Pos} {tb : WX → TS} {Wout : WX} (hs : X.stack = X.env :: X.outer) (hf : X.env.frame = some X.env.locals) (hN : X.N.Nodup) (tk : Takes X Wout)
    (hb : ∀ (W : WX) (pn : List (Addr × Obj)) (xe : Value → Shared → Prop), Takes (X.tr pn xe) W → PassesOwn (model X.prog X.w) X.A X.env xe → PSs (X.tr pn xe) body (tb W))
    (hh : HdsMix X (h₀ :: hds) l) : PS X (.Try body (h₀ :: hds) [] [] pos) (tTryMix X.K Wout l tb) := ps_try_mix hs hf hN tk hb hh
/-- (name, (ints)) -/
def Rf (H : Hp) (v : V) (d : Str × List Int) : Prop := ∃ b p, v = .ref b ∧ H b = some (.tup [.str d.1, .ref p]) ∧ H p = some (.tup (d.2.map V.int))
theorem Rf.tx {H H' : Hp} {v : V} {d : Str × List Int} (e : Tx H H') (r : Rf H v d) : Rf H' v d := by
  obtain ⟨b, p, e1, h1, h2⟩ := r
  exact ⟨b, p, e1, e _ _ h1, e _ _ h2⟩
def dF (d : Str × List Int) : PyData := .tuple [.str d.1, .tuple (d.2.map PyData.int)]
theorem Rf.dp {K : PySem.W.Frag} {H : Hp} {v : V} {d : Str × List Int} (r : Rf H v d) : Dp K H v (dF d) := by
  obtain ⟨b, p, rfl, h1, h2⟩ := r
  exact .tup (.of h1) (.cons (.str _) (.cons (.tup (.of h2) dp_ints) .nil))
def refs3 : List (Str × List Int) := [("BadUnits", [1]), ("BadRule", []), ("BadRule", [1])]
theorem sm_refs : Sm (.list (refs3.map dF)) 3 60 := ⟨by decide +kernel, by decide +kernel, by decide +kernel, by decide +kernel, by decide +kernel⟩
theorem size1 : 1 ≤ sizeLine := by decide
section
variable {P : Program} {w : World} {K : PySem.W.Frag} {mg : Str → Option Value} {base : Heap} {Y CU CR CN : Addr}
def p_refused : Sp := fun vs H Q _ => vs = [] ∧ ∀ H', Same H H' → Q (.bl true) H'
theorem d_law_refused_right (W : Wr K mg) (y : Yd K mg Y) (cU : ErU K mg CU) (cR : ErR K mg CR) (C_N : ErN K mg CN) (xU : XfC K CU) (xR : XfC K CR)
    (eU : PySem.W.exmOne K (.ref CU) (.ref CU) = some true) (eRU : PySem.W.exmOne K (.ref CR) (.ref CU) = some false) (eR : PySem.W.exmOne K (.ref CR) (.ref CR) = some true) : DfG P w K mg base CX0 6 "_law_refused_right" p_refused := by
  have D__law_like : DfG P w K mg base CX0 1 "_law_like" (p_like K) := d_law_like W
  have D_rule_flaw : Df P w K mg base (L2.CX P w) 5 "rule_flaw" (p_rule_flaw CU CR CN) := d_rule_flaw W y cU cR C_N
  refine dfG_of (W.defs.get (i := 49) rfl) sc__law_refused_right (fun _ _ _ _ _ _ us hl => match us, hl with | [], _ => rfl) (fun vs H Q E h => by rw [h.1]; rfl) fun cdv A outer s0 H vs Q fA E hgd hr h => ?_
  obtain ⟨rfl, q⟩ := h
  refine ⟨_, (pss_cons (ps_set (i := 0) sc__law_refused_right.nd rfl (.inl rfl) (pe_lst pa_nil))
      (pss_cons (ps_for PassesOwn.never rfl (pi_list (pe_lst (pa_cons (pe_tup (pa_cons (pe_tup (pa_cons pe_int pa_nil)) (pa_cons pe_non pa_nil))) (pa_cons (pe_tup (pa_cons (pe_tup (pa_cons pe_int pa_nil)) (pa_cons pe_non pa_nil))) (pa_cons (pe_tup (pa_cons (pe_tup (pa_cons pe_int pa_nil)) (pa_cons (pe_tup (pa_cons (pe_tup (pa_cons (pe_tup (pa_cons pe_int (pa_cons pe_int pa_nil))) pa_nil)) (pa_cons pe_non pa_nil))) pa_nil))) pa_nil))))) (pg_tup rfl (pgs_cons (pg_name (i := 1) sc__law_refused_right.nd rfl (.inl rfl)) (pgs_cons (pg_name (i := 2) sc__law_refused_right.nd rfl (.inl rfl)) pgs_nil)))
        (pss_one (ps_try_mixD (Wout := fun _ _ _ _ => False) (l := [(.ref CU, some 3, fun a cls d => tDrop (tBM K "list" rAppend (tVar 0) (tCons (tTup (tCons (tC (.str "BadUnits")) (tCons (tXf a cls d CU "value" (tVar 3)) tNil))) tNil))), (.ref CR, some 3, fun a cls d => tDrop (tBM K "list" rAppend (tVar 0) (tCons (tTup (tCons (tC (.str "BadRule")) (tCons (tXf a cls d CR "place" (tVar 3)) tNil))) tNil))), (.ref Y, none, fun _ _ _ => tDrop (tBM K "list" rAppend (tVar 0) (tCons (tC (.str "another")) tNil)))]) (tb := fun W => tSeq (tDrop (tCalS (p_rule_flaw CU CR CN) (WE W) (tCons (tVar 1) (tCons (tVar 2) tNil)))) (tDrop (tBM K "list" rAppend (tVar 0) (tCons (tC (.str "told")) tNil)))) rfl rfl sc__law_refused_right.nd takes0
        (fun W pn xe tk _ => (by exact (pss_cons (ps_expr (by exact (pe_dfS D_rule_flaw hr (by decide) (by rfl) (fun σ => passAt tk σ) (by exact (pa_cons (pv 1) (pa_cons (pv 2) pa_nil)))))) (pss_one (ps_expr (by exact (pe_bm PySem.F.plainAttrs_list PySem.F.slot_list_append PySem.F.type_list_append mt_append (pv 0) (pa_cons pe_str pa_nil))))))))
        (by exact (HdsMix.consAs (i := 3) ⟨rfl, by decide, .inl cU.1.gC⟩ rfl rfl (fun a oe cls d pn hz hf => (by exact (pss_one (ps_expr (by exact (pe_bm PySem.F.plainAttrs_list PySem.F.slot_list_append PySem.F.type_list_append mt_append (pv 0) (pa_cons (pe_tup (pa_cons pe_str (pa_cons (by exact (pe_xf xU cU.2 hz hf (pv 3))) pa_nil))) pa_nil)))))))
        (HdsMix.consAs (i := 3) ⟨rfl, by decide, .inl cR.1.gC⟩ rfl rfl (fun a oe cls d pn hz hf => (by exact (pss_one (ps_expr (by exact (pe_bm PySem.F.plainAttrs_list PySem.F.slot_list_append PySem.F.type_list_append mt_append (pv 0) (pa_cons (pe_tup (pa_cons pe_str (pa_cons (by exact (pe_xf xR cR.2 hz hf (pv 3))) pa_nil))) pa_nil)))))))
        (HdsMix.cons ⟨rfl, by decide, .inl y.gY⟩ (fun a oe cls d pn hz hf => (by exact (pss_one (ps_expr (by exact (pe_bm PySem.F.plainAttrs_list PySem.F.slot_list_append PySem.F.type_list_append mt_append (pv 0) (pa_cons pe_str pa_nil))))))) HdsMix.nil)))))))
      (pss_one (ps_ret (pe_dfG D__law_like hgd hr (by decide) (by rfl) (pa_cons (pv 0) (pa_cons (pe_lst (pa_cons (pe_tup (pa_cons pe_str (pa_cons (pe_tup (pa_cons pe_int pa_nil)) pa_nil))) (pa_cons (pe_tup (pa_cons pe_str (pa_cons (pe_tup pa_nil) pa_nil))) (pa_cons (pe_tup (pa_cons pe_str (pa_cons (pe_tup (pa_cons pe_int pa_nil)) pa_nil))) pa_nil)))) pa_nil))))))), ?_⟩
  refine ⟨Nat.zero_le _, fun F hF => ?_⟩
  refine ⟨size1, fun a1 h1 => ⟨size2, fun b1 g1 => ⟨size1, fun a2 h2 => ⟨size2, fun b2 g2 => ⟨size1, fun a3 h3 => ⟨size2, fun c3 i3 => ⟨size1, fun d3 j3 => ⟨size2, fun e3 k3 => ⟨size2, fun b3 g3 => ⟨(by show 3 ≤ sizeLine; decide), fun Lt hLt => ?_⟩⟩⟩⟩⟩⟩⟩⟩⟩⟩
  have t10 := same_new (o := .lst [V.ref b1, .ref b2, .ref b3]) hLt
  have t9 := (same_new (o := .tup [V.ref a3, .ref e3]) g3).trans t10
  have t8 := (same_new (o := .tup [V.ref d3, .non]) k3).trans t9
  have t7 := (same_new (o := .tup [V.ref c3]) j3).trans t8
  have t6 := (same_new (o := .tup [V.int 0, .int 0]) i3).trans t7
  have t5 := (same_new (o := .tup [V.int 2]) h3).trans t6
  have t4 := (same_new (o := .tup [V.ref a2, .non]) g2).trans t5
  have t3 := (same_new (o := .tup [V.int 2]) h2).trans t4
  have t2 := (same_new (o := .tup [V.ref a1, .non]) g1).trans t3
  have t1 := (same_new (o := .tup [V.int 1]) h1).trans t2
  have t0 := (same_new (o := .lst []) hF).trans t1
  have qF := t1 _ _ upd_same
  have qa1 := t2 _ _ upd_same
  have qb1 := t3 _ _ upd_same
  have qa2 := t4 _ _ upd_same
  have qb2 := t5 _ _ upd_same
  have qa3 := t6 _ _ upd_same
  have qc3 := t7 _ _ upd_same
  have qd3 := t8 _ _ upd_same
  have qe3 := t9 _ _ upd_same
  have qb3 := t10 _ _ upd_same
  have hLF : Lt ≠ F := fun y => by
    subst y
    exact absurd (HO.lst.inj (Option.some.inj (qF.symm.trans upd_same))) (by simp)
  refine ⟨Lt, rfl, ⟨_, .of upd_same⟩, ?_⟩
  refine for_it (walk_list (xs := [V.ref b1, .ref b2, .ref b3])) (fun i σ H' => ∃ (y1 y2 y3 : Option V) (xs : List V), σ = [some (.ref F), y1, y2, y3] ∧ Same H H' ∧ Tx _ H' ∧ H' Lt = some (.lst [V.ref b1, .ref b2, .ref b3]) ∧ H' F = some (.lst xs) ∧ ListR Rf H' xs (refs3.take i))
    ⟨none, none, none, [], rfl, t0, Tx.refl _, upd_same, qF, ListR.nil⟩ (fun i σ H' _ pv => ?_) (fun i v σ H1 H2 hi pv y => ?_) (fun σ H' pv => ?_)
  · obtain ⟨_, _, _, _, _, _, _, e, _⟩ := pv
    exact .of e
  · obtain ⟨y1, y2, y3, xs, rfl, sx, tx, hLt1, hF1, hL⟩ := pv
    obtain ⟨rfl, e1⟩ := y
    rcases (show i = 0 ∨ i = 1 ∨ i = 2 by have : i < 3 := hi; omega) with rfl | rfl | rfl
    · obtain rfl := Option.some.inj e1
      refine ⟨b1, _, rfl, .of (tx _ _ qb1), rfl, _, _, rfl, _, _, rfl, rfl, ?_⟩
      refine ⟨_, rfl, _, rfl, 1, fun _ => 1, by omega, ⟨a1, rfl, tx _ _ qa1⟩, .inl ⟨rfl, rfl, fun d H2 s2 hd hxd => ⟨true, eU, fun _ ea hea => ?_, fun z => nomatch z⟩⟩⟩
      have hF2 := s2 _ _ hF1
      have tb_ := s2.tx
      refine ⟨_, rfl, .inl ⟨rfl, _, .inl (.inl hF2)⟩, _, rfl, rfl, rfl, d, _, _, rfl, hxd, rfl, size2, fun tt htt => ?_⟩
      have sT := same_new (o := .tup [V.str "BadUnits", .ref a1]) htt
      have hF3 := sT _ _ hF2
      refine ⟨F, _, _, rfl, rfl, hF3, by rw [hL.1, List.length_take]; exact lt_line (by show min _ _ ≤ 1000; omega), ?_⟩
      have tF := Tx.lst (o := .lst (xs ++ [.ref tt])) hF3
      have hFt : tt ≠ F := fun y => by rw [y, hF2] at htt; cases htt
      refine ⟨_, _, _, xs ++ [.ref tt], rfl, ((sx.trans s2).trans sT).mut hF, ((tx.trans tb_).trans sT.tx).trans tF, (upd_ne hLF).trans (sT _ _ (s2 _ _ hLt1)), upd_same, ?_⟩
      rw [take_snoc (show refs3[0]? = some (("BadUnits" : Str), ([1] : List Int)) from rfl)]
      exact ListR.snoc (hL.tx fun _ _ r => ((r.tx tb_).tx sT.tx).tx tF) ⟨tt, a1, rfl, (upd_ne hFt).trans upd_same, tF _ _ (sT _ _ (s2 _ _ (tx _ _ qa1)))⟩
    · obtain rfl := Option.some.inj e1
      refine ⟨b2, _, rfl, .of (tx _ _ qb2), rfl, _, _, rfl, _, _, rfl, rfl, ?_⟩
      refine ⟨_, rfl, _, rfl, 1, fun _ => 2, by omega, ⟨a2, rfl, tx _ _ qa2⟩, .inr (.inl ⟨fun k hk => ⟨by show (2 : Int) ≤ 2; omega, by show (2 : Int) ≤ 10; omega⟩, rfl, fun d p H2 s2 hd hxd hp => ⟨false, eRU, (fun z => nomatch z), fun _ => ⟨true, eR, fun _ ea hea => ?_, fun z => nomatch z⟩⟩⟩)⟩
      have hF2 := s2 _ _ hF1
      have tb_ := s2.tx
      refine ⟨_, rfl, .inl ⟨rfl, _, .inl (.inl hF2)⟩, _, rfl, rfl, rfl, d, _, _, rfl, hxd, rfl, size2, fun tt htt => ?_⟩
      have sT := same_new (o := .tup [V.str "BadRule", .ref p]) htt
      have hF3 := sT _ _ hF2
      refine ⟨F, _, _, rfl, rfl, hF3, by rw [hL.1, List.length_take]; exact lt_line (by show min _ _ ≤ 1000; omega), ?_⟩
      have tF := Tx.lst (o := .lst (xs ++ [.ref tt])) hF3
      have hFt : tt ≠ F := fun y => by rw [y, hF2] at htt; cases htt
      refine ⟨_, _, _, xs ++ [.ref tt], rfl, ((sx.trans s2).trans sT).mut hF, ((tx.trans tb_).trans sT.tx).trans tF, (upd_ne hLF).trans (sT _ _ (s2 _ _ hLt1)), upd_same, ?_⟩
      rw [take_snoc (show refs3[1]? = some (("BadRule" : Str), ([] : List Int)) from rfl)]
      exact ListR.snoc (hL.tx fun _ _ r => ((r.tx tb_).tx sT.tx).tx tF) ⟨tt, p, rfl, (upd_ne hFt).trans upd_same, tF _ _ (sT _ _ (hp))⟩
    · obtain rfl := Option.some.inj e1
      refine ⟨b3, _, rfl, .of (tx _ _ qb3), rfl, _, _, rfl, _, _, rfl, rfl, ?_⟩
      refine ⟨_, rfl, _, rfl, 1, fun _ => 2, by omega, ⟨a3, rfl, tx _ _ qa3⟩, .inr (.inr (.inl ⟨fun k hk => ⟨by show (2 : Int) ≤ 2; omega, by show (2 : Int) ≤ 10; omega⟩, e3, _, 1, [[(0, 0)]], rfl, tx _ _ qe3, rfl, fun k hk => ?_, by omega, rfl, fun d p H2 s2 hd hxd hp => ⟨false, eRU, (fun z => nomatch z), fun _ => ⟨true, eR, fun _ ea hea => ?_, fun z => nomatch z⟩⟩⟩))⟩
      · obtain rfl : k = 0 := by omega
        refine ⟨_, _, rfl, rfl, ⟨d3, _, rfl, tx _ _ qd3, ListR.nil.snoc ⟨c3, rfl, tx _ _ qc3⟩⟩, rfl, by simp, fun p hp => ?_⟩
        rw [List.mem_singleton.mp hp]
        exact ⟨Nat.le_refl _, Nat.le_refl _, fun z => absurd z (Nat.lt_irrefl 0), fun _ => rfl⟩
      have hF2 := s2 _ _ hF1
      have tb_ := s2.tx
      refine ⟨_, rfl, .inl ⟨rfl, _, .inl (.inl hF2)⟩, _, rfl, rfl, rfl, d, _, _, rfl, hxd, rfl, size2, fun tt htt => ?_⟩
      have sT := same_new (o := .tup [V.str "BadRule", .ref p]) htt
      have hF3 := sT _ _ hF2
      refine ⟨F, _, _, rfl, rfl, hF3, by rw [hL.1, List.length_take]; exact lt_line (by show min _ _ ≤ 1000; omega), ?_⟩
      have tF := Tx.lst (o := .lst (xs ++ [.ref tt])) hF3
      have hFt : tt ≠ F := fun y => by rw [y, hF2] at htt; cases htt
      refine ⟨_, _, _, xs ++ [.ref tt], rfl, ((sx.trans s2).trans sT).mut hF, ((tx.trans tb_).trans sT.tx).trans tF, (upd_ne hLF).trans (sT _ _ (s2 _ _ hLt1)), upd_same, ?_⟩
      rw [take_snoc (show refs3[2]? = some (("BadRule" : Str), ([1] : List Int)) from rfl)]
      exact ListR.snoc (hL.tx fun _ _ r => ((r.tx tb_).tx sT.tx).tx tF) ⟨tt, p, rfl, (upd_ne hFt).trans upd_same, tF _ _ (sT _ _ (hp))⟩
  · obtain ⟨y1, y2, y3, xs, rfl, sx, tx, hLt1, hF1, hL⟩ := pv
    refine ⟨_, rfl, size1, fun w1 z1 => ⟨size2, fun w2 z2 => ⟨Nat.zero_le _, fun w3 z3 => ⟨size2, fun w4 z4 => ⟨size1, fun w5 z5 => ⟨size2, fun w6 z6 => ⟨(by show 3 ≤ sizeLine; decide), fun Lr hLr => ?_⟩⟩⟩⟩⟩⟩⟩
    have r7 := same_new (o := .lst [V.ref w2, .ref w4, .ref w6]) hLr
    have r6 := (same_new (o := .tup [V.str "BadRule", .ref w5]) z6).trans r7
    have r5 := (same_new (o := .tup [V.int 1]) z5).trans r6
    have r4 := (same_new (o := .tup [V.str "BadRule", .ref w3]) z4).trans r5
    have r3 := (same_new (o := .tup []) z3).trans r4
    have r2 := (same_new (o := .tup [V.str "BadUnits", .ref w1]) z2).trans r3
    have r1 := (same_new (o := .tup [V.int 1]) z1).trans r2
    refine ⟨F, Lr, .list (refs3.map dF), 3, 60, rfl, rfl, .lst (.of (r1 _ _ hF1)) (dp_list (fun _ _ r => Rf.dp r) (hL.tx fun _ _ r => r.tx r1.tx)), ?_, sm_refs, by omega, by omega, q _ (sx.trans r1)⟩
    exact .lst (.of upd_same) (.cons (.tup (.of (r3 _ _ upd_same)) (.cons (.str _) (.cons (.tup (.of (r2 _ _ upd_same)) (.cons (.int _) .nil)) .nil))) (.cons (.tup (.of (r5 _ _ upd_same)) (.cons (.str _) (.cons (.tup (.of (r4 _ _ upd_same)) .nil) .nil)))
      (.cons (.tup (.of (r7 _ _ upd_same)) (.cons (.str _) (.cons (.tup (.of (r6 _ _ upd_same)) (.cons (.int _) .nil)) .nil))) .nil)))
end
end K21
end
section
set_option maxRecDepth 100000
set_option maxHeartbeats 4000000
/-! K21Y: the law. -/
namespace K21
open PySem PySem.Spec PyProof.Rows L2
theorem Sm.shaped {d : PyData} {dep w : Nat} (h : Sm d dep w) (h1 : dep ≤ 64) : SeqAt.shaped d = true := by
  unfold SeqAt.shaped
  rw [Bool.and_eq_true, decide_eq_true_iff]
  exact ⟨h.cl, Nat.le_trans h.dp h1⟩
def u23 : Fn := fun i => if i = 0 then 2 else 3
section
variable {P : Program} {w : World} {K : PySem.W.Frag} {mg : Str → Option Value} {base : Heap} {Y CU CR CN : Addr}
theorem best_ruleF (W : Wr K mg) (y : Yd K mg Y) (cU : ErU K mg CU) : ∃ f fd, FnOk P w K mg base CX0 4 f fd ["units"] p_best ∧ mg "best_rule" = some (.ref f) ∧ PySem.W.keepIn K (.ref f) = true ∧ KBinds K fd ["units"] ["units"] (fun us ws => us ++ ws) (fun vs zs => vs ++ zs) := by
  have D_need_units : Df P w K mg base (L2.CX P w) 3 "need_units" (p_need_units CU) := d_need_units W y cU
  have D_best_of : Df P w K mg base CX0 1 "best_of" p_best := d_best_of W
  obtain ⟨f, fd, F, hm⟩ := W.defs.get (i := 14) rfl
  refine ⟨f, fd, F.ok sc_best_rule (len1 rfl) fun cdv A outer s0 H vs Q E hr h => ?_, hm, F.kp, ?_⟩
  · obtain ⟨a, rfl, T, u, hT, hu, ha, q⟩ := inv1 h
    refine ⟨_, (pss_cons (ps_expr (pe_df D_need_units hr (by decide) (by rfl) passL (pa_cons (pv 0) pa_nil)))
      (pss_one (ps_ret (pe_df D_best_of hr (by decide) (by rfl) pass0 (pa_cons (pv 0) pa_nil))))), ?_⟩
    exact ⟨a, rfl, T, u, hT, ha, .inl ⟨hu, a, rfl, T, u, hT, hu, ha, q⟩⟩
  · obtain ⟨oc, od, kV, doc, pm, an, cdv, ct, osl, rfl, _, _⟩ := F.ex
    refine ⟨fun s us ws _ hl => ?_, fun a b => a.append b⟩
    match us, ws, hl with
    | [], [w], _ => exact .of_eq rfl
    | [u], [], _ => exact .of_eq rfl
def p_law (K : PySem.W.Frag) : Sp := sp1 fun a H Q _ => ∃ (sc : Addr) (xs : List Int), a = .ref sc ∧ SqL K H sc (xs.map V.int) ∧ xs.length ≤ 63 ∧ ∀ H', Q (.bl true) H'
theorem law_ok {fa : Addr} {fd : FuncData} (F : Fun K "law" "law" s_law fa fd) (W : Wr K mg) (y : Yd K mg Y) (cU : ErU K mg CU) (cR : ErR K mg CR) (C_N : ErN K mg CN) (eN : PySem.W.exmOne K (.ref CN) (.ref CN) = some true) (xU : XfC K CU) (xR : XfC K CR)
    (eU : PySem.W.exmOne K (.ref CU) (.ref CU) = some true) (eRU : PySem.W.exmOne K (.ref CR) (.ref CU) = some false) (eR : PySem.W.exmOne K (.ref CR) (.ref CR) = some true) : FnG P w K mg base CX0 8 fa fd ["_law_script"] (p_law K) := by
  have D__law_like : DfG P w K mg base CX0 1 "_law_like" (p_like K) := d_law_like W
  have D__law_refused_right : DfG P w K mg base CX0 6 "_law_refused_right" p_refused := d_law_refused_right W y cU cR C_N xU xR eU eRU eR
  have D__law_begin : Df P w K mg base CX0 1 "_law_begin" (p_begin K) := d_law_begin W
  have D__law_units : Df P w K mg base CX0 3 "_law_units" p_units := d_law_units W
  have D__law_draw : Df P w K mg base CX0 2 "_law_draw" p_draw := d_law_draw W
  have D__law_best : Df P w K mg base CX0 1 "_law_best" p_best := d_law_best W
  have D__law_rule : Df P w K mg base CX0 4 "_law_rule" p_rule := d_law_rule W
  have D_need_rule : Df P w K mg base (L2.CX P w) 4 "need_rule" (p_need_rule CU CR) := d_need_rule W y cU cR
  have D__law_best_right : DfG P w K mg base CX0 7 "_law_best_right" p_best_right := d_law_best_right W y cU cR C_N eN
  have D__law_flaw_right : Df P w K mg base CX0 7 "_law_flaw_right" p_flaw_right := d_law_flaw_right W y cU cR C_N eN
  obtain ⟨fB, fdB, F_best, m_best, k_best, kb_best⟩ := best_ruleF (P := P) (w := w) (base := base) W y cU
  refine okG F sc_law (len1 rfl) fun cdv A outer s0 H vs Q E hgd hr h => ?_
  obtain ⟨a, rfl, sc, xs, rfl, hsc, h63, q⟩ := inv1 h
  refine ⟨_, (pss_cons (ps_if (pt_not (pt_val (pe_dfG0 D__law_refused_right hgd hr (by decide) (by rfl)))) (pss_one (ps_ret pe_bl)) pss_nil)
      (pss_cons (ps_set (i := 1) sc_law.nd rfl (.inl rfl) (pe_df D__law_begin hr (by decide) (by rfl) pass0 (pa_cons (pv 0) pa_nil)))
      (pss_cons (ps_for PassesOwn.never rfl (pi_range1 (by rfl) W.b_range (pa_cons pe_int pa_nil)) (pg_name (i := 2) sc_law.nd rfl (.inl rfl))
        (pss_cons (ps_set (i := 3) sc_law.nd rfl (.inl rfl) (pe_op op_catA (pe_df D__law_units hr (by decide) (by rfl) pass0 (pa_cons (pv 1) pa_nil)) (pe_ifExp (pt_cmpR op_eq (pe_df D__law_draw hr (by decide) (by rfl) pass0 (pa_cons (pv 1) (pa_cons pe_int pa_nil))) pe_int (nomark _)) (pe_tup (pa_cons (pe_op op_add pe_int (pe_df D__law_draw hr (by decide) (by rfl) pass0 (pa_cons (pv 1) (pa_cons pe_int pa_nil)))) pa_nil)) (pe_tup pa_nil))))
      (pss_cons (ps_par (i := 4) (j := 5) (by rfl) sc_law.nd rfl rfl (by decide) rfl rfl (pa_cons (pe_df D__law_best hr (by decide) (by rfl) pass0 (pa_cons (pv 3) pa_nil)) (pa_cons (pe_df D__law_rule hr (by decide) (by rfl) pass0 (pa_cons (pv 1) (pa_cons (pv 3) pa_nil))) pa_nil)) (by rfl))
      (pss_cons (ps_if (pt_not (pt_val (pe_dfG D__law_like hgd hr (by decide) (by rfl) (pa_cons (pe_df D_need_rule hr (by decide) (by rfl) passL (pa_cons (pv 3) (pa_cons (pv 5) pa_nil))) (pa_cons (pv 5) pa_nil))))) (pss_one (ps_ret pe_bl)) pss_nil)
      (pss_cons (ps_if (pt_not (pt_val (pe_dfG D__law_best_right hgd hr (by decide) (by rfl) (pa_cons (pv 1) (pa_cons (pv 3) (pa_cons (pv 4) pa_nil)))))) (pss_one (ps_ret pe_bl)) pss_nil)
      (pss_one (ps_if (PW.pt (pw_and (pt_cmpR (op_neD hr.units) (pv 5) (pv 4) (nomark _)) (pw_and1 (pt_not (pt_val (pe_df D__law_flaw_right hr (by decide) (by rfl) pass0 (pa_cons (pv 3) (pa_cons (pv 5) pa_nil)))))))) (pss_one (ps_ret pe_bl)) pss_nil)))))))
      (pss_one (ps_ret (pe_dfG D__law_like hgd hr (by decide) (by rfl) (pa_cons (pe_callKw F_best (hr.mono (by decide)) (by rfl) m_best k_best kb_best pass0 (pk_cons (pe_tup (pa_cons pe_int (pa_cons pe_int pa_nil))) pk_nil)) (pa_cons (pe_tup (pa_cons (pe_tup (pa_cons (pe_tup (pa_cons pe_int (pa_cons pe_int pa_nil))) pa_nil)) (pa_cons (pe_tup (pa_cons (pe_tup (pa_cons pe_int (pa_cons pe_int pa_nil))) (pa_cons (pe_tup (pa_cons pe_int (pa_cons pe_int pa_nil))) pa_nil))) (pa_cons (pe_tup (pa_cons (pe_tup (pa_cons pe_int (pa_cons pe_int pa_nil))) (pa_cons (pe_tup (pa_cons pe_int (pa_cons pe_int pa_nil))) (pa_cons (pe_tup (pa_cons pe_int (pa_cons pe_int pa_nil))) pa_nil)))) pa_nil)))) pa_nil)))))))), ?_⟩
  refine ⟨rfl, fun H0 s0' => ⟨true, rfl, ?_⟩⟩
  refine ⟨_, rfl, sc, xs, rfl, s0'.seq hsc, h63, fun z H1 s1 st1 => ?_⟩
  refine ⟨_, rfl, by omega, by omega, ?_⟩
  refine for_it walk_range (fun i σ H' => i ≤ 3 ∧ ∃ y2 y3 y4 y5 : Option V, σ = [some (.ref sc), some (.ref z.1), y2, y3, y4, y5] ∧ StA z (100 * i) H') ⟨by omega, none, none, none, none, rfl, st1⟩ (fun _ _ _ _ _ => trivial) (fun i v σ H2 H3 hi pv y => ?_) (fun σ H' pv => ?_)
  · obtain ⟨_, y2, y3, y4, y5, rfl, st2⟩ := pv
    obtain ⟨rfl, _⟩ := y
    refine ⟨_, rfl, z, 100 * i, rfl, st2, by omega, fun v1 T1 u1 H3 sx3 st3 hT1 hu1 r1 => ?_⟩
    obtain ⟨c1, rfl, h1⟩ := r1
    refine ⟨_, rfl, z, 100 * i + 3, 3, rfl, rfl, by omega, by omega, st3, by omega, fun d H4 sx4 st4 d0 d3 => ⟨rfl, _, rfl, ite2 (fun e => ?_) (fun e => ?_)⟩⟩
    · refine ⟨_, rfl, z, 100 * i + 4, 2, rfl, rfl, by omega, by omega, st4, by omega, fun d2 H4' sx4' st4' e0 e2 => ⟨_, _, rfl, rfl, size1, fun p hp => ?_⟩⟩
      have sp := same_new (o := .tup [V.int (2 + d2)]) hp
      refine catA_read (sp _ _ ((sx4'.tx st4) _ _ ((sx4.tx st3) _ _ h1))) upd_same (by rw [LV_len]; show _ + 1 ≤ sizeLine; exact Nat.le_of_lt (lt_line (by omega))) fun cu H5 s5 hcu0 => ?_
      obtain ⟨T, hTe⟩ : ∃ T, T = T1 + 1 := ⟨_, rfl⟩
      obtain ⟨u, hue⟩ : ∃ u, u = setF u1 T1 (2 + d2) := ⟨_, rfl⟩
      have hT : T ≤ 3 := by omega
      have hcu : H5 cu = some (.tup (LV T u)) := by
        rw [hcu0, hTe, hue, LV_succ, LV_congr (fun j hj => (show setF u1 T1 (2 + d2) j = u1 j from if_neg (by omega))), show setF u1 T1 (2 + d2) T1 = 2 + d2 from if_pos rfl]
      have hu24 : ∀ i, i < T → 2 ≤ u i ∧ u i ≤ 4 := fun j hj => by
        rw [hue]
        by_cases ej : j = T1
        · rw [show setF u1 T1 (2 + d2) j = 2 + d2 from if_pos ej]; omega
        · rw [show setF u1 T1 (2 + d2) j = u1 j from if_neg ej]
          exact hu1 j (by omega)
      have st5 : StA z (100 * i + 10) H5 := (st4'.mono (by omega)).same (sp.trans s5)
      have rU : RowF H5 (.ref cu) T u := ⟨cu, rfl, hcu⟩
      have hu : UB T u := fun i hi => by have := hu24 i hi; omega
      have smr := sm_rule hT (bestL_rs T)
      refine ⟨_, rfl, T, u, hT, hu, rU, fun vb H6 s6 rb => ⟨_, rfl, _, rfl, z, 100 * i + 10, T, u, rfl, st5.same s6, by omega, hT, hu, rU.tx s6.tx, fun vr rs H7 sx7 st7 hok rr => ⟨_, _, rfl, ?_⟩⟩⟩
      have t7 := s6.tx.trans (sx7.tx (st5.same s6))
      have rb7 := rb.tx (sx7.tx (st5.same s6))
      refine ⟨_, rfl, _, rfl, need_rule_ok hT hu (rU.tx t7) rr hok fun H8 s8 => ?_⟩
      obtain ⟨pr, wr, rfl, kr, lr⟩ := id rr
      obtain ⟨pb, wb, rfl, kb, lb⟩ := id rb7
      have rr8 := rr.tx s8.tx
      have rb8 := rb7.tx s8.tx
      have t8 := t7.trans s8.tx
      refine ⟨_, rfl, pr, pr, dR rs, 3, 500, rfl, rfl, rr8.dp, rr8.dp, sm_rule hT hok, by omega, by omega, true, rfl, ?_⟩
      refine ⟨_, rfl, _, rfl, _, rfl, z, 100 * i + 50, T, u, rfl, st7.same s8, by omega, hT, hu, rU.tx t8, rb8, fun H9 sx9 st9 => ⟨true, rfl, ?_⟩⟩
      have t9 := sx9.tx (st7.same s8)
      have rr9 := rr8.tx t9
      have rb9 := rb8.tx t9
      refine ⟨_, rfl, _, rfl, dR rs, dR (bestL T), rr9.dp, rb9.dp, (sm_rule hT hok).shaped (by omega), smr.shaped (by omega), _, rfl, ite2 (fun e => ?_) (fun e => ?_)⟩
      · have hne : rs ≠ bestL T := fun y => by
          rw [y, SeqAt.eqv_refl _ smr.cl] at e
          exact absurd e (by decide)
        exact ⟨_, rfl, _, rfl, T, u, rs, hT, hu, fun i hi => (hu24 i hi).2, (rU.tx t8).tx t9, rr9, hok, hne, fun H10 s10 => ⟨true, rfl, hi, _, _, _, _, rfl, (st9.same s10).mono (by omega)⟩⟩
      · exact ⟨hi, _, _, _, _, rfl, st9.mono (by omega)⟩
    · refine ⟨Nat.zero_le _, fun p hp => ?_⟩
      have sp := same_new (o := .tup []) hp
      refine catA_read (sp _ _ ((sx4.tx st3) _ _ h1)) upd_same (by rw [LV_len]; exact Nat.le_of_lt (lt_line (by show T1 + 0 ≤ 1000; omega))) fun cu H5 s5 hcu0 => ?_
      obtain ⟨T, hTe⟩ : ∃ T, T = T1 := ⟨_, rfl⟩
      obtain ⟨u, hue⟩ : ∃ u, u = u1 := ⟨_, rfl⟩
      have hT : T ≤ 3 := by omega
      have hcu : H5 cu = some (.tup (LV T u)) := by
        rw [hcu0, hTe, hue, List.append_nil]
      have hu24 : ∀ i, i < T → 2 ≤ u i ∧ u i ≤ 4 := fun j hj => by
        rw [hue]; exact hu1 j (by omega)
      have st5 : StA z (100 * i + 10) H5 := (st4.mono (by omega)).same (sp.trans s5)
      have rU : RowF H5 (.ref cu) T u := ⟨cu, rfl, hcu⟩
      have hu : UB T u := fun i hi => by have := hu24 i hi; omega
      have smr := sm_rule hT (bestL_rs T)
      refine ⟨_, rfl, T, u, hT, hu, rU, fun vb H6 s6 rb => ⟨_, rfl, _, rfl, z, 100 * i + 10, T, u, rfl, st5.same s6, by omega, hT, hu, rU.tx s6.tx, fun vr rs H7 sx7 st7 hok rr => ⟨_, _, rfl, ?_⟩⟩⟩
      have t7 := s6.tx.trans (sx7.tx (st5.same s6))
      have rb7 := rb.tx (sx7.tx (st5.same s6))
      refine ⟨_, rfl, _, rfl, need_rule_ok hT hu (rU.tx t7) rr hok fun H8 s8 => ?_⟩
      obtain ⟨pr, wr, rfl, kr, lr⟩ := id rr
      obtain ⟨pb, wb, rfl, kb, lb⟩ := id rb7
      have rr8 := rr.tx s8.tx
      have rb8 := rb7.tx s8.tx
      have t8 := t7.trans s8.tx
      refine ⟨_, rfl, pr, pr, dR rs, 3, 500, rfl, rfl, rr8.dp, rr8.dp, sm_rule hT hok, by omega, by omega, true, rfl, ?_⟩
      refine ⟨_, rfl, _, rfl, _, rfl, z, 100 * i + 50, T, u, rfl, st7.same s8, by omega, hT, hu, rU.tx t8, rb8, fun H9 sx9 st9 => ⟨true, rfl, ?_⟩⟩
      have t9 := sx9.tx (st7.same s8)
      have rr9 := rr8.tx t9
      have rb9 := rb8.tx t9
      refine ⟨_, rfl, _, rfl, dR rs, dR (bestL T), rr9.dp, rb9.dp, (sm_rule hT hok).shaped (by omega), smr.shaped (by omega), _, rfl, ite2 (fun e => ?_) (fun e => ?_)⟩
      · have hne : rs ≠ bestL T := fun y => by
          rw [y, SeqAt.eqv_refl _ smr.cl] at e
          exact absurd e (by decide)
        exact ⟨_, rfl, _, rfl, T, u, rs, hT, hu, fun i hi => (hu24 i hi).2, (rU.tx t8).tx t9, rr9, hok, hne, fun H10 s10 => ⟨true, rfl, hi, _, _, _, _, rfl, (st9.same s10).mono (by omega)⟩⟩
      · exact ⟨hi, _, _, _, _, rfl, st9.mono (by omega)⟩
  · obtain ⟨_, y2, y3, y4, y5, rfl, st2⟩ := pv
    refine ⟨size2, fun cu hcu => ?_⟩
    have rU : RowF (upd H' cu (.tup [.int 2, .int 3])) (.ref cu) 2 u23 := ⟨cu, rfl, upd_same⟩
    have hu : UB 2 u23 := fun k hk => by
      rcases (show k = 0 ∨ k = 1 by omega) with rfl | rfl
      · exact ⟨by show (2 : Int) ≤ 2; omega, by show (2 : Int) ≤ 10; omega⟩
      · exact ⟨by show (2 : Int) ≤ 3; omega, by show (3 : Int) ≤ 10; omega⟩
    refine ⟨2, u23, by omega, hu, rU, fun vb H6 s6 rb => ?_⟩
    obtain ⟨pb, wb, rfl, kb, lb⟩ := id rb
    refine ⟨size2, fun p1 z1 => ⟨size1, fun q1 g1 => ⟨size2, fun p2 z2 => ⟨size2, fun p3 z3 => ⟨size2, fun q2 g2 => ⟨size2, fun p4 z4 => ⟨size2, fun p5 z5 => ⟨size2, fun p6 z6 => ⟨(by show 3 ≤ sizeLine; decide), fun q3 g3 => ⟨(by show 3 ≤ sizeLine; decide), fun o1 f1 => ?_⟩⟩⟩⟩⟩⟩⟩⟩⟩⟩
    have t10 := same_new (o := .tup [V.ref q1, .ref q2, .ref q3]) f1
    have t9 := (same_new (o := .tup [V.ref p4, .ref p5, .ref p6]) g3).trans t10
    have t8 := (same_new (o := .tup [V.int 0, .int 1]) z6).trans t9
    have t7 := (same_new (o := .tup [V.int 1, .int 2]) z5).trans t8
    have t6 := (same_new (o := .tup [V.int 2, .int 2]) z4).trans t7
    have t5 := (same_new (o := .tup [V.ref p2, .ref p3]) g2).trans t6
    have t4 := (same_new (o := .tup [V.int 0, .int 1]) z3).trans t5
    have t3 := (same_new (o := .tup [V.int 1, .int 1]) z2).trans t4
    have t2 := (same_new (o := .tup [V.ref p1]) g1).trans t3
    have t1 := (same_new (o := .tup [V.int 0, .int 0]) z1).trans t2
    have k1 := t2 _ _ upd_same
    have k2 := t4 _ _ upd_same
    have k3 := t5 _ _ upd_same
    have k4 := t7 _ _ upd_same
    have k5 := t8 _ _ upd_same
    have k6 := t9 _ _ upd_same
    have m1 := t3 _ _ upd_same
    have m2 := t6 _ _ upd_same
    have m3 := t10 _ _ upd_same
    refine ⟨pb, o1, dR (bestL 2), 3, 500, rfl, rfl, (rb.tx t1.tx).dp, ?_, sm_rule (by omega) (bestL_rs 2), by omega, by omega, q _⟩
    have pr : ∀ {H : Hp} {p : Addr} {a b : Nat}, H p = some (.tup [.int (a : Nat), .int (b : Nat)]) → PairR H (.ref p) (a, b) := fun {H p a b} h => ⟨p, rfl, h⟩
    refine RuF.dp (rs := bestL 2) ⟨o1, _, rfl, upd_same, ?_⟩
    exact ((ListR.nil.snoc ⟨q1, _, rfl, m1, ListR.nil.snoc (pr (a := 0) (b := 0) k1)⟩).snoc ⟨q2, _, rfl, m2, (ListR.nil.snoc (pr (a := 1) (b := 1) k2)).snoc (pr (a := 0) (b := 1) k3)⟩).snoc ⟨q3, _, rfl, m3, ((ListR.nil.snoc (pr (a := 2) (b := 2) k4)).snoc (pr (a := 1) (b := 2) k5)).snoc (pr (a := 0) (b := 1) k6)⟩
end
end K21
end
section
set_option maxRecDepth 100000
set_option maxHeartbeats 4000000
/-! K21Z: the law's call; what the top has written. -/
namespace K21
open PySem PySem.Spec PyProof.Rows L2
section
variable {P : Program} {w : World} {K : PySem.W.Frag} {mg mb : Str → Option Value} {j : Nat} {fL scA : Addr} {fd : FuncData} {nm : Str} {sp : Sp} {t : Shared} {us : List Value} {is : List Int}
/-- the abstract heap of the law's call: nothing but the script may be tracked -/
structure Begun (P : Program) (w : World) (K : PySem.W.Frag) (mg : Str → Option Value) (t : Shared) (scA : Addr) (is : List Int) (H : Hp) : Prop where
  only : Only H
  seq : SqL K H scA (is.map V.int)
  kin : K.In (hidT t.heap H)
  ns : (hidT t.heap H).Ns mainGlobals mg
  env : Env0 P w K mg (hidT t.heap H) callerA [] t H
theorem begun_of (kx : K.In t.heap) (gm : t.heap.Ns mainGlobals mg) (gb : t.heap.Ns builtinsNs mb) (bb : ∀ y : Str, y ≠ "__name__" → mb y = bootBuiltins y) (lim : t.heap.NoLimit) (gn : t.gens = #[])
    (obj : t.heap.get? scA = some { cls := .type "list", data := .seq us.toArray }) {H : Hp} (o1 : Only H) (o2 : SqL K H scA (is.map V.int)) (o3 : HOk P w H t.heap) (o4 : ∀ b u, H b = some u → b = scA ∧ K.lookup scA = none) : Begun P w K mg t scA is H := by
  have below : ∀ {b : Addr} {ob : Obj}, t.heap.get? b = some ob → (∀ u, H b = some u → False) → (hidT t.heap H).get? b = some ob := fun {b ob} e n => hidT_get e (by
    cases hb : H b with
    | none => rfl
    | some u => exact (n u hb).elim)
  have names : ∀ {b : Addr} {m : Str → Option Value}, t.heap.Ns b m → (hidT t.heap H).Ns b m := fun {b m} g => by
    obtain ⟨ob, es, ep, e, dd, rest⟩ := g
    refine ⟨ob, es, ep, below e (fun u hu => ?_), dd, rest⟩
    obtain ⟨rfl, _⟩ := o4 b u hu
    rw [obj] at e
    cases e
    exact nomatch (show Data.seq us.toArray _ = Data.dict es ep from dd)
  have kin : K.In (hidT t.heap H) := fun b ob e => below (kx b ob e) fun u hu => by
    obtain ⟨rfl, no⟩ := o4 b u hu
    rw [no] at e
    cases e
  have md : Mod K mg (hidT t.heap H) := by
    obtain ⟨mc, l1, l2⟩ := lim
    exact ⟨kin, names gm, ⟨mb, names gb, bb⟩, mc, names l1, l2⟩
  have none_in : ∀ b : Addr, b ∈ ([] : List Addr) → False := fun b hb => nomatch hb
  exact ⟨o1, o2, kin, names gm, ⟨rfl, md, fun b ob e => of_hidT e, Nat.le_of_eq (hidT_size _ _), trivial, fun b hb => (none_in b hb).elim, o3, .of_eq gn⟩⟩
theorem begun_at (kx : K.In t.heap) (gm : t.heap.Ns mainGlobals mg) (gb : t.heap.Ns builtinsNs mb) (bb : ∀ y : Str, y ≠ "__name__" → mb y = bootBuiltins y) (lim : t.heap.NoLimit) (gn : t.gens = #[])
    (obj : t.heap.get? scA = some { cls := .type "list", data := .seq us.toArray }) (ii : IntsAre us is) (small : is.length ≤ sizeLine) : ∃ H, Begun P w K mg t scA is H := by
  have rel := vals_ints ii
  have hlen := ii.length
  cases own : K.lookup scA with
  | some ob =>
    have e := kx scA ob own
    rw [obj] at e
    cases e
    refine ⟨fun _ => none, begun_of kx gm gb bb lim gn obj (fun _ => .inl rfl) (.inr ⟨_, us.toArray, _, own, rfl, rfl, rfl, by rw [List.size_toArray, hlen]; exact small, by simpa using rel⟩) (fun b u q => nomatch (show (none : Option HO) = some u from q)) fun b u q => nomatch (show (none : Option HO) = some u from q)⟩
  | none =>
    have here : ∀ b u, (if b = scA then some (HO.frz { cls := .type "list", data := .seq us.toArray } (.lst (is.map V.int))) else none) = some u → b = scA ∧ u = HO.frz { cls := .type "list", data := .seq us.toArray } (.lst (is.map V.int)) := fun b u q => by
      by_cases hb : b = scA
      · rw [if_pos hb] at q
        exact ⟨hb, (Option.some.inj q).symm⟩
      · rw [if_neg hb] at q
        cases q
    refine ⟨fun b => if b = scA then some (HO.frz { cls := .type "list", data := .seq us.toArray } (.lst (is.map V.int))) else none, begun_of kx gm gb bb lim gn obj (fun b => ?_) (.inl (.inr ⟨_, if_pos rfl⟩)) (fun b u q => ?_) fun b u q => ⟨(here b u q).1, own⟩⟩
    · by_cases hb : b = scA
      · exact .inr ⟨_, _, if_pos hb⟩
      · exact .inl (if_neg hb)
    · obtain ⟨rfl, rfl⟩ := here b u q
      exact ⟨obj, by rw [List.length_map]; exact small, us, _, rel, obj⟩
theorem law_callG (kx : K.In t.heap) (gm : t.heap.Ns mainGlobals mg) (gb : t.heap.Ns builtinsNs mb) (bb : ∀ y : Str, y ≠ "__name__" → mb y = bootBuiltins y) (lim : t.heap.NoLimit) (gn : t.gens = #[])
    (obj : t.heap.get? scA = some { cls := .type "list", data := .seq us.toArray }) (ii : IntsAre us is) (small : is.length ≤ sizeLine) (rm : Room j callerA)
    (FF : ∀ base : Heap, K.In base → base.Ns mainGlobals mg → FnG P w K mg base CX0 j fL fd [nm] sp) (bd : ∀ (s : Shared) (u : Value), BindsTo s fd ⟨[u], []⟩ [(nm, u)])
    (pr : ∀ H : Hp, Only H → SqL K H scA (is.map V.int) → sp [.ref scA] H (fun v _ => v = .bl true) fun _ _ _ => False) :
    codeAny (model P w) callerA (.call (.ref fL) ⟨[.ref scA], []⟩) (fun r s' => r = .ok (.ret (.bool true)) ∧ OldK t.heap s'.heap ∧ s'.os = t.os ∧ AllBare s'.gens) t := by
  obtain ⟨H, B⟩ := begun_at (P := P) (w := w) kx gm gb bb lim gn obj ii small
  have ran := (FF _ B.kin B.ns).run callerA [] t H ⟨[.ref scA], []⟩ [.ref scA] [.ref scA] _ _ rfl rm B.env (bd t (.ref scA)) (.cons rfl .nil) (pr H B.only B.seq)
  refine codeAny_mono ran fun r s' q => ?_
  match r, q with
  | .error e, q => exact (show False from q).elim
  | .ok (.ret u), q =>
    obtain ⟨v, H', os, bare, un, ok', rv, hv⟩ := q
    obtain rfl : v = .bl true := hv
    obtain rfl : u = Value.bool true := rv
    refine ⟨rfl, OldK.of_keep fun b ob e => ?_, os, bare⟩
    cases hb : H b with
    | none => exact un.keep b ob e hb (fun z => nomatch (show b ∈ ([] : List Addr) from z)) (by simp)
    | some u =>
      rcases B.only b with z | ⟨oz, xs, z⟩
      · rw [hb] at z
        cases z
      · obtain ⟨g1, _⟩ := B.env.hok b _ z
        obtain ⟨g2, _⟩ := ok' b _ (un.frzs b oz _ z)
        rw [e] at g1
        cases g1
        exact g2
  | .ok .next, q => exact (show False from q).elim
  | .ok .brk, q => exact (show False from q).elim
  | .ok .cont, q => exact (show False from q).elim
end
section
variable {P : Program} {w : World} {K : PySem.W.Frag} {mg : Str → Option Value} {h : Heap} {Y CU CR CN fL : Addr}
theorem has_mk {x : Str} {st : Stmt} {f : Addr} {oc kV doc pm cdv ct : Value} {od an : Option Addr} {osl : Array (Option Value)} (X : K.In h) (G : h.Ns mainGlobals mg) (a : PySem.W.nsIn K mainGlobals x = some (some (.ref f)))
    (l : K.lookup f = some ⟨oc, od, .func (PySem.W.fnOf x x (defArgs st) (defBody st) (defScope st) .none kV doc pm an cdv ct), osl⟩) (c : PySem.W.codeIn K cdv x = true) (k : PySem.W.keepIn K (.ref f) = true) : Has K mg (x, st) := ⟨f, _, fun_mk l c k, PySem.W.mg_of X G a⟩
theorem er_mk {x qual : Str} {st : Stmt} {C f : Addr} {oc kV doc pm cdv ct : Value} {od an : Option Addr} {osl : Array (Option Value)} {n1 n2 : Str} {N : Addr} {bs bm : List Value} {sn : List Str} {sub : List Value} {ab : Bool} {col : Option Bool} {dd : Option Addr} {m0 m1 m2 m3 m5 : Option Value}
    (X : K.In h) (G : h.Ns mainGlobals mg) (a : PySem.W.nsIn K mainGlobals x = some (some (.ref C))) (xl : K.lookup C = some (excClassObj n1 n2 C N bs bm true sn sub ab col dd m0 m1 m2 m3 m5 "ValueError.__new__")) (rv : PySem.HandSPX.refsVE bm = true)
    (sa : PySem.W.findIn K (.ref C) "__setattr__" = some (some (.builtin "object.__setattr__"))) (ex : PySem.W.subIn K (.ref C) (.type "BaseException") = some true) (ty : PySem.W.typeIn K (.ref C) = some (.type "type")) (kc : PySem.W.keepIn K (.ref C) = true)
    (fi : PySem.W.findIn K (.ref C) "__init__" = some (some (.ref f))) (ti : PySem.W.typeIn K (.ref f) = some (.type "function"))
    (l : K.lookup f = some ⟨oc, od, .func (PySem.W.fnOf "__init__" qual (defArgs st) (defBody st) (defScope st) .none kV doc pm an cdv ct), osl⟩) (c : PySem.W.codeIn K cdv qual = true) (k : PySem.W.keepIn K (.ref f) = true) : Er K mg x qual st C :=
  ⟨PySem.W.mg_of X G a, ⟨⟨_, _, _, _, _, _, _, _, _, _, _, _, _, _, _, xl, rv⟩, sa, ex, ty, kc⟩, f, _, fun_mk l c k, fi, ti⟩
theorem const_mk {x : Str} {n : Int} {t : Tok} (X : K.In h) (G : h.Ns mainGlobals mg) (a : PySem.W.nsIn K mainGlobals x = some (some (.int n t))) : ∃ t, mg x = some (.int n t) := ⟨t, PySem.W.mg_of X G a⟩
theorem loose_mk {q : Program} {x : Str} {n : Int} (XP : PySem.W.XL q [(x, .int n)] mg h) : ∃ t, mg x = some (.int n t) := by
  obtain ⟨v, e, r⟩ := XP.2.val (x, .int n) (List.mem_singleton.mpr rfl)
  cases r
  exact ⟨_, e⟩
theorem all_G (hm : mg "law" = some (.ref fL)) (W : Wr K mg) (y : Yd K mg Y) (cU : ErU K mg CU) (cR : ErR K mg CR) (cN : ErN K mg CN) (eN : PySem.W.exmOne K (.ref CN) (.ref CN) = some true) (xU : XfC K CU) (xR : XfC K CR)
    (eU : PySem.W.exmOne K (.ref CU) (.ref CU) = some true) (eRU : PySem.W.exmOne K (.ref CR) (.ref CU) = some false) (eR : PySem.W.exmOne K (.ref CR) (.ref CR) = some true) :
    ∃ fd : FuncData, (∀ (s : Shared) (u : Value), BindsTo s fd ⟨[u], []⟩ [("_law_script", u)]) ∧ ∀ base : Heap, K.In base → base.Ns mainGlobals mg → FnG P w K mg base CX0 8 fL fd ["_law_script"] (p_law K) := by
  obtain ⟨f, fd, F, hf⟩ := W.defs.get (i := 50) rfl
  cases hm.symm.trans hf
  refine ⟨fd, fun s u => ?_, fun base _ _ => law_ok F W y cU cR cN eN xU xR eU eRU eR⟩
  obtain ⟨oc, od, kV, doc, pm, an, cdv, ct, osl, rfl, _, _⟩ := F.ex
  exact .of_eq rfl
end
theorem walk_ofG {l : PySem.W.OpenLaw} {q : Program} {loose : List Str} {XP : (Str → Option Value) → Heap → Prop} {YP : World → Heap → Prop} {d : DefRec} {KK : Params → PySem.W.Frag} (most : l.most = some 63) (plain : d.params.defaults = []) (named : d.name = "law")
    (rooms : Room 8 callerA) (reads : ∀ (w : World) (h : Heap), YP w h → (KK w.params).In h)
    (FF : ∀ (w : World) (mg : Str → Option Value) (fL : Addr) (h : Heap), XP mg h → (KK w.params).In h → h.Ns mainGlobals mg → mg "law" = some (.ref fL) → ∃ fd : FuncData, (∀ (s : Shared) (u : Value), BindsTo s fd ⟨[u], []⟩ [("_law_script", u)]) ∧
      ∀ base : Heap, (KK w.params).In base → base.Ns mainGlobals mg → FnG l.prog w (KK w.params) mg base CX0 8 fL fd ["_law_script"] (p_law (KK w.params))) : PySem.W.WalkO q loose XP YP l.row.toRowW d [] (fun f vs => PySem.call f vs) := by
  refine Att.attach_call most plain fun w sA sB mg mb fL ob pm cd dc scA us is G YY hob hdat hrec hmg obj ii len gn => ?_
  have kin := reads w _ YY
  rw [named] at hmg
  obtain ⟨fd, bd, run⟩ := FF w mg fL _ G.X kin G.T.g hmg
  exact law_callG kin G.T.g G.T.b G.T.builtins G.T.nolimit gn obj ii (Nat.le_trans len (by decide)) rooms run bd fun H _ hs => ⟨scA, is, rfl, hs, len, fun _ => rfl⟩
end K21
end
open PySem PySem.W PyProof.Rows
set_option maxRecDepth 100000 in
set_option maxHeartbeats 0 in
theorem PySem.Challenge.cw_stairyard_k21_whole_rules_that_lose_noth_holds : PySem.Challenge.rw_stairyard_k21_whole_rules_that_lose_noth.Holds := by
  w_on; o_law; k_head; (case hw => w_witness2)
  k_fill
  refine K21.walk_ofG (l := PySem.Challenge.rw_stairyard_k21_whole_rules_that_lose_noth) rfl rfl rfl ⟨rfl, by decide, by decide⟩ (fun w h Y => PySem.W.kIn_of Y) ?F
  case F =>
    intro w mg fL h XP KX G hmg
    refine' K21.all_G hmg ⟨⟨K21.has_mk KX G ?a0 ?l0 ?c0 ?k0, K21.has_mk KX G ?a1 ?l1 ?c1 ?k1, K21.has_mk KX G ?a2 ?l2 ?c2 ?k2, K21.has_mk KX G ?a3 ?l3 ?c3 ?k3, K21.has_mk KX G ?a4 ?l4 ?c4 ?k4, K21.has_mk KX G ?a5 ?l5 ?c5 ?k5, K21.has_mk KX G ?a6 ?l6 ?c6 ?k6, K21.has_mk KX G ?a7 ?l7 ?c7 ?k7, K21.has_mk KX G ?a8 ?l8 ?c8 ?k8, K21.has_mk KX G ?a9 ?l9 ?c9 ?k9, K21.has_mk KX G ?a10 ?l10 ?c10 ?k10, K21.has_mk KX G ?a11 ?l11 ?c11 ?k11, K21.has_mk KX G ?a12 ?l12 ?c12 ?k12, K21.has_mk KX G ?a13 ?l13 ?c13 ?k13, K21.has_mk KX G ?a14 ?l14 ?c14 ?k14, K21.has_mk KX G ?a15 ?l15 ?c15 ?k15, K21.has_mk KX G ?a16 ?l16 ?c16 ?k16, K21.has_mk KX G ?a17 ?l17 ?c17 ?k17, K21.has_mk KX G ?a18 ?l18 ?c18 ?k18, K21.has_mk KX G ?a19 ?l19 ?c19 ?k19, K21.has_mk KX G ?a20 ?l20 ?c20 ?k20, K21.has_mk KX G ?a21 ?l21 ?c21 ?k21, K21.has_mk KX G ?a22 ?l22 ?c22 ?k22, K21.has_mk KX G ?a23 ?l23 ?c23 ?k23, K21.has_mk KX G ?a24 ?l24 ?c24 ?k24, K21.has_mk KX G ?a25 ?l25 ?c25 ?k25, K21.has_mk KX G ?a26 ?l26 ?c26 ?k26, K21.has_mk KX G ?a27 ?l27 ?c27 ?k27, K21.has_mk KX G ?a28 ?l28 ?c28 ?k28, K21.has_mk KX G ?a29 ?l29 ?c29 ?k29, K21.has_mk KX G ?a30 ?l30 ?c30 ?k30, K21.has_mk KX G ?a31 ?l31 ?c31 ?k31, K21.has_mk KX G ?a32 ?l32 ?c32 ?k32, K21.has_mk KX G ?a33 ?l33 ?c33 ?k33, K21.has_mk KX G ?a34 ?l34 ?c34 ?k34, K21.has_mk KX G ?a35 ?l35 ?c35 ?k35, K21.has_mk KX G ?a36 ?l36 ?c36 ?k36, K21.has_mk KX G ?a37 ?l37 ?c37 ?k37, K21.has_mk KX G ?a38 ?l38 ?c38 ?k38, K21.has_mk KX G ?a39 ?l39 ?c39 ?k39, K21.has_mk KX G ?a40 ?l40 ?c40 ?k40, K21.has_mk KX G ?a41 ?l41 ?c41 ?k41, K21.has_mk KX G ?a42 ?l42 ?c42 ?k42, K21.has_mk KX G ?a43 ?l43 ?c43 ?k43, K21.has_mk KX G ?a44 ?l44 ?c44 ?k44, K21.has_mk KX G ?a45 ?l45 ?c45 ?k45, K21.has_mk KX G ?a46 ?l46 ?c46 ?k46, K21.has_mk KX G ?a47 ?l47 ?c47 ?k47, K21.has_mk KX G ?a48 ?l48 ?c48 ?k48, K21.has_mk KX G ?a49 ?l49 ?c49 ?k49, K21.has_mk KX G ?a50 ?l50 ?c50 ?k50, trivial⟩, PySem.W.mg_none_of KX G ?zlen, PySem.W.mg_none_of KX G ?zisinstance, PySem.W.mg_none_of KX G ?zint, PySem.W.mg_none_of KX G ?zbool, PySem.W.mg_none_of KX G ?ztuple, PySem.W.mg_none_of KX G ?zlist, PySem.W.mg_none_of KX G ?zrange, PySem.W.mg_none_of KX G ?zenumerate, PySem.W.mg_none_of KX G ?zzip, PySem.W.mg_none_of KX G ?zreversed, PySem.W.mg_none_of KX G ?zmin, PySem.W.mg_none_of KX G ?zsum, PySem.W.mg_none_of KX G ?zsorted, PySem.W.mg_none_of KX G ?zrepr, K21.const_mk KX G ?mU, K21.const_mk KX G ?mT, K21.loose_mk XP, K21.const_mk KX G ?mR, K21.const_mk KX G ?mA⟩ ⟨PySem.W.mg_of KX G ?yg, ?ya, ?yr, ?yv⟩ ⟨K21.er_mk KX G ?eaU ?xlU ?rvU ?saU ?exU ?tyU ?kcU ?fiU ?tiU ?elU ?ecU ?ekU, ?nU⟩ ⟨K21.er_mk KX G ?eaR ?xlR ?rvR ?saR ?exR ?tyR ?kcR ?fiR ?tiR ?elR ?ecR ?ekR, ?nR⟩ (K21.er_mk KX G ?eaN ?xlN ?rvN ?saN ?exN ?tyN ?kcN ?fiN ?tiN ?elN ?ecN ?ekN) ?eN ⟨?gaU, ?ggU, ?gxU, ?ghU⟩ ⟨?gaR, ?ggR, ?gxR, ?ghR⟩ ?eU ?eRU ?eR
    (case a0 => first | k_is | rfl)
    (case l0 => first | k_is | rfl)
    (case c0 => first | k_is | rfl)
    (case k0 => first | k_is | rfl)
    (case a1 => first | k_is | rfl)
    (case l1 => first | k_is | rfl)
    (case c1 => first | k_is | rfl)
    (case k1 => first | k_is | rfl)
    (case a2 => first | k_is | rfl)
    (case l2 => first | k_is | rfl)
    (case c2 => first | k_is | rfl)
    (case k2 => first | k_is | rfl)
    (case a3 => first | k_is | rfl)
    (case l3 => first | k_is | rfl)
    (case c3 => first | k_is | rfl)
    (case k3 => first | k_is | rfl)
    (case a4 => first | k_is | rfl)
    (case l4 => first | k_is | rfl)
    (case c4 => first | k_is | rfl)
    (case k4 => first | k_is | rfl)
    (case a5 => first | k_is | rfl)
    (case l5 => first | k_is | rfl)
    (case c5 => first | k_is | rfl)
    (case k5 => first | k_is | rfl)
    (case a6 => first | k_is | rfl)
    (case l6 => first | k_is | rfl)
    (case c6 => first | k_is | rfl)
    (case k6 => first | k_is | rfl)
    (case a7 => first | k_is | rfl)
    (case l7 => first | k_is | rfl)
    (case c7 => first | k_is | rfl)
    (case k7 => first | k_is | rfl)
    (case a8 => first | k_is | rfl)
    (case l8 => first | k_is | rfl)
    (case c8 => first | k_is | rfl)
    (case k8 => first | k_is | rfl)
    (case a9 => first | k_is | rfl)
    (case l9 => first | k_is | rfl)
    (case c9 => first | k_is | rfl)
    (case k9 => first | k_is | rfl)
    (case a10 => first | k_is | rfl)
    (case l10 => first | k_is | rfl)
    (case c10 => first | k_is | rfl)
    (case k10 => first | k_is | rfl)
    (case a11 => first | k_is | rfl)
    (case l11 => first | k_is | rfl)
    (case c11 => first | k_is | rfl)
    (case k11 => first | k_is | rfl)
    (case a12 => first | k_is | rfl)
    (case l12 => first | k_is | rfl)
    (case c12 => first | k_is | rfl)
    (case k12 => first | k_is | rfl)
    (case a13 => first | k_is | rfl)
    (case l13 => first | k_is | rfl)
    (case c13 => first | k_is | rfl)
    (case k13 => first | k_is | rfl)
    (case a14 => first | k_is | rfl)
    (case l14 => first | k_is | rfl)
    (case c14 => first | k_is | rfl)
    (case k14 => first | k_is | rfl)
    (case a15 => first | k_is | rfl)
    (case l15 => first | k_is | rfl)
    (case c15 => first | k_is | rfl)
    (case k15 => first | k_is | rfl)
    (case a16 => first | k_is | rfl)
    (case l16 => first | k_is | rfl)
    (case c16 => first | k_is | rfl)
    (case k16 => first | k_is | rfl)
    (case a17 => first | k_is | rfl)
    (case l17 => first | k_is | rfl)
    (case c17 => first | k_is | rfl)
    (case k17 => first | k_is | rfl)
    (case a18 => first | k_is | rfl)
    (case l18 => first | k_is | rfl)
    (case c18 => first | k_is | rfl)
    (case k18 => first | k_is | rfl)
    (case a19 => first | k_is | rfl)
    (case l19 => first | k_is | rfl)
    (case c19 => first | k_is | rfl)
    (case k19 => first | k_is | rfl)
    (case a20 => first | k_is | rfl)
    (case l20 => first | k_is | rfl)
    (case c20 => first | k_is | rfl)
    (case k20 => first | k_is | rfl)
    (case a21 => first | k_is | rfl)
    (case l21 => first | k_is | rfl)
    (case c21 => first | k_is | rfl)
    (case k21 => first | k_is | rfl)
    (case a22 => first | k_is | rfl)
    (case l22 => first | k_is | rfl)
    (case c22 => first | k_is | rfl)
    (case k22 => first | k_is | rfl)
    (case a23 => first | k_is | rfl)
    (case l23 => first | k_is | rfl)
    (case c23 => first | k_is | rfl)
    (case k23 => first | k_is | rfl)
    (case a24 => first | k_is | rfl)
    (case l24 => first | k_is | rfl)
    (case c24 => first | k_is | rfl)
    (case k24 => first | k_is | rfl)
    (case a25 => first | k_is | rfl)
    (case l25 => first | k_is | rfl)
    (case c25 => first | k_is | rfl)
    (case k25 => first | k_is | rfl)
    (case a26 => first | k_is | rfl)
    (case l26 => first | k_is | rfl)
    (case c26 => first | k_is | rfl)
    (case k26 => first | k_is | rfl)
    (case a27 => first | k_is | rfl)
    (case l27 => first | k_is | rfl)
    (case c27 => first | k_is | rfl)
    (case k27 => first | k_is | rfl)
    (case a28 => first | k_is | rfl)
    (case l28 => first | k_is | rfl)
    (case c28 => first | k_is | rfl)
    (case k28 => first | k_is | rfl)
    (case a29 => first | k_is | rfl)
    (case l29 => first | k_is | rfl)
    (case c29 => first | k_is | rfl)
    (case k29 => first | k_is | rfl)
    (case a30 => first | k_is | rfl)
    (case l30 => first | k_is | rfl)
    (case c30 => first | k_is | rfl)
    (case k30 => first | k_is | rfl)
    (case a31 => first | k_is | rfl)
    (case l31 => first | k_is | rfl)
    (case c31 => first | k_is | rfl)
    (case k31 => first | k_is | rfl)
    (case a32 => first | k_is | rfl)
    (case l32 => first | k_is | rfl)
    (case c32 => first | k_is | rfl)
    (case k32 => first | k_is | rfl)
    (case a33 => first | k_is | rfl)
    (case l33 => first | k_is | rfl)
    (case c33 => first | k_is | rfl)
    (case k33 => first | k_is | rfl)
    (case a34 => first | k_is | rfl)
    (case l34 => first | k_is | rfl)
    (case c34 => first | k_is | rfl)
    (case k34 => first | k_is | rfl)
    (case a35 => first | k_is | rfl)
    (case l35 => first | k_is | rfl)
    (case c35 => first | k_is | rfl)
    (case k35 => first | k_is | rfl)
    (case a36 => first | k_is | rfl)
    (case l36 => first | k_is | rfl)
    (case c36 => first | k_is | rfl)
    (case k36 => first | k_is | rfl)
    (case a37 => first | k_is | rfl)
    (case l37 => first | k_is | rfl)
    (case c37 => first | k_is | rfl)
    (case k37 => first | k_is | rfl)
    (case a38 => first | k_is | rfl)
    (case l38 => first | k_is | rfl)
    (case c38 => first | k_is | rfl)
    (case k38 => first | k_is | rfl)
    (case a39 => first | k_is | rfl)
    (case l39 => first | k_is | rfl)
    (case c39 => first | k_is | rfl)
    (case k39 => first | k_is | rfl)
    (case a40 => first | k_is | rfl)
    (case l40 => first | k_is | rfl)
    (case c40 => first | k_is | rfl)
    (case k40 => first | k_is | rfl)
    (case a41 => first | k_is | rfl)
    (case l41 => first | k_is | rfl)
    (case c41 => first | k_is | rfl)
    (case k41 => first | k_is | rfl)
    (case a42 => first | k_is | rfl)
    (case l42 => first | k_is | rfl)
    (case c42 => first | k_is | rfl)
    (case k42 => first | k_is | rfl)
    (case a43 => first | k_is | rfl)
    (case l43 => first | k_is | rfl)
    (case c43 => first | k_is | rfl)
    (case k43 => first | k_is | rfl)
    (case a44 => first | k_is | rfl)
    (case l44 => first | k_is | rfl)
    (case c44 => first | k_is | rfl)
    (case k44 => first | k_is | rfl)
    (case a45 => first | k_is | rfl)
    (case l45 => first | k_is | rfl)
    (case c45 => first | k_is | rfl)
    (case k45 => first | k_is | rfl)
    (case a46 => first | k_is | rfl)
    (case l46 => first | k_is | rfl)
    (case c46 => first | k_is | rfl)
    (case k46 => first | k_is | rfl)
    (case a47 => first | k_is | rfl)
    (case l47 => first | k_is | rfl)
    (case c47 => first | k_is | rfl)
    (case k47 => first | k_is | rfl)
    (case a48 => first | k_is | rfl)
    (case l48 => first | k_is | rfl)
    (case c48 => first | k_is | rfl)
    (case k48 => first | k_is | rfl)
    (case a49 => first | k_is | rfl)
    (case l49 => first | k_is | rfl)
    (case c49 => first | k_is | rfl)
    (case k49 => first | k_is | rfl)
    (case a50 => first | k_is | rfl)
    (case l50 => first | k_is | rfl)
    (case c50 => first | k_is | rfl)
    (case k50 => first | k_is | rfl)
    (case zlen => first | k_is | rfl)
    (case zisinstance => first | k_is | rfl)
    (case zint => first | k_is | rfl)
    (case zbool => first | k_is | rfl)
    (case ztuple => first | k_is | rfl)
    (case zlist => first | k_is | rfl)
    (case zrange => first | k_is | rfl)
    (case zenumerate => first | k_is | rfl)
    (case zzip => first | k_is | rfl)
    (case zreversed => first | k_is | rfl)
    (case zmin => first | k_is | rfl)
    (case zsum => first | k_is | rfl)
    (case zsorted => first | k_is | rfl)
    (case zrepr => first | k_is | rfl)
    (case mU => first | k_is | rfl)
    (case mT => first | k_is | rfl)
    (case mR => first | k_is | rfl)
    (case mA => first | k_is | rfl)
    (case yg => first | k_is | rfl)
    (case ya => first | k_is | rfl)
    (case yr => first | k_is | rfl)
    (case yv => first | k_is | rfl)
    (case eaU => first | k_is | rfl)
    (case xlU => first | k_is | rfl)
    (case rvU => first | rfl | decide +kernel | k_is | rfl)
    (case saU => first | k_is | rfl)
    (case exU => first | k_is | rfl)
    (case tyU => first | k_is | rfl)
    (case kcU => first | k_is | rfl)
    (case fiU => first | k_is | rfl)
    (case tiU => first | k_is | rfl)
    (case elU => first | k_is | rfl)
    (case ecU => first | k_is | rfl)
    (case ekU => first | k_is | rfl)
    (case nU => first | k_is | rfl)
    (case eaR => first | k_is | rfl)
    (case xlR => first | k_is | rfl)
    (case rvR => first | rfl | decide +kernel | k_is | rfl)
    (case saR => first | k_is | rfl)
    (case exR => first | k_is | rfl)
    (case tyR => first | k_is | rfl)
    (case kcR => first | k_is | rfl)
    (case fiR => first | k_is | rfl)
    (case tiR => first | k_is | rfl)
    (case elR => first | k_is | rfl)
    (case ecR => first | k_is | rfl)
    (case ekR => first | k_is | rfl)
    (case nR => first | k_is | rfl)
    (case eaN => first | k_is | rfl)
    (case xlN => first | k_is | rfl)
    (case rvN => first | rfl | decide +kernel | k_is | rfl)
    (case saN => first | k_is | rfl)
    (case exN => first | k_is | rfl)
    (case tyN => first | k_is | rfl)
    (case kcN => first | k_is | rfl)
    (case fiN => first | k_is | rfl)
    (case tiN => first | k_is | rfl)
    (case elN => first | k_is | rfl)
    (case ecN => first | k_is | rfl)
    (case ekN => first | k_is | rfl)
    (case eN => first | k_is | rfl)
    (case gaU => first | k_is | rfl)
    (case ggU => first | k_is | rfl)
    (case gxU => first | k_is | rfl)
    (case ghU => first | k_is | rfl)
    (case gaR => first | k_is | rfl)
    (case ggR => first | k_is | rfl)
    (case gxR => first | k_is | rfl)
    (case ghR => first | k_is | rfl)
    (case eU => first | k_is | rfl)
    (case eRU => first | k_is | rfl)
    (case eR => first | k_is | rfl)
