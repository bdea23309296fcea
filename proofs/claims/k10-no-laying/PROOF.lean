import PyProof.Rows.All
import Wide.All
import OpenK.AllK
import Wide.FinOn
import HandS.ForMost
import HandS.ForExc
import HandS.IsInst
import HandS.ExcIs
import HandS.Wide
import HandS.Style
import HandS.Evl
import HandS.More
import HandS.StrMore
import HandS.Deep
import HandS.Defaults
import PySem.Challenge.RW_fewstones_k10_no_laying
set_option Elab.async false
set_option linter.all false
set_option maxRecDepth 100000
set_option maxHeartbeats 4000000
namespace Few
/-! plain mathematics of layings: no program in sight -/
/-- the load of a laying -/
def loadOf : List Int → Int
  | [] => 0
  | x :: r => 2 * loadOf r + x
def used (l : List Int) : Nat := (l.filter (fun x => decide (x ≠ 0))).length
/-- a thing of a laying -/
def Pm (x : Int) : Prop := x = 1 ∨ x = 0 ∨ x = -1
def Lay (l : List Int) : Prop := ∀ x ∈ l, Pm x
theorem Lay.tail {x : Int} {r : List Int} (h : Lay (x :: r)) : Lay r := fun y hy => h y (List.mem_cons_of_mem _ hy)
theorem Lay.head {x : Int} {r : List Int} (h : Lay (x :: r)) : Pm x := h x List.mem_cons_self
/-- neat, from the least weight on -/
def neatB : List Int → Bool
  | [] => true
  | [x] => decide (x ≠ 0)
  | x :: y :: r => (decide (x = 0) || decide (y = 0)) && neatB (y :: r)
def digit (n : Int) : Int := if n % 2 = 1 then 2 - n % 4 else 0
theorem digit_pm (n : Int) : Pm (digit n) := by
  unfold digit Pm
  split <;> omega
theorem digit_less (n : Int) (h : n ≠ 0) : ((n - digit n) / 2).natAbs < n.natAbs := by
  unfold digit
  split <;> omega
def laid (n : Int) : List Int := if h : n = 0 then [] else digit n :: laid ((n - digit n) / 2)
termination_by n.natAbs
decreasing_by exact digit_less n h
theorem laid_zero : laid 0 = [] := by
  rw [laid]
  exact dif_pos rfl
theorem laid_ne {n : Int} (h : n ≠ 0) : laid n = digit n :: laid ((n - digit n) / 2) := by
  rw [laid, dif_neg h]
theorem laid_even {n : Int} (h : n ≠ 0) : laid (2 * n) = 0 :: laid n := by
  have d : digit (2 * n) = 0 := by
    unfold digit
    rw [if_neg (by omega)]
  rw [laid_ne (show 2 * n ≠ 0 by omega), d]
  congr 2
  omega
theorem laid_41 (n : Int) : laid (4 * n + 1) = 1 :: laid (2 * n) := by
  have d : digit (4 * n + 1) = 1 := by
    unfold digit
    rw [if_pos (by omega)]
    omega
  rw [laid_ne (show 4 * n + 1 ≠ 0 by omega), d]
  congr 2
  omega
theorem laid_43 (n : Int) : laid (4 * n + 3) = -1 :: laid (2 * n + 2) := by
  have d : digit (4 * n + 3) = -1 := by
    unfold digit
    rw [if_pos (by omega)]
    omega
  rw [laid_ne (show 4 * n + 3 ≠ 0 by omega), d]
  congr 2
  omega
/-- induction along laid -/
theorem laid_ind {P : Int → Prop} (h0 : P 0) (hs : ∀ n, n ≠ 0 → P ((n - digit n) / 2) → P n) : ∀ n, P n := by
  have go : ∀ (k : Nat) (n : Int), n.natAbs ≤ k → P n := by
    intro k
    induction k with
    | zero =>
      intro n h
      have e : n = 0 := by omega
      rw [e]
      exact h0
    | succ k ih =>
      intro n h
      by_cases e : n = 0
      · rw [e]
        exact h0
      · have q := digit_less n e
        exact hs n e (ih _ (by omega))
  intro n
  exact go _ n (Nat.le_refl _)
theorem load_laid : ∀ n, loadOf (laid n) = n := by
  apply laid_ind
  · rw [laid_zero]
    rfl
  · intro n h ih
    rw [laid_ne h]
    show 2 * loadOf (laid ((n - digit n) / 2)) + digit n = n
    rw [ih]
    unfold digit
    split <;> omega
theorem lay_laid : ∀ n, Lay (laid n) := by
  apply laid_ind
  · rw [laid_zero]
    intro x hx
    cases hx
  · intro n h ih
    rw [laid_ne h]
    intro x hx
    rcases List.mem_cons.mp hx with e | e
    · rw [e]
      exact digit_pm n
    · exact ih x e
theorem laid_nil {n : Int} (h : laid n = []) : n = 0 := by
  by_cases e : n = 0
  · exact e
  · rw [laid_ne e] at h
    cases h
theorem neat_laid : ∀ n, neatB (laid n) = true := by
  apply laid_ind
  · rw [laid_zero]
    rfl
  · intro n h ih
    rw [laid_ne h]
    by_cases e : (n - digit n) / 2 = 0
    · rw [e, laid_zero]
      show decide (digit n ≠ 0) = true
      apply decide_eq_true
      unfold digit at e ⊢
      split at e <;> split <;> omega
    · rw [laid_ne e] at ih ⊢
      show ((decide (digit n = 0) || decide (digit ((n - digit n) / 2) = 0)) && neatB (digit ((n - digit n) / 2) :: laid (((n - digit n) / 2 - digit ((n - digit n) / 2)) / 2))) = true
      rw [ih, Bool.and_true]
      by_cases z : digit n = 0
      · rw [decide_eq_true z, Bool.true_or]
      · rw [Bool.or_eq_true]
        right
        apply decide_eq_true
        unfold digit at z ⊢
        split at z
        · rename_i o
          rw [if_pos o]
          rw [if_neg (by omega)]
        · exact absurd rfl z
theorem neat_tail {x : Int} {r : List Int} (h : neatB (x :: r) = true) : neatB r = true := by
  cases r with
  | nil => rfl
  | cons y r =>
    have h' : ((decide (x = 0) || decide (y = 0)) && neatB (y :: r)) = true := h
    rw [Bool.and_eq_true] at h'
    exact h'.2
theorem neat_two {x y : Int} {r : List Int} (h : neatB (x :: y :: r) = true) : x = 0 ∨ y = 0 := by
  have h' : ((decide (x = 0) || decide (y = 0)) && neatB (y :: r)) = true := h
  rw [Bool.and_eq_true, Bool.or_eq_true] at h'
  exact h'.1.imp of_decide_eq_true of_decide_eq_true
theorem neat_load_ne : ∀ {l : List Int}, Lay l → neatB l = true → l ≠ [] → loadOf l ≠ 0
  | [], _, _, h => absurd rfl h
  | [x], a, n, _ => by
    have e : x ≠ 0 := of_decide_eq_true n
    show 2 * 0 + x ≠ 0
    omega
  | x :: y :: r, a, n, _ => by
    have ih := neat_load_ne a.tail (neat_tail n) (List.cons_ne_nil y r)
    have p := a.head
    show 2 * loadOf (y :: r) + x ≠ 0
    unfold Pm at p
    omega
/-- each load has just one neat laying -/
theorem laid_load : ∀ {l : List Int}, Lay l → neatB l = true → laid (loadOf l) = l
  | [], _, _ => laid_zero
  | [x], a, n => by
    have e : x ≠ 0 := of_decide_eq_true n
    have p := a.head
    show laid (2 * 0 + x) = [x]
    rcases p with p | p | p
    · rw [p]
      have q := laid_41 0
      rw [show (2 : Int) * 0 = 0 from rfl, laid_zero] at q
      exact q
    · exact absurd p e
    · rw [p]
      have q := laid_43 (-1)
      rw [show (2 : Int) * -1 + 2 = 0 from rfl, laid_zero] at q
      exact q
  | x :: y :: r, a, n => by
    have ih := laid_load a.tail (neat_tail n)
    have ne := neat_load_ne a.tail (neat_tail n) (List.cons_ne_nil y r)
    have p := a.head
    have t := neat_two n
    show laid (2 * loadOf (y :: r) + x) = x :: y :: r
    rcases p with p | p | p
    · have hy : y = 0 := by omega
      subst hy p
      have e : loadOf (0 :: r) = 2 * loadOf r := by
        show 2 * loadOf r + 0 = 2 * loadOf r
        omega
      rw [e] at ih ⊢
      have q := laid_41 (loadOf r)
      rw [show 2 * (2 * loadOf r) + 1 = 4 * loadOf r + 1 by omega, q, ih]
    · subst p
      rw [Int.add_zero, laid_even ne, ih]
    · have hy : y = 0 := by omega
      subst hy p
      have e : loadOf (0 :: r) = 2 * loadOf r := by
        show 2 * loadOf r + 0 = 2 * loadOf r
        omega
      rw [e] at ih ⊢
      have q := laid_43 (loadOf r - 1)
      rw [show 4 * (loadOf r - 1) + 3 = 2 * (2 * loadOf r) + -1 by omega, show 2 * (loadOf r - 1) + 2 = 2 * loadOf r by omega, ih] at q
      exact q
/-! how long -/
theorem laid_len : ∀ (k : Nat) (n : Int), n.natAbs < 2 ^ k → (laid n).length ≤ k + 1
  | 0, n, h => by
    have e : n = 0 := by
      have : n.natAbs < 1 := h
      omega
    rw [e, laid_zero]
    exact Nat.zero_le _
  | k + 1, n, h => by
    by_cases e : n = 0
    · rw [e, laid_zero]
      exact Nat.zero_le _
    · rw [laid_ne e, List.length_cons]
      have h' : n.natAbs < 2 * 2 ^ k := by
        rw [Nat.pow_succ] at h
        omega
      by_cases b : ((n - digit n) / 2).natAbs < 2 ^ k
      · have := laid_len k _ b
        omega
      · -- only a half that is 2 ^ k itself
        have d := digit_pm n
        unfold Pm at d
        have e2 : ((n - digit n) / 2).natAbs = 2 ^ k := by
          unfold digit at b d ⊢
          split at b <;> rename_i o
          · rw [if_pos o]
            omega
          · rw [if_neg o]
            omega
        have : ∀ (k : Nat) (m : Int), m.natAbs = 2 ^ k → (laid m).length ≤ k + 1 := by
          intro k
          induction k with
          | zero =>
            intro m hm
            have hm' : m.natAbs = 1 := hm
            have : m = 1 ∨ m = -1 := by omega
            rcases this with z | z
            · rw [z]
              have q := laid_41 0
              rw [show (2 : Int) * 0 = 0 from rfl, laid_zero] at q
              rw [show (1 : Int) = 4 * 0 + 1 from rfl, q]
              exact Nat.le_refl _
            · rw [z]
              have q := laid_43 (-1)
              rw [show (2 : Int) * -1 + 2 = 0 from rfl, laid_zero] at q
              rw [show (-1 : Int) = 4 * -1 + 3 from rfl, q]
              exact Nat.le_refl _
          | succ k ih =>
            intro m hm
            rw [Nat.pow_succ] at hm
            have pos : 0 < 2 ^ k := Nat.two_pow_pos k
            obtain ⟨j, hj⟩ : ∃ j, m = 2 * j := ⟨m / 2, by omega⟩
            have hj0 : j ≠ 0 := by omega
            rw [hj, laid_even hj0, List.length_cons]
            have := ih j (by omega)
            omega
        have := this k _ e2
        omega
/-! as few as can be -/
def w (n : Int) : Nat := used (laid n)
theorem used_cons (x : Int) (r : List Int) : used (x :: r) = (if x = 0 then 0 else 1) + used r := by
  unfold used
  rw [List.filter_cons]
  by_cases e : x = 0
  · rw [if_neg (by simp [e]), if_pos e]
    omega
  · rw [if_pos (by simp [e]), if_neg e, List.length_cons]
    omega
theorem w_zero : w 0 = 0 := by
  unfold w
  rw [laid_zero]
  rfl
theorem w_even (n : Int) : w (2 * n) = w n := by
  by_cases e : n = 0
  · rw [e]
    rfl
  · unfold w
    rw [laid_even e, used_cons, if_pos rfl]
    omega
theorem w_41 (n : Int) : w (4 * n + 1) = w n + 1 := by
  rw [← w_even n]
  unfold w
  rw [laid_41, used_cons, if_neg (by decide)]
  omega
theorem w_43 (n : Int) : w (4 * n + 3) = w (n + 1) + 1 := by
  rw [← w_even (n + 1)]
  unfold w
  rw [laid_43, used_cons, if_neg (by decide), show 2 * (n + 1) = 2 * n + 2 by omega]
  omega
theorem w_near : ∀ (k : Nat) (n : Int), n.natAbs ≤ k → w n ≤ w (2 * n + 1) ∧ w (n + 1) ≤ w (2 * n + 1) ∧ w (2 * n + 1) ≤ w n + 1 ∧ w (2 * n + 1) ≤ w (n + 1) + 1 := by
  intro k
  induction k with
  | zero =>
    intro n h
    have e : n = 0 := by omega
    subst e
    have a := w_41 0
    rw [w_zero] at a
    rw [w_zero]
    have b : w (4 * 0 + 1) = w (0 + 1) := rfl
    have c : w (4 * 0 + 1) = w (2 * 0 + 1) := rfl
    omega
  | succ k ih =>
    intro n h
    by_cases z : n.natAbs ≤ k
    · exact ih n z
    · by_cases m1 : n = -1
      · subst m1
        have a := w_43 (-1)
        have b : w (4 * -1 + 3) = w (2 * -1 + 1) := rfl
        have c : w (-1 + 1) = w 0 := rfl
        have d : w (-1) = w (2 * -1 + 1) := rfl
        rw [c, w_zero] at a
        rw [d, c, w_zero]
        omega
      · rcases (show n % 2 = 0 ∨ n % 2 = 1 by omega) with e | e
        · obtain ⟨j, hj⟩ : ∃ j, n = 2 * j := ⟨n / 2, by omega⟩
          have q := ih j (by omega)
          subst hj
          have a := w_41 j
          have b := w_even j
          rw [show 2 * (2 * j) + 1 = 4 * j + 1 by omega]
          omega
        · obtain ⟨j, hj⟩ : ∃ j, n = 2 * j + 1 := ⟨n / 2, by omega⟩
          have q := ih j (by omega)
          subst hj
          have a := w_43 j
          have b := w_even (j + 1)
          rw [show 2 * (2 * j + 1) + 1 = 4 * j + 3 by omega, show 2 * j + 1 + 1 = 2 * (j + 1) by omega]
          omega
theorem w_step (n : Int) : w (n + 1) ≤ w n + 1 ∧ w n ≤ w (n + 1) + 1 := by
  rcases (show n % 2 = 0 ∨ n % 2 = 1 by omega) with e | e
  · obtain ⟨j, hj⟩ : ∃ j, n = 2 * j := ⟨n / 2, by omega⟩
    have q := w_near _ j (Nat.le_refl _)
    have b := w_even j
    subst hj
    omega
  · obtain ⟨j, hj⟩ : ∃ j, n = 2 * j + 1 := ⟨n / 2, by omega⟩
    have q := w_near _ j (Nat.le_refl _)
    have b := w_even (j + 1)
    subst hj
    rw [show 2 * j + 1 + 1 = 2 * (j + 1) by omega]
    omega
theorem w_put (n : Int) : w (n + 1) ≤ w n + 1 := (w_step n).1
theorem w_take (n : Int) : w (n - 1) ≤ w n + 1 := by
  have q := (w_step (n - 1)).2
  rw [show n - 1 + 1 = n by omega] at q
  exact q
/-- no laying of the same load uses fewer stones -/
theorem w_least : ∀ {l : List Int}, Lay l → w (loadOf l) ≤ used l
  | [], _ => by
    show w 0 ≤ 0
    rw [w_zero]
    exact Nat.le_refl _
  | x :: r, a => by
    have ih := w_least a.tail
    have p := a.head
    have e := w_even (loadOf r)
    rw [used_cons]
    show w (2 * loadOf r + x) ≤ _
    rcases p with p | p | p
    · subst p
      have q := w_put (2 * loadOf r)
      rw [if_neg (by decide)]
      omega
    · subst p
      rw [if_pos rfl, Int.add_zero]
      omega
    · subst p
      have q := w_take (2 * loadOf r)
      rw [if_neg (by decide)]
      rw [show 2 * loadOf r + -1 = 2 * loadOf r - 1 by omega]
      omega
/-! parted -/
theorem load_append : ∀ (a b : List Int), loadOf (a ++ b) = loadOf a + 2 ^ a.length * loadOf b
  | [], b => by
    show loadOf b = 0 + 2 ^ 0 * loadOf b
    rw [show (2 : Int) ^ 0 = 1 from rfl]
    omega
  | x :: r, b => by
    show 2 * loadOf (r ++ b) + x = 2 * loadOf r + x + 2 ^ (r.length + 1) * loadOf b
    rw [load_append r b, Int.pow_succ, Int.mul_add, Int.mul_comm (2 ^ r.length) 2, Int.mul_assoc]
    omega
theorem load_noughts (n : Nat) : loadOf (List.replicate n 0) = 0 := by
  induction n with
  | zero => rfl
  | succ n ih =>
    show 2 * loadOf (List.replicate n 0) + 0 = 0
    rw [ih]
    rfl
/-- no two neighbours used -/
def apartB : List Int → Bool
  | [] => true
  | [_] => true
  | x :: y :: r => (decide (x = 0) || decide (y = 0)) && apartB (y :: r)
theorem apart_tail {x : Int} {r : List Int} (h : apartB (x :: r) = true) : apartB r = true := by
  cases r with
  | nil => rfl
  | cons y r =>
    have h' : ((decide (x = 0) || decide (y = 0)) && apartB (y :: r)) = true := h
    rw [Bool.and_eq_true] at h'
    exact h'.2
theorem apart_two {x y : Int} {r : List Int} (h : apartB (x :: y :: r) = true) : x = 0 ∨ y = 0 := by
  have h' : ((decide (x = 0) || decide (y = 0)) && apartB (y :: r)) = true := h
  rw [Bool.and_eq_true, Bool.or_eq_true] at h'
  exact h'.1.imp of_decide_eq_true of_decide_eq_true
theorem apart_of_neat : ∀ {l : List Int}, neatB l = true → apartB l = true
  | [], _ => rfl
  | [_], _ => rfl
  | x :: y :: r, h => by
    have h' : ((decide (x = 0) || decide (y = 0)) && neatB (y :: r)) = true := h
    rw [Bool.and_eq_true] at h'
    show ((decide (x = 0) || decide (y = 0)) && apartB (y :: r)) = true
    rw [h'.1, apart_of_neat h'.2]
    rfl
theorem apart_bound : ∀ {l : List Int}, Lay l → apartB l = true → 3 * (loadOf l).natAbs < 2 ^ (l.length + 1)
  | [], _, _ => by
    show 3 * 0 < 2 ^ (0 + 1)
    decide
  | [x], a, _ => by
    have p := a.head
    show 3 * (2 * 0 + x).natAbs < 2 ^ (1 + 1)
    unfold Pm at p
    rw [show 2 ^ (1 + 1) = 4 from rfl]
    omega
  | x :: y :: r, a, n => by
    have p := a.head
    have t := apart_two n
    by_cases hx : x = 0
    · have ih := apart_bound a.tail (apart_tail n)
      subst hx
      show 3 * (2 * loadOf (y :: r) + 0).natAbs < 2 ^ ((y :: r).length + 1 + 1)
      rw [Nat.pow_succ]
      omega
    · have hy : y = 0 := by
        rcases t with t | t
        · exact absurd t hx
        · exact t
      subst hy
      have ih := apart_bound a.tail.tail (apart_tail (apart_tail n))
      show 3 * (2 * (2 * loadOf r + 0) + x).natAbs < 2 ^ (r.length + 1 + 1 + 1)
      rw [Nat.pow_succ, Nat.pow_succ]
      unfold Pm at p
      have pos : 2 ≤ 2 ^ (r.length + 1) := by
        rw [Nat.pow_succ]
        have := Nat.two_pow_pos r.length
        omega
      omega
end Few
namespace Few
/-! ended -/
def ended : List Int → List Int
  | [] => []
  | x :: r => if ended r = [] ∧ x = 0 then [] else x :: ended r
theorem ended_snoc0 : ∀ l : List Int, ended (l ++ [0]) = ended l
  | [] => by decide
  | x :: r => by
    show (if ended (r ++ [0]) = [] ∧ x = 0 then [] else x :: ended (r ++ [0])) = (if ended r = [] ∧ x = 0 then [] else x :: ended r)
    rw [ended_snoc0 r]
theorem ended_snoc : ∀ (l : List Int) {x : Int}, x ≠ 0 → ended (l ++ [x]) = l ++ [x]
  | [], x, h => by
    show (if ended [] = [] ∧ x = 0 then [] else x :: ended []) = [x]
    rw [if_neg (fun z => h z.2)]
    rfl
  | y :: r, x, h => by
    show (if ended (r ++ [x]) = [] ∧ y = 0 then [] else y :: ended (r ++ [x])) = y :: (r ++ [x])
    rw [ended_snoc r h, if_neg (fun z => by simp at z)]
/-- a list is its end's, by its last thing -/
theorem last_cases (l : List Int) : l = [] ∨ ∃ r x, l = r ++ [x] := by
  rcases List.eq_nil_or_concat l with h | ⟨r, x, h⟩
  · exact .inl h
  · exact .inr ⟨r, x, by rw [h]; simp⟩
theorem load_ended : ∀ l : List Int, loadOf (ended l) = loadOf l
  | [] => rfl
  | x :: r => by
    have ih := load_ended r
    show loadOf (if ended r = [] ∧ x = 0 then [] else x :: ended r) = 2 * loadOf r + x
    by_cases c : ended r = [] ∧ x = 0
    · rw [if_pos c]
      rw [c.1] at ih
      rw [← ih, c.2]
      rfl
    · rw [if_neg c, ← ih]
      rfl
theorem lay_ended {l : List Int} (h : Lay l) : Lay (ended l) := by
  have key : ∀ l : List Int, ∀ x ∈ ended l, x ∈ l := by
    intro l
    induction l with
    | nil =>
      intro x hx
      exact hx
    | cons y r ih =>
      intro x hx
      have hx' : x ∈ (if ended r = [] ∧ y = 0 then [] else y :: ended r) := hx
      by_cases c : ended r = [] ∧ y = 0
      · rw [if_pos c] at hx'
        cases hx'
      · rw [if_neg c] at hx'
        rcases List.mem_cons.mp hx' with e | e
        · rw [e]
          exact List.mem_cons_self
        · exact List.mem_cons_of_mem _ (ih x e)
  exact fun x hx => h x (key l x hx)
theorem ended_len : ∀ l : List Int, (ended l).length ≤ l.length
  | [] => Nat.le_refl _
  | x :: r => by
    have ih := ended_len r
    show (if ended r = [] ∧ x = 0 then [] else x :: ended r).length ≤ r.length + 1
    by_cases c : ended r = [] ∧ x = 0
    · rw [if_pos c]
      exact Nat.zero_le _
    · rw [if_neg c, List.length_cons]
      omega
/-- ended, and apart: neat -/
theorem neat_iff : ∀ l : List Int, neatB l = (apartB l && decide (ended l = l))
  | [] => by decide
  | [x] => by
    show decide (x ≠ 0) = (true && decide ((if ended [] = [] ∧ x = 0 then [] else x :: ended []) = [x]))
    rw [Bool.true_and]
    by_cases h : x = 0
    · subst h
      decide
    · rw [if_neg (fun z => h z.2)]
      simp [h, ended]
  | x :: y :: r => by
    have ih := neat_iff (y :: r)
    show ((decide (x = 0) || decide (y = 0)) && neatB (y :: r)) = (((decide (x = 0) || decide (y = 0)) && apartB (y :: r)) && decide ((if ended (y :: r) = [] ∧ x = 0 then [] else x :: ended (y :: r)) = x :: y :: r))
    rw [ih, Bool.and_assoc]
    congr 2
    by_cases c : ended (y :: r) = [] ∧ x = 0
    · rw [if_pos c, c.1]
      simp
    · rw [if_neg c]
      simp
theorem load_bound : ∀ {l : List Int}, Lay l → (loadOf l).natAbs < 2 ^ l.length
  | [], _ => by decide
  | x :: r, h => by
    have ih := load_bound h.tail
    have p := h.head
    show (2 * loadOf r + x).natAbs < 2 ^ (r.length + 1)
    rw [Nat.pow_succ]
    unfold Pm at p
    omega
theorem laid_load_len {l : List Int} (h : Lay l) : (laid (loadOf l)).length ≤ l.length + 1 := laid_len _ _ (load_bound h)
/-! a laying turned about -/
theorem lay_neg {l : List Int} (h : Lay l) : Lay (l.map fun x => -x) := by
  intro x hx
  obtain ⟨y, hy, rfl⟩ := List.mem_map.mp hx
  have := h y hy
  unfold Pm at *
  omega
theorem load_neg : ∀ l : List Int, loadOf (l.map fun x => -x) = - loadOf l
  | [] => rfl
  | x :: r => by
    show 2 * loadOf (r.map fun x => -x) + -x = -(2 * loadOf r + x)
    rw [load_neg r]
    omega
theorem lay_take {l : List Int} (h : Lay l) (n : Nat) : Lay (l.take n) := fun x hx => h x (List.mem_of_mem_take hx)
theorem lay_drop {l : List Int} (h : Lay l) (n : Nat) : Lay (l.drop n) := fun x hx => h x (List.mem_of_mem_drop hx)
theorem lay_append {a b : List Int} (h : Lay a) (h2 : Lay b) : Lay (a ++ b) := fun x hx => (List.mem_append.mp hx).elim (h x) (h2 x)
theorem lay_zeros (n : Nat) : Lay (List.replicate n 0) := fun x hx => by
  rw [(List.mem_replicate.mp hx).2]
  exact .inr (.inl rfl)
theorem lay_nil : Lay [] := fun x h => by cases h
theorem lay_cons {x : Int} {l : List Int} (p : Pm x) (h : Lay l) : Lay (x :: l) := fun y hy => by
  rcases List.mem_cons.mp hy with e | e
  · rw [e]
    exact p
  · exact h y e
end Few
namespace Few
/-- the last thing met, b where none was -/
def beforeOf (b : Int) (l : List Int) : Int := match l.getLast? with
  | some x => x
  | none => b
theorem before_take {ns : List Int} {i : Nat} {n : Int} (h : ns[i]? = some n) : beforeOf 0 (ns.take (i + 1)) = n := by
  unfold beforeOf
  rw [List.take_add_one, h]
  simp
theorem apart_snoc : ∀ (l : List Int) (x : Int), apartB (l ++ [x]) = (apartB l && (decide (beforeOf 0 l = 0) || decide (x = 0)))
  | [], x => by simp [apartB, beforeOf]
  | [y], x => by
    show ((decide (y = 0) || decide (x = 0)) && true) = (true && (decide (y = 0) || decide (x = 0)))
    rw [Bool.and_true, Bool.true_and]
  | y :: z :: r, x => by
    have ih := apart_snoc (z :: r) x
    have e : beforeOf 0 (y :: z :: r) = beforeOf 0 (z :: r) := by
      unfold beforeOf
      rw [List.getLast?_cons_cons]
    show ((decide (y = 0) || decide (z = 0)) && apartB ((z :: r) ++ [x])) = (((decide (y = 0) || decide (z = 0)) && apartB (z :: r)) && (decide (beforeOf 0 (y :: z :: r) = 0) || decide (x = 0)))
    rw [ih, e, Bool.and_assoc]
theorem apart_take_all : ∀ {l : List Int} (k : Nat), apartB (l.take k) = false → apartB l = false
  | [], k, h => by simp [apartB] at h
  | [x], k, h => by
    cases k with
    | zero => cases h
    | succ k => simp [apartB] at h
  | x :: y :: r, 0, h => by cases h
  | x :: y :: r, 1, h => by cases h
  | x :: y :: r, k + 2, h => by
    have h' : ((decide (x = 0) || decide (y = 0)) && apartB ((y :: r).take (k + 1))) = false := h
    show ((decide (x = 0) || decide (y = 0)) && apartB (y :: r)) = false
    rw [Bool.and_eq_false_iff] at h' ⊢
    exact h'.imp id fun q => apart_take_all (k + 1) q
theorem apart_step {ns : List Int} {i : Nat} {n b : Int} (h : ns[i]? = some n) (ha : apartB (ns.take i) = true) (hb : beforeOf 0 (ns.take i) = b) :
    ((!decide (b = 0) && !decide (n = 0)) = false → apartB (ns.take (i + 1)) = true) ∧ ((!decide (b = 0) && !decide (n = 0)) = true → apartB ns = false) := by
  have e : apartB (ns.take (i + 1)) = (decide (b = 0) || decide (n = 0)) := by
    rw [List.take_add_one, h, Option.toList, apart_snoc, ha, hb, Bool.true_and]
  refine ⟨fun z => ?_, fun z => apart_take_all (i + 1) ?_⟩
  · rw [e]
    revert z
    cases decide (b = 0) <;> cases decide (n = 0) <;> intro z <;> first | rfl | exact absurd z (by decide)
  · rw [e]
    revert z
    cases decide (b = 0) <;> cases decide (n = 0) <;> intro z <;> first | rfl | exact absurd z (by decide)
theorem neat_by_last (ns : List Int) {b : Int} (hb : beforeOf 0 ns = b) (ha : apartB ns = true) : neatB ns = (decide (ns = []) || !decide (b = 0)) := by
  rw [neat_iff, ha, Bool.true_and]
  rcases last_cases ns with h | ⟨r, x, h⟩
  · subst h
    rfl
  · subst h
    have e : b = x := by
      rw [← hb]
      unfold beforeOf
      simp
    subst e
    by_cases z : b = 0
    · subst z
      rw [ended_snoc0]
      have l := ended_len r
      have ne : ¬ ended r = r ++ [0] := fun q => by
        rw [q, List.length_append] at l
        simp at l
        omega
      simp [ne]
    · rw [ended_snoc r z]
      simp [z]
end Few
namespace Few
/-! a neat laying spoilt -/
theorem apart_mid : ∀ (a : List Int) {x y : Int} (b : List Int), x ≠ 0 → y ≠ 0 → apartB (a ++ x :: y :: b) = false
  | [], x, y, b, hx, hy => by
    show ((decide (x = 0) || decide (y = 0)) && apartB (y :: b)) = false
    rw [decide_eq_false hx, decide_eq_false hy]
    rfl
  | [z], x, y, b, hx, hy => by
    have ih := apart_mid [] b hx hy
    show ((decide (z = 0) || decide (x = 0)) && apartB (x :: y :: b)) = false
    have e : apartB (x :: y :: b) = false := ih
    rw [e, Bool.and_false]
  | z :: w :: r, x, y, b, hx, hy => by
    have ih := apart_mid (w :: r) b hx hy
    show ((decide (z = 0) || decide (w = 0)) && apartB (w :: (r ++ x :: y :: b))) = false
    have e : apartB (w :: (r ++ x :: y :: b)) = false := ih
    rw [e, Bool.and_false]
theorem neat_not_apart {l : List Int} (h : apartB l = false) : neatB l = false := by
  rw [neat_iff, h, Bool.false_and]
theorem ended_zeros (l : List Int) : ∀ n : Nat, ended (l ++ List.replicate n 0) = ended l
  | 0 => by simp
  | n + 1 => by
    rw [List.replicate_succ', ← List.append_assoc, ended_snoc0, ended_zeros l n]
theorem neat_zeros (l : List Int) (n : Nat) (h : 0 < n) : neatB (l ++ List.replicate n 0) = false := by
  rw [neat_iff, ended_zeros]
  have e := ended_len l
  have ne : ¬ ended l = l ++ List.replicate n 0 := fun z => by
    rw [z, List.length_append, List.length_replicate] at e
    omega
  rw [decide_eq_false ne, Bool.and_false]
/-- ended of a laying that is apart is neat -/
theorem apart_ended : ∀ {l : List Int}, apartB l = true → apartB (ended l) = true
  | [], _ => rfl
  | [x], _ => by
    show apartB (if ended [] = [] ∧ x = 0 then [] else x :: ended []) = true
    split <;> rfl
  | x :: y :: r, h => by
    have ih := apart_ended (apart_tail h)
    have t := apart_two h
    have e : ended (y :: r) = (if ended r = [] ∧ y = 0 then [] else y :: ended r) := rfl
    show apartB (if ended (y :: r) = [] ∧ x = 0 then [] else x :: ended (y :: r)) = true
    by_cases c : ended (y :: r) = [] ∧ x = 0
    · rw [if_pos c]
      rfl
    · rw [if_neg c]
      rw [e] at ih ⊢
      by_cases c2 : ended r = [] ∧ y = 0
      · rw [if_pos c2]
        rfl
      · rw [if_neg c2] at ih ⊢
        show ((decide (x = 0) || decide (y = 0)) && apartB (y :: ended r)) = true
        rw [ih, Bool.and_true, Bool.or_eq_true]
        exact t.imp decide_eq_true decide_eq_true
theorem ended_ended : ∀ l : List Int, ended (ended l) = ended l
  | [] => rfl
  | x :: r => by
    have ih := ended_ended r
    show ended (if ended r = [] ∧ x = 0 then [] else x :: ended r) = (if ended r = [] ∧ x = 0 then [] else x :: ended r)
    by_cases c : ended r = [] ∧ x = 0
    · rw [if_pos c]
      rfl
    · rw [if_neg c]
      show (if ended (ended r) = [] ∧ x = 0 then [] else x :: ended (ended r)) = x :: ended r
      rw [ih, if_neg c]
theorem neat_ended {l : List Int} (h : apartB l = true) : neatB (ended l) = true := by
  rw [neat_iff, apart_ended h, ended_ended, decide_eq_true rfl]
  rfl
theorem apart_zeros : ∀ n : Nat, apartB (List.replicate n 0) = true
  | 0 => rfl
  | 1 => rfl
  | n + 2 => by
    have ih := apart_zeros (n + 1)
    show ((decide ((0 : Int) = 0) || decide ((0 : Int) = 0)) && apartB (0 :: List.replicate n 0)) = true
    have e : apartB (0 :: List.replicate n 0) = true := ih
    rw [e]
    rfl
theorem before_snoc (l : List Int) (x : Int) : beforeOf 0 (l ++ [x]) = x := by
  unfold beforeOf
  simp
end Few
namespace Few
/-! parted -/
theorem parts_load (es : List Int) (j : Nat) : loadOf (es.drop j) * 2 ^ j + loadOf (es.take j) = loadOf es := by
  have h := load_append (es.take j) (es.drop j)
  rw [List.take_append_drop] at h
  rcases Nat.le_total j es.length with c | c
  · rw [List.length_take, Nat.min_eq_left c] at h
    rw [h, Int.mul_comm]
    omega
  · rw [List.drop_of_length_le c] at h ⊢
    have z : loadOf [] = 0 := rfl
    rw [z] at h ⊢
    rw [h]
    omega
theorem apart_take : ∀ {l : List Int} (k : Nat), apartB l = true → apartB (l.take k) = true := by
  intro l k h
  cases c : apartB (l.take k) with
  | true => rfl
  | false =>
    rw [apart_take_all k c] at h
    cases h
theorem apart_drop : ∀ {l : List Int} (k : Nat), apartB l = true → apartB (l.drop k) = true
  | [], k, h => by
    rw [List.drop_nil]
    exact h
  | x :: r, 0, h => h
  | x :: r, k + 1, h => apart_drop k (apart_tail h)
theorem low_bound {es : List Int} (h : Lay es) (ha : apartB es = true) (j : Nat) : 3 * (loadOf (es.take j)).natAbs < 2 ^ (j + 1) := by
  have b := apart_bound (lay_take h j) (apart_take j ha)
  have m : 2 ^ ((es.take j).length + 1) ≤ 2 ^ (j + 1) := Nat.pow_le_pow_right (by decide) (by rw [List.length_take]; omega)
  omega
end Few
/-! plans -/
inductive Wd where
  | dbl | put | tak
  deriving DecidableEq
namespace Few
def wstep (num : Int) (s : Int) : Wd → Int
  | .dbl => 2 * s
  | .put => s + num
  | .tak => s - num
/-- what a plan comes to with a number -/
def walkOf (num : Int) (ws : List Wd) : Int := ws.foldl (wstep num) 0
def costOf (ws : List Wd) : Nat := (ws.filter fun w => decide (w ≠ .dbl)).length
theorem walk_snoc (num : Int) (ws : List Wd) (w : Wd) : walkOf num (ws ++ [w]) = wstep num (walkOf num ws) w := by
  unfold walkOf
  rw [List.foldl_append]
  rfl
theorem cost_snoc (ws : List Wd) (w : Wd) : costOf (ws ++ [w]) = costOf ws + if w = .dbl then 0 else 1 := by
  unfold costOf
  rw [List.filter_append, List.length_append]
  by_cases h : w = .dbl
  · subst h
    rfl
  · rw [if_neg h]
    simp [h]
/-- one thing more of a laying, from its end on -/
def ptail (x : Int) : List Wd := if x = 1 then [.put] else if x = -1 then [.tak] else []
theorem ptail_1 : ptail 1 = [.put] := rfl
theorem ptail_0 : ptail 0 = [] := rfl
theorem ptail_m : ptail (-1) = [.tak] := rfl
def pstep (p : List Wd) (x : Int) : List Wd := (if p = [] then p else p ++ [.dbl]) ++ ptail x
def planAux (xs : List Int) : List Wd := xs.foldl pstep []
def planOf (n : Int) : List Wd := planAux (laid n).reverse
theorem plan_snoc (xs : List Int) (x : Int) : planAux (xs ++ [x]) = pstep (planAux xs) x := by
  unfold planAux
  rw [List.foldl_append]
  rfl
theorem pstep_walk (num : Int) {p : List Wd} {x : Int} (hx : Pm x) : walkOf num (pstep p x) = 2 * walkOf num p + x * num := by
  have e : walkOf num (if p = [] then p else p ++ [.dbl]) = 2 * walkOf num p := by
    by_cases h : p = []
    · rw [if_pos h, h]
      rfl
    · rw [if_neg h, walk_snoc]
      rfl
  unfold pstep
  rcases hx with z | z | z
  · rw [z, ptail_1, walk_snoc, e]
    show _ + num = _ + 1 * num
    omega
  · rw [z, ptail_0, List.append_nil, e]
    omega
  · rw [z, ptail_m, walk_snoc, e]
    show _ - num = _ + -1 * num
    omega
theorem pstep_cost {p : List Wd} {x : Int} (hx : Pm x) : costOf (pstep p x) = costOf p + if x = 0 then 0 else 1 := by
  have e : costOf (if p = [] then p else p ++ [.dbl]) = costOf p := by
    by_cases h : p = []
    · rw [if_pos h]
    · rw [if_neg h, cost_snoc, if_pos rfl]
      rfl
  unfold pstep
  rcases hx with z | z | z
  · rw [z, ptail_1, cost_snoc, e]
    rfl
  · rw [z, ptail_0, List.append_nil, e]
    rfl
  · rw [z, ptail_m, cost_snoc, e]
    rfl
theorem pstep_len (p : List Wd) (x : Int) : (pstep p x).length ≤ p.length + 2 := by
  unfold pstep
  rw [List.length_append]
  have a : (if p = [] then p else p ++ [.dbl]).length ≤ p.length + 1 := by
    split
    · omega
    · rw [List.length_append]
      exact Nat.le_refl _
  have b : (ptail x).length ≤ 1 := by
    unfold ptail
    split
    · exact Nat.le_refl _
    · split
      · exact Nat.le_refl _
      · exact Nat.zero_le _
  omega
theorem plan_aux (num : Int) : ∀ {l : List Int}, Lay l → walkOf num (planAux l.reverse) = loadOf l * num ∧ costOf (planAux l.reverse) = used l ∧ (planAux l.reverse).length ≤ 2 * l.length
  | [], _ => ⟨by show (0 : Int) = 0 * num; omega, rfl, Nat.le_refl _⟩
  | x :: r, h => by
    obtain ⟨a, b, c⟩ := plan_aux num h.tail
    have px := h.head
    have d := pstep_len (planAux r.reverse) x
    rw [List.reverse_cons, plan_snoc, pstep_walk num px, pstep_cost px, a, b, used_cons, List.length_cons]
    refine ⟨?_, by omega, by omega⟩
    show 2 * (loadOf r * num) + x * num = (2 * loadOf r + x) * num
    rw [Int.add_mul, Int.mul_assoc]
theorem plan_walk (num n : Int) : walkOf num (planOf n) = n * num := by
  have h := (plan_aux num (lay_laid n)).1
  rw [load_laid] at h
  exact h
theorem plan_cost (n : Int) : costOf (planOf n) = used (laid n) := (plan_aux 1 (lay_laid n)).2.1
theorem plan_len (n : Int) : (planOf n).length ≤ 2 * (laid n).length := (plan_aux 1 (lay_laid n)).2.2
/-- no plan that comes to the same load costs less -/
theorem plan_least (ws : List Wd) : w (walkOf 1 ws) ≤ costOf ws := by
  have key : ∀ (k : Nat) (ws : List Wd), ws.length = k → w (walkOf 1 ws) ≤ costOf ws := by
    intro k
    induction k with
    | zero =>
      intro ws h
      have e : ws = [] := List.length_eq_zero_iff.mp h
      rw [e]
      show w 0 ≤ 0
      rw [w_zero]
      exact Nat.le_refl _
    | succ k ih =>
      intro ws h
      rcases List.eq_nil_or_concat ws with z | ⟨r, x, z⟩
      · rw [z] at h
        cases h
      · have z' : ws = r ++ [x] := by rw [z]; simp
        subst z'
        have hr : r.length = k := by
          rw [List.length_append] at h
          simp at h
          exact h
        have q := ih r hr
        rw [walk_snoc, cost_snoc]
        cases x with
        | dbl =>
          show w (2 * walkOf 1 r) ≤ costOf r + 0
          rw [w_even]
          exact q
        | put =>
          have s := w_put (walkOf 1 r)
          show w (walkOf 1 r + 1) ≤ costOf r + 1
          omega
        | tak =>
          have s := w_take (walkOf 1 r)
          show w (walkOf 1 r - 1) ≤ costOf r + 1
          omega
  exact key _ ws rfl
theorem plan_none_less (ws : List Wd) : costOf (planOf (walkOf 1 ws)) ≤ costOf ws := by
  rw [plan_cost]
  exact plan_least ws
theorem walk_bound (ws : List Wd) : (walkOf 1 ws).natAbs < 2 ^ (2 * ws.length + 1) := by
  have key : ∀ (k : Nat) (ws : List Wd), ws.length = k → (walkOf 1 ws).natAbs < 2 ^ (2 * k + 1) := by
    intro k
    induction k with
    | zero =>
      intro ws h
      have e : ws = [] := List.length_eq_zero_iff.mp h
      rw [e]
      decide
    | succ k ih =>
      intro ws h
      rcases List.eq_nil_or_concat ws with z | ⟨r, x, z⟩
      · rw [z] at h
        cases h
      · have z' : ws = r ++ [x] := by rw [z]; simp
        subst z'
        have hr : r.length = k := by
          rw [List.length_append] at h
          simp at h
          exact h
        have q := ih r hr
        rw [walk_snoc, show 2 * (k + 1) + 1 = (2 * k + 1) + 1 + 1 by omega, Nat.pow_succ, Nat.pow_succ]
        have pos := Nat.two_pow_pos (2 * k + 1)
        generalize 2 ^ (2 * k + 1) = M at q pos
        cases x with
        | dbl =>
          show (2 * walkOf 1 r).natAbs < _
          omega
        | put =>
          show (walkOf 1 r + 1).natAbs < _
          omega
        | tak =>
          show (walkOf 1 r - 1).natAbs < _
          omega
  exact key _ ws rfl
end Few

namespace Fw
open PySem PySem.Spec PyProof.Rows L2 Evl
/-! addresses of the program's classes and constants -/
structure Ad where
  stone : Addr
  laying : Addr
  load : Addr
  plan : Addr
  text : Addr
  deed : Addr
  scale : Addr
  words : Addr
def A0 : Ad := ⟨0, 0, 0, 0, 0, 0, 0, 0⟩
/-! short words for what the operators' rules ask -/
abbrev rAddI : R2 := rI0 fun i j => .int (i + j)
abbrev rSubI : R2 := rI0 fun i j => .int (i - j)
abbrev rMulI : R2 := rI CMul fun i j => .int (i * j)
abbrev rMulW : R2 := rI CMulW fun i j => .int (i * j)
abbrev rModI : R2 := rI (fun _ j => 0 < j) fun i j => .int (i % j)
abbrev rDivI : R2 := rI CDiv fun i j => .int (i / j)
abbrev rPowI : R2 := rI CPow fun i j => .int (i ^ j.toNat)
abbrev rLtI : R2 := rI0 fun i j => .bl (decide (i < j))
abbrev rLeI : R2 := rI0 fun i j => .bl (decide (i ≤ j))
abbrev rGtI : R2 := rI0 fun i j => .bl (decide (j < i))
abbrev rGeI : R2 := rI0 fun i j => .bl (decide (j ≤ i))
abbrev rNegI : V → Hp → VK → Prop := rU fun i => .int (-i)
abbrev rIsNn : R2 := fun x y H Q => y = .non ∧ Q (.bl (decide (x = .non))) H
abbrev rNotNn : R2 := fun x y H Q => y = .non ∧ Q (.bl (!decide (x = .non))) H
abbrev rAbsI : List V → Hp → VK → Prop := fun xs H Q => ∃ i, xs = [.int i] ∧ Q (.int (if i < 0 then -i else i)) H
abbrev rIntB : List V → Hp → VK → Prop := fun xs H Q => (∃ i, xs = [.int i] ∧ Q (.int i) H) ∨ ∃ k, xs = [.bl k] ∧ Q (.int (if k then 1 else 0)) H
/-- raise of an own class's new instance -/
def tRaiseC (C : Addr) (E : XK) : TS := fun _ _ H => E (.ref C) none H
section
variable {K : PySem.W.Frag} {σ : L2.St} {H H' : Hp} {ta tb te tx : TE} {t u : TT} {x y z v : V} {r : R2}
/-! a value with something true of it -/
def EvX (te : TE) (σ : L2.St) (H : Hp) (P : V → Hp → Prop) : Prop := ∀ H1, Ex H H1 → ∀ Q : VK, (∀ v H2, Ex H1 H2 → P v H2 → Q v H2) → te σ H1 Q
def EaX (ta : TA) (σ : L2.St) (H : Hp) (P : List V → Hp → Prop) : Prop := ∀ H1, Ex H H1 → ∀ Q : List V → Hp → Prop, (∀ vs H2, Ex H1 H2 → P vs H2 → Q vs H2) → ta σ H1 Q
/-- what stays true while the heap grows -/
def Mono (P : V → Hp → Prop) : Prop := ∀ v H H', Ex H H' → P v H → P v H'
/-- a list of whole numbers -/
def IL (K : PySem.W.Frag) (ns : List Int) (v : V) (H : Hp) : Prop := ∃ a, v = .ref a ∧ SqL K H a (ns.map V.int)
/-- a list of values -/
def VL (K : PySem.W.Frag) (xs : List V) (v : V) (H : Hp) : Prop := ∃ a, v = .ref a ∧ SqL K H a xs
/-- a list that can be written -/
def ML (xs : List V) (v : V) (H : Hp) : Prop := ∃ a, v = .ref a ∧ H a = some (.lst xs)
def Is (x : V) (v : V) (_ : Hp) : Prop := v = x
theorem mono_is : Mono (Is x) := fun _ _ _ _ h => h
theorem mono_il {ns : List Int} : Mono (IL K ns) := fun _ _ _ e ⟨a, h, s⟩ => ⟨a, h, ex_l e s⟩
theorem mono_vl {xs : List V} : Mono (VL K xs) := fun _ _ _ e ⟨a, h, s⟩ => ⟨a, h, ex_l e s⟩
theorem mono_ml {xs : List V} : Mono (ML xs) := fun _ _ _ e ⟨a, h, s⟩ => ⟨a, h, e _ _ s⟩
theorem x_v (h : Ev te σ H v) : EvX te σ H (Is v) := fun H1 e Q q => h H1 e Q fun H2 e2 => q v H2 e2 rfl
theorem x_of {P : V → Hp → Prop} (h : Ev te σ H v) (m : Mono P) (p : P v H) : EvX te σ H P := fun H1 e Q q => h H1 e Q fun H2 e2 => q v H2 e2 (m _ _ _ (e.trans e2) p)
theorem x_il {a : Addr} {ns : List Int} (h : Ev te σ H (.ref a)) (p : SqL K H a (ns.map V.int)) : EvX te σ H (IL K ns) := x_of h mono_il ⟨a, rfl, p⟩
theorem x_ilL {ns : List Int} (h : EvL te σ H (ns.map V.int)) : EvX te σ H (IL K ns) := fun H1 e Q q => h H1 e Q fun p H2 _ e2 hp => q _ H2 e2 ⟨p, rfl, sq_of hp⟩
theorem x_vl {a : Addr} {xs : List V} (h : Ev te σ H (.ref a)) (p : SqL K H a xs) : EvX te σ H (VL K xs) := x_of h mono_vl ⟨a, rfl, p⟩
theorem x_vlL {xs : List V} (h : EvL te σ H xs) : EvX te σ H (VL K xs) := fun H1 e Q q => h H1 e Q fun p H2 _ e2 hp => q _ H2 e2 ⟨p, rfl, sq_of hp⟩
theorem x_ml {a : Addr} {xs : List V} (h : Ev te σ H (.ref a)) (p : H a = some (.lst xs)) : EvX te σ H (ML xs) := x_of h mono_ml ⟨a, rfl, p⟩
theorem x_mlL {xs : List V} (h : EvL te σ H xs) : EvX te σ H (ML xs) := fun H1 e Q q => h H1 e Q fun p H2 _ e2 hp => q _ H2 e2 ⟨p, rfl, hp⟩
theorem xa_nil : EaX tNil σ H (fun vs _ => vs = []) := fun H1 _ _ q => q _ H1 (Ex.refl H1) rfl
theorem xa_cons {tr : TA} {P : V → Hp → Prop} {R : List V → Hp → Prop} (h : EvX te σ H P) (m : Mono P) (hr : EaX tr σ H R) : EaX (tCons te tr) σ H (fun vs H => ∃ x r, vs = x :: r ∧ P x H ∧ R r H) := fun H1 e Q q =>
  h H1 e _ fun v H2 e2 hp => hr H2 (e.trans e2) _ fun vs H3 e3 hR => q _ H3 (e2.trans e3) ⟨v, vs, rfl, m _ _ _ e3 hp, hR⟩
theorem xa_1 {P : V → Hp → Prop} (h : EvX te σ H P) : EaX (tCons te tNil) σ H (fun vs H => ∃ x, vs = [x] ∧ P x H) := fun H1 e Q q =>
  h H1 e _ fun v H2 e2 hp => q _ H2 e2 ⟨v, rfl, hp⟩
theorem xa_2 {P R : V → Hp → Prop} (h : EvX te σ H P) (m : Mono P) (h2 : EvX tx σ H R) : EaX (tCons te (tCons tx tNil)) σ H (fun vs H => ∃ x y, vs = [x, y] ∧ P x H ∧ R y H) := fun H1 e Q q =>
  h H1 e _ fun v H2 e2 hp => h2 H2 (e.trans e2) _ fun w H3 e3 hr => q _ H3 (e2.trans e3) ⟨v, w, rfl, m _ _ _ e3 hp, hr⟩
/-! calls -/
theorem x_call1 {sp : Sp} {E : XK} {P R : V → Hp → Prop} (h : EvX te σ H P) (hs : ∀ x H1, Ex H H1 → P x H1 → ∀ Q : VK, (∀ v H2, Ex H1 H2 → R v H2 → Q v H2) → sp [x] H1 Q E) : EvX (tCall sp [] E (tCons te tNil)) σ H R := fun H1 e Q q =>
  h H1 e _ fun v H2 e2 hp => hs v H2 (e.trans e2) hp Q fun v H3 e3 hr => q v H3 (e2.trans e3) hr
theorem x_call2 {sp : Sp} {E : XK} {P P' R : V → Hp → Prop} (h : EvX te σ H P) (m : Mono P) (h2 : EvX tx σ H P') (hs : ∀ x y H1, Ex H H1 → P x H1 → P' y H1 → ∀ Q : VK, (∀ v H2, Ex H1 H2 → R v H2 → Q v H2) → sp [x, y] H1 Q E) : EvX (tCall sp [] E (tCons te (tCons tx tNil))) σ H R := fun H1 e Q q =>
  h H1 e _ fun v H2 e2 hp => h2 H2 (e.trans e2) _ fun w H3 e3 hp2 => hs v w H3 ((e.trans e2).trans e3) (m _ _ _ e3 hp) hp2 Q fun v H4 e4 hr => q v H4 ((e2.trans e3).trans e4) hr
theorem ev_call1 {sp : Sp} {E : XK} {P : V → Hp → Prop} (h : EvX te σ H P) (hs : ∀ x H1, Ex H H1 → P x H1 → ∀ Q : VK, (∀ H2, Ex H1 H2 → Q z H2) → sp [x] H1 Q E) : Ev (tCall sp [] E (tCons te tNil)) σ H z := fun H1 e Q q =>
  h H1 e _ fun v H2 e2 hp => hs v H2 (e.trans e2) hp Q fun H3 e3 => q H3 (e2.trans e3)
theorem ev_call2 {sp : Sp} {E : XK} {P P' : V → Hp → Prop} (h : EvX te σ H P) (m : Mono P) (h2 : EvX tx σ H P') (hs : ∀ x y H1, Ex H H1 → P x H1 → P' y H1 → ∀ Q : VK, (∀ H2, Ex H1 H2 → Q z H2) → sp [x, y] H1 Q E) : Ev (tCall sp [] E (tCons te (tCons tx tNil))) σ H z := fun H1 e Q q =>
  h H1 e _ fun v H2 e2 hp => h2 H2 (e.trans e2) _ fun w H3 e3 hp2 => hs v w H3 ((e.trans e2).trans e3) (m _ _ _ e3 hp) hp2 Q fun H4 e4 => q H4 ((e2.trans e3).trans e4)
theorem el_call1 {sp : Sp} {E : XK} {P : V → Hp → Prop} {xs : List V} (h : EvX te σ H P) (hs : ∀ x H1, Ex H H1 → P x H1 → ∀ Q : VK, (∀ p H2, H1 p = none → Ex H1 H2 → H2 p = some (.lst xs) → Q (.ref p) H2) → sp [x] H1 Q E) : EvL (tCall sp [] E (tCons te tNil)) σ H xs := fun H1 e Q q =>
  h H1 e _ fun v H2 e2 hp => hs v H2 (e.trans e2) hp Q fun p H3 hn e3 hx => q p H3 (fresh_back e2 hn) (e2.trans e3) hx
theorem el_call2 {sp : Sp} {E : XK} {P P' : V → Hp → Prop} {xs : List V} (h : EvX te σ H P) (m : Mono P) (h2 : EvX tx σ H P') (hs : ∀ x y H1, Ex H H1 → P x H1 → P' y H1 → ∀ Q : VK, (∀ p H2, H1 p = none → Ex H1 H2 → H2 p = some (.lst xs) → Q (.ref p) H2) → sp [x, y] H1 Q E) : EvL (tCall sp [] E (tCons te (tCons tx tNil))) σ H xs := fun H1 e Q q =>
  h H1 e _ fun v H2 e2 hp => h2 H2 (e.trans e2) _ fun w H3 e3 hp2 => hs v w H3 ((e.trans e2).trans e3) (m _ _ _ e3 hp) hp2 Q fun p H4 hn e4 hx => q p H4 (fresh_back (e2.trans e3) hn) ((e2.trans e3).trans e4) hx
/-! operations on values of which something is true -/
theorem ev_opX {P P' : V → Hp → Prop} (ha : EvX ta σ H P) (m : Mono P) (hb : EvX tb σ H P') (hr : ∀ x y H1, Ex H H1 → P x H1 → P' y H1 → RV r x y H1 z) : Ev (tOp r ta tb) σ H z := fun H1 e Q q =>
  ha H1 e _ fun x H2 e2 p => hb H2 (e.trans e2) _ fun y H3 e3 p' => hr x y H3 ((e.trans e2).trans e3) (m _ _ _ e3 p) p' H3 (Ex.refl H3) Q fun H4 e4 => q H4 ((e2.trans e3).trans e4)
theorem ev_cbX1 {r : List V → Hp → VK → Prop} {P : V → Hp → Prop} (h : EvX te σ H P) (hr : ∀ x H1, Ex H H1 → P x H1 → RC r [x] H1 z) : Ev (tCB r (tCons te tNil)) σ H z := fun H1 e Q q =>
  h H1 e _ fun v H2 e2 hp => hr v H2 (e.trans e2) hp H2 (Ex.refl H2) Q fun H3 e3 => q H3 (e2.trans e3)
theorem el_cbX1 {r : List V → Hp → VK → Prop} {P : V → Hp → Prop} {xs : List V} (h : EvX te σ H P) (hr : ∀ x H1, Ex H H1 → P x H1 → RCL r [x] H1 xs) : EvL (tCB r (tCons te tNil)) σ H xs := fun H1 e Q q =>
  h H1 e _ fun v H2 e2 hp => hr v H2 (e.trans e2) hp H2 (Ex.refl H2) Q fun p H3 hn e3 hx => q p H3 (fresh_back e2 hn) (e2.trans e3) hx
theorem rv_div {i j : Int} (h : 0 < j ∧ j < 1073741824) : RV rDivI (.int i) (.int j) H (.int (i / j)) := rv_I h
theorem rv_mod {i j : Int} (h : 0 < j) : RV rModI (.int i) (.int j) H (.int (i % j)) := rv_I h
theorem rv_mul {i j : Int} (h : CMul i j) : RV rMulI (.int i) (.int j) H (.int (i * j)) := rv_I h
theorem cmul_l {i j : Int} (h : -(2 ^ 64) < i ∧ i < 2 ^ 64) : CMul i j := .inl h
theorem cmul_r {i j : Int} (h : -(2 ^ 64) < j ∧ j < 2 ^ 64) : CMul i j := .inr h
theorem rv_isN : RV rIsNn x .non H (.bl (decide (x = .non))) := fun H1 _ _ q => ⟨rfl, q H1 (Ex.refl H1)⟩
theorem rv_notN : RV rNotNn x .non H (.bl (!decide (x = .non))) := fun H1 _ _ q => ⟨rfl, q H1 (Ex.refl H1)⟩
theorem rv_isB {a b : Bool} : RV rIsB (.bl a) (.bl b) H (.bl (decide (a = b))) := fun H1 _ _ q => ⟨a, b, rfl, rfl, q H1 (Ex.refl H1)⟩
theorem rv_notB {a b : Bool} : RV rNotB (.bl a) (.bl b) H (.bl (!decide (a = b))) := fun H1 _ _ q => ⟨a, b, rfl, rfl, q H1 (Ex.refl H1)⟩
/-- len of a list of which something is known -/
theorem ev_lenX {ns : List Int} (h : EvX te σ H (IL K ns)) : Ev (tCB (rLenS K) (tCons te tNil)) σ H (.int (ns.length : Int)) := ev_cbX1 h fun x H1 _ ⟨a, e, s⟩ H2 e2 Q q => ⟨a, _, by rw [e], .inl (ex_l e2 s), by rw [List.length_map]; exact q H2 (Ex.refl H2)⟩
theorem ev_lenV {xs : List V} (h : EvX te σ H (VL K xs)) : Ev (tCB (rLenS K) (tCons te tNil)) σ H (.int (xs.length : Int)) := ev_cbX1 h fun x H1 _ ⟨a, e, s⟩ H2 e2 Q q => ⟨a, _, by rw [e], .inl (ex_l e2 s), q H2 (Ex.refl H2)⟩
/-- list(xs) -/
theorem el_listX {xs : List V} (h : EvX te σ H (VL K xs)) : EvL (tCB (rListS K) (tCons te tNil)) σ H xs := el_cbX1 h fun x H1 _ ⟨a, e, s⟩ H2 e2 Q q => ⟨a, _, by rw [e], .inl (ex_l e2 s), fun l hl => q l _ hl (Ex.new hl) upd_same⟩
/-! two lists of whole numbers held beside one another -/
theorem dps {ns : List Int} {H : Hp} : DpAll K H (ns.map V.int) (ns.map PyData.int) := by
  induction ns with
  | nil => exact .nil
  | cons n r ih => exact .cons (.int n) ih
theorem eqv_ints : ∀ xs ys : List Int, PyData.eqvAll (xs.map PyData.int) (ys.map PyData.int) = decide (xs = ys)
  | [], [] => rfl
  | [], _ :: _ => by simp [PyData.eqvAll]
  | _ :: _, [] => by simp [PyData.eqvAll]
  | x :: xs, y :: ys => by
    have ih := eqv_ints xs ys
    show (PyData.eqv (.int x) (.int y) && PyData.eqvAll (xs.map PyData.int) (ys.map PyData.int)) = _
    rw [ih]
    have e : PyData.eqv (.int x) (.int y) = (x == y) := by simp [PyData.eqv]
    rw [e]
    by_cases h1 : x = y
    · subst h1
      by_cases h2 : xs = ys
      · subst h2
        simp
      · simp [h2]
    · simp [h1]
theorem canLay_ints : ∀ xs : List Int, PyData.canLayAll0 (xs.map PyData.int) = true
  | [] => rfl
  | x :: xs => by
    have ih := canLay_ints xs
    show (PyData.canLay0 (.int x) && PyData.canLayAll0 (xs.map PyData.int)) = true
    rw [ih]
    simp [PyData.canLay0]
theorem depth_ints : ∀ xs : List Int, PyData.depthAll (xs.map PyData.int) = 0
  | [] => rfl
  | x :: xs => by
    have ih := depth_ints xs
    show max (PyData.depth (.int x)) (PyData.depthAll (xs.map PyData.int)) = 0
    rw [ih]
    simp [PyData.depth]
theorem shaped_ints (xs : List Int) : SeqAt.shaped (.list (xs.map PyData.int)) = true := by
  unfold SeqAt.shaped
  have a : PyData.canLay0 (.list (xs.map PyData.int)) = true := canLay_ints xs
  have b : PyData.depth (.list (xs.map PyData.int)) = 1 := by
    show PyData.depthAll (xs.map PyData.int) + 1 = 1
    rw [depth_ints]
  rw [a, b]
  rfl
theorem rv_eqI {xs ys : List Int} (hx : IL K xs x H) (hy : IL K ys y H) : RV (rEqD K) x y H (.bl (decide (xs = ys))) := fun H1 e Q q => by
  obtain ⟨a, rfl, ha⟩ := hx
  obtain ⟨b, rfl, hb⟩ := hy
  refine ⟨_, _, .lst (ex_l e ha) dps, .lst (ex_l e hb) dps, shaped_ints _, shaped_ints _, ?_⟩
  have z : PyData.eqv (.list (xs.map PyData.int)) (.list (ys.map PyData.int)) = decide (xs = ys) := eqv_ints xs ys
  rw [z]
  exact q H1 (Ex.refl H1)
theorem rv_neI {xs ys : List Int} (hx : IL K xs x H) (hy : IL K ys y H) : RV (rNeD K) x y H (.bl (!decide (xs = ys))) := fun H1 e Q q => by
  obtain ⟨a, rfl, ha⟩ := hx
  obtain ⟨b, rfl, hb⟩ := hy
  refine ⟨_, _, .lst (ex_l e ha) dps, .lst (ex_l e hb) dps, shaped_ints _, shaped_ints _, ?_⟩
  have z : PyData.eqv (.list (xs.map PyData.int)) (.list (ys.map PyData.int)) = decide (xs = ys) := eqv_ints xs ys
  rw [z]
  exact q H1 (Ex.refl H1)
theorem ev_eqI {xs ys : List Int} (ha : EvX ta σ H (IL K xs)) (hb : EvX tb σ H (IL K ys)) : Ev (tOp (rEqD K) ta tb) σ H (.bl (decide (xs = ys))) := ev_opX ha mono_il hb fun _ _ _ _ p q => rv_eqI p q
theorem ev_neI {xs ys : List Int} (ha : EvX ta σ H (IL K xs)) (hb : EvX tb σ H (IL K ys)) : Ev (tOp (rNeD K) ta tb) σ H (.bl (!decide (xs = ys))) := ev_opX ha mono_il hb fun _ _ _ _ p q => rv_neI p q
/-- an item -/
theorem map_at {ns : List Int} {j : Nat} {n : Int} (h : ns[j]? = some n) : (ns.map V.int)[j]? = some (.int n) := by
  rw [List.getElem?_map, h]
  rfl
theorem of_map {ns : List Int} {j : Nat} {v : V} (h : (ns.map V.int)[j]? = some v) : ∃ n, ns[j]? = some n ∧ v = .int n := by
  rw [List.getElem?_map] at h
  cases e : ns[j]? with
  | none =>
    rw [e] at h
    cases h
  | some n =>
    rw [e] at h
    exact ⟨n, rfl, (Option.some.inj h).symm⟩
theorem ev_ix {ns : List Int} {j : Nat} {n i : Int} (ha : EvX ta σ H (IL K ns)) (hb : Ev tb σ H (.int i)) (hi : i = (j : Int)) (h : ns[j]? = some n) : Ev (tOp (rIxL K) ta tb) σ H (.int n) :=
  ev_opX ha mono_il (x_v hb) fun x y H1 _ ⟨a, e, s⟩ ey => by
    subst e
    cases ey
    exact rv_ixL s (at_of hi (map_at h))
theorem ev_ixV {xs : List V} {j : Nat} {i : Int} (ha : EvX ta σ H (VL K xs)) (hb : Ev tb σ H (.int i)) (hi : i = (j : Int)) (h : xs[j]? = some v) : Ev (tOp (rIxL K) ta tb) σ H v :=
  ev_opX ha mono_vl (x_v hb) fun x y H1 _ ⟨a, e, s⟩ ey => by
    subst e
    cases ey
    exact rv_ixL s (at_of hi h)
/-! new lists out of others -/
theorem el_catX {xs ys : List V} (ha : EvX ta σ H (ML xs)) (hb : EvX tb σ H (ML ys)) (hz : xs.length + ys.length ≤ 100000) : EvL (tOp rCat ta tb) σ H (xs ++ ys) := fun H1 e Q q =>
  ha H1 e _ fun x H2 e2 ⟨a, ex, ha⟩ => hb H2 (e.trans e2) _ fun y H3 e3 ⟨b, ey, hb⟩ =>
    ⟨a, b, xs, ys, ex, ey, e3 _ _ ha, hb, sz_of hz, fun p hp => q p _ (fresh_back (e2.trans e3) hp) ((e2.trans e3).trans (Ex.new hp)) upd_same⟩
theorem el_repX {xs : List V} {k : Int} (ha : EvX ta σ H (ML xs)) (hb : Ev tb σ H (.int k)) (h1 : -100000 ≤ k ∧ k ≤ 100000) (hz : xs.length * k.toNat ≤ 100000) : EvL (tOp rRep ta tb) σ H (List.replicate k.toNat xs).flatten := fun H1 e Q q =>
  ha H1 e _ fun x H2 e2 ⟨a, ex, ha⟩ => hb H2 (e.trans e2) _ fun H3 e3 =>
    ⟨a, k, xs, ex, rfl, e3 _ _ ha, by omega, by omega, sz_of hz, fun p hp => q p _ (fresh_back (e2.trans e3) hp) ((e2.trans e3).trans (Ex.new hp)) upd_same⟩
/-! loops over reversed(xs) -/
variable {D : Ends} {tu tw tz : TS} {g : TG}
theorem for_rv {a : Addr} {xs : List V} {σ : L2.St} (Pv : Nat → L2.St → Hp → Prop) (h0 : Pv 0 σ H) (hl : ∀ i σ H, i ≤ xs.length → Pv i σ H → SqL K H a xs)
    (hs : ∀ i x σ H, i < xs.length → xs[xs.length - 1 - i]? = some x → Pv i σ H → g x σ H fun σ2 H2 => tu { D with nx := Pv (i + 1), ct := Pv (i + 1), bk := D.nx } σ2 H2) (hd : ∀ σ H, Pv xs.length σ H → D.nx σ H) :
    ∃ W : Nat → Nat → L2.St → Hp → Prop, (∃ m, W 0 m σ H) ∧ ∀ i m σ H, W i m σ H → ((Itv K a xs.length).stop i H ∧ D.nx σ H) ∨ ((Itv K a xs.length).go i H ∧ ∃ Nx : L2.St → Hp → Prop, (∀ σ' H', Nx σ' H' → ∃ m', m' < m ∧ W (i + 1) m' σ' H') ∧
      ∀ x H', (Itv K a xs.length).yld i H x H' → g x σ H' fun σ2 H2 => tu { D with nx := Nx, ct := Nx, bk := D.nx } σ2 H2) := by
  refine ⟨fun i m σ H => m = xs.length - i ∧ i ≤ xs.length ∧ Pv i σ H, ⟨xs.length, by omega, Nat.zero_le _, h0⟩, ?_⟩
  rintro i m σ H ⟨rfl, hi, p⟩
  have hq := hl i σ H hi p
  by_cases hlt : i < xs.length
  · have hx : xs[xs.length - 1 - i]? = some (xs[xs.length - 1 - i]'(by omega)) := List.getElem?_eq_getElem (by omega)
    refine .inr ⟨⟨hlt, xs, _, hq, hx⟩, Pv (i + 1), fun σ' H' p' => ⟨xs.length - (i + 1), by omega, rfl, hlt, p'⟩, fun x H' y => ?_⟩
    obtain ⟨e, y⟩ := y
    subst e
    have z := y xs hq
    exact hs i x σ _ hlt z p
  · have e : i = xs.length := by omega
    subst e
    exact .inl ⟨Nat.le_refl _, hd σ H p⟩
end
/-! ### loops whose turns change nothing but slots -/
section
variable {K : PySem.W.Frag} {σ : L2.St} {H H' : Hp} {ta : TA} {tb te tx tl : TE} {t u : TT} {x y z v : V} {r : R2} {D : Ends} {tu tw tz : TS} {g : TG}
/-- the slots are as I says, the heap has only grown -/
def NX (H : Hp) (I : L2.St → Prop) : L2.St → Hp → Prop := fun σ2 H2 => I σ2 ∧ Ex H H2
theorem s_forP {xs : List V} {j : Nat} (h : EvX tl σ H (VL K xs)) (I : Nat → L2.St → Prop) (h0 : I 0 σ)
    (hs : ∀ H1 i x σ' H', Ex H H1 → Ex H1 H' → xs[i]? = some x → I i σ' → tu { D with nx := NX H1 (I (i + 1)), ct := NX H1 (I (i + 1)), bk := D.nx } (σ'.set j (some x)) H')
    (hd : ∀ σ' H', Ex H H' → I xs.length σ' → D.nx σ' H') : tFor (iList K tl) (gName j) tu D σ H :=
  h H (Ex.refl H) _ fun v H1 e1 ⟨a, ev, hq⟩ => ⟨a, ev, ⟨xs, hq⟩, for_list (K := K) (a := a) (xs := xs) (fun i => NX H1 (I i)) ⟨h0, Ex.refl H1⟩ (fun i σ' H' _ p => ex_l p.2 hq) (fun i x σ' H' hx p => hs H1 i x σ' H' e1 p.2 hx p.1) (fun σ' H' p => hd σ' H' (e1.trans p.2) p.1)⟩
theorem s_forRvP {xs : List V} {j : Nat} (h : EvX tl σ H (VL K xs)) (I : Nat → L2.St → Prop) (h0 : I 0 σ)
    (hs : ∀ H1 i x σ' H', Ex H H1 → Ex H1 H' → i < xs.length → xs[xs.length - 1 - i]? = some x → I i σ' → tu { D with nx := NX H1 (I (i + 1)), ct := NX H1 (I (i + 1)), bk := D.nx } (σ'.set j (some x)) H')
    (hd : ∀ σ' H', Ex H H' → I xs.length σ' → D.nx σ' H') : tFor (iRev K (tCons tl tNil)) (gName j) tu D σ H :=
  h H (Ex.refl H) _ fun v H1 e1 ⟨a, ev, hq⟩ => ⟨a, xs, by rw [ev], hq, for_rv (fun i => NX H1 (I i)) ⟨h0, Ex.refl H1⟩ (fun i σ' H' _ p => ex_l p.2 hq) (fun i x σ' H' hi hx p => hs H1 i x σ' H' e1 p.2 hi hx p.1) (fun σ' H' p => hd σ' H' (e1.trans p.2) p.1)⟩
theorem s_forRgP {n : Int} {j : Nat} (h : EvA ta σ H [.int n]) (hn : 0 ≤ n ∧ n ≤ 100000) (I : Nat → L2.St → Prop) (h0 : I 0 σ)
    (hs : ∀ H1 (i : Nat) σ' H', Ex H H1 → Ex H1 H' → (i : Int) < n → I i σ' → tu { D with nx := NX H1 (I (i + 1)), ct := NX H1 (I (i + 1)), bk := D.nx } (σ'.set j (some (.int (i : Int)))) H')
    (hd : ∀ σ' H', Ex H H' → I n.toNat σ' → D.nx σ' H') : tFor (iRng1 ta) (gName j) tu D σ H :=
  s_forR1 h hn (fun i => NX H (I i)) (fun H1 e => ⟨h0, e⟩) (fun i σ' H' hi p => hs H i σ' H' (Ex.refl H) p.2 hi p.1) (fun σ' H' p => hd σ' H' p.2 p.1)
theorem s_forRg2P {lo n : Int} {j : Nat} (h : EvA ta σ H [.int lo, .int n]) (hn : 0 ≤ lo ∧ lo ≤ 100000 ∧ -100000 ≤ n ∧ n ≤ 100000) (I : Nat → L2.St → Prop) (h0 : I 0 σ)
    (hs : ∀ H1 (i : Nat) σ' H', Ex H H1 → Ex H1 H' → lo + (i : Int) < n → I i σ' → tu { D with nx := NX H1 (I (i + 1)), ct := NX H1 (I (i + 1)), bk := D.nx } (σ'.set j (some (.int (lo + (i : Int))))) H')
    (hd : ∀ σ' H', Ex H H' → I (n - lo).toNat σ' → D.nx σ' H') : tFor (iRng2 ta) (gName j) tu D σ H :=
  s_forR2 h hn (fun i => NX H (I i)) (fun H1 e => ⟨h0, e⟩) (fun i σ' H' hi p => hs H i σ' H' (Ex.refl H) p.2 hi p.1) (fun σ' H' p => hd σ' H' p.2 p.1)
/-- .. and the rest of the block behind -/
theorem q_forP {xs : List V} {j : Nat} (h : EvX tl σ H (VL K xs)) (I : Nat → L2.St → Prop) (h0 : I 0 σ)
    (hs : ∀ H1 i x σ' H', Ex H H1 → Ex H1 H' → xs[i]? = some x → I i σ' → tu { D with nx := NX H1 (I (i + 1)), ct := NX H1 (I (i + 1)), bk := tz D } (σ'.set j (some x)) H')
    (hd : ∀ σ' H', Ex H H' → I xs.length σ' → tz D σ' H') : tSeq (tFor (iList K tl) (gName j) tu) tz D σ H := s_forP (D := { D with nx := tz D }) h I h0 hs hd
theorem q_forRvP {xs : List V} {j : Nat} (h : EvX tl σ H (VL K xs)) (I : Nat → L2.St → Prop) (h0 : I 0 σ)
    (hs : ∀ H1 i x σ' H', Ex H H1 → Ex H1 H' → i < xs.length → xs[xs.length - 1 - i]? = some x → I i σ' → tu { D with nx := NX H1 (I (i + 1)), ct := NX H1 (I (i + 1)), bk := tz D } (σ'.set j (some x)) H')
    (hd : ∀ σ' H', Ex H H' → I xs.length σ' → tz D σ' H') : tSeq (tFor (iRev K (tCons tl tNil)) (gName j) tu) tz D σ H := s_forRvP (D := { D with nx := tz D }) h I h0 hs hd
theorem q_forRgP {n : Int} {j : Nat} (h : EvA ta σ H [.int n]) (hn : 0 ≤ n ∧ n ≤ 100000) (I : Nat → L2.St → Prop) (h0 : I 0 σ)
    (hs : ∀ H1 (i : Nat) σ' H', Ex H H1 → Ex H1 H' → (i : Int) < n → I i σ' → tu { D with nx := NX H1 (I (i + 1)), ct := NX H1 (I (i + 1)), bk := tz D } (σ'.set j (some (.int (i : Int)))) H')
    (hd : ∀ σ' H', Ex H H' → I n.toNat σ' → tz D σ' H') : tSeq (tFor (iRng1 ta) (gName j) tu) tz D σ H := s_forRgP (D := { D with nx := tz D }) h hn I h0 hs hd
theorem q_forRg2P {lo n : Int} {j : Nat} (h : EvA ta σ H [.int lo, .int n]) (hn : 0 ≤ lo ∧ lo ≤ 100000 ∧ -100000 ≤ n ∧ n ≤ 100000) (I : Nat → L2.St → Prop) (h0 : I 0 σ)
    (hs : ∀ H1 (i : Nat) σ' H', Ex H H1 → Ex H1 H' → lo + (i : Int) < n → I i σ' → tu { D with nx := NX H1 (I (i + 1)), ct := NX H1 (I (i + 1)), bk := tz D } (σ'.set j (some (.int (lo + (i : Int))))) H')
    (hd : ∀ σ' H', Ex H H' → I (n - lo).toNat σ' → tz D σ' H') : tSeq (tFor (iRng2 ta) (gName j) tu) tz D σ H := s_forRg2P (D := { D with nx := tz D }) h hn I h0 hs hd
/-- the turn's end -/
theorem nx_ok {I : L2.St → Prop} {H1 : Hp} (h : I σ) (e : Ex H1 H) : NX H1 I σ H := ⟨h, e⟩
theorem s_retX {P : V → Hp → Prop} (h : EvX te σ H P) (k : ∀ v H1, Ex H H1 → P v H1 → D.rt v H1) : tRet te D σ H := h H (Ex.refl H) _ k
theorem s_asgX {P : V → Hp → Prop} {i : Nat} (h : EvX te σ H P) (k : ∀ v H1, Ex H H1 → P v H1 → D.nx (σ.set i (some v)) H1) : tAsg te (gName i) D σ H := h H (Ex.refl H) _ k
theorem q_asgX {P : V → Hp → Prop} {i : Nat} (h : EvX te σ H P) (k : ∀ v H1, Ex H H1 → P v H1 → tz D (σ.set i (some v)) H1) : tSeq (tAsg te (gName i)) tz D σ H := h H (Ex.refl H) _ k
/-! methods of lists -/
theorem s_popS {l : Addr} {xs : List V} (hl : H l = some (.lst xs)) (ha : Ev te σ H (.ref l)) (hy : xs[xs.length - 1]? = some y) (k : ∀ H1, Ex H H1 → D.nx σ (upd H1 l (.lst xs.dropLast))) : tDrop (tBM0 K "list" rPop te) D σ H :=
  ha H (Ex.refl H) _ fun H1 e1 => ⟨.inl ⟨rfl, xs, sq_of (e1 l _ hl)⟩, l, xs, y, rfl, rfl, e1 l _ hl, hy, k H1 e1⟩
theorem q_popS {l : Addr} {xs : List V} (hl : H l = some (.lst xs)) (ha : Ev te σ H (.ref l)) (hy : xs[xs.length - 1]? = some y) (k : ∀ H1, Ex H H1 → tz D σ (upd H1 l (.lst xs.dropLast))) : tSeq (tDrop (tBM0 K "list" rPop te)) tz D σ H := s_popS (D := { D with nx := tz D }) hl ha hy k
/-- an if that is not taken -/
theorem q_skip {b : Bool} (h : EvT t σ H b) (hb : b = false) (k : ∀ H1, Ex H H1 → tz D σ H1) : tSeq (tIfS t tu tNext) tz D σ H :=
  q_when h (fun z => by rw [hb] at z; cases z) fun _ => k
/-! ### what never comes back -/
def Er (te : TE) (σ : L2.St) (H : Hp) : Prop := ∀ H1, Ex H H1 → ∀ Q : VK, te σ H1 Q
theorem Er.mono (h : Er te σ H) (e : Ex H H') : Er te σ H' := fun H1 a Q => h H1 (e.trans a) Q
theorem er_asg {i : Nat} (h : Er te σ H) : tAsg te (gName i) D σ H := h H (Ex.refl H) _
theorem er_q {i : Nat} (h : Er te σ H) : tSeq (tAsg te (gName i)) tz D σ H := h H (Ex.refl H) _
theorem er_ret (h : Er te σ H) : tRet te D σ H := h H (Ex.refl H) _
theorem er_drop (h : Er te σ H) : tDrop te D σ H := h H (Ex.refl H) _
theorem er_for (h : Er te σ H) : tFor (iList K te) g tu D σ H := h H (Ex.refl H) _
theorem er_qfor (h : Er te σ H) : tSeq (tFor (iList K te) g tu) tz D σ H := h H (Ex.refl H) _
theorem er_qforRv (h : Er te σ H) : tSeq (tFor (iRev K (tCons te tNil)) g tu) tz D σ H := h H (Ex.refl H) _
theorem er_op1 (h : Er te σ H) : Er (tOp r te tb) σ H := fun H1 e Q => h H1 e _
theorem er_op2 {P : V → Hp → Prop} (ha : EvX te σ H P) (h : Er tb σ H) : Er (tOp r te tb) σ H := fun H1 e Q => ha H1 e _ fun v H2 e2 _ => h H2 (e.trans e2) _
theorem er_call {sp : Sp} {E : XK} (h : Er te σ H) {tr : TA} : Er (tCall sp [] E (tCons te tr)) σ H := fun H1 e Q => h H1 e _
theorem er_cb {rr : List V → Hp → VK → Prop} (h : Er te σ H) {tr : TA} : Er (tCB rr (tCons te tr)) σ H := fun H1 e Q => h H1 e _
theorem er_tup (h : Er te σ H) {tr : TA} : Er (tTup (tCons te tr)) σ H := fun H1 e Q => h H1 e _
theorem er_lc (h : Er te σ H) {vs : List Nat} : Er (tLc (iList K te) g t tx vs) σ H := fun H1 e Q => h H1 e _
theorem er_lcRv (h : Er te σ H) {vs : List Nat} : Er (tLc (iRev K (tCons te tNil)) g t tx vs) σ H := fun H1 e Q => h H1 e _
theorem er_call1 {sp : Sp} {E : XK} {P : V → Hp → Prop} (h : EvX te σ H P) (hs : ∀ x H1, Ex H H1 → P x H1 → ∀ Q : VK, sp [x] H1 Q E) : Er (tCall sp [] E (tCons te tNil)) σ H := fun H1 e Q => h H1 e _ fun v H2 e2 hp => hs v H2 (e.trans e2) hp Q
/-! ### what a promise says -/
def RaiseE (E : XK) (C : Addr) (H : Hp) : Prop := ∀ H', Ex H H' → E (.ref C) none H'
theorem RaiseE.mono {E : XK} {C : Addr} (h : RaiseE E C H) (e : Ex H H') : RaiseE E C H' := fun H1 a => h H1 (e.trans a)
theorem _root_.Evl.RetV.mono {Q : VK} (h : RetV v H Q) (e : Ex H H') : RetV v H' Q := fun H1 a => h H1 (e.trans a)
theorem _root_.Evl.RetL.mono {Q : VK} {xs : List V} (h : RetL xs H Q) (e : Ex H H') : RetL xs H' Q := fun p H1 hp a hx => h p H1 (fresh_back e hp) (e.trans a) hx
theorem s_retV (h : Ev te σ H v) (k : RetV v H D.rt) : tRet te D σ H := s_ret h fun H1 e => k H1 e
theorem s_retLL {xs : List V} (h : EvL te σ H xs) (k : RetL xs H D.rt) : tRet te D σ H := s_retL h fun p H1 hp e hx => k p H1 hp e hx
end
end Fw

namespace Fw
open PySem PySem.Spec PyProof.Rows L2 Evl
/-! any thing, and what kind it is -/
mutual
theorem dp_mono {K : PySem.W.Frag} {H H' : Hp} (e : Ex H H') : ∀ (d : PyData) (v : V), Dp K H v d → Dp K H' v d
  | .none, _, h => by
    cases h
    exact .non
  | .bool b, _, h => by
    cases h
    exact .bl b
  | .int i, _, h => by
    cases h
    exact .int i
  | .str x, _, h => by
    cases h
    exact .str x
  | .list ds, _, h => by
    cases h with
    | lst hs ha => exact .lst (ex_l e hs) (dpA_mono e ds _ ha)
  | .tuple ds, _, h => by
    cases h with
    | tup hs ha => exact .tup (ex_t e hs) (dpA_mono e ds _ ha)
  | .dict _, _, h => by cases h
theorem dpA_mono {K : PySem.W.Frag} {H H' : Hp} (e : Ex H H') : ∀ (ds : List PyData) (vs : List V), DpAll K H vs ds → DpAll K H' vs ds
  | [], _, h => by
    cases h
    exact .nil
  | d :: ds, _, h => by
    cases h with
    | cons h1 h2 => exact .cons (dp_mono e d _ h1) (dpA_mono e ds _ h2)
end
/-- a thing: data, or an empty dict -/
inductive Th (K : PySem.W.Frag) (H : Hp) : V → PyData → Prop
  | of {v : V} {d : PyData} (h : Dp K H v d) : Th K H v d
  | dict {a : Addr} {kvs : List (Key × V)} (h : H a = some (.dK kvs)) : Th K H (.ref a) (.dict [])
theorem Th.mono {K : PySem.W.Frag} {H H' : Hp} {v : V} {d : PyData} (e : Ex H H') (h : Th K H v d) : Th K H' v d := by
  cases h with
  | of h => exact .of (dp_mono e _ _ h)
  | dict h => exact .dict (e _ _ h)
/-- the kind's name -/
def tyD : PyData → String
  | .none => "NoneType"
  | .bool _ => "bool"
  | .int _ => "int"
  | .str _ => "str"
  | .list _ => "list"
  | .tuple _ => "tuple"
  | .dict _ => "dict"
section
variable {K : PySem.W.Frag} {H : Hp} {v : V} {d : PyData}
theorem sq_ty {a : Addr} {xs : List V} (h : SqL K H a xs) : TyX K H (.ref a) (.type "list") := by
  rcases h with (h | ⟨o, h⟩) | ⟨o, its, n, h1, h2, _⟩
  · exact .base (.lst h)
  · exact .base (.frz h)
  · exact .kList h1 h2
theorem st_ty {a : Addr} {xs : List V} (h : SqT K H a xs) : TyX K H (.ref a) (.type "tuple") := by
  rcases h with (h | ⟨o, h⟩) | ⟨o, its, n, h1, h2, _⟩
  · exact .base (.tup h)
  · exact .fTuple h
  · exact .kTuple h1 h2
theorem Th.ty (h : Th K H v d) : TyX K H v (.type (tyD d)) := by
  cases h with
  | dict h => exact .base (.dK h)
  | of h =>
    cases h with
    | non => exact .base .non
    | bl b => exact .base (.bl b)
    | int i => exact .base (.int i)
    | str x => exact .base (.str x)
    | lst hs _ => exact sq_ty hs
    | tup hs _ => exact st_ty hs
theorem kit_all : ∀ (d : PyData), kitB (tyD d) "int" = some (tyD d == "int" || tyD d == "bool") ∧ kitB (tyD d) "bool" = some (tyD d == "bool") ∧ kitB (tyD d) "list" = some (tyD d == "list") ∧ kitB (tyD d) "str" = some (tyD d == "str") ∧ kitB (tyD d) "tuple" = some (tyD d == "tuple") := by
  have k : ∀ n ∈ ["NoneType", "bool", "int", "str", "list", "tuple", "dict"], kitB n "int" = some (n == "int" || n == "bool") ∧ kitB n "bool" = some (n == "bool") ∧ kitB n "list" = some (n == "list") ∧ kitB n "str" = some (n == "str") ∧ kitB n "tuple" = some (n == "tuple") := by decide +kernel
  intro d
  apply k
  cases d <;> simp [tyD]
/-- isinstance(x, T) of a thing -/
theorem rc_isi {T : String} {b : Bool} (h : Th K H v d) (hk : kitB (tyD d) T = some b) : RC (rIsi K) [v, .ty T] H (.bl b) := fun H1 e Q q =>
  ⟨v, .ty T, .type (tyD d), .type T, b, rfl, .ty T, (h.mono e).ty, kit_ty hk, q H1 (Ex.refl H1)⟩
variable {σ : L2.St} {te : TE}
theorem ev_isi {T : String} {b : Bool} (hv : Ev te σ H v) (h : Th K H v d) (hk : kitB (tyD d) T = some b) : Ev (tCB (rIsi K) (tCons te (tCons (tC (.ty T)) tNil))) σ H (.bl b) :=
  ev_cb (ea_cons hv (ea_cons ev_c ea_nil)) (rc_isi h hk)
theorem ev_isiX {T : String} {b : Bool} (hv : EvX te σ H (fun v H => Th K H v d)) (hk : kitB (tyD d) T = some b) : Ev (tCB (rIsi K) (tCons te (tCons (tC (.ty T)) tNil))) σ H (.bl b) := fun H1 e Q q =>
  hv H1 e _ fun v H2 e2 h => ⟨v, .ty T, .type (tyD d), .type T, b, rfl, .ty T, h.ty, kit_ty hk, q H2 e2⟩
theorem ev_isInt (hv : Ev te σ H v) (h : Th K H v d) : Ev (tCB (rIsi K) (tCons te (tCons (tC (.ty "int")) tNil))) σ H (.bl (tyD d == "int" || tyD d == "bool")) := ev_isi hv h (kit_all d).1
theorem ev_isBool (hv : Ev te σ H v) (h : Th K H v d) : Ev (tCB (rIsi K) (tCons te (tCons (tC (.ty "bool")) tNil))) σ H (.bl (tyD d == "bool")) := ev_isi hv h (kit_all d).2.1
theorem ev_isList (hv : Ev te σ H v) (h : Th K H v d) : Ev (tCB (rIsi K) (tCons te (tCons (tC (.ty "list")) tNil))) σ H (.bl (tyD d == "list")) := ev_isi hv h (kit_all d).2.2.1
theorem ev_isStr (hv : Ev te σ H v) (h : Th K H v d) : Ev (tCB (rIsi K) (tCons te (tCons (tC (.ty "str")) tNil))) σ H (.bl (tyD d == "str")) := ev_isi hv h (kit_all d).2.2.2.1
theorem ev_isTuple (hv : Ev te σ H v) (h : Th K H v d) : Ev (tCB (rIsi K) (tCons te (tCons (tC (.ty "tuple")) tNil))) σ H (.bl (tyD d == "tuple")) := ev_isi hv h (kit_all d).2.2.2.2
end
/-! which things are layings -/
def wholeD : PyData → Bool
  | .int _ => true
  | _ => false
theorem wholeD_is (d : PyData) : ((tyD d == "int" || tyD d == "bool") && !(tyD d == "bool")) = wholeD d := by
  cases d <;> simp [tyD, wholeD]
def pmD : PyData → Bool
  | .int i => decide (-1 ≤ i) && decide (i ≤ 1)
  | _ => false
def isLayD : PyData → Bool
  | .list ds => ds.all pmD
  | _ => false
theorem pm_iff (x : Int) : pmD (.int x) = true ↔ Few.Pm x := by
  show (decide (-1 ≤ x) && decide (x ≤ 1)) = true ↔ _
  rw [Bool.and_eq_true, decide_eq_true_iff, decide_eq_true_iff]
  unfold Few.Pm
  omega
theorem lay_of_all : ∀ ds : List PyData, ds.all pmD = true → ∃ ns : List Int, ds = ns.map PyData.int ∧ Few.Lay ns
  | [], _ => ⟨[], rfl, fun _ h => by cases h⟩
  | d :: ds, h => by
    rw [List.all_cons, Bool.and_eq_true] at h
    obtain ⟨ns, e, l⟩ := lay_of_all ds h.2
    cases d with
    | int i =>
      refine ⟨i :: ns, by rw [e]; rfl, fun x hx => ?_⟩
      rcases List.mem_cons.mp hx with z | z
      · rw [z]
        exact (pm_iff i).mp h.1
      · exact l x z
    | none => exact absurd h.1 (by decide)
    | bool b => exact absurd h.1 Bool.false_ne_true
    | str b => exact absurd h.1 Bool.false_ne_true
    | list b => exact absurd h.1 Bool.false_ne_true
    | tuple b => exact absurd h.1 Bool.false_ne_true
    | dict b => exact absurd h.1 Bool.false_ne_true
theorem lay_is {d : PyData} (h : isLayD d = true) : ∃ ns : List Int, d = .list (ns.map PyData.int) ∧ Few.Lay ns := by
  cases d with
  | list ds =>
    obtain ⟨ns, e, l⟩ := lay_of_all ds h
    exact ⟨ns, by rw [e], l⟩
  | none => exact absurd h Bool.false_ne_true
  | bool b => exact absurd h Bool.false_ne_true
  | int b => exact absurd h Bool.false_ne_true
  | str b => exact absurd h Bool.false_ne_true
  | tuple b => exact absurd h Bool.false_ne_true
  | dict b => exact absurd h Bool.false_ne_true
theorem lay_ints {ns : List Int} (h : Few.Lay ns) : isLayD (.list (ns.map PyData.int)) = true := by
  show (ns.map PyData.int).all pmD = true
  rw [List.all_map, List.all_eq_true]
  exact fun x hx => (pm_iff x).mpr (h x hx)
theorem ints_inj {a b : List Int} (h : a.map PyData.int = b.map PyData.int) : a = b := by
  induction a generalizing b with
  | nil =>
    cases b with
    | nil => rfl
    | cons _ _ => cases h
  | cons x xs ih =>
    cases b with
    | nil => cases h
    | cons y ys =>
      rw [List.map_cons, List.map_cons] at h
      injection h with h1 h2
      injection h1 with h1
      rw [h1, ih h2]
section
variable {K : PySem.W.Frag} {H : Hp} {v : V}
theorem dps_ints {vs : List V} : ∀ {ns : List Int}, DpAll K H vs (ns.map PyData.int) → vs = ns.map V.int := by
  induction vs with
  | nil =>
    intro ns h
    cases ns with
    | nil => rfl
    | cons n r => cases h
  | cons v vs ih =>
    intro ns h
    cases ns with
    | nil => cases h
    | cons n r =>
      cases h with
      | cons h1 h2 =>
        cases h1
        rw [ih h2]
        rfl
theorem Th.il {ns : List Int} (h : Th K H v (.list (ns.map PyData.int))) : IL K ns v H := by
  cases h with
  | of h =>
    cases h with
    | lst hs ha =>
      rw [dps_ints ha] at hs
      exact ⟨_, rfl, hs⟩
theorem il_th {ns : List Int} (h : IL K ns v H) : Th K H v (.list (ns.map PyData.int)) := by
  obtain ⟨a, rfl, hs⟩ := h
  exact .of (.lst hs dps)
theorem th_int (i : Int) : Th K H (.int i) (.int i) := .of (.int i)
theorem th_bl (b : Bool) : Th K H (.bl b) (.bool b) := .of (.bl b)
theorem th_str (x : Str) : Th K H (.str x) (.str x) := .of (.str x)
theorem th_non : Th K H .non .none := .of .non
theorem IL.vl {ns : List Int} (h : IL K ns v H) : VL K (ns.map V.int) v H := h
theorem x_vlI {te : TE} {σ : L2.St} {ns : List Int} (h : EvX te σ H (IL K ns)) : EvX te σ H (VL K (ns.map V.int)) := h
/-- an item of a list of things -/
theorem dps_at {vs : List V} {ds : List PyData} (h : DpAll K H vs ds) : ∀ {i : Nat} {x : V}, vs[i]? = some x → ∃ d, ds[i]? = some d ∧ Dp K H x d := by
  induction vs generalizing ds with
  | nil =>
    intro i x hx
    simp at hx
  | cons v vs ih =>
    intro i x hx
    cases h with
    | cons h1 h2 =>
      cases i with
      | zero =>
        have e : v = x := Option.some.inj hx
        subst e
        exact ⟨_, rfl, h1⟩
      | succ i => exact ih h2 (i := i) hx
theorem dps_len {vs : List V} {ds : List PyData} (h : DpAll K H vs ds) : vs.length = ds.length := by
  induction vs generalizing ds with
  | nil =>
    cases h
    rfl
  | cons v vs ih =>
    cases h with
    | cons h1 h2 => rw [List.length_cons, List.length_cons, ih h2]
end
end Fw

namespace Fw
open PySem PySem.Spec PyProof.Rows L2 Evl
local macro_rules | `(tactic| walk_at "rv") => `(tactic| first | exact rv_I0 | exact rv_eq rfl | exact rv_ne rfl | exact rv_mod (by omega) | exact rv_div ⟨by omega, by omega⟩ | exact rv_mul (cmul_l ⟨by omega, by omega⟩) | exact rv_mul (cmul_r ⟨by omega, by omega⟩) | exact rv_isB | exact rv_notB | exact rv_isN | exact rv_notN)
local macro_rules | `(tactic| walk_at "ev") => `(tactic| first | assumption | exact ev_c | exact ev_var rfl | (refine ev_op ?_ ?_ ?_ <;> first | (walk_at "ev"; done) | (walk_at "rv"; done)) | (refine ev_un ?_ ru_neg; walk_at "ev") | (refine ev_andV ?_ (fun _ => ?_) <;> walk_at "ev") | (refine ev_orV ?_ (fun _ => ?_) <;> walk_at "ev") | (refine ev_notV ?_; walk_at "ev"))
local macro_rules | `(tactic| walk_at "et") => `(tactic| first | assumption | (refine et_test ?_; walk_at "ev") | (refine et_B ?_; walk_at "ev") | (refine et_not ?_; walk_at "et") | (refine et_and ?_ (fun _ => ?_) <;> walk_at "et") | (refine et_or ?_ (fun _ => ?_) <;> walk_at "et"))
abbrev D0 (Q : VK) : Ends := { nx := fun _ H' => Q .non H', rt := Q }
section
variable {K : PySem.W.Frag} {A : Ad} {vs : List V} {H : Hp} {Q : VK} {E : XK}
/-! ### is_whole -/
def sp_is_whole (K : PySem.W.Frag) (A : Ad) : Sp := fun vs H Q _ => ∃ v d, vs = [v] ∧ Th K H v d ∧ RetV (.bl (wholeD d)) H Q
def t_is_whole (K : PySem.W.Frag) (A : Ad) : TS :=
  (tRet (tAndV (tCB (rIsi K) (tCons (tVar 0) (tCons (tC (.ty "int")) tNil))) (tNotV (tCB (rIsi K) (tCons (tVar 0) (tCons (tC (.ty "bool")) tNil))))))
theorem r_is_whole (h : sp_is_whole K A vs H Q E) : t_is_whole K A (D0 Q) (start ["thing"] vs) H := by
  obtain ⟨v, d, rfl, hd, k⟩ := h
  refine s_retV (v := .bl (wholeD d)) ?_ k
  rw [← wholeD_is d]
  exact ev_andV (ev_isInt (ev_var rfl) hd) fun _ => ev_notV (ev_isBool (ev_var rfl) hd)
theorem ev_is_whole {te : TE} {σ : L2.St} {v : V} {d : PyData} {E : XK} (h : Ev te σ H v) (hd : Th K H v d) : Ev (tCall (sp_is_whole K A) [] E (tCons te tNil)) σ H (.bl (wholeD d)) :=
  ev_call1 (x_v h) fun x H1 e1 ex Q q => ⟨v, d, by rw [show x = v from ex], hd.mono e1, fun H' e => q H' e⟩
/-! ### is_laying -/
def sp_is_laying (K : PySem.W.Frag) (A : Ad) : Sp := fun vs H Q _ => ∃ v d, vs = [v] ∧ Th K H v d ∧ RetV (.bl (isLayD d)) H Q
def t_is_laying (K : PySem.W.Frag) (A : Ad) : TS :=
  (tSeq (tIfS (tNot (tB (tCB (rIsi K) (tCons (tVar 0) (tCons (tC (.ty "list")) tNil))))) (tRet (tC (.bl false))) tNext)
    (tSeq (tFor (iList K (tVar 0)) (gName 1) (tIfS (tOr (tNot (tB (tCall (sp_is_whole K A) [] E0 (tCons (tVar 1) tNil)))) (tOr (tTest (tOp rLtI (tVar 1) (tUn rNegI (tC (.int 1))))) (tTest (tOp rGtI (tVar 1) (tC (.int 1)))))) (tRet (tC (.bl false))) tNext))
    (tRet (tC (.bl true)))))
theorem not_list {d : PyData} (h : (!(tyD d == "list")) = true) : isLayD d = false := by
  cases d <;> first | rfl | (exfalso; simp [tyD] at h)
theorem is_list {d : PyData} (h : (!(tyD d == "list")) = false) : ∃ ds, d = .list ds := by
  cases d <;> first | exact ⟨_, rfl⟩ | (exfalso; simp [tyD] at h)
theorem take_all {p : PyData → Bool} {ds : List PyData} {i : Nat} {d : PyData} (h : ds[i]? = some d) (ha : (ds.take i).all p = true) (hd : p d = true) : (ds.take (i + 1)).all p = true := by
  rw [List.take_add_one, h, List.all_append, ha]
  simp [hd]
theorem all_not {p : PyData → Bool} {ds : List PyData} {i : Nat} {d : PyData} (h : ds[i]? = some d) (hd : p d = false) : ds.all p = false := by
  rw [List.all_eq_false]
  exact ⟨d, List.mem_of_getElem? h, by rw [hd]; decide⟩
theorem r_is_laying (h : sp_is_laying K A vs H Q E) : t_is_laying K A (D0 Q) (start ["thing", "one"] vs) H := by
  obtain ⟨v, d, rfl, hd, k⟩ := h
  refine q_when (et_not (et_B (ev_isList (ev_var rfl) hd))) (fun hb H1 e1 => ?_) (fun hb H1 e1 => ?_)
  · rw [not_list hb] at k
    exact s_retV ev_c (k.mono e1)
  · obtain ⟨ds, rfl⟩ := is_list hb
    have hd1 := hd.mono e1
    cases hd1 with
    | of hd1 =>
      cases hd1 with
      | @lst a xs _ hs ha =>
        have hl := dps_len ha
        refine q_forP (x_vl (ev_var rfl) hs) (fun i σ' => ∃ u, σ' = [some (.ref a), u] ∧ (ds.take i).all pmD = true) ⟨none, rfl, rfl⟩ ?_ ?_
        · rintro H2 i x σ' H' e2 e3 hx ⟨u, rfl, hall⟩
          obtain ⟨d, hd, hp⟩ := dps_at ha hx
          have hp' : Th K H' x d := .of (dp_mono (e2.trans e3) _ _ hp)
          have test : EvT (tOr (tNot (tB (tCall (sp_is_whole K A) [] E0 (tCons (tVar 1) tNil)))) (tOr (tTest (tOp rLtI (tVar 1) (tUn rNegI (tC (.int 1))))) (tTest (tOp rGtI (tVar 1) (tC (.int 1)))))) [some (.ref a), some x] H' (!pmD d) := by
            have h1 : EvT (tNot (tB (tCall (sp_is_whole K A) [] E0 (tCons (tVar 1) tNil)))) [some (.ref a), some x] H' (!wholeD d) := et_not (et_B (ev_is_whole (ev_var rfl) hp'))
            by_cases w : wholeD d = true
            · cases d with
              | int i =>
                cases hp
                refine et_is (et_or h1 fun _ => et_or (et_test (ev_op (ev_var rfl) (ev_un ev_c ru_neg) rv_I0)) fun _ => et_test (ev_op (ev_var rfl) ev_c rv_I0)) ?_
                show (!true || (decide (i < -1) || decide (1 < i))) = !(decide (-1 ≤ i) && decide (i ≤ 1))
                by_cases c1 : i < -1
                · simp [c1, show ¬ -1 ≤ i by omega]
                · by_cases c2 : 1 < i
                  · simp [c1, c2, show ¬ i ≤ 1 by omega]
                  · simp [c1, c2, show -1 ≤ i by omega, show i ≤ 1 by omega]
              | none => exact absurd w Bool.false_ne_true
              | bool b => exact absurd w Bool.false_ne_true
              | str b => exact absurd w Bool.false_ne_true
              | list b => exact absurd w Bool.false_ne_true
              | tuple b => exact absurd w Bool.false_ne_true
              | dict b => exact absurd w Bool.false_ne_true
            · have w' : wholeD d = false := by simpa using w
              have p' : pmD d = false := by
                cases d <;> first | rfl | exact absurd rfl w
              rw [w'] at h1
              exact et_is (et_or (b := true) h1 fun z => by cases z) (by rw [p']; rfl)
          refine s_when test (fun hb H4 e4 => ?_) (fun hb H4 e4 => ?_)
          · have p' : pmD d = false := by simpa using hb
            have z : isLayD (.list ds) = false := all_not hd p'
            rw [z] at k
            exact s_retV ev_c (k.mono (((e1.trans e2).trans e3).trans e4))
          · have p' : pmD d = true := by simpa using hb
            exact ⟨⟨_, rfl, take_all hd hall p'⟩, e3.trans e4⟩
        · rintro σ' H' e2 ⟨u, rfl, hall⟩
          rw [hl, List.take_length] at hall
          have z : isLayD (.list ds) = true := hall
          rw [z] at k
          exact s_retV ev_c (k.mono (e1.trans e2))
theorem ev_is_laying {te : TE} {σ : L2.St} {v : V} {d : PyData} {E : XK} (h : Ev te σ H v) (hd : Th K H v d) : Ev (tCall (sp_is_laying K A) [] E (tCons te tNil)) σ H (.bl (isLayD d)) :=
  ev_call1 (x_v h) fun x H1 e1 ex Q q => ⟨v, d, by rw [show x = v from ex], hd.mono e1, fun H' e => q H' e⟩
/-! ### good_laying -/
def sp_good_laying (K : PySem.W.Frag) (A : Ad) : Sp := fun vs H Q E => ∃ v d, vs = [v] ∧ Th K H v d ∧ (isLayD d = true → RetV v H Q) ∧ (isLayD d = false → RaiseE E A.laying H)
def t_good_laying (K : PySem.W.Frag) (A : Ad) (E : XK) : TS :=
  (tSeq (tIfS (tNot (tB (tCall (sp_is_laying K A) [] E0 (tCons (tVar 0) tNil)))) (tRaiseC A.laying E) tNext)
    (tRet (tVar 0)))
theorem r_good_laying (h : sp_good_laying K A vs H Q E) : t_good_laying K A E (D0 Q) (start ["laying"] vs) H := by
  obtain ⟨v, d, rfl, hd, k1, k2⟩ := h
  refine q_when (et_not (et_B (ev_is_laying (ev_var rfl) hd))) (fun hb H1 e1 => ?_) (fun hb H1 e1 => ?_)
  · exact k2 (by simpa using hb) H1 e1
  · exact s_retV (ev_var rfl) ((k1 (by simpa using hb)).mono e1)
/-- a promise of a def upon one laying: R says what it gives -/
def LaySp (R : List Int → Hp → VK → Prop) (K : PySem.W.Frag) (A : Ad) : Sp := fun vs H Q E => ∃ v d, vs = [v] ∧ Th K H v d ∧ (∀ ns, d = .list (ns.map PyData.int) → Few.Lay ns → R ns H Q) ∧ (isLayD d = false → RaiseE E A.laying H)
section
variable {te : TE} {σ : L2.St} {ns : List Int} {v : V} {d : PyData} {R : List Int → Hp → VK → Prop}
theorem LaySp.good (h : IL K ns v H) (hl : Few.Lay ns) (hr : R ns H Q) : LaySp R K A [v] H Q E :=
  ⟨v, _, rfl, il_th h, fun ms e _ => by
    have e' : ns = ms := ints_inj (PyData.list.inj e)
    rw [← e']
    exact hr, fun z => by rw [lay_ints hl] at z; cases z⟩
theorem LaySp.bad (h : Th K H v d) (hl : isLayD d = false) (hr : RaiseE E A.laying H) : LaySp R K A [v] H Q E :=
  ⟨v, d, rfl, h, (fun ms e l => by rw [e, lay_ints l] at hl; cases hl), fun _ => hr⟩
/-- the call of good_laying in a def of that kind -/
theorem x_good (h : EvX te σ H (IL K ns)) (hl : Few.Lay ns) : EvX (tCall (sp_good_laying K A) [] E (tCons te tNil)) σ H (IL K ns) :=
  x_call1 h fun x H1 e1 hx Q q => ⟨x, _, rfl, il_th hx, fun _ H' e => q x H' e (mono_il _ _ _ e hx), fun z => by rw [lay_ints hl] at z; cases z⟩
theorem er_good (h : EvX te σ H (fun v H => Th K H v d)) (hl : isLayD d = false) (k : RaiseE E A.laying H) : Er (tCall (sp_good_laying K A) [] E (tCons te tNil)) σ H :=
  er_call1 h fun x H1 e1 hx Q => ⟨x, d, rfl, hx, (fun z => by rw [hl] at z; cases z), fun _ => k.mono e1⟩
theorem x_th {i : Nat} (h : σ[i]? = some (some v)) (hd : Th K H v d) : EvX (tVar i) σ H (fun v H => Th K H v d) := x_of (ev_var h) (fun _ _ _ e p => p.mono e) hd
theorem x_ilv {i : Nat} (h : σ[i]? = some (some v)) (hd : IL K ns v H) : EvX (tVar i) σ H (IL K ns) := x_of (ev_var h) mono_il hd
end
/-! ### load_of -/
def sp_load_of (K : PySem.W.Frag) (A : Ad) : Sp := LaySp (fun ns => RetV (.int (Few.loadOf ns))) K A
def t_load_of (K : PySem.W.Frag) (A : Ad) (E : XK) : TS :=
  (tSeq (tAsg (tC (.int 0)) (gName 1))
    (tSeq (tFor (iRev K (tCons (tCall (sp_good_laying K A) [] E (tCons (tVar 0) tNil)) tNil)) (gName 2) (tAsg (tOp rAddI (tOp rMulI (tC (.int 2)) (tVar 1)) (tVar 2)) (gName 1)))
    (tRet (tVar 1))))
theorem load_drop {ns : List Int} {i : Nat} {n : Int} (hi : i < ns.length) (h : ns[ns.length - 1 - i]? = some n) : Few.loadOf (ns.drop (ns.length - (i + 1))) = 2 * Few.loadOf (ns.drop (ns.length - i)) + n := by
  have e : ns.length - (i + 1) = ns.length - 1 - i := by omega
  have hlt : ns.length - 1 - i < ns.length := by omega
  rw [e, List.drop_eq_getElem_cons hlt]
  have e2 : ns[ns.length - 1 - i] = n := by
    rw [List.getElem?_eq_getElem hlt] at h
    exact Option.some.inj h
  show 2 * Few.loadOf (ns.drop (ns.length - 1 - i + 1)) + ns[ns.length - 1 - i] = _
  rw [e2, show ns.length - 1 - i + 1 = ns.length - i by omega]
theorem r_load_of (h : sp_load_of K A vs H Q E) : t_load_of K A E (D0 Q) (start ["laying", "load", "one"] vs) H := by
  obtain ⟨v, d, rfl, hd, k1, k2⟩ := h
  refine q_asg ev_c fun H1 e1 => ?_
  cases hl : isLayD d with
  | false => exact er_qforRv (er_good (x_th rfl (hd.mono e1)) hl ((k2 hl).mono e1))
  | true =>
    obtain ⟨ns, rfl, l⟩ := lay_is hl
    have k := k1 ns rfl l
    refine q_forRvP (x_vlI (x_good (x_ilv rfl (hd.mono e1).il) l)) (fun i σ' => ∃ u, σ' = [some v, some (.int (Few.loadOf (ns.drop (ns.length - i)))), u]) ⟨none, by rw [Nat.sub_zero, List.drop_length]; rfl⟩ ?_ ?_
    · rintro H2 i x σ' H' e2 e3 hi hx ⟨u, rfl⟩
      rw [List.length_map] at hi hx
      obtain ⟨n, hn, rfl⟩ := of_map hx
      refine s_asg (v := .int (2 * Few.loadOf (ns.drop (ns.length - i)) + n)) (ev_op (ev_op ev_c (ev_var rfl) (rv_mul (cmul_l ⟨by decide, by decide⟩))) (ev_var rfl) rv_I0) fun H4 e4 => ?_
      refine ⟨⟨some (.int n), ?_⟩, e3.trans e4⟩
      rw [load_drop hi hn]
      rfl
    · rintro σ' H' e2 ⟨u, rfl⟩
      rw [List.length_map, Nat.sub_self, List.drop_zero]
      exact s_retV (ev_var rfl) (k.mono (e1.trans e2))
theorem ev_load_of {te : TE} {σ : L2.St} {ns : List Int} (h : EvX te σ H (IL K ns)) (hl : Few.Lay ns) : Ev (tCall (sp_load_of K A) [] E (tCons te tNil)) σ H (.int (Few.loadOf ns)) :=
  ev_call1 h fun x H1 e1 hx Q q => LaySp.good hx hl fun H' e => q H' e
theorem er_load_of {te : TE} {σ : L2.St} {d : PyData} (h : EvX te σ H (fun v H => Th K H v d)) (hl : isLayD d = false) (k : RaiseE E A.laying H) : Er (tCall (sp_load_of K A) [] E (tCons te tNil)) σ H :=
  er_call1 h fun x H1 e1 hx Q => LaySp.bad hx hl (k.mono e1)
/-! ### stones -/
def sp_stones (K : PySem.W.Frag) (A : Ad) : Sp := LaySp (fun ns => RetV (.int (Few.used ns : Nat))) K A
def t_stones (K : PySem.W.Frag) (A : Ad) (E : XK) : TS :=
  (tSeq (tAsg (tC (.int 0)) (gName 1))
    (tSeq (tFor (iList K (tCall (sp_good_laying K A) [] E (tCons (tVar 0) tNil))) (gName 2) (tIfS (tTest (tOp rNe (tVar 2) (tC (.int 0)))) (tAug 1 (tC (.int 1)) (ipI fun i j => i + j)) tNext))
    (tRet (tVar 1))))
theorem used_take {ns : List Int} {i : Nat} {n : Int} (h : ns[i]? = some n) : Few.used (ns.take (i + 1)) = Few.used (ns.take i) + if n = 0 then 0 else 1 := by
  rw [List.take_add_one, h]
  unfold Few.used
  rw [List.filter_append, List.length_append]
  by_cases z : n = 0
  · subst z
    simp
  · rw [if_neg z]
    simp [z]
theorem ne_zero {n : Int} : (!decide (V.int n = V.int 0)) = !decide (n = 0) := by
  by_cases h : n = 0
  · subst h
    simp
  · rw [decide_eq_false h, decide_eq_false (fun z => h (V.int.inj z))]
theorem eq_dec {n m : Int} : decide (V.int n = V.int m) = decide (n = m) := by
  by_cases h : n = m
  · subst h
    simp
  · rw [decide_eq_false h, decide_eq_false (fun z => h (V.int.inj z))]
theorem r_stones (h : sp_stones K A vs H Q E) : t_stones K A E (D0 Q) (start ["laying", "many", "one"] vs) H := by
  obtain ⟨v, d, rfl, hd, k1, k2⟩ := h
  refine q_asg ev_c fun H1 e1 => ?_
  cases hl : isLayD d with
  | false => exact er_qfor (er_good (x_th rfl (hd.mono e1)) hl ((k2 hl).mono e1))
  | true =>
    obtain ⟨ns, rfl, l⟩ := lay_is hl
    have k := k1 ns rfl l
    refine q_forP (x_vlI (x_good (x_ilv rfl (hd.mono e1).il) l)) (fun i σ' => ∃ u, σ' = [some v, some (.int (Few.used (ns.take i) : Nat)), u]) ⟨none, rfl⟩ ?_ ?_
    · rintro H2 i x σ' H' e2 e3 hx ⟨u, rfl⟩
      obtain ⟨n, hn, rfl⟩ := of_map hx
      have step := used_take hn
      refine s_when (et_test (ev_op (ev_var rfl) ev_c (rv_ne rfl))) (fun hb H4 e4 => ?_) (fun hb H4 e4 => ?_)
      · rw [ne_zero] at hb
        have z : ¬ n = 0 := by simpa using hb
        rw [if_neg z] at step
        refine s_aug rfl ev_c fun H5 e5 => ?_
        refine ⟨⟨some (.int n), ?_⟩, (e3.trans e4).trans e5⟩
        rw [step]
        rfl
      · rw [ne_zero] at hb
        have z : n = 0 := by simpa using hb
        rw [if_pos z] at step
        refine ⟨⟨some (.int n), ?_⟩, e3.trans e4⟩
        rw [step]
        rfl
    · rintro σ' H' e2 ⟨u, rfl⟩
      rw [List.length_map, List.take_length]
      exact s_retV (ev_var rfl) (k.mono (e1.trans e2))
theorem ev_stones {te : TE} {σ : L2.St} {ns : List Int} (h : EvX te σ H (IL K ns)) (hl : Few.Lay ns) : Ev (tCall (sp_stones K A) [] E (tCons te tNil)) σ H (.int (Few.used ns : Nat)) :=
  ev_call1 h fun x H1 e1 hx Q q => LaySp.good hx hl fun H' e => q H' e
/-! ### ended -/
def sp_ended (K : PySem.W.Frag) (A : Ad) : Sp := LaySp (fun ns => RetL ((Few.ended ns).map V.int)) K A
def t_ended (K : PySem.W.Frag) (A : Ad) (E : XK) : TS :=
  (tSeq (tAsg (tCB (Evl.rListS K) (tCons (tCall (sp_good_laying K A) [] E (tCons (tVar 0) tNil)) tNil)) (gName 1))
    (tSeq (tWhile (tAnd (tTest (tOp rGtI (tCB (Evl.rLenS K) (tCons (tVar 1) tNil)) (tC (.int 0)))) (tTest (tOp rEq (tOp (rIxL K) (tVar 1) (tUn rNegI (tC (.int 1)))) (tC (.int 0))))) (tDrop (tBM0 K "list" rPop (tVar 1))))
    (tRet (tVar 1))))
theorem at_last {r : List Int} {x : Int} : atI ((r ++ [x]).map V.int) (-1) = some (.int x) := by
  rw [List.map_append]
  exact atI_last _ _
theorem dropLast_ints {r : List Int} {x : Int} : ((r ++ [x]).map V.int).dropLast = r.map V.int := by
  rw [List.map_append]
  exact List.dropLast_concat
theorem r_ended (h : sp_ended K A vs H Q E) : t_ended K A E (D0 Q) (start ["laying", "kept"] vs) H := by
  obtain ⟨v, d, rfl, hd, k1, k2⟩ := h
  cases hl : isLayD d with
  | false => exact er_q (er_cb (er_good (x_th rfl hd) hl (k2 hl)))
  | true =>
    obtain ⟨ns, rfl, l⟩ := lay_is hl
    have k : RetL ((Few.ended ns).map V.int) H Q := k1 ns rfl l
    refine q_asgL (el_listX (x_vlI (x_good (x_ilv rfl hd.il) l))) fun p H1 hp e1 hx => ?_
    refine q_while (fun m σ' H' => ∃ ks : List Int, m = ks.length ∧ Few.ended ks = Few.ended ns ∧ σ' = [some v, some (.ref p)] ∧ Ex H H' ∧ H' p = some (.lst (ks.map V.int))) ns.length ⟨ns, rfl, rfl, rfl, e1, hx⟩ ?_
    rintro m σ' H' ⟨ks, rfl, he, rfl, e2, hk⟩
    have tl : EvT (tTest (tOp rGtI (tCB (Evl.rLenS K) (tCons (tVar 1) tNil)) (tC (.int 0)))) [some v, some (.ref p)] H' (decide (0 < (ks.length : Int))) :=
      et_test (ev_op (ev_lenX (x_ilv rfl ⟨p, rfl, sq_of hk⟩)) ev_c rv_I0)
    rcases Few.last_cases ks with z | ⟨r, x, z⟩
    · subst z
      refine ⟨false, et_and (b := false) tl (fun z => by cases z), (fun z => by cases z), fun _ H4 e4 => ?_⟩
      have e0 : Few.ended ns = [] := he.symm
      rw [e0] at k
      exact s_ret (ev_var rfl) fun H5 e5 => k p H5 hp ((e2.trans e4).trans e5) (e5 _ _ (e4 _ _ hk))
    · subst z
      have lt : EvT (tTest (tOp rEq (tOp (rIxL K) (tVar 1) (tUn rNegI (tC (.int 1)))) (tC (.int 0)))) [some v, some (.ref p)] H' (decide (x = 0)) := by
        refine et_is (et_test (ev_op (ev_op (ev_var rfl) (ev_un ev_c ru_neg) (rv_ixL (sq_of hk) at_last)) ev_c (rv_eq rfl))) eq_dec
      refine ⟨decide (x = 0), et_is (et_and tl fun _ => lt) (by rw [List.length_append]; simp), fun hb H4 e4 => ?_, fun hb H4 e4 => ?_⟩
      · have hx0 : x = 0 := of_decide_eq_true hb
        subst hx0
        refine ⟨fun σ2 H2 => σ2 = [some v, some (.ref p)] ∧ Ex H H2 ∧ H2 p = some (.lst (r.map V.int)), fun σ2 H2 q => ⟨r.length, by rw [List.length_append]; simp, r, rfl, by rw [← he, Few.ended_snoc0], q.1, q.2.1, q.2.2⟩, ?_⟩
        refine s_popS (y := .int 0) (e4 _ _ hk) (ev_var rfl) ?_ fun H5 e5 => ?_
        · rw [List.length_map, List.length_append, List.map_append]
          simp
        · rw [dropLast_ints]
          exact ⟨rfl, Ex.mut ((e2.trans e4).trans e5) hp, upd_same⟩
      · have hx0 : x ≠ 0 := by simpa using hb
        have ek : r ++ [x] = Few.ended ns := by rw [← he, Few.ended_snoc r hx0]
        rw [ek] at hk
        exact s_ret (ev_var rfl) fun H5 e5 => k p H5 hp ((e2.trans e4).trans e5) (e5 _ _ (e4 _ _ hk))
theorem el_ended {te : TE} {σ : L2.St} {ns : List Int} (h : EvX te σ H (IL K ns)) (hl : Few.Lay ns) : EvL (tCall (sp_ended K A) [] E (tCons te tNil)) σ H ((Few.ended ns).map V.int) :=
  el_call1 h fun x H1 e1 hx Q q => LaySp.good hx hl fun p H' hp e hx => q p H' hp e hx
/-! ### is_neat -/
def sp_is_neat (K : PySem.W.Frag) (A : Ad) : Sp := LaySp (fun ns => RetV (.bl (Few.neatB ns))) K A
def t_is_neat (K : PySem.W.Frag) (A : Ad) (E : XK) : TS :=
  (tSeq (tAsg (tC (.int 0)) (gName 1))
    (tSeq (tFor (iList K (tCall (sp_good_laying K A) [] E (tCons (tVar 0) tNil))) (gName 2) (tSeq (tIfS (tAnd (tTest (tOp rNe (tVar 1) (tC (.int 0)))) (tTest (tOp rNe (tVar 2) (tC (.int 0))))) (tRet (tC (.bl false))) tNext)
    (tAsg (tVar 2) (gName 1))))
    (tRet (tOrV (tOp (rEqD K) (tVar 0) (tLst tNil)) (tOp rNe (tVar 1) (tC (.int 0)))))))
theorem r_is_neat (h : sp_is_neat K A vs H Q E) : t_is_neat K A E (D0 Q) (start ["laying", "before", "one"] vs) H := by
  obtain ⟨v, d, rfl, hd, k1, k2⟩ := h
  refine q_asg ev_c fun H1 e1 => ?_
  cases hl : isLayD d with
  | false => exact er_qfor (er_good (x_th rfl (hd.mono e1)) hl ((k2 hl).mono e1))
  | true =>
    obtain ⟨ns, rfl, l⟩ := lay_is hl
    have k : RetV (.bl (Few.neatB ns)) H Q := k1 ns rfl l
    refine q_forP (x_vlI (x_good (x_ilv rfl (hd.mono e1).il) l)) (fun i σ' => ∃ u b, σ' = [some v, some (.int b), u] ∧ Few.beforeOf 0 (ns.take i) = b ∧ Few.apartB (ns.take i) = true) ⟨none, 0, rfl, rfl, rfl⟩ ?_ ?_
    · rintro H2 i x σ' H' e2 e3 hx ⟨u, b, rfl, hb, ha⟩
      obtain ⟨n, hn, rfl⟩ := of_map hx
      have t1 : EvT (tAnd (tTest (tOp rNe (tVar 1) (tC (.int 0)))) (tTest (tOp rNe (tVar 2) (tC (.int 0))))) [some v, some (.int b), some (.int n)] H' (!decide (b = 0) && !decide (n = 0)) :=
        et_and (et_is (et_test (ev_op (ev_var rfl) ev_c (rv_ne rfl))) ne_zero) fun _ => et_is (et_test (ev_op (ev_var rfl) ev_c (rv_ne rfl))) ne_zero
      have st := Few.apart_step hn ha hb
      refine q_when t1 (fun hc H4 e4 => ?_) (fun hc H4 e4 => ?_)
      · have z : Few.neatB ns = false := by
          rw [Few.neat_iff, st.2 hc]
          rfl
        rw [z] at k
        exact s_retV ev_c (k.mono (((e1.trans e2).trans e3).trans e4))
      · exact s_asg (ev_var rfl) fun H5 e5 => ⟨⟨some (.int n), n, rfl, Few.before_take hn, st.1 hc⟩, (e3.trans e4).trans e5⟩
    · rintro σ' H' e2 ⟨u, b, rfl, hb, ha⟩
      rw [List.length_map, List.take_length] at hb ha
      have hq := mono_il _ _ _ (e1.trans e2) hd.il
      refine s_retV (v := .bl (Few.neatB ns)) ?_ (k.mono (e1.trans e2))
      have first : Ev (tOp (rEqD K) (tVar 0) (tLst tNil)) [some v, some (.int b), u] H' (.bl (decide (ns = []))) := ev_eqI (ys := []) (x_ilv rfl hq) (x_ilL (el_lst ea_nil (by decide)))
      refine ev_is (ev_orV first fun _ => ev_is (ev_op (ev_var rfl) ev_c (rv_ne rfl)) (by rw [ne_zero])) ?_
      rw [Few.neat_by_last ns hb ha]
theorem ev_is_neat {te : TE} {σ : L2.St} {ns : List Int} (h : EvX te σ H (IL K ns)) (hl : Few.Lay ns) : Ev (tCall (sp_is_neat K A) [] E (tCons te tNil)) σ H (.bl (Few.neatB ns)) :=
  ev_call1 h fun x H1 e1 hx Q q => LaySp.good hx hl fun H' e => q H' e
/-! ### good_load, laid -/
def sp_good_load (K : PySem.W.Frag) (A : Ad) : Sp := fun vs H Q E => ∃ v d, vs = [v] ∧ Th K H v d ∧ (wholeD d = true → RetV v H Q) ∧ (wholeD d = false → RaiseE E A.load H)
def t_good_load (K : PySem.W.Frag) (A : Ad) (E : XK) : TS :=
  (tSeq (tIfS (tNot (tB (tCall (sp_is_whole K A) [] E0 (tCons (tVar 0) tNil)))) (tRaiseC A.load E) tNext)
    (tRet (tVar 0)))
theorem r_good_load (h : sp_good_load K A vs H Q E) : t_good_load K A E (D0 Q) (start ["load"] vs) H := by
  obtain ⟨v, d, rfl, hd, k1, k2⟩ := h
  refine q_when (et_not (et_B (ev_is_whole (ev_var rfl) hd))) (fun hb H1 e1 => ?_) (fun hb H1 e1 => ?_)
  · exact k2 (by simpa using hb) H1 e1
  · exact s_retV (ev_var rfl) ((k1 (by simpa using hb)).mono e1)
/-- a promise of a def upon one load -/
def LoadSp (R : Int → Hp → VK → Prop) (K : PySem.W.Frag) (A : Ad) : Sp := fun vs H Q E => ∃ v d, vs = [v] ∧ Th K H v d ∧ (∀ n, d = .int n → R n H Q) ∧ (wholeD d = false → RaiseE E A.load H)
theorem whole_is {d : PyData} (h : wholeD d = true) : ∃ n, d = .int n := by
  cases d <;> first | exact ⟨_, rfl⟩ | cases h
theorem th_int_is {v : V} {n : Int} (h : Th K H v (.int n)) : v = .int n := by
  cases h with
  | of h =>
    cases h
    rfl
section
variable {te : TE} {σ : L2.St} {n : Int} {v : V} {d : PyData} {R : Int → Hp → VK → Prop}
theorem LoadSp.good (hr : R n H Q) : LoadSp R K A [.int n] H Q E := ⟨.int n, .int n, rfl, th_int n, (fun m e => by cases e; exact hr), fun z => by cases z⟩
theorem LoadSp.bad (h : Th K H v d) (hl : wholeD d = false) (hr : RaiseE E A.load H) : LoadSp R K A [v] H Q E := ⟨v, d, rfl, h, (fun m e => by rw [e] at hl; cases hl), fun _ => hr⟩
theorem ev_goodload (h : Ev te σ H (.int n)) : Ev (tCall (sp_good_load K A) [] E (tCons te tNil)) σ H (.int n) :=
  ev_call1 (x_v h) fun x H1 e1 hx Q q => ⟨.int n, .int n, by rw [show x = V.int n from hx], th_int n, (fun _ H' e => q H' e), fun z => by cases z⟩
theorem er_goodload (h : EvX te σ H (fun v H => Th K H v d)) (hl : wholeD d = false) (k : RaiseE E A.load H) : Er (tCall (sp_good_load K A) [] E (tCons te tNil)) σ H :=
  er_call1 h fun x H1 e1 hx Q => ⟨x, d, rfl, hx, (fun z => by rw [hl] at z; cases z), fun _ => k.mono e1⟩
end
def sp_laid (K : PySem.W.Frag) (A : Ad) : Sp := LoadSp (fun n H Q => (Few.laid n).length < 100000 ∧ RetL ((Few.laid n).map V.int) H Q) K A
def t_laid (K : PySem.W.Frag) (A : Ad) (E : XK) : TS :=
  (tSeq (tAsg (tCall (sp_good_load K A) [] E (tCons (tVar 0) tNil)) (gName 1))
    (tSeq (tAsg (tLst tNil) (gName 2))
    (tSeq (tWhile (tTest (tOp rNe (tVar 1) (tC (.int 0)))) (tSeq (tAsg (tC (.int 0)) (gName 3))
    (tSeq (tIfS (tTest (tOp rEq (tOp rModI (tVar 1) (tC (.int 2))) (tC (.int 1)))) (tAsg (tOp rSubI (tC (.int 2)) (tOp rModI (tVar 1) (tC (.int 4)))) (gName 3)) tNext)
    (tSeq (tDrop (tBM K "list" rAppend (tVar 2) (tCons (tVar 3) tNil)))
    (tAsg (tOp rDivI (tOp rSubI (tVar 1) (tVar 3)) (tC (.int 2))) (gName 1))))))
    (tRet (tVar 2)))))
theorem r_laid (h : sp_laid K A vs H Q E) : t_laid K A E (D0 Q) (start ["load", "rest", "found", "one"] vs) H := by
  obtain ⟨v, d, rfl, hd, k1, k2⟩ := h
  cases hl : wholeD d with
  | false => exact er_q (er_goodload (x_th rfl hd) hl (k2 hl))
  | true =>
    obtain ⟨n, rfl⟩ := whole_is hl
    obtain ⟨hlen, k⟩ := k1 n rfl
    have hv := th_int_is hd
    subst hv
    refine q_asg (ev_goodload (ev_var rfl)) fun H1 e1 => ?_
    refine q_asgL (xs := []) (el_lst ea_nil (by decide)) fun p H2 hp e2 hx => ?_
    refine q_while (fun m σ' H' => ∃ (r : Int) (l : List Int) (u : Option V), m = r.natAbs ∧ l ++ Few.laid r = Few.laid n ∧ σ' = [some (.int n), some (.int r), some (.ref p), u] ∧ Ex H1 H' ∧ H' p = some (.lst (l.map V.int))) n.natAbs ⟨n, [], none, rfl, rfl, rfl, e2, hx⟩ ?_
    rintro m σ' H' ⟨r, l, u, rfl, he, rfl, e3, hk⟩
    refine ⟨!decide (r = 0), et_is (et_test (ev_op (ev_var rfl) ev_c (rv_ne rfl))) ne_zero, fun hb H4 e4 => ?_, fun hb H4 e4 => ?_⟩
    · have hr : r ≠ 0 := by simpa using hb
      have e0 := Few.laid_ne hr
      refine ⟨fun σ2 H2 => ∃ u, σ2 = [some (.int n), some (.int ((r - Few.digit r) / 2)), some (.ref p), u] ∧ Ex H1 H2 ∧ H2 p = some (.lst ((l ++ [Few.digit r]).map V.int)), fun σ2 H2 ⟨u, q1, q2, q3⟩ => ⟨_, Few.digit_less r hr, _, l ++ [Few.digit r], u, rfl, by rw [← he, e0]; simp, q1, q2, q3⟩, ?_⟩
      have hlt : (l.map V.int).length < 100000 := by
        have e5 : (l ++ Few.laid r).length = (Few.laid n).length := by rw [he]
        rw [List.length_append] at e5
        rw [List.length_map]
        omega
      refine q_asg ev_c fun H5 e5 => ?_
      refine q_ifAsg (v := .int (Few.digit r)) (b := decide (r % 2 = 1)) (et_is (et_test (ev_op (ev_op (ev_var rfl) ev_c (rv_mod (by decide))) ev_c (rv_eq rfl))) eq_dec) (fun hm => ?_) (fun hm => ?_) fun H6 e6 => ?_
      · have o : r % 2 = 1 := of_decide_eq_true hm
        refine ev_is (ev_op ev_c (ev_op (ev_var rfl) ev_c (rv_mod (by decide))) rv_I0) ?_
        unfold Few.digit
        rw [if_pos o]
      · have o : ¬ r % 2 = 1 := by simpa using hm
        unfold Few.digit
        rw [if_neg o]
        rfl
      · refine q_app (xs := l.map V.int) (e6 _ _ (e5 _ _ (e4 _ _ hk))) (ev_var rfl) (ev_var rfl) hlt fun H7 e7 => ?_
        refine s_asg (ev_op (ev_op (ev_var rfl) (ev_var rfl) rv_I0) ev_c (rv_div ⟨by decide, by decide⟩)) fun H8 e8 => ?_
        have hp1 : H1 p = none := hp
        refine ⟨some (.int (Few.digit r)), rfl, (Ex.mut ((((e3.trans e4).trans e5).trans e6).trans e7) hp1).trans e8, e8 _ _ ?_⟩
        rw [upd_same, List.map_append]
        rfl
    · have hr : r = 0 := by simpa using hb
      subst hr
      rw [Few.laid_zero, List.append_nil] at he
      rw [he] at hk
      exact s_ret (ev_var rfl) fun H5 e5 => k p H5 (fresh_back e1 hp) (((e1.trans e3).trans e4).trans e5) (e5 _ _ (e4 _ _ hk))
theorem el_laid {te : TE} {σ : L2.St} {n : Int} (h : Ev te σ H (.int n)) (hl : (Few.laid n).length < 100000) : EvL (tCall (sp_laid K A) [] E (tCons te tNil)) σ H ((Few.laid n).map V.int) :=
  el_call1 (x_v h) fun x H1 e1 hx Q q => by
    rw [show x = V.int n from hx]
    exact LoadSp.good ⟨hl, fun p H' hp e hx => q p H' hp e hx⟩
theorem er_laid {te : TE} {σ : L2.St} {d : PyData} (h : EvX te σ H (fun v H => Th K H v d)) (hl : wholeD d = false) (k : RaiseE E A.load H) : Er (tCall (sp_laid K A) [] E (tCons te tNil)) σ H :=
  er_call1 h fun x H1 e1 hx Q => LoadSp.bad hx hl (k.mono e1)
end
end Fw

namespace Fw
open PySem PySem.Spec PyProof.Rows L2 Evl
/-! comprehensions -/
section
variable {K : PySem.W.Frag} {σ : L2.St} {H H' : Hp} {ta : TA} {tb te tx tl : TE} {t u : TT} {x y z v : V}
def CwV (H : Hp) (xs : List V) (Dl : Addr) (H' : Hp) : Prop := H Dl = none ∧ Ex H H' ∧ H' Dl = some (.lst xs)
theorem cwv_turn {H H' : Hp} {acc : List V} {b : Bool} {y : V} {Dl : Addr} {σ2 : L2.St} (p : CwV H acc Dl H') (hi : acc.length < 50000) (ht : EvT t σ2 H b) (he : b = true → Ev te σ2 H y) (R : Hp → Prop) (hR : ∀ H2, CwV H (if b = true then acc ++ [y] else acc) Dl H2 → R H2) :
    t σ2 H' fun b H3 => if b = true then te σ2 H3 fun y H4 => ∃ acc, H4 Dl = some (.lst acc) ∧ acc.length < sizeLine ∧ R (upd H4 Dl (.lst (acc ++ [y]))) else R H3 := by
  obtain ⟨p1, p2, p3⟩ := p
  refine ht H' p2 _ fun H3 e3 => ?_
  cases hb : b with
  | true =>
    show te σ2 H3 fun y H4 => ∃ acc, H4 Dl = some (.lst acc) ∧ acc.length < sizeLine ∧ R (upd H4 Dl (.lst (acc ++ [y])))
    refine he hb H3 (p2.trans e3) _ fun H4 e4 => ⟨acc, e4 Dl _ (e3 Dl _ p3), sz_lt (by omega), hR _ ⟨p1, Ex.mut ((p2.trans e3).trans e4) p1, ?_⟩⟩
    rw [hb, if_pos rfl]
    exact upd_same
  | false =>
    show R H3
    refine hR _ ⟨p1, p2.trans e3, ?_⟩
    rw [hb, if_neg (by decide)]
    exact e3 Dl _ p3
theorem filt_take {f : V → Bool} {g : V → V} {xs : List V} {i : Nat} {x : V} (h : xs[i]? = some x) : ((xs.take (i + 1)).filter f).map g = if f x = true then ((xs.take i).filter f).map g ++ [g x] else ((xs.take i).filter f).map g := by
  rw [List.take_add_one, h, List.filter_append]
  show List.map g (List.filter f (List.take i xs) ++ List.filter f [x]) = _
  by_cases c : f x = true
  · rw [if_pos c, List.filter_cons, if_pos c, List.map_append]
    rfl
  · rw [if_neg c, List.filter_cons, if_neg c]
    simp
theorem filt_len {f : V → Bool} {g : V → V} {xs : List V} {i : Nat} : (((xs.take i).filter f).map g).length ≤ xs.length := by
  rw [List.length_map]
  have h := List.length_filter_le f (xs.take i)
  have h2 : (xs.take i).length ≤ xs.length := by
    rw [List.length_take]
    omega
  omega
theorem el_lcV {xs : List V} {j : Nat} {vs : List Nat} (f : V → Bool) (g : V → V) (h : EvX tl σ H (VL K xs)) (hz : xs.length ≤ 40000) (hw : ∀ x, wipe ((wipe σ vs).set j (some x)) vs = wipe σ vs)
    (ht : ∀ (x : V) H1, Ex H H1 → x ∈ xs → EvT t ((wipe σ vs).set j (some x)) H1 (f x)) (he : ∀ (x : V) H1, Ex H H1 → x ∈ xs → f x = true → Ev te ((wipe σ vs).set j (some x)) H1 (g x)) :
    EvL (tLc (iList K tl) (gName j) t te vs) σ H ((xs.filter f).map g) := fun H0 e Q q => h H0 e _ fun v H1 e1 ⟨a, ev, hx⟩ => ⟨a, ev, ⟨xs, hx⟩, fun Dl hD =>
  lc_list (xs := xs) (fun i => CwV H1 (((xs.take i).filter f).map g) Dl) ⟨hD, Ex.new hD, upd_same⟩ (fun i H' _ p => ex_l p.2.1 hx) (fun i x H' hi p => ⟨hw x, by
    refine cwv_turn (b := f x) (y := g x) p (by have := @filt_len f g xs i; omega) (ht x H1 (e.trans e1) (List.mem_of_getElem? hi)) (fun hf => he x H1 (e.trans e1) (List.mem_of_getElem? hi) hf) _ fun H2 p2 => ?_
    rw [filt_take hi]
    exact p2⟩) (fun H' p => q Dl H' (fresh_back e1 p.1) (e1.trans p.2.1) (by have z := p.2.2; rw [List.take_length] at z; exact z))⟩
theorem el_lcI {ns : List Int} {j : Nat} {vs : List Nat} (f : Int → Bool) (g : Int → V) (h : EvX tl σ H (IL K ns)) (hz : ns.length ≤ 40000) (hw : ∀ x, wipe ((wipe σ vs).set j (some x)) vs = wipe σ vs)
    (ht : ∀ (n : Int) H1, Ex H H1 → n ∈ ns → EvT t ((wipe σ vs).set j (some (.int n))) H1 (f n)) (he : ∀ (n : Int) H1, Ex H H1 → n ∈ ns → f n = true → Ev te ((wipe σ vs).set j (some (.int n))) H1 (g n)) :
    EvL (tLc (iList K tl) (gName j) t te vs) σ H ((ns.filter f).map g) := by
  have key := el_lcV (xs := ns.map V.int) (fun x => match x with | .int n => f n | _ => false) (fun x => match x with | .int n => g n | _ => x) (x_vlI h) (by rw [List.length_map]; exact hz) hw (t := t) (te := te) (fun x H1 e hx => by
    obtain ⟨n, hn, rfl⟩ := List.mem_map.mp hx
    exact ht n H1 e hn) (fun x H1 e hx hf => by
    obtain ⟨n, hn, rfl⟩ := List.mem_map.mp hx
    exact he n H1 e hn hf)
  rw [List.filter_map, List.map_map] at key
  exact key
theorem et_yes : EvT tYes σ H true := fun H1 _ Q q => q H1 (Ex.refl H1)
/-- without a test -/
theorem el_lcI0 {ns : List Int} {j : Nat} {vs : List Nat} (g : Int → V) (h : EvX tl σ H (IL K ns)) (hz : ns.length ≤ 40000) (hw : ∀ x, wipe ((wipe σ vs).set j (some x)) vs = wipe σ vs)
    (he : ∀ (n : Int) H1, Ex H H1 → n ∈ ns → Ev te ((wipe σ vs).set j (some (.int n))) H1 (g n)) :
    EvL (tLc (iList K tl) (gName j) tYes te vs) σ H (ns.map g) := by
  have k := el_lcI (t := tYes) (te := te) (fun _ => true) g h hz hw (fun _ _ _ _ => et_yes) (fun n H1 e hn _ => he n H1 e hn)
  rw [List.filter_eq_self.mpr (fun _ _ => rfl)] at k
  exact k
/-- slices -/
theorem cut_to {xs : List V} {n : Nat} : cutV xs none (some (n : Int)) = xs.take n := by
  unfold cutV
  rw [HT.sIx_none, HT.sIx_nat, List.drop_zero, Nat.sub_zero]
  rcases Nat.le_total n xs.length with h | h
  · rw [Nat.min_eq_left h]
  · rw [Nat.min_eq_right h, List.take_length, List.take_of_length_le h]
theorem cut_from {xs : List V} {n : Nat} : cutV xs (some (n : Int)) none = xs.drop n := by
  unfold cutV
  rw [HT.sIx_none, HT.sIx_nat]
  rcases Nat.le_total n xs.length with h | h
  · rw [Nat.min_eq_left h]
    exact List.take_of_length_le (by rw [List.length_drop]; exact Nat.le_refl _)
  · rw [Nat.min_eq_right h, List.drop_length, List.drop_of_length_le h]
    simp
theorem el_to {ns : List Int} {n : Nat} {i : Int} (h : EvX te σ H (IL K ns)) (hb : Ev tb σ H (.int i)) (hi : i = (n : Int)) : EvL (tSl (rSlL K) te tNoPart (tPart tb)) σ H ((ns.take n).map V.int) := fun H1 e Q q =>
  h H1 e _ fun v H2 e2 hv => (eo_none (σ := σ) (H := H)) H2 (e.trans e2) _ fun H3 e3 => (eo_some hb) H3 ((e.trans e2).trans e3) _ fun H4 e4 => by
    obtain ⟨a, rfl, hs⟩ := hv
    refine ⟨a, _, rfl, ex_l (e3.trans e4) hs, fun p hp => q p _ (fresh_back ((e2.trans e3).trans e4) hp) (((e2.trans e3).trans e4).trans (Ex.new hp)) ?_⟩
    rw [upd_same, hi, cut_to, List.map_take]
theorem el_from {ns : List Int} {n : Nat} {i : Int} (h : EvX te σ H (IL K ns)) (hb : Ev tb σ H (.int i)) (hi : i = (n : Int)) : EvL (tSl (rSlL K) te (tPart tb) tNoPart) σ H ((ns.drop n).map V.int) := fun H1 e Q q =>
  h H1 e _ fun v H2 e2 hv => (eo_some hb) H2 (e.trans e2) _ fun H3 e3 => (eo_none (σ := σ) (H := H)) H3 ((e.trans e2).trans e3) _ fun H4 e4 => by
    obtain ⟨a, rfl, hs⟩ := hv
    refine ⟨a, _, rfl, ex_l (e3.trans e4) hs, fun p hp => q p _ (fresh_back ((e2.trans e3).trans e4) hp) (((e2.trans e3).trans e4).trans (Ex.new hp)) ?_⟩
    rw [upd_same, hi, cut_from, List.map_drop]
end
end Fw

namespace Fw
open PySem PySem.Spec PyProof.Rows L2 Evl
/-! the lists that a def has made, written out: all else is as it was -/
def Led (H0 H : Hp) (ps : List (Addr × List V)) : Prop := Ex H0 H ∧ (∀ q ∈ ps, H0 q.1 = none ∧ H q.1 = some (.lst q.2)) ∧ (ps.map (·.1)).Nodup
section
variable {H0 H H1 : Hp} {ps : List (Addr × List V)} {p : Addr} {xs ys : List V}
theorem Led.nil (H : Hp) : Led H H [] := ⟨Ex.refl H, (fun q h => by cases h), List.nodup_nil⟩
theorem Led.ext (h : Led H0 H ps) : Ex H0 H := h.1
theorem Led.ex (h : Led H0 H ps) (e : Ex H H1) : Led H0 H1 ps := ⟨h.1.trans e, fun q hq => ⟨(h.2.1 q hq).1, e _ _ (h.2.1 q hq).2⟩, h.2.2⟩
theorem Led.new (h : Led H0 H ps) (hp : H p = none) (e : Ex H H1) (hx : H1 p = some (.lst xs)) : Led H0 H1 ((p, xs) :: ps) := by
  refine ⟨h.1.trans e, fun q hq => ?_, ?_⟩
  · rcases List.mem_cons.mp hq with z | z
    · rw [z]
      exact ⟨fresh_back h.1 hp, hx⟩
    · exact ⟨(h.2.1 q z).1, e _ _ (h.2.1 q z).2⟩
  · rw [List.map_cons, List.nodup_cons]
    refine ⟨fun z => ?_, h.2.2⟩
    obtain ⟨q, hq, eq⟩ := List.mem_map.mp z
    have a := (h.2.1 q hq).2
    rw [eq, hp] at a
    cases a
theorem Led.at (h : Led H0 H ps) (i : Nat) (hi : ps[i]? = some (p, xs)) : H p = some (.lst xs) := (h.2.1 _ (List.mem_of_getElem? hi)).2
theorem Led.free (h : Led H0 H ps) (i : Nat) (hi : ps[i]? = some (p, xs)) : H0 p = none := (h.2.1 _ (List.mem_of_getElem? hi)).1
theorem set_keys : ∀ {ps : List (Addr × List V)} {i : Nat} {p : Addr} {xs ys : List V}, ps[i]? = some (p, xs) → (ps.set i (p, ys)).map (·.1) = ps.map (·.1)
  | [], i, p, xs, ys, h => by simp at h
  | q :: r, 0, p, xs, ys, h => by
    have e : q = (p, xs) := Option.some.inj h
    rw [e]
    rfl
  | q :: r, i + 1, p, xs, ys, h => by
    have ih := set_keys (ps := r) (i := i) (p := p) (xs := xs) (ys := ys) h
    show q.1 :: (r.set i (p, ys)).map (·.1) = q.1 :: r.map (·.1)
    rw [ih]
theorem mem_set_of {ps : List (Addr × List V)} {i : Nat} {a : Addr × List V} {q : Addr × List V} (h : q ∈ ps.set i a) : q = a ∨ ∃ j, j ≠ i ∧ ps[j]? = some q := by
  obtain ⟨j, hj⟩ := List.getElem?_of_mem h
  by_cases e : j = i
  · subst e
    left
    rw [List.getElem?_set_self'] at hj
    cases z : ps[j]? with
    | none =>
      rw [z] at hj
      cases hj
    | some w =>
      rw [z] at hj
      exact (Option.some.inj hj).symm
  · right
    rw [List.getElem?_set_ne (Ne.symm e)] at hj
    exact ⟨j, e, hj⟩
theorem Led.put (h : Led H0 H ps) (i : Nat) (ys : List V) (hi : ps[i]? = some (p, xs)) : Led H0 (upd H p (.lst ys)) (ps.set i (p, ys)) := by
  refine ⟨Ex.mut h.1 (h.free i hi), fun q hq => ?_, ?_⟩
  · rcases mem_set_of hq with z | ⟨j, hj, z⟩
    · rw [z]
      exact ⟨h.free i hi, upd_same⟩
    · have ne : q.1 ≠ p := fun eq => by
        have a : (ps.map (·.1))[j]? = some p := by
          rw [List.getElem?_map, z]
          exact congrArg some eq
        have b : (ps.map (·.1))[i]? = some p := by
          rw [List.getElem?_map, hi]
          rfl
        exact hj (nd_ix h.2.2 a b)
      rw [upd_ne ne]
      exact h.2.1 q (List.mem_of_getElem? z)
  · rw [set_keys hi]
    exact h.2.2
variable {K : PySem.W.Frag} {ns : List Int}
theorem Led.il (h : Led H0 H ps) (i : Nat) (hi : ps[i]? = some (p, ns.map V.int)) : IL K ns (.ref p) H := ⟨p, rfl, sq_of (h.at i hi)⟩
end
/-! ### helpers that most laws have -/
section
variable {K : PySem.W.Frag} {A : Ad} {vs : List V} {H : Hp} {Q : VK} {E : XK}
/-! _law_cell_at -/
def cellAt (ns : List Int) (k : Nat) : Int := ns.getD k 0
def sp_l_cell_at (K : PySem.W.Frag) (A : Ad) : Sp := fun vs H Q _ => ∃ v ns, ∃ k : Nat, vs = [v, .int (k : Int)] ∧ IL K ns v H ∧ RetV (.int (cellAt ns k)) H Q
def t_l_cell_at (K : PySem.W.Frag) (A : Ad) : TS :=
  (tSeq (tIfS (tTest (tOp rLtI (tVar 1) (tCB (Evl.rLenS K) (tCons (tVar 0) tNil)))) (tRet (tOp (rIxL K) (tVar 0) (tVar 1))) tNext)
    (tRet (tC (.int 0))))
theorem r_l_cell_at (h : sp_l_cell_at K A vs H Q E) : t_l_cell_at K A (D0 Q) (start ["_law_script", "_law_k"] vs) H := by
  obtain ⟨v, ns, j, rfl, hv, k⟩ := h
  refine q_when (et_test (ev_op (ev_var rfl) (ev_lenX (x_ilv rfl hv)) rv_I0)) (fun hb H1 e1 => ?_) (fun hb H1 e1 => ?_)
  · have hb' : (j : Int) < (ns.length : Int) := of_decide_eq_true hb
    have hj : j < ns.length := by omega
    have g : ns[j]? = some (cellAt ns j) := by
      unfold cellAt
      rw [List.getD_eq_getElem?_getD, List.getElem?_eq_getElem hj]
      rfl
    exact s_retV (ev_ix (x_ilv rfl (mono_il _ _ _ e1 hv)) (ev_var rfl) rfl g) (k.mono e1)
  · have hb' : ¬ (j : Int) < (ns.length : Int) := of_decide_eq_false hb
    have hj : ns.length ≤ j := by omega
    have g : cellAt ns j = 0 := by
      unfold cellAt
      rw [List.getD_eq_getElem?_getD, List.getElem?_eq_none hj]
      rfl
    rw [g] at k
    exact s_retV ev_c (k.mono e1)
theorem ev_cell {te tx : TE} {σ : L2.St} {ns : List Int} {k : Nat} {i : Int} (h : EvX te σ H (IL K ns)) (h2 : Ev tx σ H (.int i)) (hi : i = (k : Int)) : Ev (tCall (sp_l_cell_at K A) [] E (tCons te (tCons tx tNil))) σ H (.int (cellAt ns k)) :=
  ev_call2 h mono_il (x_v h2) fun x y H1 e1 hx hy Q q => ⟨x, ns, k, by rw [show y = V.int i from hy, hi], hx, fun H' e => q H' e⟩
/-! _law_whole -/
def sp_l_whole (K : PySem.W.Frag) (A : Ad) : Sp := sp_is_whole K A
def t_l_whole (K : PySem.W.Frag) (A : Ad) : TS :=
  (tRet (tAndV (tCB (rIsi K) (tCons (tVar 0) (tCons (tC (.ty "int")) tNil))) (tNotV (tCB (rIsi K) (tCons (tVar 0) (tCons (tC (.ty "bool")) tNil))))))
theorem r_l_whole (h : sp_l_whole K A vs H Q E) : t_l_whole K A (D0 Q) (start ["_law_found"] vs) H := r_is_whole h
theorem ev_l_whole {te : TE} {σ : L2.St} {n : Int} {E : XK} (h : Ev te σ H (.int n)) : Ev (tCall (sp_l_whole K A) [] E (tCons te tNil)) σ H (.bl true) := ev_is_whole h (th_int n)
/-! _law_load, by reversed -/
def sp_l_load (K : PySem.W.Frag) (A : Ad) : Sp := fun vs H Q _ => ∃ v ns, vs = [v] ∧ IL K ns v H ∧ RetV (.int (Few.loadOf ns)) H Q
def t_l_load (K : PySem.W.Frag) (A : Ad) : TS :=
  (tSeq (tAsg (tC (.int 0)) (gName 1))
    (tSeq (tFor (iRev K (tCons (tVar 0) tNil)) (gName 2) (tAsg (tOp rAddI (tOp rMulI (tC (.int 2)) (tVar 1)) (tVar 2)) (gName 1)))
    (tRet (tVar 1))))
theorem r_l_load (h : sp_l_load K A vs H Q E) : t_l_load K A (D0 Q) (start ["_law_things_here", "_law_load_here", "_law_thing"] vs) H := by
  obtain ⟨v, ns, rfl, hv, k⟩ := h
  refine q_asg ev_c fun H1 e1 => ?_
  refine q_forRvP (x_vlI (x_ilv rfl (mono_il _ _ _ e1 hv))) (fun i σ' => ∃ u, σ' = [some v, some (.int (Few.loadOf (ns.drop (ns.length - i)))), u]) ⟨none, by rw [Nat.sub_zero, List.drop_length]; rfl⟩ ?_ ?_
  · rintro H2 i x σ' H' e2 e3 hi hx ⟨u, rfl⟩
    rw [List.length_map] at hi hx
    obtain ⟨n, hn, rfl⟩ := of_map hx
    refine s_asg (v := .int (2 * Few.loadOf (ns.drop (ns.length - i)) + n)) (ev_op (ev_op ev_c (ev_var rfl) (rv_mul (cmul_l ⟨by decide, by decide⟩))) (ev_var rfl) rv_I0) fun H4 e4 => ?_
    refine ⟨⟨some (.int n), ?_⟩, e3.trans e4⟩
    rw [load_drop hi hn]
    rfl
  · rintro σ' H' e2 ⟨u, rfl⟩
    rw [List.length_map, Nat.sub_self, List.drop_zero]
    exact s_retV (ev_var rfl) (k.mono (e1.trans e2))
theorem ev_l_load {te : TE} {σ : L2.St} {ns : List Int} (h : EvX te σ H (IL K ns)) : Ev (tCall (sp_l_load K A) [] E (tCons te tNil)) σ H (.int (Few.loadOf ns)) :=
  ev_call1 h fun x H1 e1 hx Q q => ⟨x, ns, rfl, hx, fun H' e => q H' e⟩
/-! _law_ended -/
def sp_l_ended (K : PySem.W.Frag) (A : Ad) : Sp := fun vs H Q _ => ∃ v ns, vs = [v] ∧ IL K ns v H ∧ ns.length ≤ 100000 ∧ RetL ((Few.ended ns).map V.int) H Q
def t_l_ended (K : PySem.W.Frag) (A : Ad) : TS :=
  (tSeq (tAsg (tC (.int 0)) (gName 1))
    (tSeq (tFor (iRng1 (tCons (tCB (Evl.rLenS K) (tCons (tVar 0) tNil)) tNil)) (gName 2) (tIfS (tTest (tOp rNe (tOp (rIxL K) (tVar 0) (tVar 2)) (tC (.int 0)))) (tAsg (tOp rAddI (tVar 2) (tC (.int 1))) (gName 1)) tNext))
    (tRet (tSl (rSlL K) (tVar 0) tNoPart (tPart (tVar 1))))))
theorem r_l_ended (h : sp_l_ended K A vs H Q E) : t_l_ended K A (D0 Q) (start ["_law_things_here", "_law_size", "_law_k"] vs) H := by
  obtain ⟨v, ns, rfl, hv, hlen, k⟩ := h
  refine q_asg ev_c fun H1 e1 => ?_
  have hv1 := mono_il _ _ _ e1 hv
  refine q_forRgP (n := (ns.length : Int)) (ea_cons (ev_lenX (x_ilv rfl hv1)) ea_nil) ⟨by omega, by omega⟩ (fun i σ' => ∃ u, ∃ s : Nat, σ' = [some v, some (.int (s : Int)), u] ∧ s ≤ i ∧ ns.take s = Few.ended (ns.take i)) ⟨none, 0, rfl, Nat.le_refl _, rfl⟩ ?_ ?_
  · rintro H2 i σ' H' e2 e3 hi ⟨u, s, rfl, hs, he⟩
    have hi' : i < ns.length := by omega
    have g : ns[i]? = some ns[i] := List.getElem?_eq_getElem hi'
    have hv2 := mono_il _ _ _ (e2.trans e3) hv1
    have tk : ns.take (i + 1) = ns.take i ++ [ns[i]] := by
      rw [List.take_add_one, g]
      rfl
    refine s_when (et_is (et_test (ev_op (ev_ix (x_ilv rfl hv2) (ev_var rfl) rfl g) ev_c (rv_ne rfl))) ne_zero) (fun hb H4 e4 => ?_) (fun hb H4 e4 => ?_)
    · have z : ns[i] ≠ 0 := by simpa using hb
      refine s_asg (v := .int ((i + 1 : Nat) : Int)) (ev_op (ev_var rfl) ev_c rv_I0) fun H5 e5 => ?_
      refine ⟨⟨some (.int (i : Int)), i + 1, rfl, Nat.le_refl _, ?_⟩, (e3.trans e4).trans e5⟩
      rw [tk, Few.ended_snoc _ z]
    · have z : ns[i] = 0 := by simpa using hb
      refine ⟨⟨some (.int (i : Int)), s, rfl, Nat.le_succ_of_le hs, ?_⟩, e3.trans e4⟩
      rw [tk, z, Few.ended_snoc0, he]
  · rintro σ' H' e2 ⟨u, s, rfl, hs, he⟩
    have e0 : ns.take ((ns.length : Int).toNat) = ns := by
      rw [Int.toNat_natCast]
      exact List.take_length
    rw [e0] at he
    rw [← he] at k
    exact s_retLL (el_to (x_ilv rfl (mono_il _ _ _ e2 hv1)) (ev_var rfl) rfl) (k.mono (e1.trans e2))
theorem el_l_ended {te : TE} {σ : L2.St} {ns : List Int} (h : EvX te σ H (IL K ns)) (hl : ns.length ≤ 100000) : EvL (tCall (sp_l_ended K A) [] E (tCons te tNil)) σ H ((Few.ended ns).map V.int) :=
  el_call1 h fun x H1 e1 hx Q q => ⟨x, ns, rfl, hx, hl, fun p H' hp e hx => q p H' hp e hx⟩
/-! _law_alike -/
def sp_l_alike (K : PySem.W.Frag) (A : Ad) : Sp := fun vs H Q _ => ∃ v w xs ys, vs = [v, w] ∧ IL K xs v H ∧ IL K ys w H ∧ ys.length ≤ 100000 ∧ RetV (.bl (decide (xs = ys))) H Q
def t_l_alike (K : PySem.W.Frag) (A : Ad) : TS :=
  (tSeq (tIfS (tOr (tNot (tB (tCB (rIsi K) (tCons (tVar 0) (tCons (tC (.ty "list")) tNil))))) (tTest (tOp rNe (tCB (Evl.rLenS K) (tCons (tVar 0) tNil)) (tCB (Evl.rLenS K) (tCons (tVar 1) tNil))))) (tRet (tC (.bl false))) tNext)
    (tSeq (tFor (iRng1 (tCons (tCB (Evl.rLenS K) (tCons (tVar 1) tNil)) tNil)) (gName 2) (tIfS (tOr (tNot (tB (tCall (sp_l_whole K A) [] E0 (tCons (tOp (rIxL K) (tVar 0) (tVar 2)) tNil)))) (tTest (tOp rNe (tOp (rIxL K) (tVar 0) (tVar 2)) (tOp (rIxL K) (tVar 1) (tVar 2))))) (tRet (tC (.bl false))) tNext))
    (tRet (tC (.bl true)))))
theorem take_eq_step {xs ys : List Int} {i : Nat} (hx : i < xs.length) (hy : i < ys.length) (h : xs.take i = ys.take i) (e : xs[i] = ys[i]) : xs.take (i + 1) = ys.take (i + 1) := by
  rw [List.take_add_one, List.take_add_one, h, List.getElem?_eq_getElem hx, List.getElem?_eq_getElem hy, e]
theorem r_l_alike (h : sp_l_alike K A vs H Q E) : t_l_alike K A (D0 Q) (start ["_law_found", "_law_due", "_law_k"] vs) H := by
  obtain ⟨v, w, xs, ys, rfl, hv, hw, hlen, k⟩ := h
  have hnl : decide (V.int (xs.length : Int) = V.int (ys.length : Int)) = decide (xs.length = ys.length) := by
    rw [eq_dec]
    by_cases c : xs.length = ys.length
    · rw [c]
      simp
    · rw [decide_eq_false c, decide_eq_false (by omega)]
  refine q_when (b := !decide (xs.length = ys.length)) (et_is (et_or (et_not (et_B (ev_isList (ev_var rfl) (il_th hv)))) fun _ => et_test (ev_op (ev_lenX (x_ilv rfl hv)) (ev_lenX (x_ilv rfl hw)) (rv_ne rfl))) (by rw [hnl]; simp [tyD])) (fun hb H1 e1 => ?_) (fun hb H1 e1 => ?_)
  · have z : xs ≠ ys := fun e => by
      rw [e] at hb
      simp at hb
    rw [decide_eq_false z] at k
    exact s_retV ev_c (k.mono e1)
  · have hl : xs.length = ys.length := by simpa using hb
    have hv1 := mono_il _ _ _ e1 hv
    have hw1 := mono_il _ _ _ e1 hw
    refine q_forRgP (n := (ys.length : Int)) (ea_cons (ev_lenX (x_ilv rfl hw1)) ea_nil) ⟨by omega, by omega⟩ (fun i σ' => ∃ u, σ' = [some v, some w, u] ∧ xs.take i = ys.take i) ⟨none, rfl, rfl⟩ ?_ ?_
    · rintro H2 i σ' H' e2 e3 hi ⟨u, rfl, he⟩
      have hy' : i < ys.length := by omega
      have hx' : i < xs.length := by omega
      have g1 : xs[i]? = some xs[i] := List.getElem?_eq_getElem hx'
      have g2 : ys[i]? = some ys[i] := List.getElem?_eq_getElem hy'
      have hv2 := mono_il _ _ _ (e2.trans e3) hv1
      have hw2 := mono_il _ _ _ (e2.trans e3) hw1
      have ix1 : Ev (tOp (rIxL K) (tVar 0) (tVar 2)) [some v, some w, some (.int (i : Int))] H' (.int xs[i]) := ev_ix (x_ilv rfl hv2) (ev_var rfl) rfl g1
      have ix2 : Ev (tOp (rIxL K) (tVar 1) (tVar 2)) [some v, some w, some (.int (i : Int))] H' (.int ys[i]) := ev_ix (x_ilv rfl hw2) (ev_var rfl) rfl g2
      refine s_when (b := !decide (xs[i] = ys[i])) (et_is (et_or (et_not (et_B (ev_l_whole ix1))) fun _ => et_test (ev_op ix1 ix2 (rv_ne rfl))) (by rw [eq_dec]; rfl)) (fun hb H4 e4 => ?_) (fun hb H4 e4 => ?_)
      · have z : xs ≠ ys := fun e => by
          subst e
          simp at hb
        rw [decide_eq_false z] at k
        exact s_retV ev_c (k.mono (((e1.trans e2).trans e3).trans e4))
      · have z : xs[i] = ys[i] := by simpa using hb
        exact ⟨⟨some (.int (i : Int)), rfl, take_eq_step hx' hy' he z⟩, e3.trans e4⟩
    · rintro σ' H' e2 ⟨u, rfl, he⟩
      rw [Int.toNat_natCast, List.take_length, ← hl, List.take_length] at he
      rw [decide_eq_true he] at k
      exact s_retV ev_c (k.mono (e1.trans e2))
theorem ev_alike {te tx : TE} {σ : L2.St} {xs ys : List Int} (h : EvX te σ H (IL K xs)) (h2 : EvX tx σ H (IL K ys)) (hl : ys.length ≤ 100000) : Ev (tCall (sp_l_alike K A) [] E (tCons te (tCons tx tNil))) σ H (.bl (decide (xs = ys))) :=
  ev_call2 h mono_il h2 fun x y H1 e1 hx hy Q q => ⟨x, y, xs, ys, rfl, hx, hy, hl, fun H' e => q H' e⟩
end
end Fw

namespace Fw
open PySem PySem.Spec PyProof.Rows L2 Evl
/-! errors caught -/
theorem pss_pre {X : Cx} {sts : List Stmt} {p : Prop} {t : TS} (h : p → PSs X sts t) : PSs X sts (fun D σ H => p ∧ t D σ H) := ⟨fun pins s σ H D I w => (h w.1).run pins s σ H D I w.2⟩
/-- an except suite that is met with an error of the class at D alone -/
def sufC (D : Addr) (ts : Addr → TS) : Addr → Value → Option Addr → TS := fun a cls d D' σ H => (cls = .ref D ∧ d = none) ∧ ts a D' σ H
def tTryC (K : PySem.W.Frag) (D S : Addr) (i : Nat) (tb : WX → TS) (ts : Addr → TS) : TS := fun D' σ H => tb (wAs K (.ref S) i (sufC D ts) (fun _ _ _ _ => False) D') D' σ H
/-- what the written part says of the error class at D, asked of the others -/
structure Caught (K : PySem.W.Frag) (A : Ad) (D : Addr) (b1 b2 b3 b4 b5 : Bool) : Prop where
  te : PySem.W.exmOne K (.ref D) (.ref A.stone) = some true
  ve : PySem.W.kitOne K (.ref D) (.type "ValueError") = some true
  ly : PySem.W.kitOne K (.ref D) (.ref A.laying) = some b1
  lo : PySem.W.kitOne K (.ref D) (.ref A.load) = some b2
  pl : PySem.W.kitOne K (.ref D) (.ref A.plan) = some b3
  tx : PySem.W.kitOne K (.ref D) (.ref A.text) = some b4
  de : PySem.W.kitOne K (.ref D) (.ref A.deed) = some b5
theorem kit_ref {K : PySem.W.Frag} {D C : Addr} {b : Bool} (hd : PySem.W.hasDictIn K C = true) (ht : PySem.W.typeIn K (.ref C) = some (.type "type")) (hs : PySem.W.subIn K (.ref D) (.ref C) = some b) (self : PySem.W.subIn K (.ref D) (.ref D) = some true) : PySem.W.kitOne K (.ref D) (.ref C) = some b := by
  unfold PySem.W.kitOne
  by_cases e : (Value.ref D == Value.ref C) = true
  · rw [if_pos e]
    have e' : D = C := Value.ref.inj (beq_iff_eq.mp e)
    rw [← e', self] at hs
    exact hs
  · rw [if_neg e]
    obtain ⟨cd, hc, _⟩ := PySem.W.any_some hd
    show (if ((PySem.W.clsIn K C).isSome && PySem.W.typeIn K (.ref C) == some (.type "type")) = true then PySem.W.subIn K (.ref D) (.ref C) else none) = some b
    rw [hc, ht, if_pos (by simp)]
    exact hs
theorem kit_type {K : PySem.W.Frag} {D : Addr} {T : String} {b : Bool} (hm : PySem.W.kitMeta T = true) (hs : PySem.W.subIn K (.ref D) (.type T) = some b) : PySem.W.kitOne K (.ref D) (.type T) = some b := by
  unfold PySem.W.kitOne
  rw [if_neg (by intro z; cases beq_iff_eq.mp z)]
  show (if PySem.W.kitMeta T = true then PySem.W.subIn K (.ref D) (.type T) else none) = some b
  rw [if_pos hm]
  exact hs
section
variable {K : PySem.W.Frag} {A : Ad} {σ : L2.St} {H H' : Hp} {ta : TA} {tb te tx tl : TE} {D : Ends} {tz : TS}
theorem ev_isE {C a : Addr} {i : Nat} {n : String} {b : Bool} (h : σ[i]? = some (some (.ref a))) (hk : PySem.W.kitOne K (.ref C) (.type n) = some b) : Ev (tCB (rIsE K C a) (tCons (tVar i) (tCons (tC (.ty n)) tNil))) σ H (.bl b) :=
  ev_cb (ea_cons (ev_var h) (ea_cons ev_c ea_nil)) fun H1 _ Q q => ⟨.ty n, .type n, b, rfl, (fun u r => r), hk, q H1 (Ex.refl H1)⟩
theorem ev_isEC {C a c : Addr} {i : Nat} {b : Bool} (h : σ[i]? = some (some (.ref a))) (hk : PySem.W.kitOne K (.ref C) (.ref c) = some b) : Ev (tCB (rIsE K C a) (tCons (tVar i) (tCons (tC (.ref c)) tNil))) σ H (.bl b) :=
  ev_cb (ea_cons (ev_var h) (ea_cons ev_c ea_nil)) fun H1 _ Q q => ⟨.ref c, .ref c, b, rfl, (fun u r => r), hk, q H1 (Ex.refl H1)⟩
/-- a try whose body is a call that raises D -/
theorem q_tryDrop {C S : Addr} {i : Nat} {sp : Sp} {P : V → Hp → Prop} {ts : Addr → TS} (h : EvX te σ H P) (hs : ∀ x H1, Ex H H1 → P x H1 → ∀ (Q : VK) (E : XK), RaiseE E C H1 → sp [x] H1 Q E) (ht : PySem.W.exmOne K (.ref C) (.ref S) = some true)
    (k : ∀ a H1, Ex H H1 → H1 a = none → ts a { nx := fun σ' H' => tz D (σ'.set i none) H', rt := D.rt, bk := fun σ' H' => D.bk (σ'.set i none) H', ct := fun σ' H' => D.ct (σ'.set i none) H' } (σ.set i (some (.ref a))) H1) :
    tSeq (tTryC K C S i (fun W => tDrop (tCallS sp (WE W) (tCons te tNil))) ts) tz D σ H :=
  h H (Ex.refl H) _ fun v H1 e1 hp => hs v H1 e1 hp _ _ fun H2 e2 => ⟨true, ht, fun _ a ha => ⟨⟨rfl, rfl⟩, k a H2 (e1.trans e2) ha⟩, fun z => by cases z⟩
/-- .. that runs through -/
theorem q_tryThru {C S : Addr} {i : Nat} {sp : Sp} {P : V → Hp → Prop} {ts : Addr → TS} (h : EvX te σ H P) (hs : ∀ x H1, Ex H H1 → P x H1 → ∀ (Q : VK) (E : XK), (∀ v H2, Ex H1 H2 → Q v H2) → sp [x] H1 Q E)
    (k : ∀ H1, Ex H H1 → tz D σ H1) : tSeq (tTryC K C S i (fun W => tDrop (tCallS sp (WE W) (tCons te tNil))) ts) tz D σ H :=
  h H (Ex.refl H) _ fun v H1 e1 hp => hs v H1 e1 hp _ _ fun v H2 e2 => k H2 (e1.trans e2)
/-! lists of things -/
inductive ThAll (K : PySem.W.Frag) (H : Hp) : List V → List PyData → Prop
  | nil : ThAll K H [] []
  | cons {v : V} {vs : List V} {d : PyData} {ds : List PyData} : Th K H v d → ThAll K H vs ds → ThAll K H (v :: vs) (d :: ds)
theorem ThAll.mono (e : Ex H H') : ∀ {vs : List V} {ds : List PyData}, ThAll K H vs ds → ThAll K H' vs ds
  | _, _, .nil => .nil
  | _, _, .cons a b => .cons (a.mono e) (b.mono e)
theorem ThAll.at : ∀ {vs : List V} {ds : List PyData}, ThAll K H vs ds → ∀ {i : Nat} {x : V}, vs[i]? = some x → ∃ d, ds[i]? = some d ∧ Th K H x d
  | _, _, .nil, i, x, h => by simp at h
  | _, _, .cons a b, 0, x, h => ⟨_, rfl, by have e := Option.some.inj h; rw [← e]; exact a⟩
  | _, _, .cons a b, i + 1, x, h => ThAll.at b (i := i) (x := x) h
theorem ThAll.length : ∀ {vs : List V} {ds : List PyData}, ThAll K H vs ds → vs.length = ds.length
  | _, _, .nil => rfl
  | _, _, .cons a b => by rw [List.length_cons, List.length_cons, ThAll.length b]
abbrev ThP (K : PySem.W.Frag) (d : PyData) : V → Hp → Prop := fun v H => Th K H v d
theorem mono_th {d : PyData} : Mono (ThP K d) := fun _ _ _ e p => p.mono e
theorem xt_c {v : V} {d : PyData} (h : ∀ H, Th K H v d) : EvX (tC v) σ H (ThP K d) := x_of ev_c mono_th (h H)
theorem xt_nil : EaX tNil σ H (fun vs H => ThAll K H vs []) := fun H1 _ _ q => q _ H1 (Ex.refl H1) .nil
theorem xt_cons {tr : TA} {d : PyData} {ds : List PyData} (h : EvX te σ H (ThP K d)) (hr : EaX tr σ H (fun vs H => ThAll K H vs ds)) : EaX (tCons te tr) σ H (fun vs H => ThAll K H vs (d :: ds)) := fun H1 e Q q =>
  h H1 e _ fun v H2 e2 hp => hr H2 (e.trans e2) _ fun vs H3 e3 hR => q _ H3 (e2.trans e3) (.cons (hp.mono e3) hR)
/-- a list of things -/
def ThL (K : PySem.W.Frag) (ds : List PyData) : V → Hp → Prop := fun v H => ∃ a xs, v = .ref a ∧ SqL K H a xs ∧ ThAll K H xs ds
theorem mono_thl {ds : List PyData} : Mono (ThL K ds) := fun _ _ _ e ⟨a, xs, h, s, t⟩ => ⟨a, xs, h, ex_l e s, t.mono e⟩
theorem xt_lst {ds : List PyData} (h : EaX ta σ H (fun vs H => ThAll K H vs ds)) (hz : ds.length ≤ 100000) : EvX (tLst ta) σ H (ThL K ds) := fun H1 e Q q =>
  h H1 e _ fun vs H2 e2 hr => ⟨sz_of (by rw [hr.length]; exact hz), fun p hp => q _ _ (e2.trans (Ex.new hp)) ⟨p, vs, rfl, sq_of upd_same, hr.mono (Ex.new hp)⟩⟩
/-- [5], (5,): things -/
theorem dpa_of : ∀ {vs : List V} {ds : List PyData}, ThAll K H vs ds → (∀ d ∈ ds, d ≠ .dict []) → DpAll K H vs ds
  | _, _, .nil, _ => .nil
  | _, _, .cons (d := d) a b, h => .cons (by
      cases a with
      | of a => exact a
      | dict a => exact absurd rfl (h _ List.mem_cons_self)) (dpa_of b fun d hd => h d (List.mem_cons_of_mem _ hd))
theorem xt_lstD {ds : List PyData} (h : EaX ta σ H (fun vs H => ThAll K H vs ds)) (hz : ds.length ≤ 100000) (hd : ∀ d ∈ ds, d ≠ .dict []) : EvX (tLst ta) σ H (ThP K (.list ds)) := fun H1 e Q q =>
  h H1 e _ fun vs H2 e2 hr => ⟨sz_of (by rw [hr.length]; exact hz), fun p hp => q _ _ (e2.trans (Ex.new hp)) (.of (.lst (sq_of upd_same) (dpa_of (hr.mono (Ex.new hp)) hd)))⟩
theorem xt_tup {ds : List PyData} (h : EaX ta σ H (fun vs H => ThAll K H vs ds)) (hz : ds.length ≤ 100000) (hd : ∀ d ∈ ds, d ≠ .dict []) : EvX (tTup ta) σ H (ThP K (.tuple ds)) := fun H1 e Q q =>
  h H1 e _ fun vs H2 e2 hr => ⟨sz_of (by rw [hr.length]; exact hz), fun p hp => q _ _ (e2.trans (Ex.new hp)) (.of (.tup (st_of upd_same) (dpa_of (hr.mono (Ex.new hp)) hd)))⟩
abbrev tDictN : TE := tDNewK
theorem xt_dict : EvX tDictN σ H (ThP K (.dict [])) := fun H1 e Q q p hp => q _ _ (Ex.new hp) (.dict upd_same)
/-- a loop over things -/
theorem q_forTh {ds : List PyData} {j : Nat} {tu : TS} (h : EvX tl σ H (ThL K ds)) (I : Nat → L2.St → Prop) (h0 : I 0 σ)
    (hs : ∀ H1 i x d σ' H', Ex H H1 → Ex H1 H' → ds[i]? = some d → Th K H' x d → I i σ' → tu { D with nx := NX H1 (I (i + 1)), ct := NX H1 (I (i + 1)), bk := tz D } (σ'.set j (some x)) H')
    (hd : ∀ σ' H', Ex H H' → I ds.length σ' → tz D σ' H') : tSeq (tFor (iList K tl) (gName j) tu) tz D σ H :=
  h H (Ex.refl H) _ fun v H1 e1 ⟨a, xs, ev, hq, ht⟩ => ⟨a, ev, ⟨xs, hq⟩, for_list (K := K) (D := { D with nx := tz D }) (a := a) (xs := xs) (fun i => NX H1 (I i)) ⟨h0, Ex.refl H1⟩ (fun i σ' H' _ p => ex_l p.2 hq) (fun i x σ' H' hx p => by
    obtain ⟨d, hd, th⟩ := ht.at hx
    exact hs H1 i x d σ' H' e1 p.2 hd (th.mono p.2) p.1) (fun σ' H' p => by
    have hp := p.1
    rw [ht.length] at hp
    exact hd σ' H' (e1.trans p.2) hp)⟩
/-- == of two lists of truths -/
theorem dps_bl {bs : List Bool} : DpAll K H (bs.map V.bl) (bs.map PyData.bool) := by
  induction bs with
  | nil => exact .nil
  | cons n r ih => exact .cons (.bl n) ih
theorem ev_eqB {xs ys : List Bool} (ha : EvX te σ H (VL K (xs.map V.bl))) (hb : EvX tb σ H (VL K (ys.map V.bl))) (s1 : SeqAt.shaped (.list (xs.map PyData.bool)) = true) (s2 : SeqAt.shaped (.list (ys.map PyData.bool)) = true) :
    Ev (tOp (rEqD K) te tb) σ H (.bl (PyData.eqvAll (xs.map PyData.bool) (ys.map PyData.bool))) := ev_opX ha mono_vl hb fun x y H1 _ ⟨a, ea, p⟩ ⟨b, eb, q⟩ H2 e2 Q k => by
  subst ea eb
  refine ⟨_, _, .lst (ex_l e2 p) dps_bl, .lst (ex_l e2 q) dps_bl, s1, s2, ?_⟩
  have z : PyData.eqv (.list (xs.map PyData.bool)) (.list (ys.map PyData.bool)) = PyData.eqvAll (xs.map PyData.bool) (ys.map PyData.bool) := by simp [PyData.eqv]
  rw [z]
  exact k H2 (Ex.refl H2)
/-- xs.insert(i, y) -/
abbrev rInsert : V → List V → Hp → VK → Prop := fun x vs H Q => ∃ (l : Addr) (xs : List V) (i : Int) (y : V), x = .ref l ∧ vs = [.int i, y] ∧ H l = some (.lst xs) ∧ xs.length < sizeLine ∧ 0 ≤ i ∧ i < 2 ^ 63 ∧ Q .non (upd H l (.lst (xs.take i.toNat ++ [y] ++ xs.drop i.toNat)))
theorem q_ins0 {l : Addr} {xs : List V} {v : V} (hl : H l = some (.lst xs)) (ha : Ev te σ H (.ref l)) (hi : Ev tb σ H (.int 0)) (hv : Ev tx σ H v) (hz : xs.length < 100000) (k : ∀ H1, Ex H H1 → tz D σ (upd H1 l (.lst (v :: xs)))) :
    tSeq (tDrop (tBM K "list" rInsert te (tCons tb (tCons tx tNil)))) tz D σ H := ha H (Ex.refl H) _ fun H1 e1 =>
  ⟨Or.inl ⟨rfl, xs, sq_of (e1 l _ hl)⟩, hi H1 e1 _ fun H2 e2 => hv H2 (e1.trans e2) _ fun H3 e3 => ⟨l, xs, 0, v, rfl, rfl, e3 _ _ (e2 l _ (e1 l _ hl)), sz_lt hz, by decide, by decide, k H3 ((e1.trans e2).trans e3)⟩⟩
end
end Fw

namespace Fw
open PySem PySem.Spec PyProof.Rows L2 Evl
section
variable {K : PySem.W.Frag} {A : Ad} {vs : List V} {H : Hp} {Q : VK} {E : XK}
/-! _law_power -/
def sp_l_power (K : PySem.W.Frag) (A : Ad) : Sp := fun vs H Q _ => ∃ k : Nat, vs = [.int (k : Int)] ∧ k ≤ 100000 ∧ RetV (.int (2 ^ k)) H Q
def t_l_power (K : PySem.W.Frag) (A : Ad) : TS :=
  (tSeq (tAsg (tC (.int 1)) (gName 1))
    (tSeq (tFor (iRng1 (tCons (tVar 0) tNil)) (gName 2) (tAsg (tOp rAddI (tVar 1) (tVar 1)) (gName 1)))
    (tRet (tVar 1))))
theorem pow_step (i : Nat) : (2 : Int) ^ i + 2 ^ i = 2 ^ (i + 1) := by
  rw [Int.pow_succ]
  omega
theorem r_l_power (h : sp_l_power K A vs H Q E) : t_l_power K A (D0 Q) (start ["_law_k", "_law_found", "_law_j"] vs) H := by
  obtain ⟨n, rfl, hn, k⟩ := h
  refine q_asg ev_c fun H1 e1 => ?_
  refine q_forRgP (n := (n : Int)) (ea_cons (ev_var rfl) ea_nil) ⟨by omega, by omega⟩ (fun i σ' => ∃ u, σ' = [some (.int (n : Int)), some (.int (2 ^ i)), u]) ⟨none, rfl⟩ ?_ ?_
  · rintro H2 i σ' H' e2 e3 hi ⟨u, rfl⟩
    refine s_asg (ev_op (ev_var rfl) (ev_var rfl) rv_I0) fun H4 e4 => ⟨⟨some (.int (i : Int)), ?_⟩, e3.trans e4⟩
    rw [← pow_step]
    rfl
  · rintro σ' H' e2 ⟨u, rfl⟩
    rw [Int.toNat_natCast]
    exact s_retV (ev_var rfl) (k.mono (e1.trans e2))
theorem ev_power {te : TE} {σ : L2.St} {i : Int} {k : Nat} (h : Ev te σ H (.int i)) (hi : i = (k : Int)) (hk : k ≤ 100000) : Ev (tCall (sp_l_power K A) [] E (tCons te tNil)) σ H (.int (2 ^ k)) :=
  ev_call1 (x_v h) fun x H1 e1 hx Q q => ⟨k, by rw [show x = V.int i from hx, hi], hk, fun H' e => q H' e⟩
/-! _law_neat (by things, then by range(1, n)) -/
def sp_l_neat (K : PySem.W.Frag) (A : Ad) : Sp := fun vs H Q _ => ∃ v ns, vs = [v] ∧ IL K ns v H ∧ Few.Lay ns ∧ ns.length ≤ 100000 ∧ RetV (.bl (Few.neatB ns)) H Q
def t_l_neat (K : PySem.W.Frag) (A : Ad) : TS :=
  (tSeq (tIfS (tNot (tB (tCB (rIsi K) (tCons (tVar 0) (tCons (tC (.ty "list")) tNil))))) (tRet (tC (.bl false))) tNext)
    (tSeq (tFor (iList K (tVar 0)) (gName 1) (tIfS (tOr (tNot (tB (tCall (sp_l_whole K A) [] E0 (tCons (tVar 1) tNil)))) (tOr (tTest (tOp rLtI (tVar 1) (tUn rNegI (tC (.int 1))))) (tTest (tOp rGtI (tVar 1) (tC (.int 1)))))) (tRet (tC (.bl false))) tNext))
    (tSeq (tFor (iRng2 (tCons (tC (.int 1)) (tCons (tCB (Evl.rLenS K) (tCons (tVar 0) tNil)) tNil))) (gName 2) (tIfS (tAnd (tTest (tOp rNe (tOp (rIxL K) (tVar 0) (tVar 2)) (tC (.int 0)))) (tTest (tOp rNe (tOp (rIxL K) (tVar 0) (tOp rSubI (tVar 2) (tC (.int 1)))) (tC (.int 0))))) (tRet (tC (.bl false))) tNext))
    (tRet (tOrV (tOp (rEqD K) (tVar 0) (tLst tNil)) (tOp rNe (tOp (rIxL K) (tVar 0) (tUn rNegI (tC (.int 1)))) (tC (.int 0))))))))
theorem lay_test {n : Int} (h : Few.Pm n) : (!true || (decide (n < -1) || decide (1 < n))) = false := by
  unfold Few.Pm at h
  simp
  omega
theorem before_at {ns : List Int} {i : Nat} (hi : i < ns.length) : Few.beforeOf 0 (ns.take (i + 1)) = ns[i] := Few.before_take (List.getElem?_eq_getElem hi)
/-- found == [] or found[-1] != 0 -/
theorem ev_lastOr {σ : L2.St} {ns : List Int} {i : Nat} (hv : ∃ v, σ[i]? = some (some v) ∧ IL K ns v H) : Ev (tOrV (tOp (rEqD K) (tVar i) (tLst tNil)) (tOp rNe (tOp (rIxL K) (tVar i) (tUn rNegI (tC (.int 1)))) (tC (.int 0)))) σ H (.bl (decide (ns = []) || !decide (Few.beforeOf 0 ns = 0))) := by
  obtain ⟨v, hs, hv⟩ := hv
  have first : Ev (tOp (rEqD K) (tVar i) (tLst tNil)) σ H (.bl (decide (ns = []))) := ev_eqI (ys := []) (x_ilv hs hv) (x_ilL (el_lst ea_nil (by decide)))
  rcases Few.last_cases ns with z | ⟨r, x, z⟩
  · subst z
    exact ev_orV (a := true) first fun z => by cases z
  · subst z
    obtain ⟨a, rfl, hs'⟩ := hv
    have e : Few.beforeOf 0 (r ++ [x]) = x := by
      unfold Few.beforeOf
      simp
    rw [e]
    exact ev_orV first fun _ => ev_is (ev_op (ev_op (ev_var hs) (ev_un ev_c ru_neg) (rv_ixL hs' at_last)) ev_c (rv_ne rfl)) (by rw [ne_zero])
theorem r_l_neat (h : sp_l_neat K A vs H Q E) : t_l_neat K A (D0 Q) (start ["_law_found", "_law_thing", "_law_k"] vs) H := by
  obtain ⟨v, ns, rfl, hv, hl, hz, k⟩ := h
  refine q_skip (et_not (et_B (ev_isList (ev_var rfl) (il_th hv)))) (by simp [tyD]) fun H1 e1 => ?_
  have hv1 := mono_il _ _ _ e1 hv
  refine q_forP (x_vlI (x_ilv rfl hv1)) (fun i σ' => ∃ u, σ' = [some v, u, none]) ⟨none, rfl⟩ ?_ ?_
  · rintro H2 i x σ' H' e2 e3 hx ⟨u, rfl⟩
    obtain ⟨n, hn, rfl⟩ := of_map hx
    have pm := hl n (List.mem_of_getElem? hn)
    refine s_when (et_or (et_not (et_B (ev_l_whole (ev_var rfl)))) fun _ => et_or (et_test (ev_op (ev_var rfl) (ev_un ev_c ru_neg) rv_I0)) fun _ => et_test (ev_op (ev_var rfl) ev_c rv_I0)) (fun hb H4 e4 => ?_) (fun hb H4 e4 => ?_)
    · have z := lay_test pm
      rw [z] at hb
      cases hb
    · exact ⟨⟨some (.int n), rfl⟩, e3.trans e4⟩
  · rintro σ' H' e2 ⟨u, rfl⟩
    have hv2 := mono_il _ _ _ e2 hv1
    refine q_forRg2P (lo := 1) (n := (ns.length : Int)) (ea_cons ev_c (ea_cons (ev_lenX (x_ilv rfl hv2)) ea_nil)) ⟨by omega, by omega, by omega, by omega⟩ (fun i σ' => ∃ u2, σ' = [some v, u, u2] ∧ Few.apartB (ns.take (i + 1)) = true) ⟨none, rfl, ?_⟩ ?_ ?_
    · cases ns with
      | nil => rfl
      | cons n r => rfl
    · rintro H3 i σ' H4 e3 e4 hi ⟨u2, rfl, ha⟩
      have hi1 : i + 1 < ns.length := by omega
      have g1 : ns[i + 1]? = some ns[i + 1] := List.getElem?_eq_getElem hi1
      have g0 : ns[i]? = some ns[i] := List.getElem?_eq_getElem (by omega)
      have hv4 := mono_il _ _ _ (e3.trans e4) hv2
      have st := Few.apart_step g1 ha (before_at (by omega))
      refine s_when (b := !decide (ns[i] = 0) && !decide (ns[i + 1] = 0)) ?_ (fun hb H5 e5 => ?_) (fun hb H5 e5 => ?_)
      · refine et_is (et_and (et_is (et_test (ev_op (ev_ix (j := i + 1) (x_ilv rfl hv4) (ev_var rfl) (by omega) g1) ev_c (rv_ne rfl))) ne_zero) fun _ => et_is (et_test (ev_op (ev_ix (j := i) (x_ilv rfl hv4) (ev_op (ev_var rfl) ev_c rv_I0) (by omega) g0) ev_c (rv_ne rfl))) ne_zero) ?_
        rw [Bool.and_comm]
      · have z : Few.neatB ns = false := by
          rw [Few.neat_iff, st.2 hb]
          rfl
        rw [z] at k
        exact s_retV ev_c (k.mono ((((e1.trans e2).trans e3).trans e4).trans e5))
      · exact ⟨⟨some (.int (1 + (i : Int))), rfl, st.1 hb⟩, e4.trans e5⟩
    · rintro σ' H5 e3 ⟨u2, rfl, ha⟩
      have ha' : Few.apartB ns = true := by
        rw [List.take_of_length_le (by omega)] at ha
        exact ha
      rw [Few.neat_by_last ns rfl ha'] at k
      exact s_retV (ev_lastOr ⟨v, rfl, mono_il _ _ _ e3 hv2⟩) (k.mono ((e1.trans e2).trans e3))
theorem ev_neat {te : TE} {σ : L2.St} {ns : List Int} (h : EvX te σ H (IL K ns)) (hl : Few.Lay ns) (hz : ns.length ≤ 100000) : Ev (tCall (sp_l_neat K A) [] E (tCons te tNil)) σ H (.bl (Few.neatB ns)) :=
  ev_call1 h fun x H1 e1 hx Q q => ⟨x, ns, rfl, hx, hl, hz, fun H' e => q H' e⟩
/-! small things -/
theorem lay_mod (ns : List Int) : Few.Lay (ns.map fun c => c % 3 - 1) := by
  intro x hx
  obtain ⟨y, _, rfl⟩ := List.mem_map.mp hx
  unfold Few.Pm
  omega
theorem pm_mod (c : Int) : Few.Pm (c % 3 - 1) := by
  unfold Few.Pm
  omega
theorem map_snoc (ts : List Int) (x : Int) : ts.map V.int ++ [V.int x] = (ts ++ [x]).map V.int := by rw [List.map_append]; rfl
theorem len_mapI (l : List Int) : (l.map V.int).length = l.length := List.length_map ..
theorem mod_nat (c : Int) (m : Nat) (hm : 0 < m) : ∃ k : Nat, c % (m : Int) = (k : Int) ∧ k < m := by
  have b1 := Int.emod_nonneg c (show (m : Int) ≠ 0 by omega)
  have b2 := Int.emod_lt_of_pos c (show (0 : Int) < (m : Int) by omega)
  exact ⟨(c % (m : Int)).toNat, by omega, by omega⟩
theorem rep_zero (n : Nat) : (List.replicate n [V.int 0]).flatten = (List.replicate n (0 : Int)).map V.int := by
  induction n with
  | zero => rfl
  | succ n ih =>
    rw [List.replicate_succ, List.replicate_succ, List.flatten_cons, ih]
    rfl
/-- [0] * n -/
theorem el_zeros {tb : TE} {σ : L2.St} {n : Int} (hb : Ev tb σ H (.int n)) (h : 0 ≤ n ∧ n ≤ 100000) : EvL (tOp rRep (tLst (tCons (tC (.int 0)) tNil)) tb) σ H ((List.replicate n.toNat (0 : Int)).map V.int) := by
  rw [← rep_zero]
  exact el_repX (x_mlL (el_lst (ea_cons ev_c ea_nil) (by decide))) hb ⟨by omega, by omega⟩ (by rw [show ([V.int 0] : List V).length = 1 from rfl]; omega)
/-! xs.clear(), xs.extend(ys) -/
section
variable {σ : L2.St} {te tb : TE} {D : Ends} {tz : TS}
theorem q_clear {l : Addr} {xs : List V} (hl : H l = some (.lst xs)) (ha : Ev te σ H (.ref l)) (k : ∀ H1, Ex H H1 → tz D σ (upd H1 l (.lst []))) : tSeq (tDrop (tBM0 K "list" rClear te)) tz D σ H :=
  ha H (Ex.refl H) _ fun H1 e1 => ⟨.inl ⟨rfl, xs, sq_of (e1 l _ hl)⟩, l, xs, rfl, rfl, e1 l _ hl, k H1 e1⟩
theorem q_extend {l b : Addr} {xs ys : List V} (hl : H l = some (.lst xs)) (hb : H b = some (.lst ys)) (ha : Ev te σ H (.ref l)) (hy : Ev tb σ H (.ref b)) (hz : xs.length + ys.length ≤ 100000) (k : ∀ H1, Ex H H1 → tz D σ (upd H1 l (.lst (xs ++ ys)))) : tSeq (tDrop (tBM K "list" rExtend te (tCons tb tNil))) tz D σ H :=
  ha H (Ex.refl H) _ fun H1 e1 => ⟨.inl ⟨rfl, xs, sq_of (e1 l _ hl)⟩, hy H1 e1 _ fun H2 e2 => ⟨l, b, xs, ys, rfl, rfl, e2 _ _ (e1 l _ hl), e2 _ _ (e1 b _ hb), sz_of hz, k H2 (e1.trans e2)⟩⟩
end
/-- a new list of whole numbers of which P is true -/
def RetN (P : List Int → Prop) (H : Hp) (Q : VK) : Prop := ∀ p H' ts, H p = none → Ex H H' → H' p = some (.lst (ts.map V.int)) → P ts → Q (.ref p) H'
def EvN (te : TE) (σ : L2.St) (H : Hp) (P : List Int → Prop) : Prop := ∀ H1, Ex H H1 → ∀ Q : VK, (∀ p H2 ts, H1 p = none → Ex H1 H2 → H2 p = some (.lst (ts.map V.int)) → P ts → Q (.ref p) H2) → te σ H1 Q
theorem q_asgN {te : TE} {σ : L2.St} {D : Ends} {tz : TS} {i : Nat} {P : List Int → Prop} (h : EvN te σ H P) (k : ∀ p H1 ts, H p = none → Ex H H1 → H1 p = some (.lst (ts.map V.int)) → P ts → tz D (σ.set i (some (.ref p))) H1) : tSeq (tAsg te (gName i)) tz D σ H := h H (Ex.refl H) _ k
theorem en_call1 {sp : Sp} {te : TE} {σ : L2.St} {P : V → Hp → Prop} {R : List Int → Prop} (h : EvX te σ H P) (hs : ∀ x H1, Ex H H1 → P x H1 → ∀ Q : VK, RetN R H1 Q → sp [x] H1 Q E) : EvN (tCall sp [] E (tCons te tNil)) σ H R := fun H1 e Q q =>
  h H1 e _ fun v H2 e2 hp => hs v H2 (e.trans e2) hp Q fun p H3 ts hn e3 hx hr => q p H3 ts (fresh_back e2 hn) (e2.trans e3) hx hr
theorem en_call2 {sp : Sp} {te tx : TE} {σ : L2.St} {P P' : V → Hp → Prop} {R : List Int → Prop} (h : EvX te σ H P) (m : Mono P) (h2 : EvX tx σ H P') (hs : ∀ x y H1, Ex H H1 → P x H1 → P' y H1 → ∀ Q : VK, RetN R H1 Q → sp [x, y] H1 Q E) : EvN (tCall sp [] E (tCons te (tCons tx tNil))) σ H R := fun H1 e Q q =>
  h H1 e _ fun v H2 e2 hp => h2 H2 (e.trans e2) _ fun w H3 e3 hp2 => hs v w H3 ((e.trans e2).trans e3) (m _ _ _ e3 hp) hp2 Q fun p H4 ts hn e4 hx hr => q p H4 ts (fresh_back (e2.trans e3) hn) ((e2.trans e3).trans e4) hx hr
theorem x_newL {te : TE} {σ : L2.St} {xs : List V} (h : EvL te σ H xs) : EvX te σ H (fun v H' => ∃ p, v = .ref p ∧ H p = none ∧ H' p = some (.lst xs)) := fun H1 e Q q => h H1 e Q fun p H2 hp e2 hx => q _ H2 e2 ⟨p, rfl, fresh_back e hp, hx⟩
/-- if c: x = e, and the rest from what both ways come to -/
theorem q_ifX {te : TE} {t : TT} {σ : L2.St} {D : Ends} {tz : TS} {b : Bool} {i : Nat} {P : V → Hp → Prop} (h : EvT t σ H b) (h1 : b = true → EvX te σ H P) (Mid : L2.St → Hp → Prop) (k1 : b = true → ∀ v H1, Ex H H1 → P v H1 → Mid (σ.set i (some v)) H1) (k0 : b = false → ∀ H1, Ex H H1 → Mid σ H1) (rest : ∀ σ' H', Mid σ' H' → tz D σ' H') :
    tSeq (tIfS t (tAsg te (gName i)) tNext) tz D σ H :=
  q_when h (fun hb H1 e1 => h1 hb H1 e1 _ fun v H2 e2 hp => rest _ _ (k1 hb v H2 (e1.trans e2) hp)) (fun hb H1 e1 => rest _ _ (k0 hb H1 e1))
end
end Fw

namespace Fw
open PySem PySem.Spec PyProof.Rows L2 Evl
section
variable {K : PySem.W.Frag} {A : Ad} {vs : List V} {H : Hp} {Q : VK} {E : XK}
/-! ### neat -/
def sp_neat (K : PySem.W.Frag) (A : Ad) : Sp := LaySp (fun ns H Q => ns.length ≤ 50000 ∧ RetL ((Few.laid (Few.loadOf ns)).map V.int) H Q) K A
def t_neat (K : PySem.W.Frag) (A : Ad) (E : XK) : TS :=
  (tRet (tCall (sp_laid K A) [] E (tCons (tCall (sp_load_of K A) [] E (tCons (tVar 0) tNil)) tNil)))
theorem r_neat (h : sp_neat K A vs H Q E) : t_neat K A E (D0 Q) (start ["laying"] vs) H := by
  obtain ⟨v, d, rfl, hd, k1, k2⟩ := h
  cases hl : isLayD d with
  | false => exact er_ret (er_call (er_load_of (x_th rfl hd) hl (k2 hl)))
  | true =>
    obtain ⟨ns, rfl, l⟩ := lay_is hl
    obtain ⟨hz, k⟩ := k1 ns rfl l
    have := Few.laid_load_len l
    exact s_retLL (el_laid (ev_load_of (x_ilv rfl hd.il) l) (by omega)) k
theorem el_neat {te : TE} {σ : L2.St} {ns : List Int} (h : EvX te σ H (IL K ns)) (hl : Few.Lay ns) (hz : ns.length ≤ 50000) : EvL (tCall (sp_neat K A) [] E (tCons te tNil)) σ H ((Few.laid (Few.loadOf ns)).map V.int) :=
  el_call1 h fun x H1 e1 hx Q q => LaySp.good hx hl ⟨hz, fun p H' hp e hx => q p H' hp e hx⟩
/-! ### turned -/
def sp_turned (K : PySem.W.Frag) (A : Ad) : Sp := LaySp (fun ns H Q => ns.length ≤ 40000 ∧ RetL ((ns.map fun x => -x).map V.int) H Q) K A
def t_turned (K : PySem.W.Frag) (A : Ad) (E : XK) : TS :=
  (tRet (tLc (iList K (tCall (sp_good_laying K A) [] E (tCons (tVar 0) tNil))) (gName 1) tYes (tUn rNegI (tVar 1)) [1]))
theorem r_turned (h : sp_turned K A vs H Q E) : t_turned K A E (D0 Q) (start ["laying", "one"] vs) H := by
  obtain ⟨v, d, rfl, hd, k1, k2⟩ := h
  cases hl : isLayD d with
  | false => exact er_ret (er_lc (er_good (x_th rfl hd) hl (k2 hl)))
  | true =>
    obtain ⟨ns, rfl, l⟩ := lay_is hl
    obtain ⟨hz, k⟩ := k1 ns rfl l
    have em : (ns.map fun x => -x).map V.int = ns.map fun n => V.int (-n) := by rw [List.map_map]; rfl
    rw [em] at k
    exact s_retLL (el_lcI0 (fun n => V.int (-n)) (x_good (x_ilv rfl hd.il) l) hz (fun _ => rfl) (fun n H1 _ _ => ev_un (ev_var rfl) ru_neg)) k
theorem el_turned {te : TE} {σ : L2.St} {ns : List Int} (h : EvX te σ H (IL K ns)) (hl : Few.Lay ns) (hz : ns.length ≤ 40000) : EvL (tCall (sp_turned K A) [] E (tCons te tNil)) σ H ((ns.map fun x => -x).map V.int) :=
  el_call1 h fun x H1 e1 hx Q q => LaySp.good hx hl ⟨hz, fun p H' hp e hx => q p H' hp e hx⟩
/-! ### two layings -/
def Lay2Sp (R : List Int → List Int → Hp → VK → Prop) (K : PySem.W.Frag) (A : Ad) : Sp := fun vs H Q E => ∃ v w d e, vs = [v, w] ∧ Th K H v d ∧ Th K H w e ∧ (∀ xs ys, d = .list (xs.map PyData.int) → Few.Lay xs → e = .list (ys.map PyData.int) → Few.Lay ys → R xs ys H Q) ∧ ((isLayD d && isLayD e) = false → RaiseE E A.laying H)
theorem Lay2Sp.good {R : List Int → List Int → Hp → VK → Prop} {xs ys : List Int} {v w : V} (h : IL K xs v H) (h2 : IL K ys w H) (hl : Few.Lay xs) (hl2 : Few.Lay ys) (hr : R xs ys H Q) : Lay2Sp R K A [v, w] H Q E :=
  ⟨v, w, _, _, rfl, il_th h, il_th h2, (fun a b e1 _ e2 _ => by
    have e1' : xs = a := ints_inj (PyData.list.inj e1)
    have e2' : ys = b := ints_inj (PyData.list.inj e2)
    rw [← e1', ← e2']
    exact hr), fun z => by rw [lay_ints hl, lay_ints hl2] at z; cases z⟩
theorem Lay2Sp.bad {R : List Int → List Int → Hp → VK → Prop} {d e : PyData} {v w : V} (h : Th K H v d) (h2 : Th K H w e) (hl : (isLayD d && isLayD e) = false) (hr : RaiseE E A.laying H) : Lay2Sp R K A [v, w] H Q E :=
  ⟨v, w, d, e, rfl, h, h2, (fun a b e1 l1 e2 l2 => by rw [e1, e2, lay_ints l1, lay_ints l2] at hl; cases hl), fun _ => hr⟩
/-! ### plus -/
def sp_plus (K : PySem.W.Frag) (A : Ad) : Sp := Lay2Sp (fun xs ys H Q => (xs.length ≤ 40000 ∧ ys.length ≤ 40000) ∧ RetL ((Few.laid (Few.loadOf xs + Few.loadOf ys)).map V.int) H Q) K A
def t_plus (K : PySem.W.Frag) (A : Ad) (E : XK) : TS :=
  (tRet (tCall (sp_laid K A) [] E (tCons (tOp rAddI (tCall (sp_load_of K A) [] E (tCons (tVar 0) tNil)) (tCall (sp_load_of K A) [] E (tCons (tVar 1) tNil))) tNil)))
theorem plus_len {xs ys : List Int} (hx : Few.Lay xs) (hy : Few.Lay ys) (h1 : xs.length ≤ 40000) (h2 : ys.length ≤ 40000) : (Few.laid (Few.loadOf xs + Few.loadOf ys)).length ≤ 40002 := by
  have b1 := Few.load_bound hx
  have b2 := Few.load_bound hy
  have m1 : 2 ^ xs.length ≤ 2 ^ 40000 := Nat.pow_le_pow_right (by decide) h1
  have m2 : 2 ^ ys.length ≤ 2 ^ 40000 := Nat.pow_le_pow_right (by decide) h2
  refine Few.laid_len 40001 _ ?_
  rw [Nat.pow_succ]
  generalize 2 ^ 40000 = M at m1 m2
  omega
theorem r_plus (h : sp_plus K A vs H Q E) : t_plus K A E (D0 Q) (start ["one", "other"] vs) H := by
  obtain ⟨v, w, d, e, rfl, hd, he, k1, k2⟩ := h
  cases hl : isLayD d with
  | false => exact er_ret (er_call (er_op1 (er_load_of (x_th rfl hd) hl (k2 (by rw [hl]; rfl)))))
  | true =>
    obtain ⟨xs, rfl, lx⟩ := lay_is hl
    cases hl2 : isLayD e with
    | false => exact er_ret (er_call (er_op2 (x_v (ev_load_of (x_ilv rfl hd.il) lx)) (er_load_of (x_th rfl he) hl2 (k2 (by rw [hl2, Bool.and_false])))))
    | true =>
      obtain ⟨ys, rfl, ly⟩ := lay_is hl2
      obtain ⟨⟨hz, hz2⟩, k⟩ := k1 xs ys rfl lx rfl ly
      have := plus_len lx ly hz hz2
      exact s_retLL (el_laid (ev_op (ev_load_of (x_ilv rfl hd.il) lx) (ev_load_of (x_ilv rfl he.il) ly) rv_I0) (by omega)) k
theorem el_plus {te tx : TE} {σ : L2.St} {xs ys : List Int} (h : EvX te σ H (IL K xs)) (h2 : EvX tx σ H (IL K ys)) (hl : Few.Lay xs) (hl2 : Few.Lay ys) (hz : xs.length ≤ 40000) (hz2 : ys.length ≤ 40000) : EvL (tCall (sp_plus K A) [] E (tCons te (tCons tx tNil))) σ H ((Few.laid (Few.loadOf xs + Few.loadOf ys)).map V.int) :=
  el_call2 h mono_il h2 fun x y H1 e1 hx hy Q q => Lay2Sp.good hx hy hl hl2 ⟨⟨hz, hz2⟩, fun p H' hp e hx => q p H' hp e hx⟩
/-! ### heavier -/
def sgn (a b : Int) : Int := if b < a then 1 else if a < b then -1 else 0
def sp_heavier (K : PySem.W.Frag) (A : Ad) : Sp := Lay2Sp (fun xs ys H Q => RetV (.int (sgn (Few.loadOf xs) (Few.loadOf ys))) H Q) K A
def t_heavier (K : PySem.W.Frag) (A : Ad) (E : XK) : TS :=
  (tSeq (tAsg (tCall (sp_load_of K A) [] E (tCons (tVar 0) tNil)) (gName 2))
    (tSeq (tAsg (tCall (sp_load_of K A) [] E (tCons (tVar 1) tNil)) (gName 3))
    (tSeq (tIfS (tTest (tOp rGtI (tVar 2) (tVar 3))) (tRet (tC (.int 1))) tNext)
    (tSeq (tIfS (tTest (tOp rLtI (tVar 2) (tVar 3))) (tRet (tUn rNegI (tC (.int 1)))) tNext)
    (tRet (tC (.int 0)))))))
theorem r_heavier (h : sp_heavier K A vs H Q E) : t_heavier K A E (D0 Q) (start ["one", "other", "first", "second"] vs) H := by
  obtain ⟨v, w, d, e, rfl, hd, he, k1, k2⟩ := h
  cases hl : isLayD d with
  | false => exact er_q (er_load_of (x_th rfl hd) hl (k2 (by rw [hl]; rfl)))
  | true =>
    obtain ⟨xs, rfl, lx⟩ := lay_is hl
    refine q_asg (ev_load_of (x_ilv rfl hd.il) lx) fun H1 e1 => ?_
    have he1 := he.mono e1
    cases hl2 : isLayD e with
    | false => exact er_q (er_load_of (x_th rfl he1) hl2 ((k2 (by rw [hl2, Bool.and_false])).mono e1))
    | true =>
      obtain ⟨ys, rfl, ly⟩ := lay_is hl2
      have k : RetV (.int (sgn (Few.loadOf xs) (Few.loadOf ys))) H Q := k1 xs ys rfl lx rfl ly
      refine q_asg (ev_load_of (x_ilv rfl he1.il) ly) fun H2 e2 => ?_
      unfold sgn at k
      refine q_when (et_test (ev_op (ev_var rfl) (ev_var rfl) rv_I0)) (fun hb H3 e3 => ?_) (fun hb H3 e3 => ?_)
      · rw [if_pos (of_decide_eq_true hb)] at k
        exact s_retV ev_c (k.mono ((e1.trans e2).trans e3))
      · rw [if_neg (of_decide_eq_false hb)] at k
        refine q_when (et_test (ev_op (ev_var rfl) (ev_var rfl) rv_I0)) (fun hb H4 e4 => ?_) (fun hb H4 e4 => ?_)
        · rw [if_pos (of_decide_eq_true hb)] at k
          exact s_retV (ev_un ev_c ru_neg) (k.mono (((e1.trans e2).trans e3).trans e4))
        · rw [if_neg (of_decide_eq_false hb)] at k
          exact s_retV ev_c (k.mono (((e1.trans e2).trans e3).trans e4))
theorem ev_heavier {te tx : TE} {σ : L2.St} {xs ys : List Int} (h : EvX te σ H (IL K xs)) (h2 : EvX tx σ H (IL K ys)) (hl : Few.Lay xs) (hl2 : Few.Lay ys) : Ev (tCall (sp_heavier K A) [] E (tCons te (tCons tx tNil))) σ H (.int (sgn (Few.loadOf xs) (Few.loadOf ys))) :=
  ev_call2 h mono_il h2 fun x y H1 e1 hx hy Q q => Lay2Sp.good hx hy hl hl2 fun H' e => q H' e
/-! ### parted -/
/-- a new tuple of two new lists -/
def RetT2 (xs ys : List V) (H : Hp) (Q : VK) : Prop := ∀ t p q H', H t = none → (∀ H0 ps, Led H0 H ps → Led H0 H' ((q, ys) :: (p, xs) :: ps)) → H' t = some (.tup [.ref p, .ref q]) → Q (.ref t) H'
def sp_parted (K : PySem.W.Frag) (A : Ad) : Sp := fun vs H Q E => ∃ v d, ∃ j : Nat, vs = [v, .int (j : Int)] ∧ Th K H v d ∧ (∀ ns, d = .list (ns.map PyData.int) → Few.Lay ns → RetT2 ((Few.ended (ns.drop j)).map V.int) ((Few.ended (ns.take j)).map V.int) H Q) ∧ (isLayD d = false → RaiseE E A.laying H)
def t_parted (K : PySem.W.Frag) (A : Ad) (E : XK) : TS :=
  (tSeq (tAsg (tCall (sp_good_laying K A) [] E (tCons (tVar 0) tNil)) (gName 2))
    (tRet (tTup (tCons (tCall (sp_ended K A) [] E (tCons (tSl (rSlL K) (tVar 2) (tPart (tVar 1)) tNoPart) tNil)) (tCons (tCall (sp_ended K A) [] E (tCons (tSl (rSlL K) (tVar 2) tNoPart (tPart (tVar 1))) tNil)) tNil)))))
theorem Led.tup {H0 H' : Hp} {ps : List (Addr × List V)} {t : Addr} {o : HO} (h : Led H0 H ps) (ht : H t = none) : Led H0 (upd H t o) ps := h.ex (Ex.new ht)
theorem r_parted (h : sp_parted K A vs H Q E) : t_parted K A E (D0 Q) (start ["laying", "place", "things"] vs) H := by
  obtain ⟨v, d, j, rfl, hd, k1, k2⟩ := h
  cases hl : isLayD d with
  | false => exact er_q (er_good (x_th rfl hd) hl (k2 hl))
  | true =>
    obtain ⟨ns, rfl, l⟩ := lay_is hl
    have k := k1 ns rfl l
    refine q_asgX (x_good (x_ilv rfl hd.il) l) fun w H1 e1 hw => ?_
    have up : EvL (tCall (sp_ended K A) [] E (tCons (tSl (rSlL K) (tVar 2) (tPart (tVar 1)) tNoPart) tNil)) [some v, some (.int (j : Int)), some w] H1 ((Few.ended (ns.drop j)).map V.int) := el_ended (x_ilL (el_from (x_ilv rfl hw) (ev_var rfl) rfl)) (Few.lay_drop l j)
    have lo : EvL (tCall (sp_ended K A) [] E (tCons (tSl (rSlL K) (tVar 2) tNoPart (tPart (tVar 1))) tNil)) [some v, some (.int (j : Int)), some w] H1 ((Few.ended (ns.take j)).map V.int) := el_ended (x_ilL (el_to (x_ilv rfl hw) (ev_var rfl) rfl)) (Few.lay_take l j)
    refine up H1 (Ex.refl H1) _ fun p H2 hp e2 hx => lo H2 e2 _ fun q H3 hq e3 hy => ⟨by show 2 ≤ sizeLine; decide, fun t ht => ?_⟩
    refine k t p q _ (fresh_back ((e1.trans e2).trans e3) ht) (fun H0 ps L => ?_) upd_same
    exact (((L.ex e1).new hp e2 hx).new hq e3 hy).tup (H' := H) ht
theorem er_parted {te tb : TE} {σ : L2.St} {d : PyData} {j : Nat} (h : EvX te σ H (ThP K d)) (h2 : Ev tb σ H (.int (j : Int))) (hl : isLayD d = false) (k : RaiseE E A.laying H) : Er (tCall (sp_parted K A) [] E (tCons te (tCons tb tNil))) σ H := fun H1 e Q =>
  h H1 e _ fun v H2 e2 hp => h2 H2 (e.trans e2) _ fun H3 e3 => ⟨v, d, j, rfl, hp.mono e3, (fun ns e l => by rw [e, lay_ints l] at hl; cases hl), fun _ => k.mono ((e.trans e2).trans e3)⟩
/-- its call -/
theorem q_parted {te tb : TE} {σ : L2.St} {D : Ends} {tz : TS} {i : Nat} {ns : List Int} {j : Nat} (h : EvX te σ H (IL K ns)) (h2 : Ev tb σ H (.int (j : Int))) (hl : Few.Lay ns)
    (k : ∀ t p q H', H t = none → (∀ H0 ps, Led H0 H ps → Led H0 H' ((q, (Few.ended (ns.take j)).map V.int) :: (p, (Few.ended (ns.drop j)).map V.int) :: ps)) → H' t = some (.tup [.ref p, .ref q]) → tz D (σ.set i (some (.ref t))) H') :
    tSeq (tAsg (tCall (sp_parted K A) [] E (tCons te (tCons tb tNil))) (gName i)) tz D σ H :=
  h H (Ex.refl H) _ fun v H2 e2 hp => h2 H2 e2 _ fun H3 e3 => ⟨v, _, j, rfl, (il_th hp).mono e3, (fun ms e _ => by
    have e' : ns = ms := ints_inj (PyData.list.inj e)
    rw [← e']
    exact fun t p q H' ht g hx => k t p q H' (fresh_back (e2.trans e3) ht) (fun H0 ps L => g H0 ps ((L.ex e2).ex e3)) hx), fun z => by rw [lay_ints hl] at z; cases z⟩
end
end Fw

namespace Fw
open PySem PySem.Spec PyProof.Rows L2 Evl
/-! lists of lists of whole numbers -/
inductive ILs (K : PySem.W.Frag) (H : Hp) : List V → List (List Int) → Prop
  | nil : ILs K H [] []
  | cons {v : V} {vs : List V} {ns : List Int} {nss : List (List Int)} : IL K ns v H → ILs K H vs nss → ILs K H (v :: vs) (ns :: nss)
section
variable {K : PySem.W.Frag} {A : Ad} {σ : L2.St} {H H' : Hp} {ta : TA} {tb te tx tl : TE} {D : Ends} {tz : TS}
theorem ILs.mono (e : Ex H H') : ∀ {vs : List V} {nss : List (List Int)}, ILs K H vs nss → ILs K H' vs nss
  | _, _, .nil => .nil
  | _, _, .cons a b => .cons (mono_il _ _ _ e a) (b.mono e)
theorem ILs.length : ∀ {vs : List V} {nss : List (List Int)}, ILs K H vs nss → vs.length = nss.length
  | _, _, .nil => rfl
  | _, _, .cons a b => by rw [List.length_cons, List.length_cons, ILs.length b]
theorem ILs.at : ∀ {vs : List V} {nss : List (List Int)}, ILs K H vs nss → ∀ {i : Nat} {ns : List Int}, nss[i]? = some ns → ∃ v, vs[i]? = some v ∧ IL K ns v H
  | _, _, .nil, i, x, h => by simp at h
  | _, _, .cons a b, 0, x, h => ⟨_, rfl, by have e := Option.some.inj h; rw [← e]; exact a⟩
  | _, _, .cons a b, i + 1, x, h => ILs.at b (i := i) (ns := x) h
theorem ILs.dpa : ∀ {vs : List V} {nss : List (List Int)}, ILs K H vs nss → DpAll K H vs (nss.map fun ns => PyData.list (ns.map PyData.int))
  | _, _, .nil => .nil
  | _, _, .cons ⟨a, ev, hs⟩ b => by
    subst ev
    exact .cons (.lst hs dps) (ILs.dpa b)
def ILL (K : PySem.W.Frag) (nss : List (List Int)) : V → Hp → Prop := fun v H => ∃ a xs, v = .ref a ∧ SqL K H a xs ∧ ILs K H xs nss
theorem mono_ill {nss : List (List Int)} : Mono (ILL K nss) := fun _ _ _ e ⟨a, xs, h, s, t⟩ => ⟨a, xs, h, ex_l e s, t.mono e⟩
theorem xi_nil : EaX tNil σ H (fun vs H => ILs K H vs []) := fun H1 _ _ q => q _ H1 (Ex.refl H1) .nil
theorem xi_cons {tr : TA} {ns : List Int} {nss : List (List Int)} (h : EvX te σ H (IL K ns)) (hr : EaX tr σ H (fun vs H => ILs K H vs nss)) : EaX (tCons te tr) σ H (fun vs H => ILs K H vs (ns :: nss)) := fun H1 e Q q =>
  h H1 e _ fun v H2 e2 hp => hr H2 (e.trans e2) _ fun vs H3 e3 hR => q _ H3 (e2.trans e3) (.cons (mono_il _ _ _ e3 hp) hR)
theorem xi_lst {nss : List (List Int)} (h : EaX ta σ H (fun vs H => ILs K H vs nss)) (hz : nss.length ≤ 100000) : EvX (tLst ta) σ H (ILL K nss) := fun H1 e Q q =>
  h H1 e _ fun vs H2 e2 hr => ⟨sz_of (by rw [hr.length]; exact hz), fun p hp => q _ _ (e2.trans (Ex.new hp)) ⟨p, vs, rfl, sq_of upd_same, hr.mono (Ex.new hp)⟩⟩
theorem eqv_lists : ∀ xs ys : List (List Int), PyData.eqvAll (xs.map fun ns => PyData.list (ns.map PyData.int)) (ys.map fun ns => PyData.list (ns.map PyData.int)) = decide (xs = ys)
  | [], [] => rfl
  | [], _ :: _ => by simp [PyData.eqvAll]
  | _ :: _, [] => by simp [PyData.eqvAll]
  | x :: xs, y :: ys => by
    have ih := eqv_lists xs ys
    show (PyData.eqv (.list (x.map PyData.int)) (.list (y.map PyData.int)) && PyData.eqvAll (xs.map fun ns => PyData.list (ns.map PyData.int)) (ys.map fun ns => PyData.list (ns.map PyData.int))) = _
    have e : PyData.eqv (.list (x.map PyData.int)) (.list (y.map PyData.int)) = decide (x = y) := eqv_ints x y
    rw [ih, e]
    by_cases h1 : x = y
    · subst h1
      by_cases h2 : xs = ys
      · subst h2
        simp
      · simp [h2]
    · simp [h1]
theorem shaped_lists (xs : List (List Int)) : SeqAt.shaped (.list (xs.map fun ns => PyData.list (ns.map PyData.int))) = true := by
  have a : ∀ xs : List (List Int), PyData.canLayAll0 (xs.map fun ns => PyData.list (ns.map PyData.int)) = true := by
    intro xs
    induction xs with
    | nil => rfl
    | cons x xs ih =>
      show (PyData.canLayAll0 (x.map PyData.int) && PyData.canLayAll0 (xs.map fun ns => PyData.list (ns.map PyData.int))) = true
      rw [ih, canLay_ints]
      rfl
  have b : ∀ xs : List (List Int), PyData.depthAll (xs.map fun ns => PyData.list (ns.map PyData.int)) ≤ 1 := by
    intro xs
    induction xs with
    | nil => exact Nat.zero_le _
    | cons x xs ih =>
      show max (PyData.depthAll (x.map PyData.int) + 1) (PyData.depthAll (xs.map fun ns => PyData.list (ns.map PyData.int))) ≤ 1
      rw [depth_ints]
      omega
  unfold SeqAt.shaped
  have a' : PyData.canLay0 (.list (xs.map fun ns => PyData.list (ns.map PyData.int))) = true := a xs
  have b' : PyData.depth (.list (xs.map fun ns => PyData.list (ns.map PyData.int))) ≤ 2 := by
    show PyData.depthAll (xs.map fun ns => PyData.list (ns.map PyData.int)) + 1 ≤ 2
    have := b xs
    omega
  rw [a', Bool.true_and]
  exact decide_eq_true (by omega)
theorem ev_eqLL {xs ys : List (List Int)} (ha : EvX te σ H (ILL K xs)) (hb : EvX tb σ H (ILL K ys)) : Ev (tOp (rEqD K) te tb) σ H (.bl (decide (xs = ys))) := ev_opX ha mono_ill hb fun x y H1 _ ⟨a, as, ea, sa, ia⟩ ⟨b, bs, eb, sb, ib⟩ H2 e2 Q k => by
  subst ea eb
  refine ⟨_, _, .lst (ex_l e2 sa) (ia.mono e2).dpa, .lst (ex_l e2 sb) (ib.mono e2).dpa, shaped_lists xs, shaped_lists ys, ?_⟩
  have z : PyData.eqv (.list (xs.map fun ns => PyData.list (ns.map PyData.int))) (.list (ys.map fun ns => PyData.list (ns.map PyData.int))) = decide (xs = ys) := eqv_lists xs ys
  rw [z]
  exact k H2 (Ex.refl H2)
theorem x_ixLL {nss : List (List Int)} {ns : List Int} {j : Nat} {i : Int} (ha : EvX te σ H (ILL K nss)) (hb : Ev tb σ H (.int i)) (hi : i = (j : Int)) (h : nss[j]? = some ns) : EvX (tOp (rIxL K) te tb) σ H (IL K ns) := fun H1 e Q q =>
  ha H1 e _ fun v H2 e2 hv => hb H2 (e.trans e2) _ fun H3 e3 => by
    obtain ⟨a, xs, rfl, hs, hI⟩ := hv
    obtain ⟨x, hx, hn⟩ := hI.at h
    exact ⟨a, xs, i, x, rfl, rfl, ex_l e3 hs, at_of hi hx, q x H3 (e2.trans e3) (mono_il _ _ _ e3 hn)⟩
/-! a display of new lists, written into the ledger -/
def Grow (H H' : Hp) (qs : List (Addr × List V)) : Prop := ∀ H0 ps, Led H0 H ps → Led H0 H' (qs ++ ps)
theorem q_asgD3 {t1 t2 t3 : TE} {i : Nat} {xs1 xs2 xs3 : List V} (h1 : EvL t1 σ H xs1) (h2 : EvL t2 σ H xs2) (h3 : EvL t3 σ H xs3)
    (k : ∀ p1 p2 p3 p H', Grow H H' [(p, [.ref p1, .ref p2, .ref p3]), (p3, xs3), (p2, xs2), (p1, xs1)] → tz D (σ.set i (some (.ref p))) H') : tSeq (tAsg (tLst (tCons t1 (tCons t2 (tCons t3 tNil)))) (gName i)) tz D σ H :=
  h1 H (Ex.refl H) _ fun p1 H1 hp1 e1 hx1 => h2 H1 e1 _ fun p2 H2 hp2 e2 hx2 => h3 H2 (e1.trans e2) _ fun p3 H3 hp3 e3 hx3 =>
    ⟨by show 3 ≤ sizeLine; decide, fun p hp => k p1 p2 p3 p _ fun H0 ps L => (((L.new hp1 e1 hx1).new hp2 e2 hx2).new hp3 e3 hx3).new hp (Ex.new hp) upd_same⟩
theorem Led.ill {H0 : Hp} {ps : List (Addr × List V)} {p : Addr} {xs : List V} {nss : List (List Int)} (L : Led H0 H ps) (i : Nat) (hi : ps[i]? = some (p, xs)) (h : ILs K H xs nss) : ILL K nss (.ref p) H := ⟨p, xs, rfl, sq_of (L.at i hi), h⟩
theorem x_illv {v : V} {nss : List (List Int)} {i : Nat} (h : σ[i]? = some (some v)) (hd : ILL K nss v H) : EvX (tVar i) σ H (ILL K nss) := x_of (ev_var h) mono_ill hd
/-! the ledger in another order, or less of it -/
theorem Led.sub {H0 : Hp} {ps qs : List (Addr × List V)} (L : Led H0 H ps) (h : qs.Sublist ps) : Led H0 H qs := ⟨L.1, fun q hq => L.2.1 q (h.subset hq), (h.map _).nodup L.2.2⟩
theorem Led.perm {H0 : Hp} {ps qs : List (Addr × List V)} (L : Led H0 H ps) (h : qs.Perm ps) : Led H0 H qs := ⟨L.1, fun q hq => L.2.1 q (h.subset hq), (h.map _).nodup_iff.mpr L.2.2⟩
theorem erase_perm {α : Type} : ∀ {l : List α} {i : Nat} {x : α}, l[i]? = some x → (x :: l.eraseIdx i).Perm l
  | [], i, x, h => by simp at h
  | a :: r, 0, x, h => by
    have e : a = x := Option.some.inj h
    rw [e]
    exact List.Perm.refl _
  | a :: r, i + 1, x, h => by
    have ih := erase_perm (l := r) (i := i) (x := x) h
    exact (List.Perm.swap a x _).trans (ih.cons a)
/-- if c: x = [0] * n + x, the list in the ledger either way -/
theorem q_pad {H0 : Hp} {ps : List (Addr × List V)} {t : TT} {b : Bool} {i l : Nat} {p : Addr} {xs : List Int} {n : Int} (L : Led H0 H ps) (hl : ps[l]? = some (p, xs.map V.int)) (h : EvT t σ H b) (hi : σ[i]? = some (some (.ref p))) (hn : Ev tb σ H (.int n)) (hb : 0 ≤ n ∧ n ≤ 300) (hz : xs.length ≤ 1000) (hself : σ.set i (some (.ref p)) = σ)
    (k : ∀ q H1 (m : Nat), m ≤ 300 → Led H0 H1 ((q, (List.replicate m 0 ++ xs).map V.int) :: ps.eraseIdx l) → tz D (σ.set i (some (.ref q))) H1) :
    tSeq (tIfS t (tAsg (tOp rCat (tOp rRep (tLst (tCons (tC (.int 0)) tNil)) tb) (tVar i)) (gName i)) tNext) tz D σ H := by
  refine q_when h (fun _ H1 e1 => ?_) (fun _ H1 e1 => ?_)
  · refine s_asgL (el_catX (x_mlL (el_zeros (hn.mono e1) ⟨by omega, by omega⟩)) (x_ml (ev_var hi) (e1 _ _ (L.at l hl))) (by rw [len_mapI, len_mapI, List.length_replicate]; omega)) fun q H2 hq e2 hy => ?_
    rw [← List.map_append] at hy
    exact k q H2 _ (by omega) (((L.ex e1).new hq e2 hy).sub ((List.eraseIdx_sublist ps l).cons_cons _))
  · have g := k p H1 0 (by omega) ((L.ex e1).perm (erase_perm hl))
    rw [hself] at g
    exact g
end
end Fw

namespace Fw
open PySem PySem.Spec PyProof.Rows L2 Evl
/-! plans -/
def rNotInT (K : PySem.W.Frag) : R2 := fun x y H Q => ∃ d ds, Dp K H x d ∧ Dp K H y (.tuple ds) ∧ SeqAt.shaped d = true ∧ SeqAt.shaped (.tuple ds) = true ∧ Q (.bl (!ds.any fun z => PyData.eqv z d)) H
theorem op_notInT {X : Cx} (hu : X.A.units + 65 < cLine) : OpR X (compareOp .NotIn) (rNotInT X.K) := by
  intro pins s σ H x y v u Q I rx ry h
  obtain ⟨d, ds, hd, he, sd, se, q⟩ := h
  obtain ⟨as, r1⟩ := Dp.reads I d x v hd rx
  obtain ⟨bs, r2⟩ := Dp.reads I (.tuple ds) y u he ry
  exact SeqAt.notIn_tuple_reads r2 r1 (SeqAt.canLay_of_shaped se) (SeqAt.canLay_of_shaped sd) (room_in_shaped sd hu) ⟨.bl _, H, I, rfl, q⟩
theorem room65 {k : Nat} {A : Around} (r : Room k A) : A.units + 65 < cLine := by
  have := r.un
  omega
def WordsIn (K : PySem.W.Frag) (A : Ad) : Prop := ∃ (dW : Option Addr) (t1 t2 t3 : Tok) (n : Nat) (sl : Array (Option Value)), K.lookup A.words = some ⟨.type "tuple", dW, .seq #[.str "double" t1, .str "put" t2, .str "take" t3] n, sl⟩
theorem words_mk {K : PySem.W.Frag} {A : Ad} {dW : Option Addr} {t1 t2 t3 : Tok} {n : Nat} {sl : Array (Option Value)} (h : K.lookup A.words = some ⟨.type "tuple", dW, .seq #[.str "double" t1, .str "put" t2, .str "take" t3] n, sl⟩) : WordsIn K A := ⟨dW, t1, t2, t3, n, sl, h⟩
theorem words_sq {K : PySem.W.Frag} {A : Ad} (W : WordsIn K A) (H : Hp) : SqT K H A.words [.str "double", .str "put", .str "take"] := by
  obtain ⟨dW, t1, t2, t3, n, sl, h⟩ := W
  exact .inr ⟨_, _, n, h, rfl, rfl, by show 3 ≤ sizeLine; decide, .cons ⟨t1, rfl⟩ (.cons ⟨t2, rfl⟩ (.cons ⟨t3, rfl⟩ .nil))⟩
/-! words as values, as data -/
def wS : Wd → Str
  | .dbl => "double"
  | .put => "put"
  | .tak => "take"
def wV (w : Wd) : V := .str (wS w)
def wD (w : Wd) : PyData := .str (wS w)
theorem wS_inj (a b : Wd) : (wS a = wS b) ↔ a = b := by
  cases a <;> cases b <;> first | (simp; done) | (refine ⟨fun h => absurd h (by decide +kernel), fun h => by cases h⟩)
theorem wV_eq (a b : Wd) : decide (wV a = wV b) = decide (a = b) := by
  by_cases h : a = b
  · subst h
    simp
  · rw [decide_eq_false h, decide_eq_false]
    intro z
    exact h ((wS_inj a b).mp (V.str.inj z))
theorem wV_dbl (a : Wd) : decide (wV a = V.str "double") = decide (a = .dbl) := wV_eq a .dbl
theorem wV_put (a : Wd) : decide (wV a = V.str "put") = decide (a = .put) := wV_eq a .put
theorem wV_tak (a : Wd) : decide (wV a = V.str "take") = decide (a = .tak) := wV_eq a .tak
/-- is it a word? -/
def wordD (d : PyData) : Bool := [PyData.str "double", .str "put", .str "take"].any fun z => PyData.eqv z d
theorem word_wD (w : Wd) : wordD (wD w) = true := by cases w <;> decide +kernel
theorem word_is {d : PyData} (h : wordD d = true) : ∃ w, d = wD w := by
  cases d with
  | str x =>
    have h' : (PyData.eqv (.str "double") (.str x) || (PyData.eqv (.str "put") (.str x) || (PyData.eqv (.str "take") (.str x) || false))) = true := h
    simp only [PyData.eqv, Bool.or_eq_true, beq_iff_eq, Bool.or_false] at h'
    rcases h' with z | z | z
    · exact ⟨.dbl, by rw [← z]; rfl⟩
    · exact ⟨.put, by rw [← z]; rfl⟩
    · exact ⟨.tak, by rw [← z]; rfl⟩
  | none => exact absurd h (by simp [wordD, PyData.eqv])
  | bool b => exact absurd h (by simp [wordD, PyData.eqv])
  | int b => exact absurd h (by simp [wordD, PyData.eqv])
  | list b => exact absurd h (by simp [wordD, PyData.eqv])
  | tuple b => exact absurd h (by simp [wordD, PyData.eqv])
  | dict b => exact absurd h (by simp [wordD, PyData.eqv])
def isPlanD : PyData → Bool
  | .list ds => ds.all wordD
  | _ => false
theorem plan_is_all : ∀ ds : List PyData, ds.all wordD = true → ∃ ws : List Wd, ds = ws.map wD
  | [], _ => ⟨[], rfl⟩
  | d :: ds, h => by
    rw [List.all_cons, Bool.and_eq_true] at h
    obtain ⟨w, e⟩ := word_is h.1
    obtain ⟨ws, es⟩ := plan_is_all ds h.2
    exact ⟨w :: ws, by rw [e, es]; rfl⟩
theorem plan_is {d : PyData} (h : isPlanD d = true) : ∃ ws : List Wd, d = .list (ws.map wD) := by
  cases d with
  | list ds =>
    obtain ⟨ws, e⟩ := plan_is_all ds h
    exact ⟨ws, by rw [e]⟩
  | none => exact absurd h Bool.false_ne_true
  | bool b => exact absurd h Bool.false_ne_true
  | int b => exact absurd h Bool.false_ne_true
  | str b => exact absurd h Bool.false_ne_true
  | tuple b => exact absurd h Bool.false_ne_true
  | dict b => exact absurd h Bool.false_ne_true
theorem plan_words (ws : List Wd) : isPlanD (.list (ws.map wD)) = true := by
  show (ws.map wD).all wordD = true
  rw [List.all_map, List.all_eq_true]
  exact fun w _ => word_wD w
theorem wD_inj {a b : Wd} (h : wD a = wD b) : a = b := (wS_inj a b).mp (PyData.str.inj h)
theorem wDs_inj {a b : List Wd} (h : a.map wD = b.map wD) : a = b := by
  induction a generalizing b with
  | nil =>
    cases b with
    | nil => rfl
    | cons _ _ => cases h
  | cons x xs ih =>
    cases b with
    | nil => cases h
    | cons y ys =>
      rw [List.map_cons, List.map_cons] at h
      injection h with h1 h2
      rw [wD_inj h1, ih h2]
theorem shaped_word (w : Wd) : SeqAt.shaped (wD w) = true := by cases w <;> decide +kernel
theorem shaped_wordsT : SeqAt.shaped (.tuple [.str "double", .str "put", .str "take"]) = true := by decide +kernel
section
variable {K : PySem.W.Frag} {A : Ad} {vs : List V} {H H' : Hp} {Q : VK} {E : XK}
/-- a list of words -/
def WL (K : PySem.W.Frag) (ws : List Wd) (v : V) (H : Hp) : Prop := ∃ a, v = .ref a ∧ SqL K H a (ws.map wV)
theorem mono_wl {ws : List Wd} : Mono (WL K ws) := fun _ _ _ e ⟨a, h, s⟩ => ⟨a, h, ex_l e s⟩
theorem dpw {ws : List Wd} : DpAll K H (ws.map wV) (ws.map wD) := by
  induction ws with
  | nil => exact .nil
  | cons w r ih => exact .cons (.str (wS w)) ih
theorem wl_th {ws : List Wd} {v : V} (h : WL K ws v H) : Th K H v (.list (ws.map wD)) := by
  obtain ⟨a, rfl, hs⟩ := h
  exact .of (.lst hs dpw)
theorem dpw_inv {xs : List V} : ∀ {ws : List Wd}, DpAll K H xs (ws.map wD) → xs = ws.map wV := by
  induction xs with
  | nil =>
    intro ws h
    cases ws with
    | nil => rfl
    | cons w r => cases h
  | cons x xs ih =>
    intro ws h
    cases ws with
    | nil => cases h
    | cons w r =>
      cases h with
      | cons h1 h2 =>
        rw [ih h2]
        cases w <;> (cases h1; rfl)
theorem Th.wl {ws : List Wd} {v : V} (h : Th K H v (.list (ws.map wD))) : WL K ws v H := by
  cases h with
  | of h =>
    cases h with
    | lst hs ha =>
      rw [dpw_inv ha] at hs
      exact ⟨_, rfl, hs⟩
/-- every thing of a list can be held beside a word -/
def ShD (d : PyData) : Prop := ∀ ds, d = .list ds → ∀ x ∈ ds, SeqAt.shaped x = true
theorem shd_words (ws : List Wd) : ShD (.list (ws.map wD)) := fun ds e x hx => by
  cases e
  obtain ⟨w, _, rfl⟩ := List.mem_map.mp hx
  exact shaped_word w
/-! ### good_plan -/
def sp_good_plan (K : PySem.W.Frag) (A : Ad) : Sp := fun vs H Q E => ∃ v d, vs = [v] ∧ Th K H v d ∧ ShD d ∧ (isPlanD d = true → RetV v H Q) ∧ (isPlanD d = false → RaiseE E A.plan H)
def t_good_plan (K : PySem.W.Frag) (A : Ad) (E : XK) : TS :=
  (tSeq (tIfS (tNot (tB (tCB (rIsi K) (tCons (tVar 0) (tCons (tC (.ty "list")) tNil))))) (tRaiseC A.plan E) tNext)
    (tSeq (tFor (iList K (tVar 0)) (gName 1) (tIfS (tTest (tOp (rNotInT K) (tVar 1) (tC (.ref A.words)))) (tRaiseC A.plan E) tNext))
    (tRet (tVar 0))))

theorem not_plan {d : PyData} (h : (!(tyD d == "list")) = true) : isPlanD d = false := by
  cases d <;> first | rfl | (exfalso; simp [tyD] at h)
theorem r_good_plan (W : WordsIn K A) (h : sp_good_plan K A vs H Q E) : t_good_plan K A E (D0 Q) (start ["plan", "word"] vs) H := by
  obtain ⟨v, d, rfl, hd, hsh, k1, k2⟩ := h
  refine q_when (et_not (et_B (ev_isList (ev_var rfl) hd))) (fun hb H1 e1 => k2 (not_plan hb) H1 e1) (fun hb H1 e1 => ?_)
  obtain ⟨ds, rfl⟩ := is_list hb
  have hd1 := hd.mono e1
  cases hd1 with
  | of hd1 =>
    cases hd1 with
    | @lst a xs _ hs ha =>
      have hl := dps_len ha
      refine q_forP (x_vl (ev_var rfl) hs) (fun i σ' => ∃ u, σ' = [some (.ref a), u] ∧ (ds.take i).all wordD = true) ⟨none, rfl, rfl⟩ ?_ ?_
      · rintro H2 i x σ' H' e2 e3 hx ⟨u, rfl, hall⟩
        obtain ⟨d, hd, hp⟩ := dps_at ha hx
        have hp' := dp_mono (e2.trans e3) _ _ hp
        have hshd : SeqAt.shaped d = true := hsh ds rfl d (List.mem_of_getElem? hd)
        have t1 : EvT (tTest (tOp (rNotInT K) (tVar 1) (tC (.ref A.words)))) [some (.ref a), some x] H' (!wordD d) :=
          et_test (ev_op (ev_var rfl) ev_c fun H4 e4 Q q => ⟨d, [.str "double", .str "put", .str "take"], dp_mono e4 _ _ hp', .tup (words_sq W H4) (.cons (.str _) (.cons (.str _) (.cons (.str _) .nil))), hshd, shaped_wordsT, q H4 (Ex.refl H4)⟩)
        refine s_when t1 (fun hb H4 e4 => ?_) (fun hb H4 e4 => ?_)
        · have p' : wordD d = false := by simpa using hb
          exact k2 (all_not hd p') H4 (((e1.trans e2).trans e3).trans e4)
        · have p' : wordD d = true := by simpa using hb
          exact ⟨⟨_, rfl, take_all hd hall p'⟩, e3.trans e4⟩
      · rintro σ' H' e2 ⟨u, rfl, hall⟩
        rw [hl, List.take_length] at hall
        exact s_retV (ev_var rfl) ((k1 hall).mono (e1.trans e2))
section
variable {te : TE} {σ : L2.St} {ws : List Wd} {d : PyData}
theorem x_goodplan (h : EvX te σ H (WL K ws)) : EvX (tCall (sp_good_plan K A) [] E (tCons te tNil)) σ H (WL K ws) :=
  x_call1 h fun x H1 e1 hx Q q => ⟨x, _, rfl, wl_th hx, shd_words ws, (fun _ H' e => q x H' e (mono_wl _ _ _ e hx)), fun z => by rw [plan_words] at z; cases z⟩
theorem er_goodplan (h : EvX te σ H (ThP K d)) (hs : ShD d) (hl : isPlanD d = false) (k : RaiseE E A.plan H) : Er (tCall (sp_good_plan K A) [] E (tCons te tNil)) σ H :=
  er_call1 h fun x H1 e1 hx Q => ⟨x, d, rfl, hx, hs, (fun z => by rw [hl] at z; cases z), fun _ => k.mono e1⟩
theorem x_vlW (h : EvX te σ H (WL K ws)) : EvX te σ H (VL K (ws.map wV)) := h
theorem x_wlv {v : V} {i : Nat} (h : σ[i]? = some (some v)) (hd : WL K ws v H) : EvX (tVar i) σ H (WL K ws) := x_of (ev_var h) mono_wl hd
theorem x_wlL (h : EvL te σ H (ws.map wV)) : EvX te σ H (WL K ws) := fun H1 e Q q => h H1 e Q fun p H2 _ e2 hp => q _ H2 e2 ⟨p, rfl, sq_of hp⟩
theorem of_mapW {j : Nat} {v : V} (h : (ws.map wV)[j]? = some v) : ∃ w, ws[j]? = some w ∧ v = wV w := by
  rw [List.getElem?_map] at h
  cases e : ws[j]? with
  | none =>
    rw [e] at h
    cases h
  | some n =>
    rw [e] at h
    exact ⟨n, rfl, (Option.some.inj h).symm⟩
end
/-! ### walked -/
def PlanSp (R : List Wd → Hp → VK → Prop) (d : PyData) (A : Ad) (H : Hp) (Q : VK) (E : XK) : Prop := ShD d ∧ (∀ ws, d = .list (ws.map wD) → R ws H Q) ∧ (isPlanD d = false → RaiseE E A.plan H)
def sp_walked (K : PySem.W.Frag) (A : Ad) : Sp := fun vs H Q E => ∃ v d num, vs = [v, .int num] ∧ Th K H v d ∧ PlanSp (fun ws => RetV (.int (Few.walkOf num ws))) d A H Q E
def t_walked (K : PySem.W.Frag) (A : Ad) (E : XK) : TS :=
  (tSeq (tAsg (tC (.int 0)) (gName 2))
    (tSeq (tFor (iList K (tCall (sp_good_plan K A) [] E (tCons (tVar 0) tNil))) (gName 3) (tIfS (tTest (tOp rEq (tVar 3) (tC (.str "double")))) (tAsg (tOp rMulI (tC (.int 2)) (tVar 2)) (gName 2)) (tIfS (tTest (tOp rEq (tVar 3) (tC (.str "put")))) (tAug 2 (tVar 1) (ipI fun i j => i + j)) (tAug 2 (tVar 1) (ipI fun i j => i - j)))))
    (tRet (tVar 2))))

theorem take_snoc {α : Type} {l : List α} {i : Nat} {x : α} (h : l[i]? = some x) : l.take (i + 1) = l.take i ++ [x] := by
  rw [List.take_add_one, h]
  rfl
theorem r_walked (h : sp_walked K A vs H Q E) : t_walked K A E (D0 Q) (start ["plan", "number", "found", "word"] vs) H := by
  obtain ⟨v, d, num, rfl, hd, hsh, k1, k2⟩ := h
  refine q_asg ev_c fun H1 e1 => ?_
  cases hl : isPlanD d with
  | false => exact er_qfor (er_goodplan (x_th rfl (hd.mono e1)) hsh hl ((k2 hl).mono e1))
  | true =>
    obtain ⟨ws, rfl⟩ := plan_is hl
    have k : RetV (.int (Few.walkOf num ws)) H Q := k1 ws rfl
    refine q_forP (x_vlW (x_goodplan (x_wlv rfl (hd.mono e1).wl))) (fun i σ' => ∃ u, σ' = [some v, some (.int num), some (.int (Few.walkOf num (ws.take i))), u]) ⟨none, rfl⟩ ?_ ?_
    · rintro H2 i x σ' H' e2 e3 hx ⟨u, rfl⟩
      obtain ⟨w, hw, rfl⟩ := of_mapW hx
      have step : Few.walkOf num (ws.take (i + 1)) = Few.wstep num (Few.walkOf num (ws.take i)) w := by rw [take_snoc hw, Few.walk_snoc]
      refine s_if (et_is (et_test (ev_op (ev_var rfl) ev_c (rv_eq rfl))) (wV_dbl w)) (fun hb H4 e4 => ?_) (fun hb H4 e4 => ?_)
      · have z : w = .dbl := of_decide_eq_true hb
        subst z
        refine s_asg (ev_op ev_c (ev_var rfl) (rv_mul (cmul_l ⟨by decide, by decide⟩))) fun H5 e5 => ⟨⟨some (wV .dbl), ?_⟩, (e3.trans e4).trans e5⟩
        rw [step]
        rfl
      · have z : w ≠ .dbl := of_decide_eq_false hb
        refine s_if (et_is (et_test (ev_op (ev_var rfl) ev_c (rv_eq rfl))) (wV_put w)) (fun hb2 H5 e5 => ?_) (fun hb2 H5 e5 => ?_)
        · have z2 : w = .put := of_decide_eq_true hb2
          subst z2
          refine s_aug rfl (ev_var rfl) fun H6 e6 => ⟨⟨some (wV .put), ?_⟩, ((e3.trans e4).trans e5).trans e6⟩
          rw [step]
          rfl
        · have z2 : w ≠ .put := of_decide_eq_false hb2
          have z3 : w = .tak := by cases w <;> first | rfl | exact absurd rfl z | exact absurd rfl z2
          subst z3
          refine s_aug rfl (ev_var rfl) fun H6 e6 => ⟨⟨some (wV .tak), ?_⟩, ((e3.trans e4).trans e5).trans e6⟩
          rw [step]
          rfl
    · rintro σ' H' e2 ⟨u, rfl⟩
      rw [List.length_map, List.take_length]
      exact s_retV (ev_var rfl) (k.mono (e1.trans e2))
section
variable {te tx : TE} {σ : L2.St} {ws : List Wd} {d : PyData} {num : Int}
theorem PlanSp.good {R : List Wd → Hp → VK → Prop} (hr : R ws H Q) : PlanSp R (.list (ws.map wD)) A H Q E := ⟨shd_words ws, (fun ms e => by
    have e' : ws = ms := wDs_inj (PyData.list.inj e)
    rw [← e']
    exact hr), fun z => by rw [plan_words] at z; cases z⟩
theorem PlanSp.bad {R : List Wd → Hp → VK → Prop} (hs : ShD d) (hl : isPlanD d = false) (hr : RaiseE E A.plan H) : PlanSp R d A H Q E := ⟨hs, (fun ws e => by rw [e, plan_words] at hl; cases hl), fun _ => hr⟩
theorem ev_walked (h : EvX te σ H (WL K ws)) (h2 : Ev tx σ H (.int num)) : Ev (tCall (sp_walked K A) [] E (tCons te (tCons tx tNil))) σ H (.int (Few.walkOf num ws)) :=
  ev_call2 h mono_wl (x_v h2) fun x y H1 e1 hx hy Q q => ⟨x, _, num, by rw [show y = V.int num from hy], wl_th hx, .good fun H' e => q H' e⟩
theorem ev_walked1 (h : EvX te σ H (WL K ws)) : Ev (tCall (sp_walked K A) [.int 1] E (tCons te tNil)) σ H (.int (Few.walkOf 1 ws)) := fun H1 e Q q =>
  h H1 e _ fun v H2 e2 hp => ⟨v, _, 1, rfl, wl_th hp, .good fun H' e' => q H' (e2.trans e')⟩
end
/-! ### cost -/
def sp_cost (K : PySem.W.Frag) (A : Ad) : Sp := fun vs H Q E => ∃ v d, vs = [v] ∧ Th K H v d ∧ PlanSp (fun ws => RetV (.int (Few.costOf ws : Nat))) d A H Q E
def t_cost (K : PySem.W.Frag) (A : Ad) (E : XK) : TS :=
  (tSeq (tAsg (tC (.int 0)) (gName 1))
    (tSeq (tFor (iList K (tCall (sp_good_plan K A) [] E (tCons (tVar 0) tNil))) (gName 2) (tIfS (tTest (tOp rNe (tVar 2) (tC (.str "double")))) (tAug 1 (tC (.int 1)) (ipI fun i j => i + j)) tNext))
    (tRet (tVar 1))))

theorem r_cost (h : sp_cost K A vs H Q E) : t_cost K A E (D0 Q) (start ["plan", "many", "word"] vs) H := by
  obtain ⟨v, d, rfl, hd, hsh, k1, k2⟩ := h
  refine q_asg ev_c fun H1 e1 => ?_
  cases hl : isPlanD d with
  | false => exact er_qfor (er_goodplan (x_th rfl (hd.mono e1)) hsh hl ((k2 hl).mono e1))
  | true =>
    obtain ⟨ws, rfl⟩ := plan_is hl
    have k : RetV (.int (Few.costOf ws : Nat)) H Q := k1 ws rfl
    refine q_forP (x_vlW (x_goodplan (x_wlv rfl (hd.mono e1).wl))) (fun i σ' => ∃ u, σ' = [some v, some (.int (Few.costOf (ws.take i) : Nat)), u]) ⟨none, rfl⟩ ?_ ?_
    · rintro H2 i x σ' H' e2 e3 hx ⟨u, rfl⟩
      obtain ⟨w, hw, rfl⟩ := of_mapW hx
      have step : Few.costOf (ws.take (i + 1)) = Few.costOf (ws.take i) + if w = .dbl then 0 else 1 := by rw [take_snoc hw, Few.cost_snoc]
      refine s_when (b := !decide (w = .dbl)) (et_is (et_test (ev_op (ev_var rfl) ev_c (rv_ne rfl))) (by rw [wV_dbl])) (fun hb H4 e4 => ?_) (fun hb H4 e4 => ?_)
      · have z : w ≠ .dbl := by simpa using hb
        rw [if_neg z] at step
        refine s_aug rfl ev_c fun H5 e5 => ⟨⟨some (wV w), ?_⟩, (e3.trans e4).trans e5⟩
        rw [step]
        rfl
      · have z : w = .dbl := by simpa using hb
        rw [if_pos z] at step
        refine ⟨⟨some (wV w), ?_⟩, e3.trans e4⟩
        rw [step]
        rfl
    · rintro σ' H' e2 ⟨u, rfl⟩
      rw [List.length_map, List.take_length]
      exact s_retV (ev_var rfl) (k.mono (e1.trans e2))
theorem ev_cost {te : TE} {σ : L2.St} {ws : List Wd} (h : EvX te σ H (WL K ws)) : Ev (tCall (sp_cost K A) [] E (tCons te tNil)) σ H (.int (Few.costOf ws : Nat)) :=
  ev_call1 h fun x H1 e1 hx Q q => ⟨x, _, rfl, wl_th hx, .good fun H' e => q H' e⟩
/-! ### plan_of -/
def sp_plan_of (K : PySem.W.Frag) (A : Ad) : Sp := LoadSp (fun n H Q => (Few.laid n).length ≤ 20000 ∧ RetL ((Few.planOf n).map wV) H Q) K A
def t_plan_of (K : PySem.W.Frag) (A : Ad) (E : XK) : TS :=
  (tSeq (tAsg (tLst tNil) (gName 1))
    (tSeq (tFor (iRev K (tCons (tCall (sp_laid K A) [] E (tCons (tVar 0) tNil)) tNil)) (gName 2) (tSeq (tIfS (tTest (tOp (rNeD K) (tVar 1) (tLst tNil))) (tDrop (tBM K "list" rAppend (tVar 1) (tCons (tC (.str "double")) tNil))) tNext)
    (tSeq (tIfS (tTest (tOp rEq (tVar 2) (tC (.int 1)))) (tDrop (tBM K "list" rAppend (tVar 1) (tCons (tC (.str "put")) tNil))) tNext)
    (tIfS (tTest (tOp rEq (tVar 2) (tUn rNegI (tC (.int 1))))) (tDrop (tBM K "list" rAppend (tVar 1) (tCons (tC (.str "take")) tNil))) tNext))))
    (tRet (tVar 1))))

theorem shaped_words : ∀ ws : List Wd, SeqAt.shaped (.list (ws.map wD)) = true := by
  have a : ∀ ws : List Wd, PyData.canLayAll0 (ws.map wD) = true := by
    intro ws
    induction ws with
    | nil => rfl
    | cons x xs ih =>
      show (PyData.canLay0 (wD x) && PyData.canLayAll0 (xs.map wD)) = true
      rw [ih, SeqAt.canLay_of_shaped (shaped_word x)]
      rfl
  have b : ∀ ws : List Wd, PyData.depthAll (ws.map wD) = 0 := by
    intro ws
    induction ws with
    | nil => rfl
    | cons x xs ih =>
      show max (PyData.depth (wD x)) (PyData.depthAll (xs.map wD)) = 0
      rw [ih]
      cases x <;> rfl
  intro ws
  unfold SeqAt.shaped
  have a' : PyData.canLay0 (.list (ws.map wD)) = true := a ws
  have b' : PyData.depth (.list (ws.map wD)) = 1 := by
    show PyData.depthAll (ws.map wD) + 1 = 1
    rw [b]
  rw [a', b']
  rfl
theorem eqv_words : ∀ xs ys : List Wd, PyData.eqvAll (xs.map wD) (ys.map wD) = decide (xs = ys)
  | [], [] => rfl
  | [], _ :: _ => by simp [PyData.eqvAll]
  | _ :: _, [] => by simp [PyData.eqvAll]
  | x :: xs, y :: ys => by
    have ih := eqv_words xs ys
    show (PyData.eqv (wD x) (wD y) && PyData.eqvAll (xs.map wD) (ys.map wD)) = _
    have e : PyData.eqv (wD x) (wD y) = decide (x = y) := by
      show (wS x == wS y) = decide (x = y)
      by_cases h : x = y
      · subst h
        simp
      · rw [decide_eq_false h]
        exact beq_eq_false_iff_ne.mpr fun z => h ((wS_inj x y).mp z)
    rw [ih, e]
    by_cases h1 : x = y
    · subst h1
      by_cases h2 : xs = ys
      · subst h2
        simp
      · simp [h2]
    · simp [h1]
section
variable {te tb : TE} {σ : L2.St} {xs ys : List Wd}
theorem ev_eqW (ha : EvX te σ H (WL K xs)) (hb : EvX tb σ H (WL K ys)) : Ev (tOp (rEqD K) te tb) σ H (.bl (decide (xs = ys))) := ev_opX ha mono_wl hb fun x y H1 _ ⟨a, ea, sa⟩ ⟨b, eb, sb⟩ H2 e2 Q k => by
  subst ea eb
  refine ⟨_, _, .lst (ex_l e2 sa) dpw, .lst (ex_l e2 sb) dpw, shaped_words xs, shaped_words ys, ?_⟩
  have z : PyData.eqv (.list (xs.map wD)) (.list (ys.map wD)) = decide (xs = ys) := eqv_words xs ys
  rw [z]
  exact k H2 (Ex.refl H2)
theorem ev_neW (ha : EvX te σ H (WL K xs)) (hb : EvX tb σ H (WL K ys)) : Ev (tOp (rNeD K) te tb) σ H (.bl (!decide (xs = ys))) := ev_opX ha mono_wl hb fun x y H1 _ ⟨a, ea, sa⟩ ⟨b, eb, sb⟩ H2 e2 Q k => by
  subst ea eb
  refine ⟨_, _, .lst (ex_l e2 sa) dpw, .lst (ex_l e2 sb) dpw, shaped_words xs, shaped_words ys, ?_⟩
  have z : PyData.eqv (.list (xs.map wD)) (.list (ys.map wD)) = decide (xs = ys) := eqv_words xs ys
  rw [z]
  exact k H2 (Ex.refl H2)
theorem Led.wl {H0 : Hp} {ps : List (Addr × List V)} {p : Addr} {ws : List Wd} (L : Led H0 H ps) (i : Nat) (hi : ps[i]? = some (p, ws.map wV)) : WL K ws (.ref p) H := ⟨p, rfl, sq_of (L.at i hi)⟩
theorem mapW_snoc (ws : List Wd) (w : Wd) : ws.map wV ++ [wV w] = (ws ++ [w]).map wV := by rw [List.map_append]; rfl
theorem len_mapW (ws : List Wd) : (ws.map wV).length = ws.length := List.length_map ..
/-- a loop over reversed(xs), any word of the turn -/
theorem q_forRvL {D : Ends} {tl : TE} {tu tz : TS} {xs : List V} {j : Nat} (h : EvL tl σ H xs) (Pv : Addr → Nat → L2.St → Hp → Prop) (h0 : ∀ p H1, H p = none → Ex H H1 → H1 p = some (.lst xs) → Pv p 0 σ H1) (hl : ∀ p i σ' H', i ≤ xs.length → Pv p i σ' H' → SqL K H' p xs)
    (hs : ∀ p i x σ' H', i < xs.length → xs[xs.length - 1 - i]? = some x → Pv p i σ' H' → tu { D with nx := Pv p (i + 1), ct := Pv p (i + 1), bk := tz D } (σ'.set j (some x)) H') (hd : ∀ p σ' H', Pv p xs.length σ' H' → tz D σ' H') : tSeq (tFor (iRev K (tCons tl tNil)) (gName j) tu) tz D σ H :=
  h H (Ex.refl H) _ fun p H1 hp e1 hx => ⟨p, xs, rfl, sq_of hx, for_rv (D := { D with nx := tz D }) (Pv p) (h0 p H1 hp e1 hx) (hl p) (hs p) (hd p)⟩
end
theorem plan_drop {ns : List Int} {i : Nat} {n : Int} (hi : i < ns.length) (h : ns[ns.length - 1 - i]? = some n) : Few.planAux (ns.drop (ns.length - (i + 1))).reverse = Few.pstep (Few.planAux (ns.drop (ns.length - i)).reverse) n := by
  have e : ns.length - (i + 1) = ns.length - 1 - i := by omega
  have hlt : ns.length - 1 - i < ns.length := by omega
  rw [e, List.drop_eq_getElem_cons hlt]
  have e2 : ns[ns.length - 1 - i] = n := by
    rw [List.getElem?_eq_getElem hlt] at h
    exact Option.some.inj h
  rw [e2, List.reverse_cons, Few.plan_snoc, show ns.length - 1 - i + 1 = ns.length - i by omega]
theorem r_plan_of (h : sp_plan_of K A vs H Q E) : t_plan_of K A E (D0 Q) (start ["load", "plan", "one"] vs) H := by
  obtain ⟨v, d, rfl, hd, k1, k2⟩ := h
  refine q_asgL (xs := []) (el_lst ea_nil (by decide)) fun p H1 hp e1 hx => ?_
  cases hl : wholeD d with
  | false => exact er_qforRv (er_laid (x_th rfl (hd.mono e1)) hl ((k2 hl).mono e1))
  | true =>
    obtain ⟨n, rfl⟩ := whole_is hl
    obtain ⟨hz, k⟩ := k1 n rfl
    have hv := th_int_is hd
    subst hv
    have L1 := (Led.nil H).new hp e1 hx
    have hlay := Few.lay_laid n
    refine q_forRvL (xs := (Few.laid n).map V.int) (el_laid (ev_var rfl) (by omega))
      (fun a i σ' H' => ∃ u, σ' = [some (.int n), some (.ref p), u] ∧ Led H H' [(a, (Few.laid n).map V.int), (p, (Few.planAux ((Few.laid n).drop ((Few.laid n).length - i)).reverse).map wV)]) ?_ (fun a i σ' H' _ ⟨u, _, L⟩ => sq_of (L.at 0 rfl)) ?_ ?_
    · intro a H2 ha e2 hy
      refine ⟨none, rfl, ?_⟩
      rw [Nat.sub_zero, List.drop_length]
      exact L1.new ha e2 hy
    · rintro a i x σ' H' hi hx' ⟨u, rfl, L⟩
      rw [List.length_map] at hi hx'
      obtain ⟨m, hm, rfl⟩ := of_map hx'
      have pm := hlay m (List.mem_of_getElem? hm)
      have step := plan_drop hi hm
      have plen : (Few.planAux ((Few.laid n).drop ((Few.laid n).length - i)).reverse).length ≤ 40000 := by
        have := (Few.plan_aux 1 (Few.lay_drop hlay ((Few.laid n).length - i))).2.2
        rw [List.length_drop] at this
        omega
      rw [step]
      generalize Few.planAux ((Few.laid n).drop ((Few.laid n).length - i)).reverse = pl at L plen
      -- the doubling
      have dbl : ∀ (D : Ends) (tz : TS), (∀ H4 ws, Led H H4 [(a, (Few.laid n).map V.int), (p, ws.map wV)] → ws = (if pl = [] then pl else pl ++ [.dbl]) → tz D [some (.int n), some (.ref p), some (.int m)] H4) →
          tSeq (tIfS (tTest (tOp (rNeD K) (tVar 1) (tLst tNil))) (tDrop (tBM K "list" rAppend (tVar 1) (tCons (tC (.str "double")) tNil))) tNext) tz D [some (.int n), some (.ref p), some (.int m)] H' := by
        intro D tz hk
        refine q_when (et_test (ev_neW (ys := []) (x_wlv rfl (L.wl 1 rfl)) (x_wlL (el_lst ea_nil (by decide))))) (fun hb H4 e4 => ?_) (fun hb H4 e4 => ?_)
        · have z : pl ≠ [] := by simpa using hb
          refine s_app ((L.ex e4).at 1 rfl) (ev_var rfl) ev_c (by rw [len_mapW]; omega) fun H5 e5 => ?_
          have L5 := ((L.ex e4).ex e5).put 1 ((pl ++ [Wd.dbl]).map wV) rfl
          rw [show pl.map wV ++ [V.str "double"] = List.map wV (pl ++ [Wd.dbl]) from mapW_snoc pl Wd.dbl]
          exact hk _ _ L5 (by rw [if_neg z])
        · have z : pl = [] := by simpa using hb
          exact hk H4 pl (L.ex e4) (by rw [if_pos z])
      refine dbl _ _ fun H4 ws L4 hws => ?_
      have wlen : ws.length ≤ 40001 := by
        rw [hws]
        split
        · omega
        · rw [List.length_append]
          simp
          omega
      have fin : Few.pstep pl m = ws ++ Few.ptail m := by rw [hws]; rfl
      rw [fin]
      rcases pm with z | z | z
      · subst z
        refine q_when (et_is (et_test (ev_op (ev_var rfl) ev_c (rv_eq rfl))) eq_dec) (fun hb H5 e5 => ?_) (fun hb => by cases hb)
        refine s_app ((L4.ex e5).at 1 rfl) (ev_var rfl) ev_c (by rw [len_mapW]; omega) fun H6 e6 => ?_
        have L6 := ((L4.ex e5).ex e6).put 1 ((ws ++ [Wd.put]).map wV) rfl
        rw [show ws.map wV ++ [V.str "put"] = List.map wV (ws ++ [Wd.put]) from mapW_snoc ws Wd.put]
        refine s_when (et_is (et_test (ev_op (ev_var rfl) (ev_un ev_c ru_neg) (rv_eq rfl))) eq_dec) (fun hb => by cases hb) (fun _ H7 e7 => ⟨_, rfl, L6.ex e7⟩)
      · subst z
        refine q_when (et_is (et_test (ev_op (ev_var rfl) ev_c (rv_eq rfl))) eq_dec) (fun hb => by cases hb) (fun hb H5 e5 => ?_)
        refine s_when (et_is (et_test (ev_op (ev_var rfl) (ev_un ev_c ru_neg) (rv_eq rfl))) eq_dec) (fun hb => by cases hb) (fun _ H7 e7 => ⟨_, rfl, ?_⟩)
        rw [Few.ptail_0, List.append_nil]
        exact (L4.ex e5).ex e7
      · subst z
        refine q_when (et_is (et_test (ev_op (ev_var rfl) ev_c (rv_eq rfl))) eq_dec) (fun hb => by cases hb) (fun hb H5 e5 => ?_)
        refine s_when (et_is (et_test (ev_op (ev_var rfl) (ev_un ev_c ru_neg) (rv_eq rfl))) eq_dec) (fun _ H7 e7 => ?_) (fun hb => by cases hb)
        refine s_app (((L4.ex e5).ex e7).at 1 rfl) (ev_var rfl) ev_c (by rw [len_mapW]; omega) fun H8 e8 => ?_
        have L8 := (((L4.ex e5).ex e7).ex e8).put 1 ((ws ++ [Wd.tak]).map wV) rfl
        rw [show ws.map wV ++ [V.str "take"] = List.map wV (ws ++ [Wd.tak]) from mapW_snoc ws Wd.tak]
        exact ⟨_, rfl, L8⟩
    · rintro a σ' H' ⟨u, rfl, L⟩
      rw [List.length_map, Nat.sub_self, List.drop_zero] at L
      exact s_ret (ev_var rfl) fun H5 e5 => k p H5 hp (L.ext.trans e5) (e5 _ _ (L.at 1 rfl))
theorem el_plan_of {te : TE} {σ : L2.St} {n : Int} (h : Ev te σ H (.int n)) (hl : (Few.laid n).length ≤ 20000) : EvL (tCall (sp_plan_of K A) [] E (tCons te tNil)) σ H ((Few.planOf n).map wV) :=
  el_call1 (x_v h) fun x H1 e1 hx Q q => by
    rw [show x = V.int n from hx]
    exact LoadSp.good ⟨hl, fun p H' hp e hx => q p H' hp e hx⟩
end
end Fw

namespace Fw
open PySem PySem.Spec PyProof.Rows L2 Evl
section
variable {K : PySem.W.Frag} {A : Ad} {vs : List V} {H H' : Hp} {Q : VK} {E : XK}
/-! _law_spent -/
def sp_l_spent (K : PySem.W.Frag) (A : Ad) : Sp := fun vs H Q _ => ∃ v ws, vs = [v] ∧ WL K ws v H ∧ ws.length ≤ 40000 ∧ RetV (.int (Few.costOf ws : Nat)) H Q
def t_l_spent (K : PySem.W.Frag) (A : Ad) : TS :=
  (tRet (tCB (Evl.rLenS K) (tCons (tLc (iList K (tVar 0)) (gName 1) (tTest (tOp rNe (tVar 1) (tC (.str "double")))) (tVar 1) [1]) tNil)))
theorem spent_len (ws : List Wd) : (((ws.map wV).filter fun x => !decide (x = V.str "double")).map fun x => x).length = Few.costOf ws := by
  rw [List.length_map, List.filter_map, List.length_map]
  unfold Few.costOf
  congr 1
  apply List.filter_congr
  intro w _
  show (!decide (wV w = V.str "double")) = decide (w ≠ .dbl)
  rw [wV_dbl]
  simp
theorem r_l_spent (h : sp_l_spent K A vs H Q E) : t_l_spent K A (D0 Q) (start ["_law_plan", "_law_word"] vs) H := by
  obtain ⟨v, ws, rfl, hv, hz, k⟩ := h
  refine s_retV (v := .int (Few.costOf ws : Nat)) ?_ k
  refine ev_is (ev_lenV (x_vlL (el_lcV (xs := ws.map wV) (fun x => !decide (x = V.str "double")) (fun x => x) (x_vlW (x_wlv rfl hv)) (by rw [len_mapW]; exact hz) (fun _ => rfl) (fun x H1 _ hx => et_test (ev_op (ev_var rfl) ev_c (rv_ne ?_))) (fun x H1 _ _ _ => ev_var rfl)))) ?_
  · obtain ⟨w, _, rfl⟩ := List.mem_map.mp hx
    rfl
  · rw [spent_len]
theorem ev_spent {te : TE} {σ : L2.St} {ws : List Wd} (h : EvX te σ H (WL K ws)) (hz : ws.length ≤ 40000) : Ev (tCall (sp_l_spent K A) [] E (tCons te tNil)) σ H (.int (Few.costOf ws : Nat)) :=
  ev_call1 h fun x H1 e1 hx Q q => ⟨x, ws, rfl, hx, hz, fun H' e => q H' e⟩
/-! _law_words -/
def sp_l_words (K : PySem.W.Frag) (A : Ad) : Sp := fun vs H Q _ => ∃ v ws, vs = [v] ∧ WL K ws v H ∧ RetV (.bl true) H Q
def t_l_words (K : PySem.W.Frag) (A : Ad) : TS :=
  (tSeq (tIfS (tNot (tB (tCB (rIsi K) (tCons (tVar 0) (tCons (tC (.ty "list")) tNil))))) (tRet (tC (.bl false))) tNext)
    (tSeq (tFor (iList K (tVar 0)) (gName 1) (tIfS (tOr (tNot (tB (tCB (rIsi K) (tCons (tVar 1) (tCons (tC (.ty "str")) tNil))))) (tTest (tOp (rIn K true) (tVar 1) (tTup (tCons (tC (.str "double")) (tCons (tC (.str "put")) (tCons (tC (.str "take")) tNil))))))) (tRet (tC (.bl false))) tNext))
    (tRet (tC (.bl true)))))
theorem word_in (w : Wd) : inV (wV w) [.str "double", .str "put", .str "take"] = true := by cases w <;> decide +kernel
theorem r_l_words (h : sp_l_words K A vs H Q E) : t_l_words K A (D0 Q) (start ["_law_plan", "_law_word"] vs) H := by
  obtain ⟨v, ws, rfl, hv, k⟩ := h
  refine q_skip (et_not (et_B (ev_isList (ev_var rfl) (wl_th hv)))) (by simp [tyD]) fun H1 e1 => ?_
  refine q_forP (x_vlW (x_wlv rfl (mono_wl _ _ _ e1 hv))) (fun i σ' => ∃ u, σ' = [some v, u]) ⟨none, rfl⟩ ?_ ?_
  · rintro H2 i x σ' H' e2 e3 hx ⟨u, rfl⟩
    obtain ⟨w, hw, rfl⟩ := of_mapW hx
    refine s_when (b := false) (et_is (et_or (et_not (et_B (ev_isStr (d := .str (wS w)) (ev_var rfl) (th_str (wS w))))) fun _ => et_test (ev_niU (ev_var rfl) (eu_tup (ea_cons ev_c (ea_cons ev_c (ea_cons ev_c ea_nil))) (by decide)) rfl (by rfl))) ?_) (fun hb => by cases hb) (fun _ H4 e4 => ⟨⟨_, rfl⟩, e3.trans e4⟩)
    rw [word_in]
    simp [tyD]
  · rintro σ' H' e2 ⟨u, rfl⟩
    exact s_retV ev_c (k.mono (e1.trans e2))
theorem ev_words {te : TE} {σ : L2.St} {ws : List Wd} (h : EvX te σ H (WL K ws)) : Ev (tCall (sp_l_words K A) [] E (tCons te tNil)) σ H (.bl true) :=
  ev_call1 h fun x H1 e1 hx Q q => ⟨x, ws, rfl, hx, fun H' e => q H' e⟩
/-! _law_alike of two whole numbers -/
def sp_l_alikeI (K : PySem.W.Frag) (A : Ad) : Sp := fun vs H Q _ => ∃ a b : Int, vs = [.int a, .int b] ∧ RetV (.bl (decide (a = b))) H Q
def t_l_alikeI (K : PySem.W.Frag) (A : Ad) : TS :=
  (tRet (tAndV (tCall (sp_l_whole K A) [] E0 (tCons (tVar 0) tNil)) (tOp rEq (tVar 0) (tVar 1))))
theorem r_l_alikeI (h : sp_l_alikeI K A vs H Q E) : t_l_alikeI K A (D0 Q) (start ["_law_found", "_law_due"] vs) H := by
  obtain ⟨a, b, rfl, k⟩ := h
  exact s_retV (v := .bl (decide (a = b))) (ev_is (ev_andV (ev_l_whole (ev_var rfl)) fun _ => ev_op (ev_var rfl) (ev_var rfl) (rv_eq rfl)) (by rw [eq_dec]; simp)) k
theorem ev_alikeI {te tx : TE} {σ : L2.St} {a b : Int} (h : Ev te σ H (.int a)) (h2 : Ev tx σ H (.int b)) : Ev (tCall (sp_l_alikeI K A) [] E (tCons te (tCons tx tNil))) σ H (.bl (decide (a = b))) :=
  ev_call2 (x_v h) mono_is (x_v h2) fun x y H1 e1 hx hy Q q => ⟨a, b, by rw [show x = V.int a from hx, show y = V.int b from hy], fun H' e => q H' e⟩
/-! drawn words -/
def wdOf (c : Int) : Wd := if c % 3 = 0 then .dbl else if c % 3 = 1 then .put else .tak
section
variable {σ : L2.St} {te tb : TE}
/-- ["double", "put", "take"][c % 3] -/
theorem ev_word {c : Int} (h : Ev te σ H (.int c)) : Ev (tOp (rIxL K) (tLst (tCons (tC (.str "double")) (tCons (tC (.str "put")) (tCons (tC (.str "take")) tNil)))) (tOp rModI te (tC (.int 3)))) σ H (wV (wdOf c)) := by
  obtain ⟨j, hj, hl⟩ := mod_nat c 3 (by decide)
  refine ev_ixV (xs := [.str "double", .str "put", .str "take"]) (j := j) (x_vlL (el_lst (ea_cons ev_c (ea_cons ev_c (ea_cons ev_c ea_nil))) (by decide))) (ev_op h ev_c (rv_mod (by decide))) hj ?_
  have hj' : c % 3 = (j : Int) := hj
  have : j = 0 ∨ j = 1 ∨ j = 2 := by omega
  unfold wdOf
  rw [hj']
  rcases this with z | z | z <;> subst z <;> rfl
theorem el_toV {xs : List V} {n : Nat} {i : Int} (h : EvX te σ H (VL K xs)) (hb : Ev tb σ H (.int i)) (hi : i = (n : Int)) : EvL (tSl (rSlL K) te tNoPart (tPart tb)) σ H (xs.take n) := fun H1 e Q q =>
  h H1 e _ fun v H2 e2 hv => (eo_none (σ := σ) (H := H)) H2 (e.trans e2) _ fun H3 e3 => (eo_some hb) H3 ((e.trans e2).trans e3) _ fun H4 e4 => by
    obtain ⟨a, rfl, hs⟩ := hv
    refine ⟨a, _, rfl, ex_l (e3.trans e4) hs, fun p hp => q p _ (fresh_back ((e2.trans e3).trans e4) hp) (((e2.trans e3).trans e4).trans (Ex.new hp)) ?_⟩
    rw [upd_same, hi, cut_to]
theorem x_revL {ns : List Int} (h : EvX te σ H (IL K ns)) : EvL (tRevL K te) σ H (ns.reverse.map V.int) := fun H1 e Q q => h H1 e _ fun v H2 e2 ⟨a, ev, hs⟩ => ⟨a, _, ev, hs, fun p hp => q p _ (fresh_back e2 hp) (e2.trans (Ex.new hp)) (by rw [upd_same, List.map_reverse])⟩
end
theorem rep_map {α β : Type} (f : α → β) (l : List α) (n : Nat) : (List.replicate n (l.map f)).flatten = ((List.replicate n l).flatten).map f := by
  induction n with
  | zero => rfl
  | succ n ih => rw [List.replicate_succ, List.replicate_succ, List.flatten_cons, List.flatten_cons, ih, List.map_append]
theorem rep_len {α : Type} (l : List α) (n : Nat) : ((List.replicate n l).flatten).length = n * l.length := by
  induction n with
  | zero => simp
  | succ n ih => rw [List.replicate_succ, List.flatten_cons, List.length_append, ih, Nat.succ_mul, Nat.add_comm]
theorem mem_rep {α : Type} {l : List α} {n : Nat} {x : α} (h : x ∈ (List.replicate n l).flatten) : x ∈ l := by
  obtain ⟨m, hm, hx⟩ := List.mem_flatten.mp h
  rw [(List.mem_replicate.mp hm).2] at hx
  exact hx
/-! _law_sum, by a list turned about -/
def sp_l_sum (K : PySem.W.Frag) (A : Ad) : Sp := fun vs H Q _ => ∃ v ns, vs = [v] ∧ IL K ns v H ∧ RetV (.int (Few.loadOf ns)) H Q
def t_l_sum (K : PySem.W.Frag) (A : Ad) : TS :=
  (tSeq (tAsg (tC (.int 0)) (gName 1))
    (tSeq (tFor (iList K (tRevL K (tVar 0))) (gName 2) (tAsg (tOp rAddI (tOp rAddI (tVar 1) (tVar 1)) (tVar 2)) (gName 1)))
    (tRet (tVar 1))))
theorem r_l_sum (h : sp_l_sum K A vs H Q E) : t_l_sum K A (D0 Q) (start ["_law_things", "_law_found", "_law_thing"] vs) H := by
  obtain ⟨v, ns, rfl, hv, k⟩ := h
  refine q_asg ev_c fun H1 e1 => ?_
  refine q_forP (x_vlI (x_ilL (x_revL (x_ilv rfl (mono_il _ _ _ e1 hv))))) (fun i σ' => ∃ u, σ' = [some v, some (.int (Few.loadOf (ns.reverse.take i).reverse)), u]) ⟨none, rfl⟩ ?_ ?_
  · rintro H2 i x σ' H' e2 e3 hx ⟨u, rfl⟩
    obtain ⟨n, hn, rfl⟩ := of_map hx
    have st : Few.loadOf (ns.reverse.take (i + 1)).reverse = Few.loadOf (ns.reverse.take i).reverse + Few.loadOf (ns.reverse.take i).reverse + n := by
      rw [take_snoc hn, List.reverse_append]
      show 2 * Few.loadOf (ns.reverse.take i).reverse + n = _
      omega
    refine s_asg (ev_op (ev_op (ev_var rfl) (ev_var rfl) rv_I0) (ev_var rfl) rv_I0) fun H4 e4 => ⟨⟨some (.int n), ?_⟩, e3.trans e4⟩
    rw [st]
    rfl
  · rintro σ' H' e2 ⟨u, rfl⟩
    rw [List.length_map, List.take_length, List.reverse_reverse]
    exact s_retV (ev_var rfl) (k.mono (e1.trans e2))
theorem ev_sum {te : TE} {σ : L2.St} {ns : List Int} (h : EvX te σ H (IL K ns)) : Ev (tCall (sp_l_sum K A) [] E (tCons te tNil)) σ H (.int (Few.loadOf ns)) :=
  ev_call1 h fun x H1 e1 hx Q q => ⟨x, ns, rfl, hx, fun H' e => q H' e⟩
/-! _law_neat by one loop over the places -/
def sp_l_neatK (K : PySem.W.Frag) (A : Ad) : Sp := fun vs H Q _ => ∃ v ns, vs = [v] ∧ IL K ns v H ∧ Few.Lay ns ∧ ns.length ≤ 100000 ∧ RetV (.bl (Few.neatB ns)) H Q
def t_l_neatK (K : PySem.W.Frag) (A : Ad) : TS :=
  (tSeq (tIfS (tNot (tB (tCB (rIsi K) (tCons (tVar 0) (tCons (tC (.ty "list")) tNil))))) (tRet (tC (.bl false))) tNext)
    (tSeq (tFor (iRng1 (tCons (tCB (Evl.rLenS K) (tCons (tVar 0) tNil)) tNil)) (gName 1) (tSeq (tIfS (tOr (tNot (tB (tCall (sp_l_whole K A) [] E0 (tCons (tOp (rIxL K) (tVar 0) (tVar 1)) tNil)))) (tTest (tOp (rIn K true) (tOp (rIxL K) (tVar 0) (tVar 1)) (tTup (tCons (tC (.int 1)) (tCons (tC (.int 0)) (tCons (tUn rNegI (tC (.int 1))) tNil))))))) (tRet (tC (.bl false))) tNext)
    (tIfS (tAnd (tTest (tOp rGtI (tVar 1) (tC (.int 0)))) (tAnd (tTest (tOp rNe (tOp (rIxL K) (tVar 0) (tOp rSubI (tVar 1) (tC (.int 1)))) (tC (.int 0)))) (tTest (tOp rNe (tOp (rIxL K) (tVar 0) (tVar 1)) (tC (.int 0)))))) (tRet (tC (.bl false))) tNext)))
    (tRet (tOrV (tOp rEq (tCB (Evl.rLenS K) (tCons (tVar 0) tNil)) (tC (.int 0))) (tOp rNe (tOp (rIxL K) (tVar 0) (tUn rNegI (tC (.int 1)))) (tC (.int 0)))))))
theorem pm_in {n : Int} (h : Few.Pm n) : inV (.int n) [.int 1, .int 0, .int (-1)] = true := by
  rcases h with z | z | z <;> subst z <;> decide +kernel
theorem r_l_neatK (h : sp_l_neatK K A vs H Q E) : t_l_neatK K A (D0 Q) (start ["_law_things", "_law_k"] vs) H := by
  obtain ⟨v, ns, rfl, hv, hl, hz, k⟩ := h
  refine q_skip (et_not (et_B (ev_isList (ev_var rfl) (il_th hv)))) (by simp [tyD]) fun H1 e1 => ?_
  have hv1 := mono_il _ _ _ e1 hv
  refine q_forRgP (n := (ns.length : Int)) (ea_cons (ev_lenX (x_ilv rfl hv1)) ea_nil) ⟨by omega, by omega⟩ (fun i σ' => ∃ u, σ' = [some v, u] ∧ Few.apartB (ns.take i) = true) ⟨none, rfl, rfl⟩ ?_ ?_
  · rintro H2 i σ' H' e2 e3 hi ⟨u, rfl, ha⟩
    have hi1 : i < ns.length := by omega
    have g1 : ns[i]? = some ns[i] := List.getElem?_eq_getElem hi1
    have hv2 := mono_il _ _ _ (e2.trans e3) hv1
    have pm := hl ns[i] (List.getElem_mem hi1)
    have at_ : ∀ H4, Ex H' H4 → Ev (tOp (rIxL K) (tVar 0) (tVar 1)) [some v, some (.int (i : Int))] H4 (.int ns[i]) := fun H4 e4 => ev_ix (j := i) (x_ilv rfl (mono_il _ _ _ e4 hv2)) (ev_var rfl) rfl g1
    have at0 := at_ H' (Ex.refl H')
    refine q_skip (et_is (et_or (et_not (et_B (ev_l_whole at0))) fun _ => et_test (ev_niU at0 (eu_tup (ea_cons ev_c (ea_cons ev_c (ea_cons (ev_un ev_c ru_neg) ea_nil))) (by decide)) rfl (by rfl))) (by rw [pm_in pm]; rfl)) rfl fun H4 e4 => ?_
    have st := Few.apart_step g1 ha rfl
    have hv4 := mono_il _ _ _ e4 hv2
    have at4 := at_ H4 e4
    have test : EvT (tAnd (tTest (tOp rGtI (tVar 1) (tC (.int 0)))) (tAnd (tTest (tOp rNe (tOp (rIxL K) (tVar 0) (tOp rSubI (tVar 1) (tC (.int 1)))) (tC (.int 0)))) (tTest (tOp rNe (tOp (rIxL K) (tVar 0) (tVar 1)) (tC (.int 0)))))) [some v, some (.int (i : Int))] H4 (!decide (Few.beforeOf 0 (ns.take i) = 0) && !decide (ns[i] = 0)) := by
      have t0 : EvT (tTest (tOp rGtI (tVar 1) (tC (.int 0)))) [some v, some (.int (i : Int))] H4 (decide (0 < (i : Int))) := et_test (ev_op (ev_var rfl) ev_c rv_I0)
      cases i with
      | zero => exact et_is (et_and (b := false) t0 fun z => by cases z) rfl
      | succ j =>
        have g0 : ns[j]? = some ns[j] := List.getElem?_eq_getElem (by omega)
        rw [before_at (by omega)]
        refine et_is (et_and t0 fun _ => et_and (et_is (et_test (ev_op (ev_ix (j := j) (x_ilv rfl hv4) (ev_op (ev_var rfl) ev_c rv_I0) (by omega) g0) ev_c (rv_ne rfl))) ne_zero) fun _ => et_is (et_test (ev_op at4 ev_c (rv_ne rfl))) ne_zero) ?_
        rw [decide_eq_true (show (0 : Int) < ((j + 1 : Nat) : Int) by omega)]
        rfl
    refine s_when test (fun hb H5 e5 => ?_) (fun hb H5 e5 => ⟨⟨_, rfl, st.1 hb⟩, (e3.trans e4).trans e5⟩)
    have z : Few.neatB ns = false := by
      rw [Few.neat_iff, st.2 hb]
      rfl
    rw [z] at k
    exact s_retV ev_c (k.mono ((((e1.trans e2).trans e3).trans e4).trans e5))
  · rintro σ' H' e2 ⟨u, rfl, ha⟩
    have ha' : Few.apartB ns = true := by
      rw [Int.toNat_natCast, List.take_length] at ha
      exact ha
    rw [Few.neat_by_last ns rfl ha'] at k
    have hv2 := mono_il _ _ _ e2 hv1
    refine s_retV (v := .bl (decide (ns = []) || !decide (Few.beforeOf 0 ns = 0))) ?_ (k.mono (e1.trans e2))
    have first : Ev (tOp rEq (tCB (Evl.rLenS K) (tCons (tVar 0) tNil)) (tC (.int 0))) [some v, u] H' (.bl (decide (ns = []))) := by
      refine ev_is (ev_op (ev_lenX (x_ilv rfl hv2)) ev_c (rv_eq rfl)) ?_
      rw [eq_dec]
      cases ns with
      | nil => rfl
      | cons n r =>
        rw [decide_eq_false (show ¬ (((n :: r).length : Nat) : Int) = 0 by rw [List.length_cons]; omega)]
        simp
    rcases Few.last_cases ns with z | ⟨r, x, z⟩
    · subst z
      exact ev_orV (a := true) first fun z => by cases z
    · subst z
      obtain ⟨a, rfl, hs'⟩ := hv2
      rw [Few.before_snoc]
      exact ev_orV first fun _ => ev_is (ev_op (ev_op (ev_var rfl) (ev_un ev_c ru_neg) (rv_ixL hs' at_last)) ev_c (rv_ne rfl)) (by rw [ne_zero])
theorem ev_neatK {te : TE} {σ : L2.St} {ns : List Int} (h : EvX te σ H (IL K ns)) (hl : Few.Lay ns) (hz : ns.length ≤ 100000) : Ev (tCall (sp_l_neatK K A) [] E (tCons te tNil)) σ H (.bl (Few.neatB ns)) :=
  ev_call1 h fun x H1 e1 hx Q q => ⟨x, ns, rfl, hx, hl, hz, fun H' e => q H' e⟩
end
end Fw

namespace Fw
open PySem PySem.Spec PyProof.Rows L2 Evl
/-! layings shown as texts -/
def sgS (n : Int) : Str := if n = 1 then "+" else if n = -1 then "-" else "0"
def shownOf (ns : List Int) : Str := if Few.ended ns = [] then "0" else Txt.join "" ((Few.ended ns).reverse.map sgS)
section
variable {K : PySem.W.Frag} {A : Ad} {vs : List V} {H H' : Hp} {Q : VK} {E : XK}
def sp_sign_of (K : PySem.W.Frag) (A : Ad) : Sp := fun vs H Q _ => ∃ n : Int, vs = [.int n] ∧ RetV (.str (sgS n)) H Q
def t_sign_of (K : PySem.W.Frag) (A : Ad) : TS :=
  (tSeq (tIfS (tTest (tOp rEq (tVar 0) (tC (.int 1)))) (tRet (tC (.str "+"))) tNext)
    (tSeq (tIfS (tTest (tOp rEq (tVar 0) (tUn rNegI (tC (.int 1))))) (tRet (tC (.str "-"))) tNext)
    (tRet (tC (.str "0")))))
theorem r_sign_of (h : sp_sign_of K A vs H Q E) : t_sign_of K A (D0 Q) (start ["one"] vs) H := by
  obtain ⟨n, rfl, k⟩ := h
  unfold sgS at k
  refine q_when (et_is (et_test (ev_op (ev_var rfl) ev_c (rv_eq rfl))) eq_dec) (fun hb H1 e1 => ?_) (fun hb H1 e1 => ?_)
  · rw [if_pos (of_decide_eq_true hb)] at k
    exact s_retV ev_c (k.mono e1)
  · rw [if_neg (of_decide_eq_false hb)] at k
    refine q_when (et_is (et_test (ev_op (ev_var rfl) (ev_un ev_c ru_neg) (rv_eq rfl))) eq_dec) (fun hb H2 e2 => ?_) (fun hb H2 e2 => ?_)
    · rw [if_pos (of_decide_eq_true hb)] at k
      exact s_retV ev_c (k.mono (e1.trans e2))
    · rw [if_neg (of_decide_eq_false hb)] at k
      exact s_retV ev_c (k.mono (e1.trans e2))
theorem ev_sign {te : TE} {σ : L2.St} {n : Int} (h : Ev te σ H (.int n)) : Ev (tCall (sp_sign_of K A) [] E (tCons te tNil)) σ H (.str (sgS n)) :=
  ev_call1 (x_v h) fun x H1 e1 hx Q q => ⟨n, by rw [show x = V.int n from hx], fun H' e => q H' e⟩
/-- [e for x in reversed(xs)] -/
theorem el_lcRv {ta : TA} {tl te : TE} {σ : L2.St} {ns : List Int} {j : Nat} {vs : List Nat} (g : Int → V) (h : EvX tl σ H (IL K ns)) (hz : ns.length ≤ 40000) (hw : ∀ x, wipe ((wipe σ vs).set j (some x)) vs = wipe σ vs)
    (he : ∀ (n : Int) H1, Ex H H1 → n ∈ ns → Ev te ((wipe σ vs).set j (some (.int n))) H1 (g n)) : EvL (tLc (iRev K (tCons tl tNil)) (gName j) tYes te vs) σ H (ns.reverse.map g) := fun H0 e Q q =>
  h H0 e _ fun v H1 e1 ⟨a, ev, hs⟩ => ⟨a, ns.map V.int, by rw [ev], hs, fun Dl hD =>
    ⟨fun i m H' => m = ns.length - i ∧ i ≤ ns.length ∧ CwV H1 ((ns.reverse.take i).map g) Dl H', ⟨ns.length, rfl, Nat.zero_le _, hD, Ex.new hD, upd_same⟩, by
      rintro i m H' ⟨rfl, hi, p⟩
      rw [len_mapI]
      by_cases hlt : i < ns.length
      · have hx : ns[ns.length - 1 - i]? = some (ns[ns.length - 1 - i]'(by omega)) := List.getElem?_eq_getElem (by omega)
        have hs' := ex_l p.2.1 hs
        have hr : ns.reverse[i]? = some (ns[ns.length - 1 - i]'(by omega)) := by rw [List.getElem?_reverse hlt, hx]
        refine .inr ⟨⟨hlt, _, _, hs', map_at hx⟩, fun H2 => CwV H1 ((ns.reverse.take (i + 1)).map g) Dl H2, fun H2 p' => ⟨ns.length - (i + 1), by omega, rfl, hlt, p'⟩, fun x H2 y => ?_⟩
        obtain ⟨e2, y⟩ := y
        subst e2
        have z := y _ hs'
        rw [map_at hx] at z
        cases z
        refine ⟨hw _, ?_⟩
        refine cwv_turn (b := true) (y := g (ns[ns.length - 1 - i]'(by omega))) p (by rw [List.length_map, List.length_take]; omega) et_yes (fun _ => he _ H1 (e.trans e1) (List.getElem_mem _)) _ fun H3 p3 => ?_
        rw [take_snoc hr, List.map_append]
        exact p3
      · have z : i = ns.length := by omega
        subst z
        have p3 := p.2.2
        rw [← List.length_reverse, List.take_length] at p3
        exact .inl ⟨Nat.le_refl _, q Dl H' (fresh_back e1 p.1) (e1.trans p.2.1) p3⟩⟩⟩
/-! lists of texts -/
theorem dpS {ss : List Str} : DpAll K H (ss.map V.str) (ss.map PyData.str) := by
  induction ss with
  | nil => exact .nil
  | cons w r ih => exact .cons (.str w) ih
theorem shaped_strs {ss : List Str} (h : ∀ x ∈ ss, SeqAt.shaped (.str x) = true) : SeqAt.shaped (.list (ss.map PyData.str)) = true := by
  have a : ∀ ss : List Str, (∀ x ∈ ss, SeqAt.shaped (.str x) = true) → PyData.canLayAll0 (ss.map PyData.str) = true ∧ PyData.depthAll (ss.map PyData.str) = 0 := by
    intro ss
    induction ss with
    | nil => exact fun _ => ⟨rfl, rfl⟩
    | cons x xs ih =>
      intro h
      obtain ⟨i1, i2⟩ := ih fun y hy => h y (List.mem_cons_of_mem _ hy)
      refine ⟨?_, ?_⟩
      · show (PyData.canLay0 (.str x) && PyData.canLayAll0 (xs.map PyData.str)) = true
        rw [i1, SeqAt.canLay_of_shaped (h x List.mem_cons_self)]
        rfl
      · show max (PyData.depth (.str x)) (PyData.depthAll (xs.map PyData.str)) = 0
        rw [i2]
        simp [PyData.depth]
  obtain ⟨a1, a2⟩ := a ss h
  unfold SeqAt.shaped
  have a' : PyData.canLay0 (.list (ss.map PyData.str)) = true := a1
  have b' : PyData.depth (.list (ss.map PyData.str)) = 1 := by
    show PyData.depthAll (ss.map PyData.str) + 1 = 1
    rw [a2]
  rw [a', b']
  rfl
theorem shaped_sg (n : Int) : SeqAt.shaped (.str (sgS n)) = true := by
  unfold sgS
  split
  · decide +kernel
  · split <;> decide +kernel
/-- xs == [] of texts -/
theorem ev_nilS {te : TE} {σ : L2.St} {ss : List Str} (h : EvX te σ H (VL K (ss.map V.str))) (hs : ∀ x ∈ ss, SeqAt.shaped (.str x) = true) : Ev (tOp (rEqD K) te (tLst tNil)) σ H (.bl (decide (ss = []))) := ev_opX (P' := VL K []) h mono_vl (x_vlL (el_lst ea_nil (by decide))) fun x y H1 _ ⟨a, ea, p⟩ ⟨b, eb, q⟩ H2 e2 Q k => by
  subst ea eb
  refine ⟨_, _, .lst (ex_l e2 p) dpS, .lst (ex_l e2 q) .nil, shaped_strs hs, rfl, ?_⟩
  have z : PyData.eqv (.list (ss.map PyData.str)) (.list []) = decide (ss = []) := by
    cases ss with
    | nil => rfl
    | cons s r => simp [PyData.eqv, PyData.eqvAll]
  rw [z]
  exact k H2 (Ex.refl H2)
/-- sep.join(xs) -/
def rJoin (K : PySem.W.Frag) : V → List V → Hp → VK → Prop := fun x xs H Q => ∃ (a : Str) (p : Addr) (ys : List Str), x = .str a ∧ xs = [.ref p] ∧ (SqL K H p (ys.map V.str) ∨ SqT K H p (ys.map V.str)) ∧ (ys.map (·.length)).sum + ys.length * a.length ≤ 16777216 ∧ Q (.str (Txt.join a ys)) H
theorem ev_join {to te : TE} {σ : L2.St} {ss : List Str} {a : Str} (ho : Ev to σ H (.str a)) (h : EvX te σ H (VL K (ss.map V.str))) (hz : (ss.map (·.length)).sum + ss.length * a.length ≤ 16777216) : Ev (tM1 (rJoin K) to te) σ H (.str (Txt.join a ss)) := fun H1 e Q q =>
  ho H1 e _ fun H2 e2 => ⟨⟨a, rfl⟩, h H2 (e.trans e2) _ fun v H3 e3 ⟨p, ev, hs⟩ => ⟨a, p, ss, rfl, by rw [ev], .inl hs, hz, q H3 (e2.trans e3)⟩⟩
theorem sg_len (n : Int) : (sgS n).length = 1 := by
  unfold sgS
  split
  · rfl
  · split <;> rfl
theorem sg_sum (ns : List Int) : ((ns.map sgS).map (·.length)).sum = ns.length := by
  induction ns with
  | nil => rfl
  | cons n r ih =>
    rw [List.map_cons, List.map_cons, List.sum_cons, ih, sg_len, List.length_cons]
    omega
def sp_shown (K : PySem.W.Frag) (A : Ad) : Sp := LaySp (fun ns H Q => ns.length ≤ 40000 ∧ RetV (.str (shownOf ns)) H Q) K A
def t_shown (K : PySem.W.Frag) (A : Ad) (E : XK) : TS :=
  (tSeq (tAsg (tLc (iRev K (tCons (tCall (sp_ended K A) [] E (tCons (tVar 0) tNil)) tNil)) (gName 2) tYes (tCall (sp_sign_of K A) [] E0 (tCons (tVar 2) tNil)) [2]) (gName 1))
    (tSeq (tIfS (tTest (tOp (rEqD K) (tVar 1) (tLst tNil))) (tRet (tC (.str "0"))) tNext)
    (tRet (tM1 (rJoin K) (tC (.str "")) (tVar 1)))))
theorem er_lcRv2 {te tl tx : TE} {σ : L2.St} {g : TG} {t : TT} {vs : List Nat} (h : Er tl σ H) : Er (tLc (iRev K (tCons tl tNil)) g t tx vs) σ H := fun H1 e Q => h H1 e _
theorem er_ended {te : TE} {σ : L2.St} {d : PyData} (h : EvX te σ H (fun v H => Th K H v d)) (hl : isLayD d = false) (k : RaiseE E A.laying H) : Er (tCall (sp_ended K A) [] E (tCons te tNil)) σ H :=
  er_call1 h fun x H1 e1 hx Q => LaySp.bad hx hl (k.mono e1)
theorem r_shown (h : sp_shown K A vs H Q E) : t_shown K A E (D0 Q) (start ["laying", "signs", "one"] vs) H := by
  obtain ⟨v, d, rfl, hd, k1, k2⟩ := h
  cases hl : isLayD d with
  | false => exact er_q (er_lcRv2 (te := tC .non) (er_ended (x_th rfl hd) hl (k2 hl)))
  | true =>
    obtain ⟨ns, rfl, l⟩ := lay_is hl
    obtain ⟨hz, k⟩ := k1 ns rfl l
    have ez := Few.ended_len ns
    have em : (Few.ended ns).reverse.map (fun n => V.str (sgS n)) = ((Few.ended ns).reverse.map sgS).map V.str := by rw [List.map_map]; rfl
    have sh : ∀ x ∈ (Few.ended ns).reverse.map sgS, SeqAt.shaped (.str x) = true := fun x hx => by
      obtain ⟨n, _, rfl⟩ := List.mem_map.mp hx
      exact shaped_sg n
    refine q_asgL (xs := ((Few.ended ns).reverse.map sgS).map V.str) (by
      rw [← em]
      exact el_lcRv (ta := tNil) (ns := Few.ended ns) (fun n => V.str (sgS n)) (x_ilL (el_ended (x_ilv rfl hd.il) l)) (by omega) (fun _ => rfl) (fun n H1 _ _ => ev_sign (ev_var rfl))) fun p H1 hp e1 hx => ?_
    have vl : ∀ H2, Ex H1 H2 → EvX (tVar 1) [some v, some (.ref p), none] H2 (VL K (((Few.ended ns).reverse.map sgS).map V.str)) := fun H2 e2 => x_vl (ev_var rfl) (sq_of (e2 _ _ hx))
    unfold shownOf at k
    have nil_iff : ((Few.ended ns).reverse.map sgS = []) ↔ Few.ended ns = [] := by simp
    refine q_when (et_test (ev_nilS (vl H1 (Ex.refl H1)) sh)) (fun hb H2 e2 => ?_) (fun hb H2 e2 => ?_)
    · rw [if_pos (nil_iff.mp (of_decide_eq_true hb))] at k
      exact s_retV ev_c (k.mono (e1.trans e2))
    · rw [if_neg (fun z => of_decide_eq_false hb (nil_iff.mpr z))] at k
      refine s_retV (ev_join ev_c (vl H2 e2) ?_) (k.mono (e1.trans e2))
      rw [sg_sum, List.length_reverse]
      show (Few.ended ns).length + _ * 0 ≤ 16777216
      omega
theorem ev_shown {te : TE} {σ : L2.St} {ns : List Int} (h : EvX te σ H (IL K ns)) (hl : Few.Lay ns) (hz : ns.length ≤ 40000) : Ev (tCall (sp_shown K A) [] E (tCons te tNil)) σ H (.str (shownOf ns)) :=
  ev_call1 h fun x H1 e1 hx Q q => LaySp.good hx hl ⟨hz, fun H' e => q H' e⟩
end
end Fw

namespace Fw
open PySem PySem.Spec PyProof.Rows L2 Evl
/-! a thing put into a list, things drawn from a list of things -/
section
variable {K : PySem.W.Frag} {A : Ad} {σ : L2.St} {H H' : Hp} {ta : TA} {tb te tx tl : TE} {D : Ends} {tz : TS} {Q : VK} {E : XK}
theorem el_fromV {xs : List V} {n : Nat} {i : Int} (h : EvX te σ H (VL K xs)) (hb : Ev tb σ H (.int i)) (hi : i = (n : Int)) : EvL (tSl (rSlL K) te (tPart tb) tNoPart) σ H (xs.drop n) := fun H1 e Q q =>
  h H1 e _ fun v H2 e2 hv => (eo_some hb) H2 (e.trans e2) _ fun H3 e3 => (eo_none (σ := σ) (H := H)) H3 ((e.trans e2).trans e3) _ fun H4 e4 => by
    obtain ⟨a, rfl, hs⟩ := hv
    refine ⟨a, _, rfl, ex_l (e3.trans e4) hs, fun p hp => q p _ (fresh_back ((e2.trans e3).trans e4) hp) (((e2.trans e3).trans e4).trans (Ex.new hp)) ?_⟩
    rw [upd_same, hi, cut_from]
/-- xs[:n] + [e] + xs[n:] -/
theorem x_putin {xs : List V} {n : Nat} {i : Int} {P : V → Hp → Prop} (h : EvX te σ H (VL K xs)) (hb : Ev tb σ H (.int i)) (hi : i = (n : Int)) (hx : EvX tx σ H P) (m : Mono P) (hz : xs.length ≤ 30000) :
    EvX (tOp rCat (tOp rCat (tSl (rSlL K) te tNoPart (tPart tb)) (tLst (tCons tx tNil))) (tSl (rSlL K) te (tPart tb) tNoPart)) σ H (fun v H' => ∃ p x, v = .ref p ∧ H p = none ∧ H' p = some (.lst (xs.take n ++ [x] ++ xs.drop n)) ∧ P x H') := fun H1 e Q q =>
  (el_toV h hb hi) H1 e _ fun p1 H2 hp1 e2 hx1 => hx H2 (e.trans e2) _ fun x H3 e3 px => ⟨by show 1 ≤ sizeLine; decide, fun p2 hp2 => by
    have e4 : Ex H3 (upd H3 p2 (.lst [x])) := Ex.new hp2
    have z1 : (xs.take n).length ≤ 30000 := by
      rw [List.length_take]
      omega
    have z2 : (xs.drop n).length ≤ 30000 := by
      rw [List.length_drop]
      omega
    refine ⟨p1, p2, xs.take n, [x], rfl, rfl, e4 _ _ (e3 _ _ hx1), upd_same, sz_of (by show (xs.take n).length + 1 ≤ 100000; omega), fun p3 hp3 => ?_⟩
    have e5 := Ex.new (o := .lst (xs.take n ++ [x])) hp3
    have f5 := (((e.trans e2).trans e3).trans e4).trans e5
    refine (el_fromV h hb hi) _ f5 _ fun p4 H6 hp4 e6 hx4 => ?_
    refine ⟨p3, p4, xs.take n ++ [x], xs.drop n, rfl, rfl, e6 _ _ upd_same, hx4, sz_of (by rw [List.length_append]; show (xs.take n).length + 1 + (xs.drop n).length ≤ 100000; omega), fun p5 hp5 => ?_⟩
    have e7 := Ex.new (o := .lst (xs.take n ++ [x] ++ xs.drop n)) hp5
    exact q _ _ ((((e2.trans e3).trans e4).trans e5).trans (e6.trans e7)) ⟨p5, x, rfl, fresh_back (f5.trans e6) hp5, upd_same, m _ _ _ ((e4.trans e5).trans (e6.trans e7)) px⟩⟩
/-- [a, b, ..][i] of things -/
theorem x_ixTh {ds : List PyData} {d : PyData} {j : Nat} {i : Int} (h : EvX te σ H (ThL K ds)) (hb : Ev tb σ H (.int i)) (hi : i = (j : Int)) (hd : ds[j]? = some d) : EvX (tOp (rIxL K) te tb) σ H (ThP K d) := fun H1 e Q q =>
  h H1 e _ fun v H2 e2 ⟨a, xs, ev, hs, ht⟩ => hb H2 (e.trans e2) _ fun H3 e3 => by
    subst ev
    have hl := ht.length
    have hj : j < xs.length := by
      have := (List.getElem?_eq_some_iff.mp hd).1
      omega
    have hx : xs[j]? = some xs[j] := List.getElem?_eq_getElem hj
    obtain ⟨d', hd', th⟩ := ht.at hx
    rw [hd] at hd'
    cases hd'
    exact ⟨a, xs, i, xs[j], rfl, rfl, ex_l e3 hs, at_of hi hx, q _ H3 (e2.trans e3) (th.mono e3)⟩
theorem dpa_app : ∀ {vs ws : List V} {ds es : List PyData}, DpAll K H vs ds → DpAll K H ws es → DpAll K H (vs ++ ws) (ds ++ es)
  | _, _, _, _, .nil, h => h
  | _, _, _, _, .cons a b, h => .cons a (dpa_app b h)
theorem dpa_mono (e : Ex H H') {vs : List V} {ds : List PyData} (h : DpAll K H vs ds) : DpAll K H' vs ds := dpA_mono e ds vs h
/-- what is told of a thing by an unknown value -/
def RetP (P : V → Hp → Prop) (H : Hp) (Q : VK) : Prop := ∀ v H', Ex H H' → P v H' → Q v H'
theorem RetP.mono {P : V → Hp → Prop} (h : RetP P H Q) (e : Ex H H') : RetP P H' Q := fun v H1 a p => h v H1 (e.trans a) p
theorem s_retP {P : V → Hp → Prop} (h : EvX te σ H P) (k : RetP P H D.rt) : tRet te D σ H := h H (Ex.refl H) _ fun v H1 e p => k v H1 e p
theorem x_weak {P R : V → Hp → Prop} (h : EvX te σ H P) (w : ∀ v H', P v H' → R v H') : EvX te σ H R := fun H1 e Q q => h H1 e Q fun v H2 e2 p => q v H2 e2 (w v H2 p)
/-- a value, whatever it is -/
def AnyV : V → Hp → Prop := fun _ _ => True
theorem any_v {v : V} (h : Ev te σ H v) : EvX te σ H AnyV := fun H1 e Q q => h H1 e Q fun H2 e2 => q v H2 e2 trivial
theorem any_l {xs : List V} (h : EvL te σ H xs) : EvX te σ H AnyV := fun H1 e Q q => h H1 e Q fun p H2 _ e2 _ => q _ H2 e2 trivial
/-! data that can be held beside one another -/
def Flat1 (d : PyData) : Prop := d.canLay0 = true ∧ d.depth ≤ 1
theorem flat_int (i : Int) : Flat1 (.int i) := ⟨rfl, by simp [PyData.depth]⟩
theorem shaped_flat {ds : List PyData} (h : ∀ d ∈ ds, Flat1 d) : SeqAt.shaped (.list ds) = true := by
  have a : ∀ ds : List PyData, (∀ d ∈ ds, Flat1 d) → PyData.canLayAll0 ds = true ∧ PyData.depthAll ds ≤ 1 := by
    intro ds
    induction ds with
    | nil => exact fun _ => ⟨rfl, Nat.zero_le _⟩
    | cons x xs ih =>
      intro h
      obtain ⟨i1, i2⟩ := ih fun y hy => h y (List.mem_cons_of_mem _ hy)
      obtain ⟨x1, x2⟩ := h x List.mem_cons_self
      refine ⟨?_, ?_⟩
      · show (PyData.canLay0 x && PyData.canLayAll0 xs) = true
        rw [i1, x1]
        rfl
      · show max (PyData.depth x) (PyData.depthAll xs) ≤ 1
        omega
  obtain ⟨a1, a2⟩ := a ds h
  have b : PyData.depth (.list ds) ≤ 64 := by
    show PyData.depthAll ds + 1 ≤ 64
    omega
  unfold SeqAt.shaped
  have a' : PyData.canLay0 (.list ds) = true := a1
  rw [a', decide_eq_true b]
  rfl
theorem rv_pow {i j : Int} (h : CPow i j) : RV rPowI (.int i) (.int j) H (.int (i ^ j.toNat)) := rv_I h
theorem rv_mulW {i j : Int} (h : CMulW i j) : RV rMulW (.int i) (.int j) H (.int (i * j)) := rv_I h
theorem ev_ten50 : Ev (tOp rPowI (tC (.int 10)) (tC (.int 50))) σ H (.int (10 ^ 50)) := ev_op ev_c ev_c (rv_pow ⟨by decide, by decide, by decide⟩)
theorem ten50 : ((10 : Int) ^ 50).natAbs < 2 ^ 170 := by decide +kernel
theorem shaped_of {d : PyData} (h : Flat1 d) : SeqAt.shaped d = true := by
  unfold SeqAt.shaped
  rw [h.1, decide_eq_true (Nat.le_trans h.2 (by decide))]
  rfl
end
end Fw

namespace Fw
open PySem PySem.Spec PyProof.Rows L2 Evl
section
variable {K : PySem.W.Frag} {A : Ad} {vs : List V} {H H' : Hp} {Q : VK} {E : XK}
/-! _law_bad: a thing that is no 1, 0, -1 -/
def BadT (K : PySem.W.Frag) : V → Hp → Prop := fun v H => ∃ d, Dp K H v d ∧ pmD d = false ∧ Flat1 d
theorem mono_bad : Mono (BadT K) := fun _ _ _ e ⟨d, h, a, b⟩ => ⟨d, dp_mono e _ _ h, a, b⟩
theorem bad_of {v : V} {d : PyData} (h : Th K H v d) (a : pmD d = false) (b : Flat1 d) : BadT K v H := by
  cases h with
  | of h => exact ⟨d, h, a, b⟩
  | dict h => exact absurd b.1 (by simp [PyData.canLay0])
def sp_l_bad (K : PySem.W.Frag) (A : Ad) : Sp := fun vs H Q _ => ∃ c : Int, vs = [.int c] ∧ RetP (BadT K) H Q
def t_l_bad (K : PySem.W.Frag) (A : Ad) : TS :=
  (tSeq (tIfS (tTest (tOp rEq (tOp rModI (tVar 0) (tC (.int 11))) (tC (.int 0)))) (tRet (tOp rAddI (tC (.int 3)) (tOp rModI (tOp rDivI (tVar 0) (tC (.int 11))) (tOp rMulW (tOp rPowI (tC (.int 10)) (tC (.int 50))) (tOp rPowI (tC (.int 10)) (tC (.int 40))))))) tNext)
    (tSeq (tIfS (tTest (tOp rEq (tOp rModI (tVar 0) (tC (.int 11))) (tC (.int 1)))) (tRet (tOp rSubI (tUn rNegI (tC (.int 3))) (tOp rModI (tOp rDivI (tVar 0) (tC (.int 11))) (tOp rMulW (tOp rPowI (tC (.int 10)) (tC (.int 50))) (tOp rPowI (tC (.int 10)) (tC (.int 40))))))) tNext)
    (tRet (tOp (rIxL K) (tLst (tCons (tC (.int 2)) (tCons (tUn rNegI (tC (.int 2))) (tCons (tC (.bl true)) (tCons (tC (.bl false)) (tCons (tC .non) (tCons (tC (.str "1")) (tCons (tC (.str "")) (tCons (tC (.str "-")) (tCons (tLst (tCons (tC (.int 1)) tNil)) tNil)))))))))) (tOp rSubI (tOp rModI (tVar 0) (tC (.int 11))) (tC (.int 2)))))))
def badDs : List PyData := [.int 2, .int (-2), .bool true, .bool false, .none, .str "1", .str "", .str "-", .list [.int 1]]
theorem bad_all : ∀ d ∈ badDs, pmD d = false ∧ Flat1 d := by
  have h : ∀ d ∈ badDs, pmD d = false ∧ d.canLay0 = true ∧ d.depth ≤ 1 := by
    intro d hd
    simp only [badDs, List.mem_cons, List.not_mem_nil, or_false] at hd
    rcases hd with rfl | rfl | rfl | rfl | rfl | rfl | rfl | rfl | rfl <;> refine ⟨by decide +kernel, by decide +kernel, by decide +kernel⟩
  exact h
theorem ev_ten90 {σ : L2.St} : Ev (tOp rMulW (tOp rPowI (tC (.int 10)) (tC (.int 50))) (tOp rPowI (tC (.int 10)) (tC (.int 40)))) σ H (.int (10 ^ 50 * 10 ^ 40)) :=
  ev_op ev_ten50 (ev_op ev_c ev_c (rv_pow ⟨by decide, by decide, by decide⟩)) (rv_mulW (wide_mul ten50 (b := 170) (by decide +kernel) (by decide) (by decide) (by decide)))
theorem bad_int {i : Int} (h : 1 < i ∨ i < -1) : BadT K (.int i) H := by
  refine ⟨.int i, .int i, ?_, flat_int i⟩
  show (decide (-1 ≤ i) && decide (i ≤ 1)) = false
  rcases h with h | h
  · rw [decide_eq_false (show ¬ i ≤ 1 by omega), Bool.and_false]
  · rw [decide_eq_false (show ¬ -1 ≤ i by omega), Bool.false_and]
theorem r_l_bad (h : sp_l_bad K A vs H Q E) : t_l_bad K A (D0 Q) (start ["_law_cell"] vs) H := by
  obtain ⟨c, rfl, k⟩ := h
  obtain ⟨j, hj, hl⟩ := mod_nat c 11 (by decide)
  have hj' : c % 11 = (j : Int) := hj
  have pos : (0 : Int) < 10 ^ 50 * 10 ^ 40 := by decide +kernel
  have nn := Int.emod_nonneg (c / 11) (show (10 ^ 50 * 10 ^ 40 : Int) ≠ 0 by decide +kernel)
  have rest : ∀ {σ : L2.St} {H1 : Hp}, σ[0]? = some (some (.int c)) → Ev (tOp rModI (tOp rDivI (tVar 0) (tC (.int 11))) (tOp rMulW (tOp rPowI (tC (.int 10)) (tC (.int 50))) (tOp rPowI (tC (.int 10)) (tC (.int 40))))) σ H1 (.int (c / 11 % (10 ^ 50 * 10 ^ 40))) := fun h0 =>
    ev_op (ev_op (ev_var h0) ev_c (rv_div ⟨by decide, by decide⟩)) ev_ten90 (rv_mod pos)
  refine q_when (et_is (et_test (ev_op (ev_op (ev_var rfl) ev_c (rv_mod (by decide))) ev_c (rv_eq rfl))) eq_dec) (fun hb H1 e1 => ?_) (fun hb H1 e1 => ?_)
  · exact s_retP (x_of (ev_op ev_c (rest rfl) rv_I0) mono_bad (bad_int (.inl (by omega)))) (k.mono e1)
  · refine q_when (et_is (et_test (ev_op (ev_op (ev_var rfl) ev_c (rv_mod (by decide))) ev_c (rv_eq rfl))) eq_dec) (fun hb2 H2 e2 => ?_) (fun hb2 H2 e2 => ?_)
    · exact s_retP (x_of (ev_op (ev_un ev_c ru_neg) (rest rfl) rv_I0) mono_bad (bad_int (.inr (by omega)))) (k.mono (e1.trans e2))
    · have n0 : ¬ c % 11 = 0 := of_decide_eq_false hb
      have n1 : ¬ c % 11 = 1 := of_decide_eq_false hb2
      have lt : j - 2 < badDs.length := by
        show j - 2 < 9
        omega
      have gd : badDs[j - 2]? = some badDs[j - 2] := List.getElem?_eq_getElem lt
      obtain ⟨b1, b2⟩ := bad_all _ (List.getElem_mem lt)
      refine s_retP (x_weak (x_ixTh (K := K) (ds := badDs) (j := j - 2) (i := c % 11 - 2) (xt_lst (xt_cons (xt_c fun _ => th_int 2) (xt_cons (x_of (ev_un ev_c ru_neg) mono_th (th_int _)) (xt_cons (xt_c fun _ => th_bl _) (xt_cons (xt_c fun _ => th_bl _) (xt_cons (xt_c fun _ => th_non) (xt_cons (xt_c fun _ => th_str _) (xt_cons (xt_c fun _ => th_str _) (xt_cons (xt_c fun _ => th_str _) (xt_cons (xt_lstD (xt_cons (xt_c fun _ => th_int 1) xt_nil) (by decide) (by intro d hd; simp at hd; subst hd; intro z; cases z)) xt_nil))))))))) (by decide)) (ev_op (ev_op (ev_var rfl) ev_c (rv_mod (by decide))) ev_c rv_I0) (by omega) gd) (fun v H3 th => bad_of th b1 b2)) (k.mono (e1.trans e2))
theorem x_bad {te : TE} {σ : L2.St} {c : Int} (h : Ev te σ H (.int c)) : EvX (tCall (sp_l_bad K A) [] E (tCons te tNil)) σ H (BadT K) :=
  x_call1 (x_v h) fun x H1 e1 hx Q q => ⟨c, by rw [show x = V.int c from hx], fun v H2 e2 p => q v H2 e2 p⟩
/-! _law_no_list -/
def noDs : List PyData := [.none, .bool true, .int 0, .int 1, .str "", .str "+0-", .tuple [.int 1, .int 0], .dict []]
theorem no_all : ∀ d ∈ noDs, isLayD d = false := by
  intro d hd
  simp only [noDs, List.mem_cons, List.not_mem_nil, or_false] at hd
  rcases hd with rfl | rfl | rfl | rfl | rfl | rfl | rfl | rfl <;> rfl
def NoT (K : PySem.W.Frag) : V → Hp → Prop := fun v H => ∃ d, Th K H v d ∧ isLayD d = false
def sp_l_no_list (K : PySem.W.Frag) (A : Ad) : Sp := fun vs H Q _ => ∃ c : Int, vs = [.int c] ∧ RetP (NoT K) H Q
def t_l_no_list (K : PySem.W.Frag) (A : Ad) : TS :=
  (tRet (tOp (rIxL K) (tLst (tCons (tC .non) (tCons (tC (.bl true)) (tCons (tC (.int 0)) (tCons (tC (.int 1)) (tCons (tC (.str "")) (tCons (tC (.str "+0-")) (tCons (tTup (tCons (tC (.int 1)) (tCons (tC (.int 0)) tNil))) (tCons tDictN tNil))))))))) (tOp rModI (tVar 0) (tC (.int 8)))))
theorem r_l_no_list (h : sp_l_no_list K A vs H Q E) : t_l_no_list K A (D0 Q) (start ["_law_cell"] vs) H := by
  obtain ⟨c, rfl, k⟩ := h
  obtain ⟨j, hj, hl⟩ := mod_nat c 8 (by decide)
  have lt : j < noDs.length := hl
  have gd : noDs[j]? = some noDs[j] := List.getElem?_eq_getElem lt
  have b1 := no_all _ (List.getElem_mem lt)
  refine s_retP (x_weak (x_ixTh (K := K) (ds := noDs) (j := j) (xt_lst (xt_cons (xt_c fun _ => th_non) (xt_cons (xt_c fun _ => th_bl _) (xt_cons (xt_c fun _ => th_int _) (xt_cons (xt_c fun _ => th_int _) (xt_cons (xt_c fun _ => th_str _) (xt_cons (xt_c fun _ => th_str _) (xt_cons (xt_tup (xt_cons (xt_c fun _ => th_int _) (xt_cons (xt_c fun _ => th_int _) xt_nil)) (by decide) (by intro d hd; simp at hd; rcases hd with rfl | rfl <;> (intro z; cases z))) (xt_cons xt_dict xt_nil)))))))) (by decide)) (ev_op (ev_var rfl) ev_c (rv_mod (by decide))) hj gd) (fun v H3 th => ⟨_, th, b1⟩)) k
theorem x_no_list {te : TE} {σ : L2.St} {c : Int} (h : Ev te σ H (.int c)) : EvX (tCall (sp_l_no_list K A) [] E (tCons te tNil)) σ H (NoT K) :=
  x_call1 (x_v h) fun x H1 e1 hx Q q => ⟨c, by rw [show x = V.int c from hx], fun v H2 e2 p => q v H2 e2 p⟩
/-! _law_asked -/
section
variable {te tx : TE} {σ : L2.St} {d d2 : PyData} {R : List Int → Hp → VK → Prop} {R2 : List Int → List Int → Hp → VK → Prop} {P P' : V → Hp → Prop}
theorem er_lay (h : EvX te σ H (fun v H => Th K H v d)) (hl : isLayD d = false) (k : RaiseE E A.laying H) : Er (tCall (LaySp R K A) [] E (tCons te tNil)) σ H :=
  er_call1 h fun x H1 e1 hx Q => LaySp.bad hx hl (k.mono e1)
theorem er_call2 {sp : Sp} (h : EvX te σ H P) (m : Mono P) (h2 : EvX tx σ H P') (hs : ∀ x y H1, Ex H H1 → P x H1 → P' y H1 → ∀ Q : VK, sp [x, y] H1 Q E) : Er (tCall sp [] E (tCons te (tCons tx tNil))) σ H := fun H1 e Q =>
  h H1 e _ fun v H2 e2 hp => h2 H2 (e.trans e2) _ fun w H3 e3 hp2 => hs v w H3 ((e.trans e2).trans e3) (m _ _ _ e3 hp) hp2 Q
theorem er_lay2 (h : EvX te σ H (ThP K d)) (h2 : EvX tx σ H (ThP K d2)) (hl : (isLayD d && isLayD d2) = false) (k : RaiseE E A.laying H) : Er (tCall (Lay2Sp R2 K A) [] E (tCons te (tCons tx tNil))) σ H :=
  er_call2 h mono_th h2 fun x y H1 e1 hx hy Q => Lay2Sp.bad hx hy hl (k.mono e1)
end
structure Asked (K : PySem.W.Frag) (A : Ad) (v : V) (d : PyData) (H : Hp) (Q : VK) (E : XK) : Prop where
  th : Th K H v d
  good : ∀ ns, d = .list (ns.map PyData.int) → Few.Lay ns → ns.length ≤ 30000 ∧ RetP AnyV H Q
  bad : isLayD d = false → RaiseE E A.laying H
theorem Asked.mono {v : V} {d : PyData} (a : Asked K A v d H Q E) (e : Ex H H') : Asked K A v d H' Q E :=
  ⟨a.th.mono e, fun ns h l => ⟨(a.good ns h l).1, (a.good ns h l).2.mono e⟩, fun h => (a.bad h).mono e⟩
theorem Asked.ret {v : V} {d : PyData} {te : TE} {σ : L2.St} {D : Ends} (a : Asked K A v d H Q E) (hD : D.rt = Q) (f : isLayD d = false → RaiseE E A.laying H → Er te σ H) (t : ∀ ns, IL K ns v H → Few.Lay ns → ns.length ≤ 30000 → EvX te σ H AnyV) : tRet te D σ H := by
  cases hl : isLayD d with
  | false => exact er_ret (f hl (a.bad hl))
  | true =>
    obtain ⟨ns, rfl, l⟩ := lay_is hl
    obtain ⟨z, k⟩ := a.good ns rfl l
    exact s_retP (t ns a.th.il l z) (by rw [hD]; exact k)
def sp_l_asked (K : PySem.W.Frag) (A : Ad) : Sp := fun vs H Q E => ∃ (w : Int) (v : V) (d : PyData) (pl : Nat), vs = [.int w, v, .int (pl : Int)] ∧ Asked K A v d H Q E
def t_l_asked (K : PySem.W.Frag) (A : Ad) (E : XK) : TS :=
  (tSeq (tIfS (tTest (tOp rEq (tVar 0) (tC (.int 0)))) (tRet (tCall (sp_load_of K A) [] E (tCons (tVar 1) tNil))) tNext)
    (tSeq (tIfS (tTest (tOp rEq (tVar 0) (tC (.int 1)))) (tRet (tCall (sp_stones K A) [] E (tCons (tVar 1) tNil))) tNext)
    (tSeq (tIfS (tTest (tOp rEq (tVar 0) (tC (.int 2)))) (tRet (tCall (sp_ended K A) [] E (tCons (tVar 1) tNil))) tNext)
    (tSeq (tIfS (tTest (tOp rEq (tVar 0) (tC (.int 3)))) (tRet (tCall (sp_is_neat K A) [] E (tCons (tVar 1) tNil))) tNext)
    (tSeq (tIfS (tTest (tOp rEq (tVar 0) (tC (.int 4)))) (tRet (tCall (sp_neat K A) [] E (tCons (tVar 1) tNil))) tNext)
    (tSeq (tIfS (tTest (tOp rEq (tVar 0) (tC (.int 5)))) (tRet (tCall (sp_turned K A) [] E (tCons (tVar 1) tNil))) tNext)
    (tSeq (tIfS (tTest (tOp rEq (tVar 0) (tC (.int 6)))) (tRet (tCall (sp_plus K A) [] E (tCons (tVar 1) (tCons (tLst (tCons (tC (.int 1)) (tCons (tC (.int 0)) (tCons (tUn rNegI (tC (.int 1))) tNil)))) tNil)))) tNext)
    (tSeq (tIfS (tTest (tOp rEq (tVar 0) (tC (.int 7)))) (tRet (tCall (sp_plus K A) [] E (tCons (tLst (tCons (tC (.int 1)) (tCons (tC (.int 1)) tNil))) (tCons (tVar 1) tNil)))) tNext)
    (tSeq (tIfS (tTest (tOp rEq (tVar 0) (tC (.int 8)))) (tRet (tCall (sp_heavier K A) [] E (tCons (tVar 1) (tCons (tLst (tCons (tC (.int 0)) (tCons (tC (.int 1)) tNil))) tNil)))) tNext)
    (tSeq (tIfS (tTest (tOp rEq (tVar 0) (tC (.int 9)))) (tRet (tCall (sp_heavier K A) [] E (tCons (tLst tNil) (tCons (tVar 1) tNil)))) tNext)
    (tSeq (tIfS (tTest (tOp rEq (tVar 0) (tC (.int 10)))) (tRet (tCall (sp_parted K A) [] E (tCons (tVar 1) (tCons (tVar 2) tNil)))) tNext)
    (tRet (tCall (sp_shown K A) [] E (tCons (tVar 1) tNil))))))))))))))
theorem ask_step {w c : Int} {σ : L2.St} {D : Ends} {te : TE} {tz : TS} (h0 : σ[0]? = some (some (.int w))) (h1 : ∀ H1, Ex H H1 → tRet te { D with nx := tz D } σ H1) (h2 : ∀ H1, Ex H H1 → tz D σ H1) :
    tSeq (tIfS (tTest (tOp rEq (tVar 0) (tC (.int c)))) (tRet te) tNext) tz D σ H := q_when (et_test (ev_op (ev_var h0) ev_c (rv_eq rfl))) (fun _ H1 e1 => h1 H1 e1) (fun _ H1 e1 => h2 H1 e1)
theorem lay_two {a b : Int} (h : Few.Pm a) (h2 : Few.Pm b) : Few.Lay [a, b] := Few.lay_cons h (Few.lay_cons h2 Few.lay_nil)
theorem r_l_asked (h : sp_l_asked K A vs H Q E) : t_l_asked K A E (D0 Q) (start ["_law_way", "_law_thing", "_law_place"] vs) H := by
  obtain ⟨w, v, d, pl, rfl, a⟩ := h
  have l3 : Few.Lay [1, 0, -1] := Few.lay_cons (.inl rfl) (lay_two (.inr (.inl rfl)) (.inr (.inr rfl)))
  have l11 : Few.Lay [1, 1] := lay_two (.inl rfl) (.inl rfl)
  have l01 : Few.Lay [0, 1] := lay_two (.inr (.inl rfl)) (.inl rfl)
  have x3 : ∀ {σ : L2.St} {H : Hp}, EvX (tLst (tCons (tC (.int 1)) (tCons (tC (.int 0)) (tCons (tUn rNegI (tC (.int 1))) tNil)))) σ H (IL K [1, 0, -1]) := x_ilL (el_lst (ea_cons ev_c (ea_cons ev_c (ea_cons (ev_un ev_c ru_neg) ea_nil))) (by decide))
  have x11 : ∀ {σ : L2.St} {H : Hp}, EvX (tLst (tCons (tC (.int 1)) (tCons (tC (.int 1)) tNil))) σ H (IL K [1, 1]) := x_ilL (el_lst (ea_cons ev_c (ea_cons ev_c ea_nil)) (by decide))
  have x01 : ∀ {σ : L2.St} {H : Hp}, EvX (tLst (tCons (tC (.int 0)) (tCons (tC (.int 1)) tNil))) σ H (IL K [0, 1]) := x_ilL (el_lst (ea_cons ev_c (ea_cons ev_c ea_nil)) (by decide))
  have x0 : ∀ {σ : L2.St} {H : Hp}, EvX (tLst tNil) σ H (IL K []) := x_ilL (el_lst ea_nil (by decide))
  have th : ∀ {te : TE} {σ : L2.St} {H : Hp} {ns : List Int}, EvX te σ H (IL K ns) → EvX te σ H (ThP K (.list (ns.map PyData.int))) := fun h => x_weak h fun _ _ p => il_th p
  refine ask_step rfl (fun H1 e1 => (a.mono e1).ret rfl (fun hl k => er_load_of (x_th rfl (a.th.mono e1)) hl k) fun ns hi l z => any_v (ev_load_of (x_ilv rfl hi) l)) fun H1 e1 => ?_
  have a1 := a.mono e1
  refine ask_step rfl (fun H2 e2 => (a1.mono e2).ret rfl (fun hl k => er_lay (x_th rfl (a1.th.mono e2)) hl k) fun ns hi l z => any_v (ev_stones (x_ilv rfl hi) l)) fun H2 e2 => ?_
  have a2 := a1.mono e2
  refine ask_step rfl (fun H3 e3 => (a2.mono e3).ret rfl (fun hl k => er_lay (x_th rfl (a2.th.mono e3)) hl k) fun ns hi l z => any_l (el_ended (x_ilv rfl hi) l)) fun H3 e3 => ?_
  have a3 := a2.mono e3
  refine ask_step rfl (fun H4 e4 => (a3.mono e4).ret rfl (fun hl k => er_lay (x_th rfl (a3.th.mono e4)) hl k) fun ns hi l z => any_v (ev_is_neat (x_ilv rfl hi) l)) fun H4 e4 => ?_
  have a4 := a3.mono e4
  refine ask_step rfl (fun H5 e5 => (a4.mono e5).ret rfl (fun hl k => er_lay (x_th rfl (a4.th.mono e5)) hl k) fun ns hi l z => any_l (el_neat (x_ilv rfl hi) l (by omega))) fun H5 e5 => ?_
  have a5 := a4.mono e5
  refine ask_step rfl (fun H6 e6 => (a5.mono e6).ret rfl (fun hl k => er_lay (x_th rfl (a5.th.mono e6)) hl k) fun ns hi l z => any_l (el_turned (x_ilv rfl hi) l (by omega))) fun H6 e6 => ?_
  have a6 := a5.mono e6
  refine ask_step rfl (fun H7 e7 => (a6.mono e7).ret rfl (fun hl k => er_lay2 (x_th rfl (a6.th.mono e7)) (th x3) (by rw [hl]; rfl) k) fun ns hi l z => any_l (el_plus (x_ilv rfl hi) x3 l l3 (by omega) (by decide))) fun H7 e7 => ?_
  have a7 := a6.mono e7
  refine ask_step rfl (fun H8 e8 => (a7.mono e8).ret rfl (fun hl k => er_lay2 (th x11) (x_th rfl (a7.th.mono e8)) (by rw [hl, Bool.and_false]) k) fun ns hi l z => any_l (el_plus x11 (x_ilv rfl hi) l11 l (by decide) (by omega))) fun H8 e8 => ?_
  have a8 := a7.mono e8
  refine ask_step rfl (fun H9 e9 => (a8.mono e9).ret rfl (fun hl k => er_lay2 (x_th rfl (a8.th.mono e9)) (th x01) (by rw [hl]; rfl) k) fun ns hi l z => any_v (ev_heavier (x_ilv rfl hi) x01 l l01)) fun H9 e9 => ?_
  have a9 := a8.mono e9
  refine ask_step rfl (fun H10 e10 => (a9.mono e10).ret rfl (fun hl k => er_lay2 (th x0) (x_th rfl (a9.th.mono e10)) (by rw [hl, Bool.and_false]) k) fun ns hi l z => any_v (ev_heavier x0 (x_ilv rfl hi) Few.lay_nil l)) fun H10 e10 => ?_
  have a10 := a9.mono e10
  refine ask_step rfl (fun H11 e11 => (a10.mono e11).ret rfl (fun hl k => er_parted (j := pl) (x_th rfl (a10.th.mono e11)) (ev_var rfl) hl k) fun ns hi l z => ?_) fun H11 e11 => ?_
  · intro H12 e12 Q' q
    have args : EvA (tCons (tVar 1) (tCons (tVar 2) tNil)) [some (.int w), some v, some (.int (pl : Int))] H11 [v, .int (pl : Int)] := ea_cons (ev_var rfl) (ea_cons (ev_var rfl) ea_nil)
    refine args H12 e12 _ fun H14 e14 => ?_
    refine ⟨v, _, pl, rfl, il_th (mono_il _ _ _ (e12.trans e14) hi), fun ms e _ => ?_, fun z => by rw [lay_ints l] at z; cases z⟩
    exact fun t p r H15 ht g hx => q _ H15 (e14.trans (g _ _ (Led.nil H14)).ext) trivial
  have a11 := a10.mono e11
  exact a11.ret rfl (fun hl k => er_lay (x_th rfl a11.th) hl k) fun ns hi l z => any_v (ev_shown (x_ilv rfl hi) l (by omega))
/-! _law_truths -/
def truthsOf (d : PyData) : List Bool := if isLayD d = true then [] else [true, true, false, false, false, false]
def ShortD (d : PyData) : Prop := ∀ ns, d = .list (ns.map PyData.int) → Few.Lay ns → ns.length ≤ 30000
def sp_l_truths (K : PySem.W.Frag) (A : Ad) : Sp := fun vs H Q _ => ∃ (w : Int) (v : V) (d : PyData) (pl : Nat), vs = [.int w, v, .int (pl : Int)] ∧ Th K H v d ∧ ShortD d ∧ RetL ((truthsOf d).map V.bl) H Q
def t_l_truths (K : PySem.W.Frag) (A : Ad) : TS :=
  (tSeq (tAsg (tLst tNil) (gName 3))
    (tSeq (tTryC K A.laying A.stone 4 (fun W => (tDrop (tCallS (sp_l_asked K A) (WE W) (tCons (tVar 0) (tCons (tVar 1) (tCons (tVar 2) tNil)))))) (fun a => (tSeq (tAsg (tLst (tCons (tCB (rIsE K A.laying a) (tCons (tVar 4) (tCons (tC (.ty "ValueError")) tNil))) (tCons (tCB (rIsE K A.laying a) (tCons (tVar 4) (tCons (tC (.ref A.laying)) tNil))) (tCons (tCB (rIsE K A.laying a) (tCons (tVar 4) (tCons (tC (.ref A.load)) tNil))) tNil)))) (gName 3))
    (tAsg (tOp rCat (tVar 3) (tLst (tCons (tCB (rIsE K A.laying a) (tCons (tVar 4) (tCons (tC (.ref A.plan)) tNil))) (tCons (tCB (rIsE K A.laying a) (tCons (tVar 4) (tCons (tC (.ref A.text)) tNil))) (tCons (tCB (rIsE K A.laying a) (tCons (tVar 4) (tCons (tC (.ref A.deed)) tNil))) tNil))))) (gName 3)))))
    (tRet (tVar 3))))
section
variable {ta : TA} {σ : L2.St} {D : Ends} {tz : TS}
theorem q_tryDropV {C S : Addr} {i : Nat} {sp : Sp} {xs : List V} {ts : Addr → TS} (h : EvA ta σ H xs) (hs : ∀ H1, Ex H H1 → ∀ (Q : VK) (E : XK), RaiseE E C H1 → sp xs H1 Q E) (ht : PySem.W.exmOne K (.ref C) (.ref S) = some true)
    (k : ∀ a H1, Ex H H1 → H1 a = none → ts a { nx := fun σ' H' => tz D (σ'.set i none) H', rt := D.rt, bk := fun σ' H' => D.bk (σ'.set i none) H', ct := fun σ' H' => D.ct (σ'.set i none) H' } (σ.set i (some (.ref a))) H1) :
    tSeq (tTryC K C S i (fun W => tDrop (tCallS sp (WE W) ta)) ts) tz D σ H :=
  h H (Ex.refl H) _ fun H1 e1 => hs H1 e1 _ _ fun H2 e2 => ⟨true, ht, fun _ a ha => ⟨⟨rfl, rfl⟩, k a H2 (e1.trans e2) ha⟩, fun z => by cases z⟩
theorem q_tryThruV {C S : Addr} {i : Nat} {sp : Sp} {xs : List V} {ts : Addr → TS} (h : EvA ta σ H xs) (hs : ∀ H1, Ex H H1 → ∀ (Q : VK) (E : XK), RetP AnyV H1 Q → sp xs H1 Q E) (k : ∀ H1, Ex H H1 → tz D σ H1) :
    tSeq (tTryC K C S i (fun W => tDrop (tCallS sp (WE W) ta)) ts) tz D σ H :=
  h H (Ex.refl H) _ fun H1 e1 => hs H1 e1 _ _ fun v H2 e2 _ => k H2 (e1.trans e2)
end
theorem r_l_truths (C : Caught K A A.laying true false false false false) (h : sp_l_truths K A vs H Q E) : t_l_truths K A (D0 Q) (start ["_law_way", "_law_thing", "_law_place", "_law_truths_here", "e"] vs) H := by
  obtain ⟨w, v, d, pl, rfl, hd, hs, k⟩ := h
  unfold truthsOf at k
  refine q_asgL (el_lst ea_nil (by decide)) fun p H1 hp e1 hx => ?_
  have hd1 := hd.mono e1
  have args : EvA (tCons (tVar 0) (tCons (tVar 1) (tCons (tVar 2) tNil))) [some (.int w), some v, some (.int (pl : Int)), some (.ref p), none] H1 [.int w, v, .int (pl : Int)] := ea_cons (ev_var rfl) (ea_cons (ev_var rfl) (ea_cons (ev_var rfl) ea_nil))
  cases hl : isLayD d with
  | true =>
    rw [hl, if_pos rfl] at k
    refine q_tryThruV args (fun H2 e2 Q E q => ⟨w, v, d, pl, rfl, ⟨hd1.mono e2, fun ns h l => ⟨hs ns h l, q⟩, fun z => by rw [hl] at z; cases z⟩⟩) fun H2 e2 => ?_
    exact s_ret (ev_var rfl) fun H3 e3 => k p H3 hp ((e1.trans e2).trans e3) (e3 _ _ (e2 _ _ hx))
  | false =>
    rw [hl, if_neg (by decide)] at k
    refine q_tryDropV args (fun H2 e2 Q E q => ⟨w, v, d, pl, rfl, ⟨hd1.mono e2, (fun ns h l => by rw [h, lay_ints l] at hl; cases hl), fun _ => q⟩⟩) C.te fun a H2 e2 ha => ?_
    refine q_asgL (xs := [true, true, false].map V.bl) (el_lst (ea_cons (ev_isE rfl C.ve) (ea_cons (ev_isEC rfl C.ly) (ea_cons (ev_isEC rfl C.lo) ea_nil))) (by decide)) fun p1 H3 hp1 e3 hx1 => ?_
    refine s_asgL (xs := [true, true, false, false, false, false].map V.bl) (el_catX (x_ml (ev_var rfl) hx1) (x_mlL (el_lst (ea_cons (ev_isEC rfl C.pl) (ea_cons (ev_isEC rfl C.tx) (ea_cons (ev_isEC rfl C.de) ea_nil))) (by decide))) (by decide)) fun p2 H4 hp2 e4 hx2 => ?_
    have e14 := ((e1.trans e2).trans e3)
    exact s_ret (ev_var rfl) fun H5 e5 => k p2 H5 (fresh_back e14 hp2) (e14.trans (e4.trans e5)) (e5 _ _ hx2)
theorem el_truths {ta : TA} {σ : L2.St} {w : Int} {v : V} {d : PyData} {pl : Nat} (h : EvA ta σ H [.int w, v, .int (pl : Int)]) (hd : Th K H v d) (hs : ShortD d) : EvL (tCall (sp_l_truths K A) [] E ta) σ H ((truthsOf d).map V.bl) := fun H1 e Q q =>
  h H1 e _ fun H2 e2 => ⟨w, v, d, pl, rfl, hd.mono (e.trans e2), hs, fun p H3 hp e3 hx => q p H3 (fresh_back e2 hp) (e2.trans e3) hx⟩
/-! _law_all -/
def sp_l_all (K : PySem.W.Frag) (A : Ad) : Sp := fun vs H Q _ => ∃ (v : V) (d : PyData) (pl : Nat) (u : V), vs = [v, .int (pl : Int), u] ∧ Th K H v d ∧ ShortD d ∧ VL K ((truthsOf d).map V.bl) u H ∧ RetV (.bl true) H Q
def t_l_all (K : PySem.W.Frag) (A : Ad) : TS :=
  (tSeq (tFor (iRng1 (tCons (tC (.int 12)) tNil)) (gName 3) (tIfS (tTest (tOp (rNeD K) (tCall (sp_l_truths K A) [] E0 (tCons (tVar 3) (tCons (tVar 0) (tCons (tVar 1) tNil)))) (tVar 2))) (tRet (tC (.bl false))) tNext))
    (tRet (tC (.bl true))))
theorem truths_ok (d : PyData) : SeqAt.shaped (.list ((truthsOf d).map PyData.bool)) = true ∧ PyData.eqvAll ((truthsOf d).map PyData.bool) ((truthsOf d).map PyData.bool) = true := by
  unfold truthsOf
  split <;> exact ⟨by decide +kernel, by decide +kernel⟩
theorem ev_neTruths {te tb : TE} {σ : L2.St} {d : PyData} (ha : EvX te σ H (VL K ((truthsOf d).map V.bl))) (hb : EvX tb σ H (VL K ((truthsOf d).map V.bl))) : Ev (tOp (rNeD K) te tb) σ H (.bl false) := ev_opX ha mono_vl hb fun x y H1 _ ⟨a, ea, p⟩ ⟨b, eb, q⟩ H2 e2 Q k => by
  subst ea eb
  obtain ⟨s1, s2⟩ := truths_ok d
  refine ⟨_, _, .lst (ex_l e2 p) dps_bl, .lst (ex_l e2 q) dps_bl, s1, s1, ?_⟩
  have z : PyData.eqv (.list ((truthsOf d).map PyData.bool)) (.list ((truthsOf d).map PyData.bool)) = true := s2
  rw [z]
  exact k H2 (Ex.refl H2)
theorem r_l_all (h : sp_l_all K A vs H Q E) : t_l_all K A (D0 Q) (start ["_law_thing", "_law_place", "_law_due", "_law_way"] vs) H := by
  obtain ⟨v, d, pl, u, rfl, hd, hs, hu, k⟩ := h
  refine q_forRgP (n := 12) (ea_cons ev_c ea_nil) ⟨by decide, by decide⟩ (fun i σ' => ∃ o, σ' = [some v, some (.int (pl : Int)), some u, o]) ⟨none, rfl⟩ ?_ ?_
  · rintro H2 i σ' H' e2 e3 hi ⟨o, rfl⟩
    have hd3 := hd.mono (e2.trans e3)
    have hu3 := mono_vl _ _ _ (e2.trans e3) hu
    refine s_when (et_test (ev_neTruths (d := d) (x_vlL (el_truths (ea_cons (ev_var rfl) (ea_cons (ev_var rfl) (ea_cons (ev_var rfl) ea_nil))) hd3 hs)) (x_of (ev_var rfl) mono_vl hu3))) (fun hb => by cases hb) (fun _ H4 e4 => ⟨⟨_, rfl⟩, e3.trans e4⟩)
  · rintro σ' H' e2 ⟨o, rfl⟩
    exact s_retV ev_c (k.mono e2)
theorem ev_all {te tb tx : TE} {σ : L2.St} {v : V} {d : PyData} {pl : Nat} (h : Ev te σ H v) (h2 : Ev tb σ H (.int (pl : Int))) (h3 : EvX tx σ H (VL K ((truthsOf d).map V.bl))) (hd : Th K H v d) (hs : ShortD d) : Ev (tCall (sp_l_all K A) [] E (tCons te (tCons tb (tCons tx tNil)))) σ H (.bl true) := fun H1 e Q q =>
  h H1 e _ fun H2 e2 => h2 H2 (e.trans e2) _ fun H3 e3 => h3 H3 ((e.trans e2).trans e3) _ fun u H4 e4 hu => ⟨v, d, pl, u, rfl, hd.mono (((e.trans e2).trans e3).trans e4), hs, hu, fun H5 e5 => q H5 (((e2.trans e3).trans e4).trans e5)⟩
/-! law -/
def sp_law (K : PySem.W.Frag) (A : Ad) : Sp := fun vs H Q _ => ∃ v ns, vs = [v] ∧ IL K ns v H ∧ ns.length ≤ 63 ∧ RetV (.bl true) H Q
def t_law (K : PySem.W.Frag) (A : Ad) : TS :=
  (tSeq (tAsg (tLst (tCons (tC (.bl true)) (tCons (tC (.bl true)) (tCons (tC (.bl false)) (tCons (tC (.bl false)) (tCons (tC (.bl false)) (tCons (tC (.bl false)) tNil))))))) (gName 1))
    (tSeq (tAsg (tOp rModI (tOp rDivI (tCall (sp_l_cell_at K A) [] E0 (tCons (tVar 0) (tCons (tC (.int 0)) tNil))) (tC (.int 3))) (tC (.int 401))) (gName 2))
    (tSeq (tAsg (tCall (sp_l_no_list K A) [] E0 (tCons (tOp rDivI (tCall (sp_l_cell_at K A) [] E0 (tCons (tVar 0) (tCons (tC (.int 1)) tNil))) (tC (.int 3))) tNil)) (gName 3))
    (tSeq (tIfS (tOr (tTest (tOp rNotB (tCall (sp_is_laying K A) [] E0 (tCons (tVar 3) tNil)) (tC (.bl false)))) (tNot (tB (tCall (sp_l_all K A) [] E0 (tCons (tVar 3) (tCons (tVar 2) (tCons (tVar 1) tNil))))))) (tRet (tC (.bl false))) tNext)
    (tSeq (tAsg (tLc (iList K (tSl (rSlL K) (tVar 0) tNoPart (tPart (tC (.int 84))))) (gName 8) tYes (tOp rSubI (tOp rModI (tVar 8) (tC (.int 3))) (tC (.int 1))) [8]) (gName 4))
    (tSeq (tAsg (tOp rModI (tOp rDivI (tCall (sp_l_cell_at K A) [] E0 (tCons (tVar 0) (tCons (tC (.int 2)) tNil))) (tC (.int 3))) (tOp rAddI (tCB (Evl.rLenS K) (tCons (tVar 4) tNil)) (tC (.int 1)))) (gName 5))
    (tSeq (tAsg (tOp rCat (tOp rCat (tSl (rSlL K) (tVar 4) tNoPart (tPart (tVar 5))) (tLst (tCons (tCall (sp_l_bad K A) [] E0 (tCons (tOp rDivI (tCall (sp_l_cell_at K A) [] E0 (tCons (tVar 0) (tCons (tC (.int 3)) tNil))) (tC (.int 3))) tNil)) tNil))) (tSl (rSlL K) (tVar 4) (tPart (tVar 5)) tNoPart)) (gName 6))
    (tSeq (tAsg (tCB (Evl.rListS K) (tCons (tVar 6) tNil)) (gName 7))
    (tSeq (tIfS (tOr (tTest (tOp rNotB (tCall (sp_is_laying K A) [] E0 (tCons (tVar 6) tNil)) (tC (.bl false)))) (tOr (tNot (tB (tCall (sp_l_all K A) [] E0 (tCons (tVar 6) (tCons (tVar 2) (tCons (tVar 1) tNil)))))) (tTest (tOp (rNeD K) (tVar 6) (tVar 7))))) (tRet (tC (.bl false))) tNext)
    (tSeq (tAsg (tOp rSubI (tOp rModI (tOp rDivI (tCall (sp_l_cell_at K A) [] E0 (tCons (tVar 0) (tCons (tC (.int 4)) tNil))) (tC (.int 3))) (tC (.int 3))) (tC (.int 1))) (gSub (tVar 6) (tVar 5) rSetL))
    (tSeq (tIfS (tOr (tTest (tOp rNotB (tCall (sp_is_laying K A) [] E0 (tCons (tVar 6) tNil)) (tC (.bl true)))) (tNot (tB (tCall (sp_l_all K A) [] E0 (tCons (tVar 6) (tCons (tVar 2) (tCons (tLst tNil) tNil))))))) (tRet (tC (.bl false))) tNext)
    (tRet (tOp rEq (tCall (sp_load_of K A) [] E0 (tCons (tVar 6) tNil)) (tCall (sp_l_load K A) [] E0 (tCons (tVar 6) tNil)))))))))))))))
theorem not_lay_short {d : PyData} (h : isLayD d = false) : ShortD d := fun ns e l => by
  rw [e, lay_ints l] at h
  cases h
theorem ints_flat (ns : List Int) : ∀ d ∈ ns.map PyData.int, Flat1 d := fun d hd => by
  obtain ⟨i, _, rfl⟩ := List.mem_map.mp hd
  exact flat_int i
theorem set_mid {a b : List V} {x y : V} : (a ++ [x] ++ b).set a.length y = a ++ [y] ++ b := by
  rw [List.append_assoc, List.set_append_right _ _ (Nat.le_refl _), Nat.sub_self, List.append_assoc]
  rfl
theorem r_law (h : sp_law K A vs H Q E) : t_law K A (D0 Q) (start ["_law_script", "_law_refused", "_law_place", "_law_none", "_law_things", "_law_at", "_law_handed", "_law_kept", "_law_cell"] vs) H := by
  obtain ⟨v, ns, rfl, hv, hns, k⟩ := h
  refine q_asgL (xs := [true, true, false, false, false, false].map V.bl) (el_lst (ea_cons ev_c (ea_cons ev_c (ea_cons ev_c (ea_cons ev_c (ea_cons ev_c (ea_cons ev_c ea_nil)))))) (by decide)) fun p0 H1 hp0 e1 hx0 => ?_
  have L1 := (Led.nil H).new hp0 e1 hx0
  have hv1 := mono_il _ _ _ e1 hv
  obtain ⟨pl, hpl, _⟩ := mod_nat (cellAt ns 0 / 3) 401 (by decide)
  refine q_asg (v := .int (pl : Int)) (ev_is (ev_op (ev_op (ev_cell (k := 0) (x_ilv rfl hv1) ev_c rfl) ev_c (rv_div ⟨by decide, by decide⟩)) ev_c (rv_mod (by decide))) (congrArg V.int hpl)) fun H2 e2 => ?_
  have L2 := L1.ex e2
  have hv2 := mono_il _ _ _ L2.ext hv
  refine q_asgX (x_no_list (ev_op (ev_cell (k := 1) (x_ilv rfl hv2) ev_c rfl) ev_c (rv_div ⟨by decide, by decide⟩))) fun nv H3 e3 hn => ?_
  obtain ⟨nd, hnt, hnl⟩ := hn
  have L3 := L2.ex e3
  have ref_ : ∀ {d : PyData} {H : Hp} {σ : _root_.L2.St}, isLayD d = false → σ[1]? = some (some (.ref p0)) → H p0 = some (.lst ([true, true, false, false, false, false].map V.bl)) → EvX (tVar 1) σ H (VL K ((truthsOf d).map V.bl)) := fun {d H σ} hl h1 h0 => by
    unfold truthsOf
    rw [hl, if_neg (by decide)]
    exact x_vl (ev_var h1) (sq_of h0)
  refine q_skip (et_or (et_test (ev_op (ev_is_laying (ev_var rfl) hnt) ev_c rv_notB)) fun _ => et_not (et_B (ev_all (pl := pl) (ev_var rfl) (ev_var rfl) (ref_ hnl rfl (L3.at 0 rfl)) hnt (not_lay_short hnl)))) (by rw [hnl]; rfl) fun H4 e4 => ?_
  have L4 := L3.ex e4
  have hv4 := mono_il _ _ _ L4.ext hv
  have em : (ns.take 84).map (fun c => V.int (c % 3 - 1)) = ((ns.take 84).map fun c => c % 3 - 1).map V.int := by rw [List.map_map]; rfl
  refine q_asgL (xs := ((ns.take 84).map fun c => c % 3 - 1).map V.int) (by
    rw [← em]
    exact el_lcI0 (ns := ns.take 84) (fun c => V.int (c % 3 - 1)) (x_ilL (el_to (n := 84) (x_ilv rfl hv4) ev_c rfl)) (by rw [List.length_take]; omega) (fun _ => rfl) (fun n H1 _ _ => ev_op (ev_op (ev_var rfl) ev_c (rv_mod (by decide))) ev_c rv_I0)) fun p1 H5 hp1 e5 hx1 => ?_
  have hts := lay_mod (ns.take 84)
  have hzt : ((ns.take 84).map fun c => c % 3 - 1).length ≤ 63 := by
    rw [List.length_map, List.length_take]
    omega
  generalize (ns.take 84).map (fun c => c % 3 - 1) = ts at hx1 hts hzt
  have L5 := L4.new hp1 e5 hx1
  have hv5 := mono_il _ _ _ L5.ext hv
  obtain ⟨at_, hat, hatl⟩ := mod_nat (cellAt ns 2 / 3) (ts.length + 1) (by omega)
  refine q_asg (v := .int (at_ : Int)) (ev_is (ev_op (ev_op (ev_cell (k := 2) (x_ilv rfl hv5) ev_c rfl) ev_c (rv_div ⟨by decide, by decide⟩)) (ev_op (ev_lenX (x_ilv rfl (L5.il 0 rfl))) ev_c rv_I0) (rv_mod (by omega))) (congrArg V.int hat)) fun H6 e6 => ?_
  have L6 := L5.ex e6
  have hv6 := mono_il _ _ _ L6.ext hv
  refine q_asgX (x_putin (n := at_) (x_vlI (x_ilv rfl (L6.il 0 rfl))) (ev_var rfl) rfl (x_bad (ev_op (ev_cell (k := 3) (x_ilv rfl hv6) ev_c rfl) ev_c (rv_div ⟨by decide, by decide⟩))) mono_bad (by rw [len_mapI]; omega)) fun hv_ H7 e7 hh => ?_
  obtain ⟨p2, x, rfl, hp2, hx2, bad⟩ := hh
  have L7 := L6.new hp2 e7 hx2
  obtain ⟨bd, hbd, bpm, bfl⟩ := bad
  -- the data of the handed list
  have dt : ∀ {H' : Hp}, Ex H7 H' → DpAll K H' ((ts.map V.int).take at_ ++ [x] ++ (ts.map V.int).drop at_) ((ts.take at_).map PyData.int ++ [bd] ++ (ts.drop at_).map PyData.int) := fun {H'} e => by
    refine dpa_app (dpa_app ?_ (.cons (dp_mono e _ _ hbd) .nil)) ?_
    · rw [← List.map_take]
      exact dps
    · rw [← List.map_drop]
      exact dps
  have fl : ∀ d ∈ (ts.take at_).map PyData.int ++ [bd] ++ (ts.drop at_).map PyData.int, Flat1 d := fun d hd => by
    rcases List.mem_append.mp hd with z | z
    · rcases List.mem_append.mp z with z | z
      · exact ints_flat _ d z
      · rw [List.mem_singleton.mp z]
        exact bfl
    · exact ints_flat _ d z
  have nl : isLayD (.list ((ts.take at_).map PyData.int ++ [bd] ++ (ts.drop at_).map PyData.int)) = false := by
    show ((ts.take at_).map PyData.int ++ [bd] ++ (ts.drop at_).map PyData.int).all pmD = false
    rw [List.all_append, List.all_append, List.all_cons, bpm]
    simp
  have sh := shaped_flat fl
  have rfl_ : PyData.eqv (.list ((ts.take at_).map PyData.int ++ [bd] ++ (ts.drop at_).map PyData.int)) (.list ((ts.take at_).map PyData.int ++ [bd] ++ (ts.drop at_).map PyData.int)) = true := SeqAt.eqv_refl _ (SeqAt.canLay_of_shaped sh)
  generalize (ts.take at_).map PyData.int ++ [bd] ++ (ts.drop at_).map PyData.int = ds at dt fl nl sh rfl_
  refine q_asgL (el_listX (x_vl (ev_var rfl) (sq_of (L7.at 0 rfl)))) fun p3 H8 hp3 e8 hx3 => ?_
  have L8 := L7.new hp3 e8 hx3
  have th : ∀ {H' : Hp}, Ex H7 H' → H' p2 = some (.lst ((ts.map V.int).take at_ ++ [x] ++ (ts.map V.int).drop at_)) → Th K H' (.ref p2) (.list ds) := fun e h => .of (.lst (sq_of h) (dt e))
  have ne_ : Ev (tOp (rNeD K) (tVar 6) (tVar 7)) [some v, some (.ref p0), some (.int (pl : Int)), some nv, some (.ref p1), some (.int (at_ : Int)), some (.ref p2), some (.ref p3), none] H8 (.bl false) := ev_op (ev_var rfl) (ev_var rfl) fun H9 e9 Q q => by
    refine ⟨_, _, .lst (sq_of ((L8.ex e9).at 1 rfl)) (dt (e8.trans e9)), .lst (sq_of ((L8.ex e9).at 0 rfl)) (dt (e8.trans e9)), sh, sh, ?_⟩
    rw [rfl_]
    exact q H9 (Ex.refl H9)
  have th8 := th e8 (L8.at 1 rfl)
  refine q_skip (et_or (et_test (ev_op (ev_is_laying (ev_var rfl) th8) ev_c rv_notB)) fun _ => et_or (et_not (et_B (ev_all (pl := pl) (ev_var rfl) (ev_var rfl) (ref_ nl rfl (L8.at 3 rfl)) th8 (not_lay_short nl)))) fun _ => et_test ne_) (by rw [nl]; rfl) fun H9 e9 => ?_
  have L9 := L8.ex e9
  have hv9 := mono_il _ _ _ L9.ext hv
  have la : ((ts.map V.int).take at_).length = at_ := by
    rw [List.length_take, len_mapI]
    omega
  have pm := pm_mod (cellAt ns 4 / 3)
  refine q_setL (j := at_) (L9.at 1 rfl) (ev_op (ev_op (ev_op (ev_cell (k := 4) (x_ilv rfl hv9) ev_c rfl) ev_c (rv_div ⟨by decide, by decide⟩)) ev_c (rv_mod (by decide))) ev_c rv_I0) (ev_var rfl) (ev_var rfl) (by rw [List.length_append, List.length_append, la]; show at_ < at_ + 1 + _; omega) fun H10 e10 => ?_
  have L10 := (L9.ex e10).put 1 (((ts.map V.int).take at_ ++ [x] ++ (ts.map V.int).drop at_).set at_ (V.int (cellAt ns 4 / 3 % 3 - 1))) rfl
  have es : ((ts.map V.int).take at_ ++ [x] ++ (ts.map V.int).drop at_).set at_ (V.int (cellAt ns 4 / 3 % 3 - 1)) = (ts.take at_ ++ [cellAt ns 4 / 3 % 3 - 1] ++ ts.drop at_).map V.int := by
    have z := set_mid (a := (ts.map V.int).take at_) (b := (ts.map V.int).drop at_) (x := x) (y := V.int (cellAt ns 4 / 3 % 3 - 1))
    rw [la] at z
    rw [z, List.map_append, List.map_append, List.map_take, List.map_drop]
    rfl
  rw [es] at L10 ⊢
  have lay2 : Few.Lay (ts.take at_ ++ [cellAt ns 4 / 3 % 3 - 1] ++ ts.drop at_) := Few.lay_append (Few.lay_append (Few.lay_take hts _) (Few.lay_cons pm Few.lay_nil)) (Few.lay_drop hts _)
  have lz : (ts.take at_ ++ [cellAt ns 4 / 3 % 3 - 1] ++ ts.drop at_).length ≤ 300 := by
    rw [List.length_append, List.length_append, List.length_take, List.length_drop]
    simp
    omega
  generalize ts.take at_ ++ [cellAt ns 4 / 3 % 3 - 1] ++ ts.drop at_ = us at lay2 lz L10
  have yes : isLayD (.list (us.map PyData.int)) = true := lay_ints lay2
  have th10 := il_th (K := K) (L10.il 1 rfl)
  have short : ShortD (.list (us.map PyData.int)) := fun ms e _ => by
    have e' : us = ms := ints_inj (PyData.list.inj e)
    rw [← e']
    omega
  have nil_ : EvX (tLst tNil) [some v, some (.ref p0), some (.int (pl : Int)), some nv, some (.ref p1), some (.int (at_ : Int)), some (.ref p2), some (.ref p3), none] (upd H10 p2 (.lst (us.map V.int))) (VL K ((truthsOf (.list (us.map PyData.int))).map V.bl)) := by
    unfold truthsOf
    rw [yes, if_pos rfl]
    exact x_vlL (el_lst ea_nil (by decide))
  refine q_skip (et_or (et_test (ev_op (ev_is_laying (ev_var rfl) th10) ev_c rv_notB)) fun _ => et_not (et_B (ev_all (pl := pl) (ev_var rfl) (ev_var rfl) nil_ th10 short))) (by rw [yes]; rfl) fun H11 e11 => ?_
  have L11 := L10.ex e11
  exact s_retV (v := .bl true) (ev_is (ev_op (ev_load_of (x_ilv rfl (L11.il 1 rfl)) lay2) (ev_l_load (x_ilv rfl (L11.il 1 rfl))) (rv_eq rfl)) (by simp)) (k.mono L11.ext)
end
end Fw

namespace Law
open PySem PySem.Spec PyProof.Rows L2 Evl Fw
def topS (i : Nat) : Stmt := PySem.Challenge.pw_fewstones_k10_no_laying.main.body.getD i (.Pass ⟨0, 0, 0, 0⟩)
abbrev s_is_whole : Stmt := topS 8
abbrev n_is_whole : List Str := ["thing"]
theorem sc_is_whole : FnScope n_is_whole ["thing"] (defScope s_is_whole) := ⟨rfl, rfl, rfl, by decide +kernel, rfl, by decide +kernel, by decide +kernel⟩
abbrev s_is_laying : Stmt := topS 9
abbrev n_is_laying : List Str := ["thing", "one"]
theorem sc_is_laying : FnScope n_is_laying ["thing"] (defScope s_is_laying) := ⟨rfl, rfl, rfl, by decide +kernel, rfl, by decide +kernel, by decide +kernel⟩
abbrev s_good_laying : Stmt := topS 10
abbrev n_good_laying : List Str := ["laying"]
theorem sc_good_laying : FnScope n_good_laying ["laying"] (defScope s_good_laying) := ⟨rfl, rfl, rfl, by decide +kernel, rfl, by decide +kernel, by decide +kernel⟩
abbrev s_good_load : Stmt := topS 11
abbrev n_good_load : List Str := ["load"]
theorem sc_good_load : FnScope n_good_load ["load"] (defScope s_good_load) := ⟨rfl, rfl, rfl, by decide +kernel, rfl, by decide +kernel, by decide +kernel⟩
abbrev s_load_of : Stmt := topS 12
abbrev n_load_of : List Str := ["laying", "load", "one"]
theorem sc_load_of : FnScope n_load_of ["laying"] (defScope s_load_of) := ⟨rfl, rfl, rfl, by decide +kernel, rfl, by decide +kernel, by decide +kernel⟩
abbrev s_stones : Stmt := topS 13
abbrev n_stones : List Str := ["laying", "many", "one"]
theorem sc_stones : FnScope n_stones ["laying"] (defScope s_stones) := ⟨rfl, rfl, rfl, by decide +kernel, rfl, by decide +kernel, by decide +kernel⟩
abbrev s_ended : Stmt := topS 14
abbrev n_ended : List Str := ["laying", "kept"]
theorem sc_ended : FnScope n_ended ["laying"] (defScope s_ended) := ⟨rfl, rfl, rfl, by decide +kernel, rfl, by decide +kernel, by decide +kernel⟩
abbrev s_is_neat : Stmt := topS 15
abbrev n_is_neat : List Str := ["laying", "before", "one"]
theorem sc_is_neat : FnScope n_is_neat ["laying"] (defScope s_is_neat) := ⟨rfl, rfl, rfl, by decide +kernel, rfl, by decide +kernel, by decide +kernel⟩
abbrev s_laid : Stmt := topS 16
abbrev n_laid : List Str := ["load", "rest", "found", "one"]
theorem sc_laid : FnScope n_laid ["load"] (defScope s_laid) := ⟨rfl, rfl, rfl, by decide +kernel, rfl, by decide +kernel, by decide +kernel⟩
abbrev s_sign_of : Stmt := topS 18
abbrev n_sign_of : List Str := ["one"]
theorem sc_sign_of : FnScope n_sign_of ["one"] (defScope s_sign_of) := ⟨rfl, rfl, rfl, by decide +kernel, rfl, by decide +kernel, by decide +kernel⟩
abbrev s_shown : Stmt := topS 19
abbrev n_shown : List Str := ["laying", "signs", "one"]
theorem sc_shown : FnScope n_shown ["laying"] (defScope s_shown) := ⟨rfl, rfl, rfl, by decide +kernel, rfl, by decide +kernel, by decide +kernel⟩
abbrev s_neat : Stmt := topS 21
abbrev n_neat : List Str := ["laying"]
theorem sc_neat : FnScope n_neat ["laying"] (defScope s_neat) := ⟨rfl, rfl, rfl, by decide +kernel, rfl, by decide +kernel, by decide +kernel⟩
abbrev s_turned : Stmt := topS 22
abbrev n_turned : List Str := ["laying", "one"]
theorem sc_turned : FnScope n_turned ["laying"] (defScope s_turned) := ⟨rfl, rfl, rfl, by decide +kernel, rfl, by decide +kernel, by decide +kernel⟩
abbrev s_plus : Stmt := topS 23
abbrev n_plus : List Str := ["one", "other"]
theorem sc_plus : FnScope n_plus ["one", "other"] (defScope s_plus) := ⟨rfl, rfl, rfl, by decide +kernel, rfl, by decide +kernel, by decide +kernel⟩
abbrev s_heavier : Stmt := topS 24
abbrev n_heavier : List Str := ["one", "other", "first", "second"]
theorem sc_heavier : FnScope n_heavier ["one", "other"] (defScope s_heavier) := ⟨rfl, rfl, rfl, by decide +kernel, rfl, by decide +kernel, by decide +kernel⟩
abbrev s_parted : Stmt := topS 25
abbrev n_parted : List Str := ["laying", "place", "things"]
theorem sc_parted : FnScope n_parted ["laying", "place"] (defScope s_parted) := ⟨rfl, rfl, rfl, by decide +kernel, rfl, by decide +kernel, by decide +kernel⟩
abbrev s_l_cell_at : Stmt := topS 27
abbrev n_l_cell_at : List Str := ["_law_script", "_law_k"]
theorem sc_l_cell_at : FnScope n_l_cell_at ["_law_script", "_law_k"] (defScope s_l_cell_at) := ⟨rfl, rfl, rfl, by decide +kernel, rfl, by decide +kernel, by decide +kernel⟩
abbrev s_l_load : Stmt := topS 28
abbrev n_l_load : List Str := ["_law_things", "_law_load_here", "_law_thing"]
theorem sc_l_load : FnScope n_l_load ["_law_things"] (defScope s_l_load) := ⟨rfl, rfl, rfl, by decide +kernel, rfl, by decide +kernel, by decide +kernel⟩
abbrev s_l_bad : Stmt := topS 29
abbrev n_l_bad : List Str := ["_law_cell"]
theorem sc_l_bad : FnScope n_l_bad ["_law_cell"] (defScope s_l_bad) := ⟨rfl, rfl, rfl, by decide +kernel, rfl, by decide +kernel, by decide +kernel⟩
abbrev s_l_no_list : Stmt := topS 30
abbrev n_l_no_list : List Str := ["_law_cell"]
theorem sc_l_no_list : FnScope n_l_no_list ["_law_cell"] (defScope s_l_no_list) := ⟨rfl, rfl, rfl, by decide +kernel, rfl, by decide +kernel, by decide +kernel⟩
abbrev s_l_asked : Stmt := topS 31
abbrev n_l_asked : List Str := ["_law_way", "_law_thing", "_law_place"]
theorem sc_l_asked : FnScope n_l_asked ["_law_way", "_law_thing", "_law_place"] (defScope s_l_asked) := ⟨rfl, rfl, rfl, by decide +kernel, rfl, by decide +kernel, by decide +kernel⟩
abbrev s_l_truths : Stmt := topS 32
abbrev n_l_truths : List Str := ["_law_way", "_law_thing", "_law_place", "_law_truths_here", "e"]
theorem sc_l_truths : FnScope n_l_truths ["_law_way", "_law_thing", "_law_place"] (defScope s_l_truths) := ⟨rfl, rfl, rfl, by decide +kernel, rfl, by decide +kernel, by decide +kernel⟩
abbrev s_l_all : Stmt := topS 33
abbrev n_l_all : List Str := ["_law_thing", "_law_place", "_law_due", "_law_way"]
theorem sc_l_all : FnScope n_l_all ["_law_thing", "_law_place", "_law_due"] (defScope s_l_all) := ⟨rfl, rfl, rfl, by decide +kernel, rfl, by decide +kernel, by decide +kernel⟩
abbrev s_law : Stmt := topS 34
abbrev n_law : List Str := ["_law_script", "_law_refused", "_law_place", "_law_none", "_law_things", "_law_at", "_law_handed", "_law_kept", "_law_cell"]
theorem sc_law : FnScope n_law ["_law_script"] (defScope s_law) := ⟨rfl, rfl, rfl, by decide +kernel, rfl, by decide +kernel, by decide +kernel⟩
structure Fs where
  a_is_whole : Addr
  d_is_whole : FuncData
  a_is_laying : Addr
  d_is_laying : FuncData
  a_good_laying : Addr
  d_good_laying : FuncData
  a_good_load : Addr
  d_good_load : FuncData
  a_load_of : Addr
  d_load_of : FuncData
  a_stones : Addr
  d_stones : FuncData
  a_ended : Addr
  d_ended : FuncData
  a_is_neat : Addr
  d_is_neat : FuncData
  a_laid : Addr
  d_laid : FuncData
  a_sign_of : Addr
  d_sign_of : FuncData
  a_shown : Addr
  d_shown : FuncData
  a_neat : Addr
  d_neat : FuncData
  a_turned : Addr
  d_turned : FuncData
  a_plus : Addr
  d_plus : FuncData
  a_heavier : Addr
  d_heavier : FuncData
  a_parted : Addr
  d_parted : FuncData
  a_l_cell_at : Addr
  d_l_cell_at : FuncData
  a_l_load : Addr
  d_l_load : FuncData
  a_l_bad : Addr
  d_l_bad : FuncData
  a_l_no_list : Addr
  d_l_no_list : FuncData
  a_l_asked : Addr
  d_l_asked : FuncData
  a_l_truths : Addr
  d_l_truths : FuncData
  a_l_all : Addr
  d_l_all : FuncData
  a_law : Addr
  d_law : FuncData
structure Txt (K : PySem.W.Frag) (mg : Str → Option Value) (A : Ad) (F : Fs) : Prop where
  f_is_whole : Fun K "is_whole" "is_whole" s_is_whole F.a_is_whole F.d_is_whole
  b_is_whole : Binds K F.d_is_whole ["thing"] []
  g_is_whole : mg "is_whole" = some (.ref F.a_is_whole)
  f_is_laying : Fun K "is_laying" "is_laying" s_is_laying F.a_is_laying F.d_is_laying
  b_is_laying : Binds K F.d_is_laying ["thing"] []
  g_is_laying : mg "is_laying" = some (.ref F.a_is_laying)
  f_good_laying : Fun K "good_laying" "good_laying" s_good_laying F.a_good_laying F.d_good_laying
  b_good_laying : Binds K F.d_good_laying ["laying"] []
  g_good_laying : mg "good_laying" = some (.ref F.a_good_laying)
  f_good_load : Fun K "good_load" "good_load" s_good_load F.a_good_load F.d_good_load
  b_good_load : Binds K F.d_good_load ["load"] []
  g_good_load : mg "good_load" = some (.ref F.a_good_load)
  f_load_of : Fun K "load_of" "load_of" s_load_of F.a_load_of F.d_load_of
  b_load_of : Binds K F.d_load_of ["laying"] []
  g_load_of : mg "load_of" = some (.ref F.a_load_of)
  f_stones : Fun K "stones" "stones" s_stones F.a_stones F.d_stones
  b_stones : Binds K F.d_stones ["laying"] []
  g_stones : mg "stones" = some (.ref F.a_stones)
  f_ended : Fun K "ended" "ended" s_ended F.a_ended F.d_ended
  b_ended : Binds K F.d_ended ["laying"] []
  g_ended : mg "ended" = some (.ref F.a_ended)
  f_is_neat : Fun K "is_neat" "is_neat" s_is_neat F.a_is_neat F.d_is_neat
  b_is_neat : Binds K F.d_is_neat ["laying"] []
  g_is_neat : mg "is_neat" = some (.ref F.a_is_neat)
  f_laid : Fun K "laid" "laid" s_laid F.a_laid F.d_laid
  b_laid : Binds K F.d_laid ["load"] []
  g_laid : mg "laid" = some (.ref F.a_laid)
  f_sign_of : Fun K "sign_of" "sign_of" s_sign_of F.a_sign_of F.d_sign_of
  b_sign_of : Binds K F.d_sign_of ["one"] []
  g_sign_of : mg "sign_of" = some (.ref F.a_sign_of)
  f_shown : Fun K "shown" "shown" s_shown F.a_shown F.d_shown
  b_shown : Binds K F.d_shown ["laying"] []
  g_shown : mg "shown" = some (.ref F.a_shown)
  f_neat : Fun K "neat" "neat" s_neat F.a_neat F.d_neat
  b_neat : Binds K F.d_neat ["laying"] []
  g_neat : mg "neat" = some (.ref F.a_neat)
  f_turned : Fun K "turned" "turned" s_turned F.a_turned F.d_turned
  b_turned : Binds K F.d_turned ["laying"] []
  g_turned : mg "turned" = some (.ref F.a_turned)
  f_plus : Fun K "plus" "plus" s_plus F.a_plus F.d_plus
  b_plus : Binds K F.d_plus ["one", "other"] []
  g_plus : mg "plus" = some (.ref F.a_plus)
  f_heavier : Fun K "heavier" "heavier" s_heavier F.a_heavier F.d_heavier
  b_heavier : Binds K F.d_heavier ["one", "other"] []
  g_heavier : mg "heavier" = some (.ref F.a_heavier)
  f_parted : Fun K "parted" "parted" s_parted F.a_parted F.d_parted
  b_parted : Binds K F.d_parted ["laying", "place"] []
  g_parted : mg "parted" = some (.ref F.a_parted)
  f_l_cell_at : Fun K "_law_cell_at" "_law_cell_at" s_l_cell_at F.a_l_cell_at F.d_l_cell_at
  b_l_cell_at : Binds K F.d_l_cell_at ["_law_script", "_law_k"] []
  g_l_cell_at : mg "_law_cell_at" = some (.ref F.a_l_cell_at)
  f_l_load : Fun K "_law_load" "_law_load" s_l_load F.a_l_load F.d_l_load
  b_l_load : Binds K F.d_l_load ["_law_things"] []
  g_l_load : mg "_law_load" = some (.ref F.a_l_load)
  f_l_bad : Fun K "_law_bad" "_law_bad" s_l_bad F.a_l_bad F.d_l_bad
  b_l_bad : Binds K F.d_l_bad ["_law_cell"] []
  g_l_bad : mg "_law_bad" = some (.ref F.a_l_bad)
  f_l_no_list : Fun K "_law_no_list" "_law_no_list" s_l_no_list F.a_l_no_list F.d_l_no_list
  b_l_no_list : Binds K F.d_l_no_list ["_law_cell"] []
  g_l_no_list : mg "_law_no_list" = some (.ref F.a_l_no_list)
  f_l_asked : Fun K "_law_asked" "_law_asked" s_l_asked F.a_l_asked F.d_l_asked
  b_l_asked : Binds K F.d_l_asked ["_law_way", "_law_thing", "_law_place"] []
  g_l_asked : mg "_law_asked" = some (.ref F.a_l_asked)
  f_l_truths : Fun K "_law_truths" "_law_truths" s_l_truths F.a_l_truths F.d_l_truths
  b_l_truths : Binds K F.d_l_truths ["_law_way", "_law_thing", "_law_place"] []
  g_l_truths : mg "_law_truths" = some (.ref F.a_l_truths)
  f_l_all : Fun K "_law_all" "_law_all" s_l_all F.a_l_all F.d_l_all
  b_l_all : Binds K F.d_l_all ["_law_thing", "_law_place", "_law_due"] []
  g_l_all : mg "_law_all" = some (.ref F.a_l_all)
  f_law : Fun K "law" "law" s_law F.a_law F.d_law
  b_law : Binds K F.d_law ["_law_script"] []
  g_law : mg "law" = some (.ref F.a_law)
  n_ValueError : mg "ValueError" = none
  n_bool : mg "bool" = none
  n_int : mg "int" = none
  n_isinstance : mg "isinstance" = none
  n_len : mg "len" = none
  n_list : mg "list" = none
  n_range : mg "range" = none
  n_reversed : mg "reversed" = none
  g_NoDeed : mg "NoDeed" = some (.ref A.deed)
  x_NoDeed : PySem.W.excIn K A.deed [.type "ValueError", .type "Exception", .type "BaseException", .type "object"] "ValueError.__new__" = true
  k_NoDeed : PySem.W.keepIn K (.ref A.deed) = true
  s_NoDeed : PySem.W.subIn K (.ref A.deed) (.type "BaseException") = some true
  t_NoDeed : PySem.W.typeIn K (.ref A.deed) = some (.type "type")
  g_NoLaying : mg "NoLaying" = some (.ref A.laying)
  x_NoLaying : PySem.W.excIn K A.laying [.type "ValueError", .type "Exception", .type "BaseException", .type "object"] "ValueError.__new__" = true
  k_NoLaying : PySem.W.keepIn K (.ref A.laying) = true
  s_NoLaying : PySem.W.subIn K (.ref A.laying) (.type "BaseException") = some true
  t_NoLaying : PySem.W.typeIn K (.ref A.laying) = some (.type "type")
  g_NoLoad : mg "NoLoad" = some (.ref A.load)
  x_NoLoad : PySem.W.excIn K A.load [.type "ValueError", .type "Exception", .type "BaseException", .type "object"] "ValueError.__new__" = true
  k_NoLoad : PySem.W.keepIn K (.ref A.load) = true
  s_NoLoad : PySem.W.subIn K (.ref A.load) (.type "BaseException") = some true
  t_NoLoad : PySem.W.typeIn K (.ref A.load) = some (.type "type")
  g_NoPlan : mg "NoPlan" = some (.ref A.plan)
  x_NoPlan : PySem.W.excIn K A.plan [.type "ValueError", .type "Exception", .type "BaseException", .type "object"] "ValueError.__new__" = true
  k_NoPlan : PySem.W.keepIn K (.ref A.plan) = true
  s_NoPlan : PySem.W.subIn K (.ref A.plan) (.type "BaseException") = some true
  t_NoPlan : PySem.W.typeIn K (.ref A.plan) = some (.type "type")
  g_NoText : mg "NoText" = some (.ref A.text)
  x_NoText : PySem.W.excIn K A.text [.type "ValueError", .type "Exception", .type "BaseException", .type "object"] "ValueError.__new__" = true
  k_NoText : PySem.W.keepIn K (.ref A.text) = true
  s_NoText : PySem.W.subIn K (.ref A.text) (.type "BaseException") = some true
  t_NoText : PySem.W.typeIn K (.ref A.text) = some (.type "type")
  g_StoneError : mg "StoneError" = some (.ref A.stone)
  x_StoneError : PySem.W.excIn K A.stone [.type "ValueError", .type "Exception", .type "BaseException", .type "object"] "ValueError.__new__" = true
  k_StoneError : PySem.W.keepIn K (.ref A.stone) = true
  s_StoneError : PySem.W.subIn K (.ref A.stone) (.type "BaseException") = some true
  t_StoneError : PySem.W.typeIn K (.ref A.stone) = some (.type "type")
  xc_laying : ExcC K A.laying
  ct_laying : Caught K A A.laying true false false false false
section
variable {P : Program} {w : World} {K : PySem.W.Frag} {mg : Str → Option Value} {base : Heap} {A : Ad} {F : Fs}
theorem ok_is_whole (T : Txt K mg A F) : FnOk P w K mg base CX0 1 F.a_is_whole F.d_is_whole ["thing"] (sp_is_whole K A) := by
  refine T.f_is_whole.ok sc_is_whole (fun vs H Q E h => ?_) (fun cdv Ar outer s H vs Q E hr h => ⟨t_is_whole K A, ?_, r_is_whole h⟩)
  · first | (obtain ⟨_, rfl, _⟩ := h; rfl) | (obtain ⟨_, _, rfl, _⟩ := h; rfl) | (obtain ⟨_, _, _, rfl, _⟩ := h; rfl) | (obtain ⟨_, _, _, _, rfl, _⟩ := h; rfl) | (obtain ⟨_, _, _, _, _, rfl, _⟩ := h; rfl) | (obtain ⟨_, _, _, _, _, _, rfl, _⟩ := h; rfl) | (obtain ⟨_, _, _, _, _, _, _, rfl, _⟩ := h; rfl) | (obtain ⟨_, _, _, _, _, _, _, _, rfl, _⟩ := h; rfl)
  · exact (pss_one (ps_ret (pe_and (pe_callB call_isi (by rfl) T.n_isinstance (by decide +kernel) (pa_cons (pv 0) (pa_cons (pe_bltn (by rfl) T.n_int (by decide +kernel) rfl) pa_nil))) (pe_one (pe_not (pe_callB call_isi (by rfl) T.n_isinstance (by decide +kernel) (pa_cons (pv 0) (pa_cons (pe_bltn (by rfl) T.n_bool (by decide +kernel) rfl) pa_nil))))))))
theorem ok_is_laying (T : Txt K mg A F) : FnOk P w K mg base CX0 2 F.a_is_laying F.d_is_laying ["thing"] (sp_is_laying K A) := by
  refine T.f_is_laying.ok sc_is_laying (fun vs H Q E h => ?_) (fun cdv Ar outer s H vs Q E hr h => ⟨t_is_laying K A, ?_, r_is_laying h⟩)
  · first | (obtain ⟨_, rfl, _⟩ := h; rfl) | (obtain ⟨_, _, rfl, _⟩ := h; rfl) | (obtain ⟨_, _, _, rfl, _⟩ := h; rfl) | (obtain ⟨_, _, _, _, rfl, _⟩ := h; rfl) | (obtain ⟨_, _, _, _, _, rfl, _⟩ := h; rfl) | (obtain ⟨_, _, _, _, _, _, rfl, _⟩ := h; rfl) | (obtain ⟨_, _, _, _, _, _, _, rfl, _⟩ := h; rfl) | (obtain ⟨_, _, _, _, _, _, _, _, rfl, _⟩ := h; rfl)
  · exact (pss_cons (ps_if (pt_not (pt_val (pe_callB call_isi (by rfl) T.n_isinstance (by decide +kernel) (pa_cons (pv 0) (pa_cons (pe_bltn (by rfl) T.n_list (by decide +kernel) rfl) pa_nil))))) (pss_one (ps_ret pe_bl)) pss_nil)
    (pss_cons (ps_for PassesOwn.never rfl (pi_list (pv 0)) (pg_name (i := 1) sc_is_laying.nd rfl (Or.inl rfl)) (pss_one (ps_if (PW.pt (pw_or (pt_not (pt_val (pe_call (ok_is_whole T) (hr.mono (by decide)) rfl T.g_is_whole T.f_is_whole.kp T.b_is_whole .nil pass0 (pa_cons (pv 1) pa_nil)))) (pw_or (pt_cmpR op_lt (pv 1) (pe_un un_neg pe_int) (nomark _)) (pw_or1 (pt_cmpR op_gt (pv 1) pe_int (nomark _)))))) (pss_one (ps_ret pe_bl)) pss_nil)))
    (pss_one (ps_ret pe_bl))))
theorem ok_good_laying (T : Txt K mg A F) : FnOk P w K mg base (L2.CX P w) 3 F.a_good_laying F.d_good_laying ["laying"] (sp_good_laying K A) := by
  refine T.f_good_laying.okX sc_good_laying (fun vs H Q E h => ?_) (fun cdv Ar outer s H vs Q E hr h => ⟨t_good_laying K A E, ?_, r_good_laying h⟩)
  · first | (obtain ⟨_, rfl, _⟩ := h; rfl) | (obtain ⟨_, _, rfl, _⟩ := h; rfl) | (obtain ⟨_, _, _, rfl, _⟩ := h; rfl) | (obtain ⟨_, _, _, _, rfl, _⟩ := h; rfl) | (obtain ⟨_, _, _, _, _, rfl, _⟩ := h; rfl) | (obtain ⟨_, _, _, _, _, _, rfl, _⟩ := h; rfl) | (obtain ⟨_, _, _, _, _, _, _, rfl, _⟩ := h; rfl) | (obtain ⟨_, _, _, _, _, _, _, _, rfl, _⟩ := h; rfl)
  · exact (pss_cons (ps_if (pt_not (pt_val (pe_call (ok_is_laying T) (hr.mono (by decide)) rfl T.g_is_laying T.f_is_laying.kp T.b_is_laying .nil pass0 (pa_cons (pv 0) pa_nil)))) (pss_one (ps_raise rfl (takes_of rfl rfl rfl rfl) (pmk_own PySem.F.excBase_ValueError T.x_NoLaying T.g_NoLaying T.k_NoLaying (raises_own T.s_NoLaying T.t_NoLaying) (by rfl)))) pss_nil)
    (pss_one (ps_ret (pv 0))))
theorem ok_good_load (T : Txt K mg A F) : FnOk P w K mg base (L2.CX P w) 2 F.a_good_load F.d_good_load ["load"] (sp_good_load K A) := by
  refine T.f_good_load.okX sc_good_load (fun vs H Q E h => ?_) (fun cdv Ar outer s H vs Q E hr h => ⟨t_good_load K A E, ?_, r_good_load h⟩)
  · first | (obtain ⟨_, rfl, _⟩ := h; rfl) | (obtain ⟨_, _, rfl, _⟩ := h; rfl) | (obtain ⟨_, _, _, rfl, _⟩ := h; rfl) | (obtain ⟨_, _, _, _, rfl, _⟩ := h; rfl) | (obtain ⟨_, _, _, _, _, rfl, _⟩ := h; rfl) | (obtain ⟨_, _, _, _, _, _, rfl, _⟩ := h; rfl) | (obtain ⟨_, _, _, _, _, _, _, rfl, _⟩ := h; rfl) | (obtain ⟨_, _, _, _, _, _, _, _, rfl, _⟩ := h; rfl)
  · exact (pss_cons (ps_if (pt_not (pt_val (pe_call (ok_is_whole T) (hr.mono (by decide)) rfl T.g_is_whole T.f_is_whole.kp T.b_is_whole .nil pass0 (pa_cons (pv 0) pa_nil)))) (pss_one (ps_raise rfl (takes_of rfl rfl rfl rfl) (pmk_own PySem.F.excBase_ValueError T.x_NoLoad T.g_NoLoad T.k_NoLoad (raises_own T.s_NoLoad T.t_NoLoad) (by rfl)))) pss_nil)
    (pss_one (ps_ret (pv 0))))
theorem ok_load_of (T : Txt K mg A F) : FnOk P w K mg base (L2.CX P w) 4 F.a_load_of F.d_load_of ["laying"] (sp_load_of K A) := by
  refine T.f_load_of.okX sc_load_of (fun vs H Q E h => ?_) (fun cdv Ar outer s H vs Q E hr h => ⟨t_load_of K A E, ?_, r_load_of h⟩)
  · first | (obtain ⟨_, rfl, _⟩ := h; rfl) | (obtain ⟨_, _, rfl, _⟩ := h; rfl) | (obtain ⟨_, _, _, rfl, _⟩ := h; rfl) | (obtain ⟨_, _, _, _, rfl, _⟩ := h; rfl) | (obtain ⟨_, _, _, _, _, rfl, _⟩ := h; rfl) | (obtain ⟨_, _, _, _, _, _, rfl, _⟩ := h; rfl) | (obtain ⟨_, _, _, _, _, _, _, rfl, _⟩ := h; rfl) | (obtain ⟨_, _, _, _, _, _, _, _, rfl, _⟩ := h; rfl)
  · exact (pss_cons (ps_set (i := 1) sc_load_of.nd rfl (Or.inl rfl) pe_int)
    (pss_cons (ps_for (passes_of rfl) rfl (pi_reversed (by rfl) T.n_reversed (pa_cons (pe_call (ok_good_laying T) (hr.mono (by decide)) rfl T.g_good_laying T.f_good_laying.kp T.b_good_laying .nil (passes_call (takes_of rfl rfl rfl rfl) (fun _ _ _ _ h => h)) (pa_cons (pv 0) pa_nil)) pa_nil)) (pg_name (i := 2) sc_load_of.nd rfl (Or.inl rfl)) (pss_one (ps_set (i := 1) sc_load_of.nd rfl (Or.inl rfl) (pe_op op_add (pe_op op_mul pe_int (pv 1)) (pv 2)))))
    (pss_one (ps_ret (pv 1)))))
theorem ok_stones (T : Txt K mg A F) : FnOk P w K mg base (L2.CX P w) 4 F.a_stones F.d_stones ["laying"] (sp_stones K A) := by
  refine T.f_stones.okX sc_stones (fun vs H Q E h => ?_) (fun cdv Ar outer s H vs Q E hr h => ⟨t_stones K A E, ?_, r_stones h⟩)
  · first | (obtain ⟨_, rfl, _⟩ := h; rfl) | (obtain ⟨_, _, rfl, _⟩ := h; rfl) | (obtain ⟨_, _, _, rfl, _⟩ := h; rfl) | (obtain ⟨_, _, _, _, rfl, _⟩ := h; rfl) | (obtain ⟨_, _, _, _, _, rfl, _⟩ := h; rfl) | (obtain ⟨_, _, _, _, _, _, rfl, _⟩ := h; rfl) | (obtain ⟨_, _, _, _, _, _, _, rfl, _⟩ := h; rfl) | (obtain ⟨_, _, _, _, _, _, _, _, rfl, _⟩ := h; rfl)
  · exact (pss_cons (ps_set (i := 1) sc_stones.nd rfl (Or.inl rfl) pe_int)
    (pss_cons (ps_for (passes_of rfl) rfl (pi_list (pe_call (ok_good_laying T) (hr.mono (by decide)) rfl T.g_good_laying T.f_good_laying.kp T.b_good_laying .nil (passes_call (takes_of rfl rfl rfl rfl) (fun _ _ _ _ h => h)) (pa_cons (pv 0) pa_nil))) (pg_name (i := 2) sc_stones.nd rfl (Or.inl rfl)) (pss_one (ps_if (pt_cmpR op_ne (pv 2) pe_int (nomark _)) (pss_one (ps_aug (i := 1) sc_stones.nd rfl (Or.inl rfl) pe_int ip_add)) pss_nil)))
    (pss_one (ps_ret (pv 1)))))
theorem ok_ended (T : Txt K mg A F) : FnOk P w K mg base (L2.CX P w) 4 F.a_ended F.d_ended ["laying"] (sp_ended K A) := by
  refine T.f_ended.okX sc_ended (fun vs H Q E h => ?_) (fun cdv Ar outer s H vs Q E hr h => ⟨t_ended K A E, ?_, r_ended h⟩)
  · first | (obtain ⟨_, rfl, _⟩ := h; rfl) | (obtain ⟨_, _, rfl, _⟩ := h; rfl) | (obtain ⟨_, _, _, rfl, _⟩ := h; rfl) | (obtain ⟨_, _, _, _, rfl, _⟩ := h; rfl) | (obtain ⟨_, _, _, _, _, rfl, _⟩ := h; rfl) | (obtain ⟨_, _, _, _, _, _, rfl, _⟩ := h; rfl) | (obtain ⟨_, _, _, _, _, _, _, rfl, _⟩ := h; rfl) | (obtain ⟨_, _, _, _, _, _, _, _, rfl, _⟩ := h; rfl)
  · exact (pss_cons (ps_set (i := 1) sc_ended.nd rfl (Or.inl rfl) (pe_callTy call_list_of (by rfl) T.n_list (by decide +kernel) (pa_cons (pe_call (ok_good_laying T) (hr.mono (by decide)) rfl T.g_good_laying T.f_good_laying.kp T.b_good_laying .nil (passes_call (takes_of rfl rfl rfl rfl) (fun _ _ _ _ h => h)) (pa_cons (pv 0) pa_nil)) pa_nil)))
    (pss_cons (ps_while (passes_of rfl) (PW.pt (pw_and (pt_cmpR op_gt (pe_callB call_len_seq (by rfl) T.n_len (by decide +kernel) (pa_cons (pv 1) pa_nil)) pe_int (nomark _)) (pw_and1 (pt_cmpR op_eq (pe_ix ix_list (pv 1) (pe_un un_neg pe_int) (fun _ _ => rfl)) pe_int (nomark _))))) (pss_one (ps_expr (pe_bm0 PySem.F.plainAttrs_list PySem.F.slot_list_pop PySem.F.type_list_pop mt_pop (pv 1)))))
    (pss_one (ps_ret (pv 1)))))
theorem ok_is_neat (T : Txt K mg A F) : FnOk P w K mg base (L2.CX P w) 4 F.a_is_neat F.d_is_neat ["laying"] (sp_is_neat K A) := by
  refine T.f_is_neat.okX sc_is_neat (fun vs H Q E h => ?_) (fun cdv Ar outer s H vs Q E hr h => ⟨t_is_neat K A E, ?_, r_is_neat h⟩)
  · first | (obtain ⟨_, rfl, _⟩ := h; rfl) | (obtain ⟨_, _, rfl, _⟩ := h; rfl) | (obtain ⟨_, _, _, rfl, _⟩ := h; rfl) | (obtain ⟨_, _, _, _, rfl, _⟩ := h; rfl) | (obtain ⟨_, _, _, _, _, rfl, _⟩ := h; rfl) | (obtain ⟨_, _, _, _, _, _, rfl, _⟩ := h; rfl) | (obtain ⟨_, _, _, _, _, _, _, rfl, _⟩ := h; rfl) | (obtain ⟨_, _, _, _, _, _, _, _, rfl, _⟩ := h; rfl)
  · exact (pss_cons (ps_set (i := 1) sc_is_neat.nd rfl (Or.inl rfl) pe_int)
    (pss_cons (ps_for (passes_of rfl) rfl (pi_list (pe_call (ok_good_laying T) (hr.mono (by decide)) rfl T.g_good_laying T.f_good_laying.kp T.b_good_laying .nil (passes_call (takes_of rfl rfl rfl rfl) (fun _ _ _ _ h => h)) (pa_cons (pv 0) pa_nil))) (pg_name (i := 2) sc_is_neat.nd rfl (Or.inl rfl)) (pss_cons (ps_if (PW.pt (pw_and (pt_cmpR op_ne (pv 1) pe_int (nomark _)) (pw_and1 (pt_cmpR op_ne (pv 2) pe_int (nomark _))))) (pss_one (ps_ret pe_bl)) pss_nil)
    (pss_one (ps_set (i := 1) sc_is_neat.nd rfl (Or.inl rfl) (pv 2)))))
    (pss_one (ps_ret (pe_or (pe_cmpR (op_eqD hr.units) (pv 0) (pe_lst pa_nil) (nomark _)) (pe_one (pe_cmpR op_ne (pv 1) pe_int (nomark _))))))))
theorem ok_laid (T : Txt K mg A F) : FnOk P w K mg base (L2.CX P w) 3 F.a_laid F.d_laid ["load"] (sp_laid K A) := by
  refine T.f_laid.okX sc_laid (fun vs H Q E h => ?_) (fun cdv Ar outer s H vs Q E hr h => ⟨t_laid K A E, ?_, r_laid h⟩)
  · first | (obtain ⟨_, rfl, _⟩ := h; rfl) | (obtain ⟨_, _, rfl, _⟩ := h; rfl) | (obtain ⟨_, _, _, rfl, _⟩ := h; rfl) | (obtain ⟨_, _, _, _, rfl, _⟩ := h; rfl) | (obtain ⟨_, _, _, _, _, rfl, _⟩ := h; rfl) | (obtain ⟨_, _, _, _, _, _, rfl, _⟩ := h; rfl) | (obtain ⟨_, _, _, _, _, _, _, rfl, _⟩ := h; rfl) | (obtain ⟨_, _, _, _, _, _, _, _, rfl, _⟩ := h; rfl)
  · exact (pss_cons (ps_set (i := 1) sc_laid.nd rfl (Or.inl rfl) (pe_call (ok_good_load T) (hr.mono (by decide)) rfl T.g_good_load T.f_good_load.kp T.b_good_load .nil (passes_call (takes_of rfl rfl rfl rfl) (fun _ _ _ _ h => h)) (pa_cons (pv 0) pa_nil)))
    (pss_cons (ps_set (i := 2) sc_laid.nd rfl (Or.inl rfl) (pe_lst pa_nil))
    (pss_cons (ps_while (passes_of rfl) (pt_cmpR op_ne (pv 1) pe_int (nomark _)) (pss_cons (ps_set (i := 3) sc_laid.nd rfl (Or.inl rfl) pe_int)
    (pss_cons (ps_if (pt_cmpR op_eq (pe_op op_mod (pv 1) pe_int) pe_int (nomark _)) (pss_one (ps_set (i := 3) sc_laid.nd rfl (Or.inl rfl) (pe_op op_sub pe_int (pe_op op_mod (pv 1) pe_int)))) pss_nil)
    (pss_cons (ps_expr (pe_bm PySem.F.plainAttrs_list PySem.F.slot_list_append PySem.F.type_list_append mt_append (pv 2) (pa_cons (pv 3) pa_nil)))
    (pss_one (ps_set (i := 1) sc_laid.nd rfl (Or.inl rfl) (pe_op op_fdiv (pe_op op_sub (pv 1) (pv 3)) pe_int)))))))
    (pss_one (ps_ret (pv 2))))))
theorem ok_sign_of (T : Txt K mg A F) : FnOk P w K mg base CX0 1 F.a_sign_of F.d_sign_of ["one"] (sp_sign_of K A) := by
  refine T.f_sign_of.ok sc_sign_of (fun vs H Q E h => ?_) (fun cdv Ar outer s H vs Q E hr h => ⟨t_sign_of K A, ?_, r_sign_of h⟩)
  · first | (obtain ⟨_, rfl, _⟩ := h; rfl) | (obtain ⟨_, _, rfl, _⟩ := h; rfl) | (obtain ⟨_, _, _, rfl, _⟩ := h; rfl) | (obtain ⟨_, _, _, _, rfl, _⟩ := h; rfl) | (obtain ⟨_, _, _, _, _, rfl, _⟩ := h; rfl) | (obtain ⟨_, _, _, _, _, _, rfl, _⟩ := h; rfl) | (obtain ⟨_, _, _, _, _, _, _, rfl, _⟩ := h; rfl) | (obtain ⟨_, _, _, _, _, _, _, _, rfl, _⟩ := h; rfl)
  · exact (pss_cons (ps_if (pt_cmpR op_eq (pv 0) pe_int (nomark _)) (pss_one (ps_ret pe_str)) pss_nil)
    (pss_cons (ps_if (pt_cmpR op_eq (pv 0) (pe_un un_neg pe_int) (nomark _)) (pss_one (ps_ret pe_str)) pss_nil)
    (pss_one (ps_ret pe_str))))
theorem ok_shown (T : Txt K mg A F) : FnOk P w K mg base (L2.CX P w) 5 F.a_shown F.d_shown ["laying"] (sp_shown K A) := by
  refine T.f_shown.okX sc_shown (fun vs H Q E h => ?_) (fun cdv Ar outer s H vs Q E hr h => ⟨t_shown K A E, ?_, r_shown h⟩)
  · first | (obtain ⟨_, rfl, _⟩ := h; rfl) | (obtain ⟨_, _, rfl, _⟩ := h; rfl) | (obtain ⟨_, _, _, rfl, _⟩ := h; rfl) | (obtain ⟨_, _, _, _, rfl, _⟩ := h; rfl) | (obtain ⟨_, _, _, _, _, rfl, _⟩ := h; rfl) | (obtain ⟨_, _, _, _, _, _, rfl, _⟩ := h; rfl) | (obtain ⟨_, _, _, _, _, _, _, rfl, _⟩ := h; rfl) | (obtain ⟨_, _, _, _, _, _, _, _, rfl, _⟩ := h; rfl)
  · exact (pss_cons (ps_setLc (i := 1) (own := [("one", 2)]) (g := gName 2) (tt := tYes) (by rfl) sc_shown.nd rfl rfl (sw_true rfl rfl rfl (by decide +kernel)) (pi_reversed (by rfl) T.n_reversed (pa_cons (pe_call (ok_ended T) (hr.mono (by decide)) rfl T.g_ended T.f_ended.kp T.b_ended .nil (passes_call (takes_of rfl rfl rfl rfl) (fun _ _ _ _ h => h)) (pa_cons (pv 0) pa_nil)) pa_nil)) (blkOk_by (own := [("one", 2)]) (N := n_shown) (sc := defScope s_shown) (by decide +kernel)) (fun _ _ _ _ _ => pg_name (i := 2) sc_shown.nd rfl (Or.inl rfl)) (fun _ _ _ _ _ => pts_nil) (fun _ _ _ _ _ => (pe_call (ok_sign_of T) (hr.mono (by decide)) rfl T.g_sign_of T.f_sign_of.kp T.b_sign_of .nil pass0 (pa_cons (pv 2) pa_nil))))
    (pss_cons (ps_if (pt_cmpR (op_eqD hr.units) (pv 1) (pe_lst pa_nil) (nomark _)) (pss_one (ps_ret pe_str)) pss_nil)
    (pss_one (ps_ret (pe_join pe_str (pv 1))))))
theorem ok_neat (T : Txt K mg A F) : FnOk P w K mg base (L2.CX P w) 5 F.a_neat F.d_neat ["laying"] (sp_neat K A) := by
  refine T.f_neat.okX sc_neat (fun vs H Q E h => ?_) (fun cdv Ar outer s H vs Q E hr h => ⟨t_neat K A E, ?_, r_neat h⟩)
  · first | (obtain ⟨_, rfl, _⟩ := h; rfl) | (obtain ⟨_, _, rfl, _⟩ := h; rfl) | (obtain ⟨_, _, _, rfl, _⟩ := h; rfl) | (obtain ⟨_, _, _, _, rfl, _⟩ := h; rfl) | (obtain ⟨_, _, _, _, _, rfl, _⟩ := h; rfl) | (obtain ⟨_, _, _, _, _, _, rfl, _⟩ := h; rfl) | (obtain ⟨_, _, _, _, _, _, _, rfl, _⟩ := h; rfl) | (obtain ⟨_, _, _, _, _, _, _, _, rfl, _⟩ := h; rfl)
  · exact (pss_one (ps_ret (pe_call (ok_laid T) (hr.mono (by decide)) rfl T.g_laid T.f_laid.kp T.b_laid .nil (passes_call (takes_of rfl rfl rfl rfl) (fun _ _ _ _ h => h)) (pa_cons (pe_call (ok_load_of T) (hr.mono (by decide)) rfl T.g_load_of T.f_load_of.kp T.b_load_of .nil (passes_call (takes_of rfl rfl rfl rfl) (fun _ _ _ _ h => h)) (pa_cons (pv 0) pa_nil)) pa_nil))))
theorem ok_turned (T : Txt K mg A F) : FnOk P w K mg base (L2.CX P w) 4 F.a_turned F.d_turned ["laying"] (sp_turned K A) := by
  refine T.f_turned.okX sc_turned (fun vs H Q E h => ?_) (fun cdv Ar outer s H vs Q E hr h => ⟨t_turned K A E, ?_, r_turned h⟩)
  · first | (obtain ⟨_, rfl, _⟩ := h; rfl) | (obtain ⟨_, _, rfl, _⟩ := h; rfl) | (obtain ⟨_, _, _, rfl, _⟩ := h; rfl) | (obtain ⟨_, _, _, _, rfl, _⟩ := h; rfl) | (obtain ⟨_, _, _, _, _, rfl, _⟩ := h; rfl) | (obtain ⟨_, _, _, _, _, _, rfl, _⟩ := h; rfl) | (obtain ⟨_, _, _, _, _, _, _, rfl, _⟩ := h; rfl) | (obtain ⟨_, _, _, _, _, _, _, _, rfl, _⟩ := h; rfl)
  · exact (pss_one (ps_ret (pe_lc (own := [("one", 1)]) (g := gName 1) (tt := tYes) (by rfl) sc_turned.nd (pi_list (pe_call (ok_good_laying T) (hr.mono (by decide)) rfl T.g_good_laying T.f_good_laying.kp T.b_good_laying .nil (passes_call (takes_of rfl rfl rfl rfl) (fun _ _ _ _ h => h)) (pa_cons (pv 0) pa_nil))) (blkOk_by (own := [("one", 1)]) (N := n_turned) (sc := defScope s_turned) (by decide +kernel)) (fun _ _ _ _ _ => pg_name (i := 1) sc_turned.nd rfl (Or.inl rfl)) (fun _ _ _ _ _ => pts_nil) (fun _ _ _ _ _ => (pe_un un_neg (pv 1))))))
theorem ok_plus (T : Txt K mg A F) : FnOk P w K mg base (L2.CX P w) 5 F.a_plus F.d_plus ["one", "other"] (sp_plus K A) := by
  refine T.f_plus.okX sc_plus (fun vs H Q E h => ?_) (fun cdv Ar outer s H vs Q E hr h => ⟨t_plus K A E, ?_, r_plus h⟩)
  · first | (obtain ⟨_, rfl, _⟩ := h; rfl) | (obtain ⟨_, _, rfl, _⟩ := h; rfl) | (obtain ⟨_, _, _, rfl, _⟩ := h; rfl) | (obtain ⟨_, _, _, _, rfl, _⟩ := h; rfl) | (obtain ⟨_, _, _, _, _, rfl, _⟩ := h; rfl) | (obtain ⟨_, _, _, _, _, _, rfl, _⟩ := h; rfl) | (obtain ⟨_, _, _, _, _, _, _, rfl, _⟩ := h; rfl) | (obtain ⟨_, _, _, _, _, _, _, _, rfl, _⟩ := h; rfl)
  · exact (pss_one (ps_ret (pe_call (ok_laid T) (hr.mono (by decide)) rfl T.g_laid T.f_laid.kp T.b_laid .nil (passes_call (takes_of rfl rfl rfl rfl) (fun _ _ _ _ h => h)) (pa_cons (pe_op op_add (pe_call (ok_load_of T) (hr.mono (by decide)) rfl T.g_load_of T.f_load_of.kp T.b_load_of .nil (passes_call (takes_of rfl rfl rfl rfl) (fun _ _ _ _ h => h)) (pa_cons (pv 0) pa_nil)) (pe_call (ok_load_of T) (hr.mono (by decide)) rfl T.g_load_of T.f_load_of.kp T.b_load_of .nil (passes_call (takes_of rfl rfl rfl rfl) (fun _ _ _ _ h => h)) (pa_cons (pv 1) pa_nil))) pa_nil))))
theorem ok_heavier (T : Txt K mg A F) : FnOk P w K mg base (L2.CX P w) 5 F.a_heavier F.d_heavier ["one", "other"] (sp_heavier K A) := by
  refine T.f_heavier.okX sc_heavier (fun vs H Q E h => ?_) (fun cdv Ar outer s H vs Q E hr h => ⟨t_heavier K A E, ?_, r_heavier h⟩)
  · first | (obtain ⟨_, rfl, _⟩ := h; rfl) | (obtain ⟨_, _, rfl, _⟩ := h; rfl) | (obtain ⟨_, _, _, rfl, _⟩ := h; rfl) | (obtain ⟨_, _, _, _, rfl, _⟩ := h; rfl) | (obtain ⟨_, _, _, _, _, rfl, _⟩ := h; rfl) | (obtain ⟨_, _, _, _, _, _, rfl, _⟩ := h; rfl) | (obtain ⟨_, _, _, _, _, _, _, rfl, _⟩ := h; rfl) | (obtain ⟨_, _, _, _, _, _, _, _, rfl, _⟩ := h; rfl)
  · exact (pss_cons (ps_set (i := 2) sc_heavier.nd rfl (Or.inl rfl) (pe_call (ok_load_of T) (hr.mono (by decide)) rfl T.g_load_of T.f_load_of.kp T.b_load_of .nil (passes_call (takes_of rfl rfl rfl rfl) (fun _ _ _ _ h => h)) (pa_cons (pv 0) pa_nil)))
    (pss_cons (ps_set (i := 3) sc_heavier.nd rfl (Or.inl rfl) (pe_call (ok_load_of T) (hr.mono (by decide)) rfl T.g_load_of T.f_load_of.kp T.b_load_of .nil (passes_call (takes_of rfl rfl rfl rfl) (fun _ _ _ _ h => h)) (pa_cons (pv 1) pa_nil)))
    (pss_cons (ps_if (pt_cmpR op_gt (pv 2) (pv 3) (nomark _)) (pss_one (ps_ret pe_int)) pss_nil)
    (pss_cons (ps_if (pt_cmpR op_lt (pv 2) (pv 3) (nomark _)) (pss_one (ps_ret (pe_un un_neg pe_int))) pss_nil)
    (pss_one (ps_ret pe_int))))))
theorem ok_parted (T : Txt K mg A F) : FnOk P w K mg base (L2.CX P w) 5 F.a_parted F.d_parted ["laying", "place"] (sp_parted K A) := by
  refine T.f_parted.okX sc_parted (fun vs H Q E h => ?_) (fun cdv Ar outer s H vs Q E hr h => ⟨t_parted K A E, ?_, r_parted h⟩)
  · first | (obtain ⟨_, rfl, _⟩ := h; rfl) | (obtain ⟨_, _, rfl, _⟩ := h; rfl) | (obtain ⟨_, _, _, rfl, _⟩ := h; rfl) | (obtain ⟨_, _, _, _, rfl, _⟩ := h; rfl) | (obtain ⟨_, _, _, _, _, rfl, _⟩ := h; rfl) | (obtain ⟨_, _, _, _, _, _, rfl, _⟩ := h; rfl) | (obtain ⟨_, _, _, _, _, _, _, rfl, _⟩ := h; rfl) | (obtain ⟨_, _, _, _, _, _, _, _, rfl, _⟩ := h; rfl)
  · exact (pss_cons (ps_set (i := 2) sc_parted.nd rfl (Or.inl rfl) (pe_call (ok_good_laying T) (hr.mono (by decide)) rfl T.g_good_laying T.f_good_laying.kp T.b_good_laying .nil (passes_call (takes_of rfl rfl rfl rfl) (fun _ _ _ _ h => h)) (pa_cons (pv 0) pa_nil)))
    (pss_one (ps_ret (pe_tup (pa_cons (pe_call (ok_ended T) (hr.mono (by decide)) rfl T.g_ended T.f_ended.kp T.b_ended .nil (passes_call (takes_of rfl rfl rfl rfl) (fun _ _ _ _ h => h)) (pa_cons (pe_slice sl_list (pv 2) (po_some (pv 1)) po_none) pa_nil)) (pa_cons (pe_call (ok_ended T) (hr.mono (by decide)) rfl T.g_ended T.f_ended.kp T.b_ended .nil (passes_call (takes_of rfl rfl rfl rfl) (fun _ _ _ _ h => h)) (pa_cons (pe_slice sl_list (pv 2) po_none (po_some (pv 1))) pa_nil)) pa_nil))))))
theorem ok_l_cell_at (T : Txt K mg A F) : FnOk P w K mg base CX0 1 F.a_l_cell_at F.d_l_cell_at ["_law_script", "_law_k"] (sp_l_cell_at K A) := by
  refine T.f_l_cell_at.ok sc_l_cell_at (fun vs H Q E h => ?_) (fun cdv Ar outer s H vs Q E hr h => ⟨t_l_cell_at K A, ?_, r_l_cell_at h⟩)
  · first | (obtain ⟨_, rfl, _⟩ := h; rfl) | (obtain ⟨_, _, rfl, _⟩ := h; rfl) | (obtain ⟨_, _, _, rfl, _⟩ := h; rfl) | (obtain ⟨_, _, _, _, rfl, _⟩ := h; rfl) | (obtain ⟨_, _, _, _, _, rfl, _⟩ := h; rfl) | (obtain ⟨_, _, _, _, _, _, rfl, _⟩ := h; rfl) | (obtain ⟨_, _, _, _, _, _, _, rfl, _⟩ := h; rfl) | (obtain ⟨_, _, _, _, _, _, _, _, rfl, _⟩ := h; rfl)
  · exact (pss_cons (ps_if (pt_cmpR op_lt (pv 1) (pe_callB call_len_seq (by rfl) T.n_len (by decide +kernel) (pa_cons (pv 0) pa_nil)) (nomark _)) (pss_one (ps_ret (pe_ix ix_list (pv 0) (pv 1) (fun _ _ => rfl)))) pss_nil)
    (pss_one (ps_ret pe_int)))
theorem ok_l_load (T : Txt K mg A F) : FnOk P w K mg base CX0 1 F.a_l_load F.d_l_load ["_law_things"] (sp_l_load K A) := by
  refine T.f_l_load.ok sc_l_load (fun vs H Q E h => ?_) (fun cdv Ar outer s H vs Q E hr h => ⟨t_l_load K A, ?_, r_l_load h⟩)
  · first | (obtain ⟨_, rfl, _⟩ := h; rfl) | (obtain ⟨_, _, rfl, _⟩ := h; rfl) | (obtain ⟨_, _, _, rfl, _⟩ := h; rfl) | (obtain ⟨_, _, _, _, rfl, _⟩ := h; rfl) | (obtain ⟨_, _, _, _, _, rfl, _⟩ := h; rfl) | (obtain ⟨_, _, _, _, _, _, rfl, _⟩ := h; rfl) | (obtain ⟨_, _, _, _, _, _, _, rfl, _⟩ := h; rfl) | (obtain ⟨_, _, _, _, _, _, _, _, rfl, _⟩ := h; rfl)
  · exact (pss_cons (ps_set (i := 1) sc_l_load.nd rfl (Or.inl rfl) pe_int)
    (pss_cons (ps_for PassesOwn.never rfl (pi_reversed (by rfl) T.n_reversed (pa_cons (pv 0) pa_nil)) (pg_name (i := 2) sc_l_load.nd rfl (Or.inl rfl)) (pss_one (ps_set (i := 1) sc_l_load.nd rfl (Or.inl rfl) (pe_op op_add (pe_op op_mul pe_int (pv 1)) (pv 2)))))
    (pss_one (ps_ret (pv 1)))))
theorem ok_l_bad (T : Txt K mg A F) : FnOk P w K mg base CX0 1 F.a_l_bad F.d_l_bad ["_law_cell"] (sp_l_bad K A) := by
  refine T.f_l_bad.ok sc_l_bad (fun vs H Q E h => ?_) (fun cdv Ar outer s H vs Q E hr h => ⟨t_l_bad K A, ?_, r_l_bad h⟩)
  · first | (obtain ⟨_, rfl, _⟩ := h; rfl) | (obtain ⟨_, _, rfl, _⟩ := h; rfl) | (obtain ⟨_, _, _, rfl, _⟩ := h; rfl) | (obtain ⟨_, _, _, _, rfl, _⟩ := h; rfl) | (obtain ⟨_, _, _, _, _, rfl, _⟩ := h; rfl) | (obtain ⟨_, _, _, _, _, _, rfl, _⟩ := h; rfl) | (obtain ⟨_, _, _, _, _, _, _, rfl, _⟩ := h; rfl) | (obtain ⟨_, _, _, _, _, _, _, _, rfl, _⟩ := h; rfl)
  · exact (pss_cons (ps_if (pt_cmpR op_eq (pe_op op_mod (pv 0) pe_int) pe_int (nomark _)) (pss_one (ps_ret (pe_op op_add pe_int (pe_op op_mod (pe_op op_fdiv (pv 0) pe_int) (pe_op op_mulW (pe_op op_pow pe_int pe_int) (pe_op op_pow pe_int pe_int)))))) pss_nil)
    (pss_cons (ps_if (pt_cmpR op_eq (pe_op op_mod (pv 0) pe_int) pe_int (nomark _)) (pss_one (ps_ret (pe_op op_sub (pe_un un_neg pe_int) (pe_op op_mod (pe_op op_fdiv (pv 0) pe_int) (pe_op op_mulW (pe_op op_pow pe_int pe_int) (pe_op op_pow pe_int pe_int)))))) pss_nil)
    (pss_one (ps_ret (pe_ix ix_list (pe_lst (pa_cons pe_int (pa_cons (pe_un un_neg pe_int) (pa_cons pe_bl (pa_cons pe_bl (pa_cons pe_non (pa_cons pe_str (pa_cons pe_str (pa_cons pe_str (pa_cons (pe_lst (pa_cons pe_int pa_nil)) pa_nil)))))))))) (pe_op op_sub (pe_op op_mod (pv 0) pe_int) pe_int) (fun _ _ => rfl))))))
theorem ok_l_no_list (T : Txt K mg A F) : FnOk P w K mg base CX0 1 F.a_l_no_list F.d_l_no_list ["_law_cell"] (sp_l_no_list K A) := by
  refine T.f_l_no_list.ok sc_l_no_list (fun vs H Q E h => ?_) (fun cdv Ar outer s H vs Q E hr h => ⟨t_l_no_list K A, ?_, r_l_no_list h⟩)
  · first | (obtain ⟨_, rfl, _⟩ := h; rfl) | (obtain ⟨_, _, rfl, _⟩ := h; rfl) | (obtain ⟨_, _, _, rfl, _⟩ := h; rfl) | (obtain ⟨_, _, _, _, rfl, _⟩ := h; rfl) | (obtain ⟨_, _, _, _, _, rfl, _⟩ := h; rfl) | (obtain ⟨_, _, _, _, _, _, rfl, _⟩ := h; rfl) | (obtain ⟨_, _, _, _, _, _, _, rfl, _⟩ := h; rfl) | (obtain ⟨_, _, _, _, _, _, _, _, rfl, _⟩ := h; rfl)
  · exact (pss_one (ps_ret (pe_ix ix_list (pe_lst (pa_cons pe_non (pa_cons pe_bl (pa_cons pe_int (pa_cons pe_int (pa_cons pe_str (pa_cons pe_str (pa_cons (pe_tup (pa_cons pe_int (pa_cons pe_int pa_nil))) (pa_cons pe_dnewK pa_nil))))))))) (pe_op op_mod (pv 0) pe_int) (fun _ _ => rfl))))
theorem ok_l_asked (T : Txt K mg A F) : FnOk P w K mg base (L2.CX P w) 6 F.a_l_asked F.d_l_asked ["_law_way", "_law_thing", "_law_place"] (sp_l_asked K A) := by
  refine T.f_l_asked.okX sc_l_asked (fun vs H Q E h => ?_) (fun cdv Ar outer s H vs Q E hr h => ⟨t_l_asked K A E, ?_, r_l_asked h⟩)
  · first | (obtain ⟨_, rfl, _⟩ := h; rfl) | (obtain ⟨_, _, rfl, _⟩ := h; rfl) | (obtain ⟨_, _, _, rfl, _⟩ := h; rfl) | (obtain ⟨_, _, _, _, rfl, _⟩ := h; rfl) | (obtain ⟨_, _, _, _, _, rfl, _⟩ := h; rfl) | (obtain ⟨_, _, _, _, _, _, rfl, _⟩ := h; rfl) | (obtain ⟨_, _, _, _, _, _, _, rfl, _⟩ := h; rfl) | (obtain ⟨_, _, _, _, _, _, _, _, rfl, _⟩ := h; rfl)
  · exact (pss_cons (ps_if (pt_cmpR op_eq (pv 0) pe_int (nomark _)) (pss_one (ps_ret (pe_call (ok_load_of T) (hr.mono (by decide)) rfl T.g_load_of T.f_load_of.kp T.b_load_of .nil (passes_call (takes_of rfl rfl rfl rfl) (fun _ _ _ _ h => h)) (pa_cons (pv 1) pa_nil)))) pss_nil)
    (pss_cons (ps_if (pt_cmpR op_eq (pv 0) pe_int (nomark _)) (pss_one (ps_ret (pe_call (ok_stones T) (hr.mono (by decide)) rfl T.g_stones T.f_stones.kp T.b_stones .nil (passes_call (takes_of rfl rfl rfl rfl) (fun _ _ _ _ h => h)) (pa_cons (pv 1) pa_nil)))) pss_nil)
    (pss_cons (ps_if (pt_cmpR op_eq (pv 0) pe_int (nomark _)) (pss_one (ps_ret (pe_call (ok_ended T) (hr.mono (by decide)) rfl T.g_ended T.f_ended.kp T.b_ended .nil (passes_call (takes_of rfl rfl rfl rfl) (fun _ _ _ _ h => h)) (pa_cons (pv 1) pa_nil)))) pss_nil)
    (pss_cons (ps_if (pt_cmpR op_eq (pv 0) pe_int (nomark _)) (pss_one (ps_ret (pe_call (ok_is_neat T) (hr.mono (by decide)) rfl T.g_is_neat T.f_is_neat.kp T.b_is_neat .nil (passes_call (takes_of rfl rfl rfl rfl) (fun _ _ _ _ h => h)) (pa_cons (pv 1) pa_nil)))) pss_nil)
    (pss_cons (ps_if (pt_cmpR op_eq (pv 0) pe_int (nomark _)) (pss_one (ps_ret (pe_call (ok_neat T) (hr.mono (by decide)) rfl T.g_neat T.f_neat.kp T.b_neat .nil (passes_call (takes_of rfl rfl rfl rfl) (fun _ _ _ _ h => h)) (pa_cons (pv 1) pa_nil)))) pss_nil)
    (pss_cons (ps_if (pt_cmpR op_eq (pv 0) pe_int (nomark _)) (pss_one (ps_ret (pe_call (ok_turned T) (hr.mono (by decide)) rfl T.g_turned T.f_turned.kp T.b_turned .nil (passes_call (takes_of rfl rfl rfl rfl) (fun _ _ _ _ h => h)) (pa_cons (pv 1) pa_nil)))) pss_nil)
    (pss_cons (ps_if (pt_cmpR op_eq (pv 0) pe_int (nomark _)) (pss_one (ps_ret (pe_call (ok_plus T) (hr.mono (by decide)) rfl T.g_plus T.f_plus.kp T.b_plus .nil (passes_call (takes_of rfl rfl rfl rfl) (fun _ _ _ _ h => h)) (pa_cons (pv 1) (pa_cons (pe_lst (pa_cons pe_int (pa_cons pe_int (pa_cons (pe_un un_neg pe_int) pa_nil)))) pa_nil))))) pss_nil)
    (pss_cons (ps_if (pt_cmpR op_eq (pv 0) pe_int (nomark _)) (pss_one (ps_ret (pe_call (ok_plus T) (hr.mono (by decide)) rfl T.g_plus T.f_plus.kp T.b_plus .nil (passes_call (takes_of rfl rfl rfl rfl) (fun _ _ _ _ h => h)) (pa_cons (pe_lst (pa_cons pe_int (pa_cons pe_int pa_nil))) (pa_cons (pv 1) pa_nil))))) pss_nil)
    (pss_cons (ps_if (pt_cmpR op_eq (pv 0) pe_int (nomark _)) (pss_one (ps_ret (pe_call (ok_heavier T) (hr.mono (by decide)) rfl T.g_heavier T.f_heavier.kp T.b_heavier .nil (passes_call (takes_of rfl rfl rfl rfl) (fun _ _ _ _ h => h)) (pa_cons (pv 1) (pa_cons (pe_lst (pa_cons pe_int (pa_cons pe_int pa_nil))) pa_nil))))) pss_nil)
    (pss_cons (ps_if (pt_cmpR op_eq (pv 0) pe_int (nomark _)) (pss_one (ps_ret (pe_call (ok_heavier T) (hr.mono (by decide)) rfl T.g_heavier T.f_heavier.kp T.b_heavier .nil (passes_call (takes_of rfl rfl rfl rfl) (fun _ _ _ _ h => h)) (pa_cons (pe_lst pa_nil) (pa_cons (pv 1) pa_nil))))) pss_nil)
    (pss_cons (ps_if (pt_cmpR op_eq (pv 0) pe_int (nomark _)) (pss_one (ps_ret (pe_call (ok_parted T) (hr.mono (by decide)) rfl T.g_parted T.f_parted.kp T.b_parted .nil (passes_call (takes_of rfl rfl rfl rfl) (fun _ _ _ _ h => h)) (pa_cons (pv 1) (pa_cons (pv 2) pa_nil))))) pss_nil)
    (pss_one (ps_ret (pe_call (ok_shown T) (hr.mono (by decide)) rfl T.g_shown T.f_shown.kp T.b_shown .nil (passes_call (takes_of rfl rfl rfl rfl) (fun _ _ _ _ h => h)) (pa_cons (pv 1) pa_nil)))))))))))))))
theorem ok_l_truths (T : Txt K mg A F) : FnOk P w K mg base CX0 7 F.a_l_truths F.d_l_truths ["_law_way", "_law_thing", "_law_place"] (sp_l_truths K A) := by
  refine T.f_l_truths.ok sc_l_truths (fun vs H Q E h => ?_) (fun cdv Ar outer s H vs Q E hr h => ⟨t_l_truths K A, ?_, r_l_truths T.ct_laying h⟩)
  · first | (obtain ⟨_, rfl, _⟩ := h; rfl) | (obtain ⟨_, _, rfl, _⟩ := h; rfl) | (obtain ⟨_, _, _, rfl, _⟩ := h; rfl) | (obtain ⟨_, _, _, _, rfl, _⟩ := h; rfl) | (obtain ⟨_, _, _, _, _, rfl, _⟩ := h; rfl) | (obtain ⟨_, _, _, _, _, _, rfl, _⟩ := h; rfl) | (obtain ⟨_, _, _, _, _, _, _, rfl, _⟩ := h; rfl) | (obtain ⟨_, _, _, _, _, _, _, _, rfl, _⟩ := h; rfl)
  · exact (pss_cons (ps_set (i := 3) sc_l_truths.nd rfl (Or.inl rfl) (pe_lst pa_nil))
    (pss_cons (ps_try_as (i := 4) (tb := fun W => (tDrop (tCallS (sp_l_asked K A) (WE W) (tCons (tVar 0) (tCons (tVar 1) (tCons (tVar 2) tNil)))))) (ts := sufC A.laying (fun a => (tSeq (tAsg (tLst (tCons (tCB (rIsE K A.laying a) (tCons (tVar 4) (tCons (tC (.ty "ValueError")) tNil))) (tCons (tCB (rIsE K A.laying a) (tCons (tVar 4) (tCons (tC (.ref A.laying)) tNil))) (tCons (tCB (rIsE K A.laying a) (tCons (tVar 4) (tCons (tC (.ref A.load)) tNil))) tNil)))) (gName 3))
    (tAsg (tOp rCat (tVar 3) (tLst (tCons (tCB (rIsE K A.laying a) (tCons (tVar 4) (tCons (tC (.ref A.plan)) tNil))) (tCons (tCB (rIsE K A.laying a) (tCons (tVar 4) (tCons (tC (.ref A.text)) tNil))) (tCons (tCB (rIsE K A.laying a) (tCons (tVar 4) (tCons (tC (.ref A.deed)) tNil))) tNil))))) (gName 3))))) (Wout := fun _ _ _ _ => False) rfl rfl sc_l_truths.nd rfl rfl ⟨rfl, by decide, .inl T.g_StoneError⟩ takes0 (fun W pn xe tk _ => (pss_one (ps_expr (pe_callS (ok_l_asked T) (hr.mono (by decide)) rfl T.g_l_asked T.f_l_asked.kp T.b_l_asked (fun σ => passAt tk σ) (pa_cons (pv 0) (pa_cons (pv 1) (pa_cons (pv 2) pa_nil))))))) (fun a oe cls d pn hz hf => pss_pre fun hp => by (obtain ⟨rfl, rfl⟩ := hp; exact (pss_cons (ps_set (i := 3) sc_l_truths.nd rfl (Or.inl rfl) (pe_lst (pa_cons (pe_callB (call_isE T.xc_laying hz hf) (by rfl) T.n_isinstance (by decide +kernel) (pa_cons (pv 4) (pa_cons (pe_bltn (by rfl) T.n_ValueError (by decide +kernel) rfl) pa_nil))) (pa_cons (pe_callB (call_isE T.xc_laying hz hf) (by rfl) T.n_isinstance (by decide +kernel) (pa_cons (pv 4) (pa_cons (pe_glob rfl T.g_NoLaying rfl) pa_nil))) (pa_cons (pe_callB (call_isE T.xc_laying hz hf) (by rfl) T.n_isinstance (by decide +kernel) (pa_cons (pv 4) (pa_cons (pe_glob rfl T.g_NoLoad rfl) pa_nil))) pa_nil)))))
    (pss_one (ps_set (i := 3) sc_l_truths.nd rfl (Or.inl rfl) (pe_op op_cat (pv 3) (pe_lst (pa_cons (pe_callB (call_isE T.xc_laying hz hf) (by rfl) T.n_isinstance (by decide +kernel) (pa_cons (pv 4) (pa_cons (pe_glob rfl T.g_NoPlan rfl) pa_nil))) (pa_cons (pe_callB (call_isE T.xc_laying hz hf) (by rfl) T.n_isinstance (by decide +kernel) (pa_cons (pv 4) (pa_cons (pe_glob rfl T.g_NoText rfl) pa_nil))) (pa_cons (pe_callB (call_isE T.xc_laying hz hf) (by rfl) T.n_isinstance (by decide +kernel) (pa_cons (pv 4) (pa_cons (pe_glob rfl T.g_NoDeed rfl) pa_nil))) pa_nil)))))))))))
    (pss_one (ps_ret (pv 3)))))
theorem ok_l_all (T : Txt K mg A F) : FnOk P w K mg base CX0 8 F.a_l_all F.d_l_all ["_law_thing", "_law_place", "_law_due"] (sp_l_all K A) := by
  refine T.f_l_all.ok sc_l_all (fun vs H Q E h => ?_) (fun cdv Ar outer s H vs Q E hr h => ⟨t_l_all K A, ?_, r_l_all h⟩)
  · first | (obtain ⟨_, rfl, _⟩ := h; rfl) | (obtain ⟨_, _, rfl, _⟩ := h; rfl) | (obtain ⟨_, _, _, rfl, _⟩ := h; rfl) | (obtain ⟨_, _, _, _, rfl, _⟩ := h; rfl) | (obtain ⟨_, _, _, _, _, rfl, _⟩ := h; rfl) | (obtain ⟨_, _, _, _, _, _, rfl, _⟩ := h; rfl) | (obtain ⟨_, _, _, _, _, _, _, rfl, _⟩ := h; rfl) | (obtain ⟨_, _, _, _, _, _, _, _, rfl, _⟩ := h; rfl)
  · exact (pss_cons (ps_for PassesOwn.never rfl (pi_range1 (by rfl) T.n_range (pa_cons pe_int pa_nil)) (pg_name (i := 3) sc_l_all.nd rfl (Or.inl rfl)) (pss_one (ps_if (pt_cmpR (op_neD hr.units) (pe_call (ok_l_truths T) (hr.mono (by decide)) rfl T.g_l_truths T.f_l_truths.kp T.b_l_truths .nil pass0 (pa_cons (pv 3) (pa_cons (pv 0) (pa_cons (pv 1) pa_nil)))) (pv 2) (nomark _)) (pss_one (ps_ret pe_bl)) pss_nil)))
    (pss_one (ps_ret pe_bl)))
theorem ok_law (T : Txt K mg A F) : FnOk P w K mg base CX0 9 F.a_law F.d_law ["_law_script"] (sp_law K A) := by
  refine T.f_law.ok sc_law (fun vs H Q E h => ?_) (fun cdv Ar outer s H vs Q E hr h => ⟨t_law K A, ?_, r_law h⟩)
  · first | (obtain ⟨_, rfl, _⟩ := h; rfl) | (obtain ⟨_, _, rfl, _⟩ := h; rfl) | (obtain ⟨_, _, _, rfl, _⟩ := h; rfl) | (obtain ⟨_, _, _, _, rfl, _⟩ := h; rfl) | (obtain ⟨_, _, _, _, _, rfl, _⟩ := h; rfl) | (obtain ⟨_, _, _, _, _, _, rfl, _⟩ := h; rfl) | (obtain ⟨_, _, _, _, _, _, _, rfl, _⟩ := h; rfl) | (obtain ⟨_, _, _, _, _, _, _, _, rfl, _⟩ := h; rfl)
  · exact (pss_cons (ps_set (i := 1) sc_law.nd rfl (Or.inl rfl) (pe_lst (pa_cons pe_bl (pa_cons pe_bl (pa_cons pe_bl (pa_cons pe_bl (pa_cons pe_bl (pa_cons pe_bl pa_nil))))))))
    (pss_cons (ps_set (i := 2) sc_law.nd rfl (Or.inl rfl) (pe_op op_mod (pe_op op_fdiv (pe_call (ok_l_cell_at T) (hr.mono (by decide)) rfl T.g_l_cell_at T.f_l_cell_at.kp T.b_l_cell_at .nil pass0 (pa_cons (pv 0) (pa_cons pe_int pa_nil))) pe_int) pe_int))
    (pss_cons (ps_set (i := 3) sc_law.nd rfl (Or.inl rfl) (pe_call (ok_l_no_list T) (hr.mono (by decide)) rfl T.g_l_no_list T.f_l_no_list.kp T.b_l_no_list .nil pass0 (pa_cons (pe_op op_fdiv (pe_call (ok_l_cell_at T) (hr.mono (by decide)) rfl T.g_l_cell_at T.f_l_cell_at.kp T.b_l_cell_at .nil pass0 (pa_cons (pv 0) (pa_cons pe_int pa_nil))) pe_int) pa_nil)))
    (pss_cons (ps_if (PW.pt (pw_or (pt_cmpR op_notBl (pe_call (ok_is_laying T) (hr.mono (by decide)) rfl T.g_is_laying T.f_is_laying.kp T.b_is_laying .nil pass0 (pa_cons (pv 3) pa_nil)) pe_bl (nomark _)) (pw_or1 (pt_not (pt_val (pe_call (ok_l_all T) (hr.mono (by decide)) rfl T.g_l_all T.f_l_all.kp T.b_l_all .nil pass0 (pa_cons (pv 3) (pa_cons (pv 2) (pa_cons (pv 1) pa_nil))))))))) (pss_one (ps_ret pe_bl)) pss_nil)
    (pss_cons (ps_setLc (i := 4) (own := [("_law_cell", 8)]) (g := gName 8) (tt := tYes) (by rfl) sc_law.nd rfl rfl (sw_true rfl rfl rfl (by decide +kernel)) (pi_list (pe_slice sl_list (pv 0) po_none (po_some pe_int))) (blkOk_by (own := [("_law_cell", 8)]) (N := n_law) (sc := defScope s_law) (by decide +kernel)) (fun _ _ _ _ _ => pg_name (i := 8) sc_law.nd rfl (Or.inl rfl)) (fun _ _ _ _ _ => pts_nil) (fun _ _ _ _ _ => (pe_op op_sub (pe_op op_mod (pv 8) pe_int) pe_int)))
    (pss_cons (ps_set (i := 5) sc_law.nd rfl (Or.inl rfl) (pe_op op_mod (pe_op op_fdiv (pe_call (ok_l_cell_at T) (hr.mono (by decide)) rfl T.g_l_cell_at T.f_l_cell_at.kp T.b_l_cell_at .nil pass0 (pa_cons (pv 0) (pa_cons pe_int pa_nil))) pe_int) (pe_op op_add (pe_callB call_len_seq (by rfl) T.n_len (by decide +kernel) (pa_cons (pv 4) pa_nil)) pe_int)))
    (pss_cons (ps_set (i := 6) sc_law.nd rfl (Or.inl rfl) (pe_op op_cat (pe_op op_cat (pe_slice sl_list (pv 4) po_none (po_some (pv 5))) (pe_lst (pa_cons (pe_call (ok_l_bad T) (hr.mono (by decide)) rfl T.g_l_bad T.f_l_bad.kp T.b_l_bad .nil pass0 (pa_cons (pe_op op_fdiv (pe_call (ok_l_cell_at T) (hr.mono (by decide)) rfl T.g_l_cell_at T.f_l_cell_at.kp T.b_l_cell_at .nil pass0 (pa_cons (pv 0) (pa_cons pe_int pa_nil))) pe_int) pa_nil)) pa_nil))) (pe_slice sl_list (pv 4) (po_some (pv 5)) po_none)))
    (pss_cons (ps_set (i := 7) sc_law.nd rfl (Or.inl rfl) (pe_callTy call_list_of (by rfl) T.n_list (by decide +kernel) (pa_cons (pv 6) pa_nil)))
    (pss_cons (ps_if (PW.pt (pw_or (pt_cmpR op_notBl (pe_call (ok_is_laying T) (hr.mono (by decide)) rfl T.g_is_laying T.f_is_laying.kp T.b_is_laying .nil pass0 (pa_cons (pv 6) pa_nil)) pe_bl (nomark _)) (pw_or (pt_not (pt_val (pe_call (ok_l_all T) (hr.mono (by decide)) rfl T.g_l_all T.f_l_all.kp T.b_l_all .nil pass0 (pa_cons (pv 6) (pa_cons (pv 2) (pa_cons (pv 1) pa_nil)))))) (pw_or1 (pt_cmpR (op_neD hr.units) (pv 6) (pv 7) (nomark _)))))) (pss_one (ps_ret pe_bl)) pss_nil)
    (pss_cons (ps_asg (pe_op op_sub (pe_op op_mod (pe_op op_fdiv (pe_call (ok_l_cell_at T) (hr.mono (by decide)) rfl T.g_l_cell_at T.f_l_cell_at.kp T.b_l_cell_at .nil pass0 (pa_cons (pv 0) (pa_cons pe_int pa_nil))) pe_int) pe_int) pe_int) (pg_sub (pv 6) (pv 5) set_list))
    (pss_cons (ps_if (PW.pt (pw_or (pt_cmpR op_notBl (pe_call (ok_is_laying T) (hr.mono (by decide)) rfl T.g_is_laying T.f_is_laying.kp T.b_is_laying .nil pass0 (pa_cons (pv 6) pa_nil)) pe_bl (nomark _)) (pw_or1 (pt_not (pt_val (pe_call (ok_l_all T) (hr.mono (by decide)) rfl T.g_l_all T.f_l_all.kp T.b_l_all .nil pass0 (pa_cons (pv 6) (pa_cons (pv 2) (pa_cons (pe_lst pa_nil) pa_nil))))))))) (pss_one (ps_ret pe_bl)) pss_nil)
    (pss_one (ps_ret (pe_cmpR op_eq (pe_call (ok_load_of T) (hr.mono (by decide)) rfl T.g_load_of T.f_load_of.kp T.b_load_of .nil passL (pa_cons (pv 6) pa_nil)) (pe_call (ok_l_load T) (hr.mono (by decide)) rfl T.g_l_load T.f_l_load.kp T.b_l_load .nil pass0 (pa_cons (pv 6) pa_nil)) (nomark _)))))))))))))))
end
theorem all_mk {l : PySem.W.OpenLaw} {w : World} {K : PySem.W.Frag} {h : Heap} {mg : Str → Option Value} {fa : Addr} (X : K.In h) (G : h.Ns mainGlobals mg) (hfa : mg "law" = some (.ref fa))
    {f0 : Addr} {od0 an0 : Option Addr} {sl0 : Array (Option Value)} {oc0 kV0 dc0 pm0 cd0 ct0 : Value}
    (a0 : PySem.W.nsIn K mainGlobals "is_whole" = some (some (.ref f0)))
    (l0 : K.lookup f0 = some ⟨oc0, od0, .func (PySem.W.fnOf "is_whole" "is_whole" (defArgs s_is_whole) (defBody s_is_whole) (defScope s_is_whole) .none kV0 dc0 pm0 an0 cd0 ct0), sl0⟩)
    (c0 : PySem.W.codeIn K cd0 "is_whole" = true) (k0 : PySem.W.keepIn K (.ref f0) = true)
    {f1 : Addr} {od1 an1 : Option Addr} {sl1 : Array (Option Value)} {oc1 kV1 dc1 pm1 cd1 ct1 : Value}
    (a1 : PySem.W.nsIn K mainGlobals "is_laying" = some (some (.ref f1)))
    (l1 : K.lookup f1 = some ⟨oc1, od1, .func (PySem.W.fnOf "is_laying" "is_laying" (defArgs s_is_laying) (defBody s_is_laying) (defScope s_is_laying) .none kV1 dc1 pm1 an1 cd1 ct1), sl1⟩)
    (c1 : PySem.W.codeIn K cd1 "is_laying" = true) (k1 : PySem.W.keepIn K (.ref f1) = true)
    {f2 : Addr} {od2 an2 : Option Addr} {sl2 : Array (Option Value)} {oc2 kV2 dc2 pm2 cd2 ct2 : Value}
    (a2 : PySem.W.nsIn K mainGlobals "good_laying" = some (some (.ref f2)))
    (l2 : K.lookup f2 = some ⟨oc2, od2, .func (PySem.W.fnOf "good_laying" "good_laying" (defArgs s_good_laying) (defBody s_good_laying) (defScope s_good_laying) .none kV2 dc2 pm2 an2 cd2 ct2), sl2⟩)
    (c2 : PySem.W.codeIn K cd2 "good_laying" = true) (k2 : PySem.W.keepIn K (.ref f2) = true)
    {f3 : Addr} {od3 an3 : Option Addr} {sl3 : Array (Option Value)} {oc3 kV3 dc3 pm3 cd3 ct3 : Value}
    (a3 : PySem.W.nsIn K mainGlobals "good_load" = some (some (.ref f3)))
    (l3 : K.lookup f3 = some ⟨oc3, od3, .func (PySem.W.fnOf "good_load" "good_load" (defArgs s_good_load) (defBody s_good_load) (defScope s_good_load) .none kV3 dc3 pm3 an3 cd3 ct3), sl3⟩)
    (c3 : PySem.W.codeIn K cd3 "good_load" = true) (k3 : PySem.W.keepIn K (.ref f3) = true)
    {f4 : Addr} {od4 an4 : Option Addr} {sl4 : Array (Option Value)} {oc4 kV4 dc4 pm4 cd4 ct4 : Value}
    (a4 : PySem.W.nsIn K mainGlobals "load_of" = some (some (.ref f4)))
    (l4 : K.lookup f4 = some ⟨oc4, od4, .func (PySem.W.fnOf "load_of" "load_of" (defArgs s_load_of) (defBody s_load_of) (defScope s_load_of) .none kV4 dc4 pm4 an4 cd4 ct4), sl4⟩)
    (c4 : PySem.W.codeIn K cd4 "load_of" = true) (k4 : PySem.W.keepIn K (.ref f4) = true)
    {f5 : Addr} {od5 an5 : Option Addr} {sl5 : Array (Option Value)} {oc5 kV5 dc5 pm5 cd5 ct5 : Value}
    (a5 : PySem.W.nsIn K mainGlobals "stones" = some (some (.ref f5)))
    (l5 : K.lookup f5 = some ⟨oc5, od5, .func (PySem.W.fnOf "stones" "stones" (defArgs s_stones) (defBody s_stones) (defScope s_stones) .none kV5 dc5 pm5 an5 cd5 ct5), sl5⟩)
    (c5 : PySem.W.codeIn K cd5 "stones" = true) (k5 : PySem.W.keepIn K (.ref f5) = true)
    {f6 : Addr} {od6 an6 : Option Addr} {sl6 : Array (Option Value)} {oc6 kV6 dc6 pm6 cd6 ct6 : Value}
    (a6 : PySem.W.nsIn K mainGlobals "ended" = some (some (.ref f6)))
    (l6 : K.lookup f6 = some ⟨oc6, od6, .func (PySem.W.fnOf "ended" "ended" (defArgs s_ended) (defBody s_ended) (defScope s_ended) .none kV6 dc6 pm6 an6 cd6 ct6), sl6⟩)
    (c6 : PySem.W.codeIn K cd6 "ended" = true) (k6 : PySem.W.keepIn K (.ref f6) = true)
    {f7 : Addr} {od7 an7 : Option Addr} {sl7 : Array (Option Value)} {oc7 kV7 dc7 pm7 cd7 ct7 : Value}
    (a7 : PySem.W.nsIn K mainGlobals "is_neat" = some (some (.ref f7)))
    (l7 : K.lookup f7 = some ⟨oc7, od7, .func (PySem.W.fnOf "is_neat" "is_neat" (defArgs s_is_neat) (defBody s_is_neat) (defScope s_is_neat) .none kV7 dc7 pm7 an7 cd7 ct7), sl7⟩)
    (c7 : PySem.W.codeIn K cd7 "is_neat" = true) (k7 : PySem.W.keepIn K (.ref f7) = true)
    {f8 : Addr} {od8 an8 : Option Addr} {sl8 : Array (Option Value)} {oc8 kV8 dc8 pm8 cd8 ct8 : Value}
    (a8 : PySem.W.nsIn K mainGlobals "laid" = some (some (.ref f8)))
    (l8 : K.lookup f8 = some ⟨oc8, od8, .func (PySem.W.fnOf "laid" "laid" (defArgs s_laid) (defBody s_laid) (defScope s_laid) .none kV8 dc8 pm8 an8 cd8 ct8), sl8⟩)
    (c8 : PySem.W.codeIn K cd8 "laid" = true) (k8 : PySem.W.keepIn K (.ref f8) = true)
    {f9 : Addr} {od9 an9 : Option Addr} {sl9 : Array (Option Value)} {oc9 kV9 dc9 pm9 cd9 ct9 : Value}
    (a9 : PySem.W.nsIn K mainGlobals "sign_of" = some (some (.ref f9)))
    (l9 : K.lookup f9 = some ⟨oc9, od9, .func (PySem.W.fnOf "sign_of" "sign_of" (defArgs s_sign_of) (defBody s_sign_of) (defScope s_sign_of) .none kV9 dc9 pm9 an9 cd9 ct9), sl9⟩)
    (c9 : PySem.W.codeIn K cd9 "sign_of" = true) (k9 : PySem.W.keepIn K (.ref f9) = true)
    {f10 : Addr} {od10 an10 : Option Addr} {sl10 : Array (Option Value)} {oc10 kV10 dc10 pm10 cd10 ct10 : Value}
    (a10 : PySem.W.nsIn K mainGlobals "shown" = some (some (.ref f10)))
    (l10 : K.lookup f10 = some ⟨oc10, od10, .func (PySem.W.fnOf "shown" "shown" (defArgs s_shown) (defBody s_shown) (defScope s_shown) .none kV10 dc10 pm10 an10 cd10 ct10), sl10⟩)
    (c10 : PySem.W.codeIn K cd10 "shown" = true) (k10 : PySem.W.keepIn K (.ref f10) = true)
    {f11 : Addr} {od11 an11 : Option Addr} {sl11 : Array (Option Value)} {oc11 kV11 dc11 pm11 cd11 ct11 : Value}
    (a11 : PySem.W.nsIn K mainGlobals "neat" = some (some (.ref f11)))
    (l11 : K.lookup f11 = some ⟨oc11, od11, .func (PySem.W.fnOf "neat" "neat" (defArgs s_neat) (defBody s_neat) (defScope s_neat) .none kV11 dc11 pm11 an11 cd11 ct11), sl11⟩)
    (c11 : PySem.W.codeIn K cd11 "neat" = true) (k11 : PySem.W.keepIn K (.ref f11) = true)
    {f12 : Addr} {od12 an12 : Option Addr} {sl12 : Array (Option Value)} {oc12 kV12 dc12 pm12 cd12 ct12 : Value}
    (a12 : PySem.W.nsIn K mainGlobals "turned" = some (some (.ref f12)))
    (l12 : K.lookup f12 = some ⟨oc12, od12, .func (PySem.W.fnOf "turned" "turned" (defArgs s_turned) (defBody s_turned) (defScope s_turned) .none kV12 dc12 pm12 an12 cd12 ct12), sl12⟩)
    (c12 : PySem.W.codeIn K cd12 "turned" = true) (k12 : PySem.W.keepIn K (.ref f12) = true)
    {f13 : Addr} {od13 an13 : Option Addr} {sl13 : Array (Option Value)} {oc13 kV13 dc13 pm13 cd13 ct13 : Value}
    (a13 : PySem.W.nsIn K mainGlobals "plus" = some (some (.ref f13)))
    (l13 : K.lookup f13 = some ⟨oc13, od13, .func (PySem.W.fnOf "plus" "plus" (defArgs s_plus) (defBody s_plus) (defScope s_plus) .none kV13 dc13 pm13 an13 cd13 ct13), sl13⟩)
    (c13 : PySem.W.codeIn K cd13 "plus" = true) (k13 : PySem.W.keepIn K (.ref f13) = true)
    {f14 : Addr} {od14 an14 : Option Addr} {sl14 : Array (Option Value)} {oc14 kV14 dc14 pm14 cd14 ct14 : Value}
    (a14 : PySem.W.nsIn K mainGlobals "heavier" = some (some (.ref f14)))
    (l14 : K.lookup f14 = some ⟨oc14, od14, .func (PySem.W.fnOf "heavier" "heavier" (defArgs s_heavier) (defBody s_heavier) (defScope s_heavier) .none kV14 dc14 pm14 an14 cd14 ct14), sl14⟩)
    (c14 : PySem.W.codeIn K cd14 "heavier" = true) (k14 : PySem.W.keepIn K (.ref f14) = true)
    {f15 : Addr} {od15 an15 : Option Addr} {sl15 : Array (Option Value)} {oc15 kV15 dc15 pm15 cd15 ct15 : Value}
    (a15 : PySem.W.nsIn K mainGlobals "parted" = some (some (.ref f15)))
    (l15 : K.lookup f15 = some ⟨oc15, od15, .func (PySem.W.fnOf "parted" "parted" (defArgs s_parted) (defBody s_parted) (defScope s_parted) .none kV15 dc15 pm15 an15 cd15 ct15), sl15⟩)
    (c15 : PySem.W.codeIn K cd15 "parted" = true) (k15 : PySem.W.keepIn K (.ref f15) = true)
    {f16 : Addr} {od16 an16 : Option Addr} {sl16 : Array (Option Value)} {oc16 kV16 dc16 pm16 cd16 ct16 : Value}
    (a16 : PySem.W.nsIn K mainGlobals "_law_cell_at" = some (some (.ref f16)))
    (l16 : K.lookup f16 = some ⟨oc16, od16, .func (PySem.W.fnOf "_law_cell_at" "_law_cell_at" (defArgs s_l_cell_at) (defBody s_l_cell_at) (defScope s_l_cell_at) .none kV16 dc16 pm16 an16 cd16 ct16), sl16⟩)
    (c16 : PySem.W.codeIn K cd16 "_law_cell_at" = true) (k16 : PySem.W.keepIn K (.ref f16) = true)
    {f17 : Addr} {od17 an17 : Option Addr} {sl17 : Array (Option Value)} {oc17 kV17 dc17 pm17 cd17 ct17 : Value}
    (a17 : PySem.W.nsIn K mainGlobals "_law_load" = some (some (.ref f17)))
    (l17 : K.lookup f17 = some ⟨oc17, od17, .func (PySem.W.fnOf "_law_load" "_law_load" (defArgs s_l_load) (defBody s_l_load) (defScope s_l_load) .none kV17 dc17 pm17 an17 cd17 ct17), sl17⟩)
    (c17 : PySem.W.codeIn K cd17 "_law_load" = true) (k17 : PySem.W.keepIn K (.ref f17) = true)
    {f18 : Addr} {od18 an18 : Option Addr} {sl18 : Array (Option Value)} {oc18 kV18 dc18 pm18 cd18 ct18 : Value}
    (a18 : PySem.W.nsIn K mainGlobals "_law_bad" = some (some (.ref f18)))
    (l18 : K.lookup f18 = some ⟨oc18, od18, .func (PySem.W.fnOf "_law_bad" "_law_bad" (defArgs s_l_bad) (defBody s_l_bad) (defScope s_l_bad) .none kV18 dc18 pm18 an18 cd18 ct18), sl18⟩)
    (c18 : PySem.W.codeIn K cd18 "_law_bad" = true) (k18 : PySem.W.keepIn K (.ref f18) = true)
    {f19 : Addr} {od19 an19 : Option Addr} {sl19 : Array (Option Value)} {oc19 kV19 dc19 pm19 cd19 ct19 : Value}
    (a19 : PySem.W.nsIn K mainGlobals "_law_no_list" = some (some (.ref f19)))
    (l19 : K.lookup f19 = some ⟨oc19, od19, .func (PySem.W.fnOf "_law_no_list" "_law_no_list" (defArgs s_l_no_list) (defBody s_l_no_list) (defScope s_l_no_list) .none kV19 dc19 pm19 an19 cd19 ct19), sl19⟩)
    (c19 : PySem.W.codeIn K cd19 "_law_no_list" = true) (k19 : PySem.W.keepIn K (.ref f19) = true)
    {f20 : Addr} {od20 an20 : Option Addr} {sl20 : Array (Option Value)} {oc20 kV20 dc20 pm20 cd20 ct20 : Value}
    (a20 : PySem.W.nsIn K mainGlobals "_law_asked" = some (some (.ref f20)))
    (l20 : K.lookup f20 = some ⟨oc20, od20, .func (PySem.W.fnOf "_law_asked" "_law_asked" (defArgs s_l_asked) (defBody s_l_asked) (defScope s_l_asked) .none kV20 dc20 pm20 an20 cd20 ct20), sl20⟩)
    (c20 : PySem.W.codeIn K cd20 "_law_asked" = true) (k20 : PySem.W.keepIn K (.ref f20) = true)
    {f21 : Addr} {od21 an21 : Option Addr} {sl21 : Array (Option Value)} {oc21 kV21 dc21 pm21 cd21 ct21 : Value}
    (a21 : PySem.W.nsIn K mainGlobals "_law_truths" = some (some (.ref f21)))
    (l21 : K.lookup f21 = some ⟨oc21, od21, .func (PySem.W.fnOf "_law_truths" "_law_truths" (defArgs s_l_truths) (defBody s_l_truths) (defScope s_l_truths) .none kV21 dc21 pm21 an21 cd21 ct21), sl21⟩)
    (c21 : PySem.W.codeIn K cd21 "_law_truths" = true) (k21 : PySem.W.keepIn K (.ref f21) = true)
    {f22 : Addr} {od22 an22 : Option Addr} {sl22 : Array (Option Value)} {oc22 kV22 dc22 pm22 cd22 ct22 : Value}
    (a22 : PySem.W.nsIn K mainGlobals "_law_all" = some (some (.ref f22)))
    (l22 : K.lookup f22 = some ⟨oc22, od22, .func (PySem.W.fnOf "_law_all" "_law_all" (defArgs s_l_all) (defBody s_l_all) (defScope s_l_all) .none kV22 dc22 pm22 an22 cd22 ct22), sl22⟩)
    (c22 : PySem.W.codeIn K cd22 "_law_all" = true) (k22 : PySem.W.keepIn K (.ref f22) = true)
    {f23 : Addr} {od23 an23 : Option Addr} {sl23 : Array (Option Value)} {oc23 kV23 dc23 pm23 cd23 ct23 : Value}
    (a23 : PySem.W.nsIn K mainGlobals "law" = some (some (.ref f23)))
    (l23 : K.lookup f23 = some ⟨oc23, od23, .func (PySem.W.fnOf "law" "law" (defArgs s_law) (defBody s_law) (defScope s_law) .none kV23 dc23 pm23 an23 cd23 ct23), sl23⟩)
    (c23 : PySem.W.codeIn K cd23 "law" = true) (k23 : PySem.W.keepIn K (.ref f23) = true)
    {C_NoDeed : Addr} (ga_NoDeed : PySem.W.nsIn K mainGlobals "NoDeed" = some (some (.ref C_NoDeed)))
    (gx_NoDeed : PySem.W.excIn K C_NoDeed [.type "ValueError", .type "Exception", .type "BaseException", .type "object"] "ValueError.__new__" = true) (gk_NoDeed : PySem.W.keepIn K (.ref C_NoDeed) = true)
    (gs_NoDeed : PySem.W.subIn K (.ref C_NoDeed) (.type "BaseException") = some true) (gt_NoDeed : PySem.W.typeIn K (.ref C_NoDeed) = some (.type "type"))
    {C_NoLaying : Addr} (ga_NoLaying : PySem.W.nsIn K mainGlobals "NoLaying" = some (some (.ref C_NoLaying)))
    (gx_NoLaying : PySem.W.excIn K C_NoLaying [.type "ValueError", .type "Exception", .type "BaseException", .type "object"] "ValueError.__new__" = true) (gk_NoLaying : PySem.W.keepIn K (.ref C_NoLaying) = true)
    (gs_NoLaying : PySem.W.subIn K (.ref C_NoLaying) (.type "BaseException") = some true) (gt_NoLaying : PySem.W.typeIn K (.ref C_NoLaying) = some (.type "type"))
    {C_NoLoad : Addr} (ga_NoLoad : PySem.W.nsIn K mainGlobals "NoLoad" = some (some (.ref C_NoLoad)))
    (gx_NoLoad : PySem.W.excIn K C_NoLoad [.type "ValueError", .type "Exception", .type "BaseException", .type "object"] "ValueError.__new__" = true) (gk_NoLoad : PySem.W.keepIn K (.ref C_NoLoad) = true)
    (gs_NoLoad : PySem.W.subIn K (.ref C_NoLoad) (.type "BaseException") = some true) (gt_NoLoad : PySem.W.typeIn K (.ref C_NoLoad) = some (.type "type"))
    {C_NoPlan : Addr} (ga_NoPlan : PySem.W.nsIn K mainGlobals "NoPlan" = some (some (.ref C_NoPlan)))
    (gx_NoPlan : PySem.W.excIn K C_NoPlan [.type "ValueError", .type "Exception", .type "BaseException", .type "object"] "ValueError.__new__" = true) (gk_NoPlan : PySem.W.keepIn K (.ref C_NoPlan) = true)
    (gs_NoPlan : PySem.W.subIn K (.ref C_NoPlan) (.type "BaseException") = some true) (gt_NoPlan : PySem.W.typeIn K (.ref C_NoPlan) = some (.type "type"))
    {C_NoText : Addr} (ga_NoText : PySem.W.nsIn K mainGlobals "NoText" = some (some (.ref C_NoText)))
    (gx_NoText : PySem.W.excIn K C_NoText [.type "ValueError", .type "Exception", .type "BaseException", .type "object"] "ValueError.__new__" = true) (gk_NoText : PySem.W.keepIn K (.ref C_NoText) = true)
    (gs_NoText : PySem.W.subIn K (.ref C_NoText) (.type "BaseException") = some true) (gt_NoText : PySem.W.typeIn K (.ref C_NoText) = some (.type "type"))
    {C_StoneError : Addr} (ga_StoneError : PySem.W.nsIn K mainGlobals "StoneError" = some (some (.ref C_StoneError)))
    (gx_StoneError : PySem.W.excIn K C_StoneError [.type "ValueError", .type "Exception", .type "BaseException", .type "object"] "ValueError.__new__" = true) (gk_StoneError : PySem.W.keepIn K (.ref C_StoneError) = true)
    (gs_StoneError : PySem.W.subIn K (.ref C_StoneError) (.type "BaseException") = some true) (gt_StoneError : PySem.W.typeIn K (.ref C_StoneError) = some (.type "type"))
    (hd_NoDeed : PySem.W.hasDictIn K C_NoDeed = true)
    (hd_NoLaying : PySem.W.hasDictIn K C_NoLaying = true)
    (hd_NoLoad : PySem.W.hasDictIn K C_NoLoad = true)
    (hd_NoPlan : PySem.W.hasDictIn K C_NoPlan = true)
    (hd_NoText : PySem.W.hasDictIn K C_NoText = true)
    (hd_StoneError : PySem.W.hasDictIn K C_StoneError = true)
    (hn_ : PySem.W.specialIn K (.builtin "object.__class__") "__get__" = some (some (.builtin "getset_descriptor.__get__"))) (ht_ : PySem.W.takesIn K (.builtin "object.__class__") = some true)
    (hg_laying : PySem.W.findIn K (.ref C_NoLaying) "__getattribute__" = some (some (.builtin "BaseException.__getattribute__")))
    (hk_laying : PySem.W.findIn K (.ref C_NoLaying) "__getattr__" = some none)
    (ha_laying : PySem.W.findIn K (.ref C_NoLaying) "__class__" = some (some (.builtin "object.__class__")))
    (hm_laying : PySem.W.mroIn K C_NoLaying (.type "object") = some true)
    (sv_laying : PySem.W.subIn K (.ref C_NoLaying) (.type "ValueError") = some true)
    (su_NoDeed_laying : PySem.W.subIn K (.ref C_NoLaying) (.ref C_NoDeed) = some false)
    (su_NoLaying_laying : PySem.W.subIn K (.ref C_NoLaying) (.ref C_NoLaying) = some true)
    (su_NoLoad_laying : PySem.W.subIn K (.ref C_NoLaying) (.ref C_NoLoad) = some false)
    (su_NoPlan_laying : PySem.W.subIn K (.ref C_NoLaying) (.ref C_NoPlan) = some false)
    (su_NoText_laying : PySem.W.subIn K (.ref C_NoLaying) (.ref C_NoText) = some false)
    (su_StoneError_laying : PySem.W.subIn K (.ref C_NoLaying) (.ref C_StoneError) = some true)
    (z_ValueError : PySem.W.nsIn K mainGlobals "ValueError" = some none)
    (z_bool : PySem.W.nsIn K mainGlobals "bool" = some none)
    (z_int : PySem.W.nsIn K mainGlobals "int" = some none)
    (z_isinstance : PySem.W.nsIn K mainGlobals "isinstance" = some none)
    (z_len : PySem.W.nsIn K mainGlobals "len" = some none)
    (z_list : PySem.W.nsIn K mainGlobals "list" = some none)
    (z_range : PySem.W.nsIn K mainGlobals "range" = some none)
    (z_reversed : PySem.W.nsIn K mainGlobals "reversed" = some none)
    : ∃ fd : FuncData, (∀ (s : Shared) (v : Value), BindsTo s fd ⟨[v], []⟩ [("_law_script", v)]) ∧ ∀ base : Heap, K.In base → base.Ns mainGlobals mg → FnOk l.prog w K mg base CX0 9 fa fd ["_law_script"] (sp_law K A0) := by
  have e := hfa.symm.trans (PySem.W.mg_of X G a23)
  cases e
  have F0 := fun_mk (st := s_is_whole) l0 c0 k0
  have B0 := F0.binds (ps := ["thing"]) fun _ _ _ _ _ _ us hl => match us, hl with | [_], _ => rfl
  have F1 := fun_mk (st := s_is_laying) l1 c1 k1
  have B1 := F1.binds (ps := ["thing"]) fun _ _ _ _ _ _ us hl => match us, hl with | [_], _ => rfl
  have F2 := fun_mk (st := s_good_laying) l2 c2 k2
  have B2 := F2.binds (ps := ["laying"]) fun _ _ _ _ _ _ us hl => match us, hl with | [_], _ => rfl
  have F3 := fun_mk (st := s_good_load) l3 c3 k3
  have B3 := F3.binds (ps := ["load"]) fun _ _ _ _ _ _ us hl => match us, hl with | [_], _ => rfl
  have F4 := fun_mk (st := s_load_of) l4 c4 k4
  have B4 := F4.binds (ps := ["laying"]) fun _ _ _ _ _ _ us hl => match us, hl with | [_], _ => rfl
  have F5 := fun_mk (st := s_stones) l5 c5 k5
  have B5 := F5.binds (ps := ["laying"]) fun _ _ _ _ _ _ us hl => match us, hl with | [_], _ => rfl
  have F6 := fun_mk (st := s_ended) l6 c6 k6
  have B6 := F6.binds (ps := ["laying"]) fun _ _ _ _ _ _ us hl => match us, hl with | [_], _ => rfl
  have F7 := fun_mk (st := s_is_neat) l7 c7 k7
  have B7 := F7.binds (ps := ["laying"]) fun _ _ _ _ _ _ us hl => match us, hl with | [_], _ => rfl
  have F8 := fun_mk (st := s_laid) l8 c8 k8
  have B8 := F8.binds (ps := ["load"]) fun _ _ _ _ _ _ us hl => match us, hl with | [_], _ => rfl
  have F9 := fun_mk (st := s_sign_of) l9 c9 k9
  have B9 := F9.binds (ps := ["one"]) fun _ _ _ _ _ _ us hl => match us, hl with | [_], _ => rfl
  have F10 := fun_mk (st := s_shown) l10 c10 k10
  have B10 := F10.binds (ps := ["laying"]) fun _ _ _ _ _ _ us hl => match us, hl with | [_], _ => rfl
  have F11 := fun_mk (st := s_neat) l11 c11 k11
  have B11 := F11.binds (ps := ["laying"]) fun _ _ _ _ _ _ us hl => match us, hl with | [_], _ => rfl
  have F12 := fun_mk (st := s_turned) l12 c12 k12
  have B12 := F12.binds (ps := ["laying"]) fun _ _ _ _ _ _ us hl => match us, hl with | [_], _ => rfl
  have F13 := fun_mk (st := s_plus) l13 c13 k13
  have B13 := F13.binds (ps := ["one", "other"]) fun _ _ _ _ _ _ us hl => match us, hl with | [_, _], _ => rfl
  have F14 := fun_mk (st := s_heavier) l14 c14 k14
  have B14 := F14.binds (ps := ["one", "other"]) fun _ _ _ _ _ _ us hl => match us, hl with | [_, _], _ => rfl
  have F15 := fun_mk (st := s_parted) l15 c15 k15
  have B15 := F15.binds (ps := ["laying", "place"]) fun _ _ _ _ _ _ us hl => match us, hl with | [_, _], _ => rfl
  have F16 := fun_mk (st := s_l_cell_at) l16 c16 k16
  have B16 := F16.binds (ps := ["_law_script", "_law_k"]) fun _ _ _ _ _ _ us hl => match us, hl with | [_, _], _ => rfl
  have F17 := fun_mk (st := s_l_load) l17 c17 k17
  have B17 := F17.binds (ps := ["_law_things"]) fun _ _ _ _ _ _ us hl => match us, hl with | [_], _ => rfl
  have F18 := fun_mk (st := s_l_bad) l18 c18 k18
  have B18 := F18.binds (ps := ["_law_cell"]) fun _ _ _ _ _ _ us hl => match us, hl with | [_], _ => rfl
  have F19 := fun_mk (st := s_l_no_list) l19 c19 k19
  have B19 := F19.binds (ps := ["_law_cell"]) fun _ _ _ _ _ _ us hl => match us, hl with | [_], _ => rfl
  have F20 := fun_mk (st := s_l_asked) l20 c20 k20
  have B20 := F20.binds (ps := ["_law_way", "_law_thing", "_law_place"]) fun _ _ _ _ _ _ us hl => match us, hl with | [_, _, _], _ => rfl
  have F21 := fun_mk (st := s_l_truths) l21 c21 k21
  have B21 := F21.binds (ps := ["_law_way", "_law_thing", "_law_place"]) fun _ _ _ _ _ _ us hl => match us, hl with | [_, _, _], _ => rfl
  have F22 := fun_mk (st := s_l_all) l22 c22 k22
  have B22 := F22.binds (ps := ["_law_thing", "_law_place", "_law_due"]) fun _ _ _ _ _ _ us hl => match us, hl with | [_, _, _], _ => rfl
  have F23 := fun_mk (st := s_law) l23 c23 k23
  have B23 := F23.binds (ps := ["_law_script"]) fun _ _ _ _ _ _ us hl => match us, hl with | [_], _ => rfl
  let A : Ad := { stone := C_StoneError, laying := C_NoLaying, load := C_NoLoad, plan := C_NoPlan, text := C_NoText, deed := C_NoDeed, scale := 0, words := 0 }
  let F : Fs := { a_is_whole := f0, d_is_whole := PySem.W.fnOf "is_whole" "is_whole" (defArgs s_is_whole) (defBody s_is_whole) (defScope s_is_whole) .none kV0 dc0 pm0 an0 cd0 ct0, a_is_laying := f1, d_is_laying := PySem.W.fnOf "is_laying" "is_laying" (defArgs s_is_laying) (defBody s_is_laying) (defScope s_is_laying) .none kV1 dc1 pm1 an1 cd1 ct1, a_good_laying := f2, d_good_laying := PySem.W.fnOf "good_laying" "good_laying" (defArgs s_good_laying) (defBody s_good_laying) (defScope s_good_laying) .none kV2 dc2 pm2 an2 cd2 ct2, a_good_load := f3, d_good_load := PySem.W.fnOf "good_load" "good_load" (defArgs s_good_load) (defBody s_good_load) (defScope s_good_load) .none kV3 dc3 pm3 an3 cd3 ct3, a_load_of := f4, d_load_of := PySem.W.fnOf "load_of" "load_of" (defArgs s_load_of) (defBody s_load_of) (defScope s_load_of) .none kV4 dc4 pm4 an4 cd4 ct4, a_stones := f5, d_stones := PySem.W.fnOf "stones" "stones" (defArgs s_stones) (defBody s_stones) (defScope s_stones) .none kV5 dc5 pm5 an5 cd5 ct5, a_ended := f6, d_ended := PySem.W.fnOf "ended" "ended" (defArgs s_ended) (defBody s_ended) (defScope s_ended) .none kV6 dc6 pm6 an6 cd6 ct6, a_is_neat := f7, d_is_neat := PySem.W.fnOf "is_neat" "is_neat" (defArgs s_is_neat) (defBody s_is_neat) (defScope s_is_neat) .none kV7 dc7 pm7 an7 cd7 ct7, a_laid := f8, d_laid := PySem.W.fnOf "laid" "laid" (defArgs s_laid) (defBody s_laid) (defScope s_laid) .none kV8 dc8 pm8 an8 cd8 ct8, a_sign_of := f9, d_sign_of := PySem.W.fnOf "sign_of" "sign_of" (defArgs s_sign_of) (defBody s_sign_of) (defScope s_sign_of) .none kV9 dc9 pm9 an9 cd9 ct9, a_shown := f10, d_shown := PySem.W.fnOf "shown" "shown" (defArgs s_shown) (defBody s_shown) (defScope s_shown) .none kV10 dc10 pm10 an10 cd10 ct10, a_neat := f11, d_neat := PySem.W.fnOf "neat" "neat" (defArgs s_neat) (defBody s_neat) (defScope s_neat) .none kV11 dc11 pm11 an11 cd11 ct11, a_turned := f12, d_turned := PySem.W.fnOf "turned" "turned" (defArgs s_turned) (defBody s_turned) (defScope s_turned) .none kV12 dc12 pm12 an12 cd12 ct12, a_plus := f13, d_plus := PySem.W.fnOf "plus" "plus" (defArgs s_plus) (defBody s_plus) (defScope s_plus) .none kV13 dc13 pm13 an13 cd13 ct13, a_heavier := f14, d_heavier := PySem.W.fnOf "heavier" "heavier" (defArgs s_heavier) (defBody s_heavier) (defScope s_heavier) .none kV14 dc14 pm14 an14 cd14 ct14, a_parted := f15, d_parted := PySem.W.fnOf "parted" "parted" (defArgs s_parted) (defBody s_parted) (defScope s_parted) .none kV15 dc15 pm15 an15 cd15 ct15, a_l_cell_at := f16, d_l_cell_at := PySem.W.fnOf "_law_cell_at" "_law_cell_at" (defArgs s_l_cell_at) (defBody s_l_cell_at) (defScope s_l_cell_at) .none kV16 dc16 pm16 an16 cd16 ct16, a_l_load := f17, d_l_load := PySem.W.fnOf "_law_load" "_law_load" (defArgs s_l_load) (defBody s_l_load) (defScope s_l_load) .none kV17 dc17 pm17 an17 cd17 ct17, a_l_bad := f18, d_l_bad := PySem.W.fnOf "_law_bad" "_law_bad" (defArgs s_l_bad) (defBody s_l_bad) (defScope s_l_bad) .none kV18 dc18 pm18 an18 cd18 ct18, a_l_no_list := f19, d_l_no_list := PySem.W.fnOf "_law_no_list" "_law_no_list" (defArgs s_l_no_list) (defBody s_l_no_list) (defScope s_l_no_list) .none kV19 dc19 pm19 an19 cd19 ct19, a_l_asked := f20, d_l_asked := PySem.W.fnOf "_law_asked" "_law_asked" (defArgs s_l_asked) (defBody s_l_asked) (defScope s_l_asked) .none kV20 dc20 pm20 an20 cd20 ct20, a_l_truths := f21, d_l_truths := PySem.W.fnOf "_law_truths" "_law_truths" (defArgs s_l_truths) (defBody s_l_truths) (defScope s_l_truths) .none kV21 dc21 pm21 an21 cd21 ct21, a_l_all := f22, d_l_all := PySem.W.fnOf "_law_all" "_law_all" (defArgs s_l_all) (defBody s_l_all) (defScope s_l_all) .none kV22 dc22 pm22 an22 cd22 ct22, a_law := fa, d_law := PySem.W.fnOf "law" "law" (defArgs s_law) (defBody s_law) (defScope s_law) .none kV23 dc23 pm23 an23 cd23 ct23 }
  have T : Txt K mg A F := { f_is_whole := F0, b_is_whole := B0, g_is_whole := PySem.W.mg_of X G a0, f_is_laying := F1, b_is_laying := B1, g_is_laying := PySem.W.mg_of X G a1, f_good_laying := F2, b_good_laying := B2, g_good_laying := PySem.W.mg_of X G a2, f_good_load := F3, b_good_load := B3, g_good_load := PySem.W.mg_of X G a3, f_load_of := F4, b_load_of := B4, g_load_of := PySem.W.mg_of X G a4, f_stones := F5, b_stones := B5, g_stones := PySem.W.mg_of X G a5, f_ended := F6, b_ended := B6, g_ended := PySem.W.mg_of X G a6, f_is_neat := F7, b_is_neat := B7, g_is_neat := PySem.W.mg_of X G a7, f_laid := F8, b_laid := B8, g_laid := PySem.W.mg_of X G a8, f_sign_of := F9, b_sign_of := B9, g_sign_of := PySem.W.mg_of X G a9, f_shown := F10, b_shown := B10, g_shown := PySem.W.mg_of X G a10, f_neat := F11, b_neat := B11, g_neat := PySem.W.mg_of X G a11, f_turned := F12, b_turned := B12, g_turned := PySem.W.mg_of X G a12, f_plus := F13, b_plus := B13, g_plus := PySem.W.mg_of X G a13, f_heavier := F14, b_heavier := B14, g_heavier := PySem.W.mg_of X G a14, f_parted := F15, b_parted := B15, g_parted := PySem.W.mg_of X G a15, f_l_cell_at := F16, b_l_cell_at := B16, g_l_cell_at := PySem.W.mg_of X G a16, f_l_load := F17, b_l_load := B17, g_l_load := PySem.W.mg_of X G a17, f_l_bad := F18, b_l_bad := B18, g_l_bad := PySem.W.mg_of X G a18, f_l_no_list := F19, b_l_no_list := B19, g_l_no_list := PySem.W.mg_of X G a19, f_l_asked := F20, b_l_asked := B20, g_l_asked := PySem.W.mg_of X G a20, f_l_truths := F21, b_l_truths := B21, g_l_truths := PySem.W.mg_of X G a21, f_l_all := F22, b_l_all := B22, g_l_all := PySem.W.mg_of X G a22, f_law := F23, b_law := B23, g_law := PySem.W.mg_of X G a23, n_ValueError := PySem.W.mg_none_of X G z_ValueError, n_bool := PySem.W.mg_none_of X G z_bool, n_int := PySem.W.mg_none_of X G z_int, n_isinstance := PySem.W.mg_none_of X G z_isinstance, n_len := PySem.W.mg_none_of X G z_len, n_list := PySem.W.mg_none_of X G z_list, n_range := PySem.W.mg_none_of X G z_range, n_reversed := PySem.W.mg_none_of X G z_reversed, g_NoDeed := PySem.W.mg_of X G ga_NoDeed, x_NoDeed := gx_NoDeed, k_NoDeed := gk_NoDeed, s_NoDeed := gs_NoDeed, t_NoDeed := gt_NoDeed, g_NoLaying := PySem.W.mg_of X G ga_NoLaying, x_NoLaying := gx_NoLaying, k_NoLaying := gk_NoLaying, s_NoLaying := gs_NoLaying, t_NoLaying := gt_NoLaying, g_NoLoad := PySem.W.mg_of X G ga_NoLoad, x_NoLoad := gx_NoLoad, k_NoLoad := gk_NoLoad, s_NoLoad := gs_NoLoad, t_NoLoad := gt_NoLoad, g_NoPlan := PySem.W.mg_of X G ga_NoPlan, x_NoPlan := gx_NoPlan, k_NoPlan := gk_NoPlan, s_NoPlan := gs_NoPlan, t_NoPlan := gt_NoPlan, g_NoText := PySem.W.mg_of X G ga_NoText, x_NoText := gx_NoText, k_NoText := gk_NoText, s_NoText := gs_NoText, t_NoText := gt_NoText, g_StoneError := PySem.W.mg_of X G ga_StoneError, x_StoneError := gx_StoneError, k_StoneError := gk_StoneError, s_StoneError := gs_StoneError, t_StoneError := gt_StoneError, xc_laying := ⟨hg_laying, hk_laying, gs_NoLaying, hd_NoLaying, ha_laying, hn_, ht_, hm_laying⟩, ct_laying := ⟨PySem.W.exm_ref gs_StoneError hd_StoneError gt_StoneError su_StoneError_laying, kit_type (by decide +kernel) sv_laying, kit_ref hd_NoLaying gt_NoLaying su_NoLaying_laying su_NoLaying_laying, kit_ref hd_NoLoad gt_NoLoad su_NoLoad_laying su_NoLaying_laying, kit_ref hd_NoPlan gt_NoPlan su_NoPlan_laying su_NoLaying_laying, kit_ref hd_NoText gt_NoText su_NoText_laying su_NoLaying_laying, kit_ref hd_NoDeed gt_NoDeed su_NoDeed_laying su_NoLaying_laying⟩ }
  exact ⟨_, fun s v => .of_eq rfl, fun base _ _ => ok_law T⟩
end Law
open PySem PySem.W PyProof.Rows
set_option maxRecDepth 100000 in
set_option maxHeartbeats 0 in
theorem PySem.Challenge.cw_fewstones_k10_no_laying_holds : PySem.Challenge.rw_fewstones_k10_no_laying.Holds := by
  w_on; o_law; k_head; (case hw => w_witness2)
  k_fill
  refine L2.walk_of (l := PySem.Challenge.rw_fewstones_k10_no_laying) (n := 63) (k := 9) (x := "_law_script") (CX := fun _ => L2.CX0) (sp := fun w => Fw.sp_law _ Fw.A0) rfl (by decide) rfl ⟨rfl, by decide, by decide⟩ (fun w h Y => PySem.W.kIn_of Y) ?F (fun _ _ a ns hl _ hS => ⟨.ref a, ns, rfl, ⟨a, rfl, hS⟩, hl, fun _ _ => rfl⟩) (fun _ _ _ _ _ h => h)
  case F =>
    intro w mg fa h KX G hmg
    refine' Law.all_mk KX G hmg ?a0 ?l0 ?c0 ?k0 ?a1 ?l1 ?c1 ?k1 ?a2 ?l2 ?c2 ?k2 ?a3 ?l3 ?c3 ?k3 ?a4 ?l4 ?c4 ?k4 ?a5 ?l5 ?c5 ?k5 ?a6 ?l6 ?c6 ?k6 ?a7 ?l7 ?c7 ?k7 ?a8 ?l8 ?c8 ?k8 ?a9 ?l9 ?c9 ?k9 ?a10 ?l10 ?c10 ?k10 ?a11 ?l11 ?c11 ?k11 ?a12 ?l12 ?c12 ?k12 ?a13 ?l13 ?c13 ?k13 ?a14 ?l14 ?c14 ?k14 ?a15 ?l15 ?c15 ?k15 ?a16 ?l16 ?c16 ?k16 ?a17 ?l17 ?c17 ?k17 ?a18 ?l18 ?c18 ?k18 ?a19 ?l19 ?c19 ?k19 ?a20 ?l20 ?c20 ?k20 ?a21 ?l21 ?c21 ?k21 ?a22 ?l22 ?c22 ?k22 ?a23 ?l23 ?c23 ?k23 ?ga_NoDeed ?gx_NoDeed ?gk_NoDeed ?gs_NoDeed ?gt_NoDeed ?ga_NoLaying ?gx_NoLaying ?gk_NoLaying ?gs_NoLaying ?gt_NoLaying ?ga_NoLoad ?gx_NoLoad ?gk_NoLoad ?gs_NoLoad ?gt_NoLoad ?ga_NoPlan ?gx_NoPlan ?gk_NoPlan ?gs_NoPlan ?gt_NoPlan ?ga_NoText ?gx_NoText ?gk_NoText ?gs_NoText ?gt_NoText ?ga_StoneError ?gx_StoneError ?gk_StoneError ?gs_StoneError ?gt_StoneError ?hd_NoDeed ?hd_NoLaying ?hd_NoLoad ?hd_NoPlan ?hd_NoText ?hd_StoneError ?hn_ ?ht_ ?hg_laying ?hk_laying ?ha_laying ?hm_laying ?sv_laying ?su_NoDeed_laying ?su_NoLaying_laying ?su_NoLoad_laying ?su_NoPlan_laying ?su_NoText_laying ?su_StoneError_laying ?z_ValueError ?z_bool ?z_int ?z_isinstance ?z_len ?z_list ?z_range ?z_reversed
    (case a0 => k_is)
    (case l0 => k_is)
    (case c0 => k_is)
    (case k0 => k_is)
    (case a1 => k_is)
    (case l1 => k_is)
    (case c1 => k_is)
    (case k1 => k_is)
    (case a2 => k_is)
    (case l2 => k_is)
    (case c2 => k_is)
    (case k2 => k_is)
    (case a3 => k_is)
    (case l3 => k_is)
    (case c3 => k_is)
    (case k3 => k_is)
    (case a4 => k_is)
    (case l4 => k_is)
    (case c4 => k_is)
    (case k4 => k_is)
    (case a5 => k_is)
    (case l5 => k_is)
    (case c5 => k_is)
    (case k5 => k_is)
    (case a6 => k_is)
    (case l6 => k_is)
    (case c6 => k_is)
    (case k6 => k_is)
    (case a7 => k_is)
    (case l7 => k_is)
    (case c7 => k_is)
    (case k7 => k_is)
    (case a8 => k_is)
    (case l8 => k_is)
    (case c8 => k_is)
    (case k8 => k_is)
    (case a9 => k_is)
    (case l9 => k_is)
    (case c9 => k_is)
    (case k9 => k_is)
    (case a10 => k_is)
    (case l10 => k_is)
    (case c10 => k_is)
    (case k10 => k_is)
    (case a11 => k_is)
    (case l11 => k_is)
    (case c11 => k_is)
    (case k11 => k_is)
    (case a12 => k_is)
    (case l12 => k_is)
    (case c12 => k_is)
    (case k12 => k_is)
    (case a13 => k_is)
    (case l13 => k_is)
    (case c13 => k_is)
    (case k13 => k_is)
    (case a14 => k_is)
    (case l14 => k_is)
    (case c14 => k_is)
    (case k14 => k_is)
    (case a15 => k_is)
    (case l15 => k_is)
    (case c15 => k_is)
    (case k15 => k_is)
    (case a16 => k_is)
    (case l16 => k_is)
    (case c16 => k_is)
    (case k16 => k_is)
    (case a17 => k_is)
    (case l17 => k_is)
    (case c17 => k_is)
    (case k17 => k_is)
    (case a18 => k_is)
    (case l18 => k_is)
    (case c18 => k_is)
    (case k18 => k_is)
    (case a19 => k_is)
    (case l19 => k_is)
    (case c19 => k_is)
    (case k19 => k_is)
    (case a20 => k_is)
    (case l20 => k_is)
    (case c20 => k_is)
    (case k20 => k_is)
    (case a21 => k_is)
    (case l21 => k_is)
    (case c21 => k_is)
    (case k21 => k_is)
    (case a22 => k_is)
    (case l22 => k_is)
    (case c22 => k_is)
    (case k22 => k_is)
    (case a23 => k_is)
    (case l23 => k_is)
    (case c23 => k_is)
    (case k23 => k_is)
    (case ga_NoDeed => k_is)
    (case gx_NoDeed => k_exc)
    (case gk_NoDeed => k_is)
    (case gs_NoDeed => k_is)
    (case gt_NoDeed => k_is)
    (case ga_NoLaying => k_is)
    (case gx_NoLaying => k_exc)
    (case gk_NoLaying => k_is)
    (case gs_NoLaying => k_is)
    (case gt_NoLaying => k_is)
    (case ga_NoLoad => k_is)
    (case gx_NoLoad => k_exc)
    (case gk_NoLoad => k_is)
    (case gs_NoLoad => k_is)
    (case gt_NoLoad => k_is)
    (case ga_NoPlan => k_is)
    (case gx_NoPlan => k_exc)
    (case gk_NoPlan => k_is)
    (case gs_NoPlan => k_is)
    (case gt_NoPlan => k_is)
    (case ga_NoText => k_is)
    (case gx_NoText => k_exc)
    (case gk_NoText => k_is)
    (case gs_NoText => k_is)
    (case gt_NoText => k_is)
    (case ga_StoneError => k_is)
    (case gx_StoneError => k_exc)
    (case gk_StoneError => k_is)
    (case gs_StoneError => k_is)
    (case gt_StoneError => k_is)
    (case hd_NoDeed => k_is)
    (case hd_NoLaying => k_is)
    (case hd_NoLoad => k_is)
    (case hd_NoPlan => k_is)
    (case hd_NoText => k_is)
    (case hd_StoneError => k_is)
    (case hn_ => k_is)
    (case ht_ => k_is)
    (case hg_laying => k_is)
    (case hk_laying => k_is)
    (case ha_laying => k_is)
    (case hm_laying => k_is)
    (case sv_laying => k_is)
    (case su_NoDeed_laying => k_is)
    (case su_NoLaying_laying => k_is)
    (case su_NoLoad_laying => k_is)
    (case su_NoPlan_laying => k_is)
    (case su_NoText_laying => k_is)
    (case su_StoneError_laying => k_is)
    (case z_ValueError => k_is)
    (case z_bool => k_is)
    (case z_int => k_is)
    (case z_isinstance => k_is)
    (case z_len => k_is)
    (case z_list => k_is)
    (case z_range => k_is)
    (case z_reversed => k_is)
#print axioms PySem.Challenge.cw_fewstones_k10_no_laying_holds

