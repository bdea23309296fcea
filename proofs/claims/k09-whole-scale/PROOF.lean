import PyProof.Rows.All
import Wide.All
import OpenK.AllK
import Wide.FinOn
import HandS.ForMost
import HandS.ForExc
import HandS.IsInst
import HandS.ExcIs
import HandS.Wide
import HandS.Style
import HandS.Evl
import HandS.More
import HandS.StrMore
import HandS.Deep
import HandS.Defaults
import HandS.CallSlots
import PySem.Challenge.RW_fewstones_k09_whole_scale
set_option Elab.async false
set_option linter.all false
set_option maxRecDepth 100000
set_option maxHeartbeats 4000000
namespace Few
/-! plain mathematics of layings: no program in sight -/
/-- the load of a laying -/
def loadOf : List Int → Int
  | [] => 0
  | x :: r => 2 * loadOf r + x
def used (l : List Int) : Nat := (l.filter (fun x => decide (x ≠ 0))).length
/-- a thing of a laying -/
def Pm (x : Int) : Prop := x = 1 ∨ x = 0 ∨ x = -1
def Lay (l : List Int) : Prop := ∀ x ∈ l, Pm x
theorem Lay.tail {x : Int} {r : List Int} (h : Lay (x :: r)) : Lay r := fun y hy => h y (List.mem_cons_of_mem _ hy)
theorem Lay.head {x : Int} {r : List Int} (h : Lay (x :: r)) : Pm x := h x List.mem_cons_self
/-- neat, from the least weight on -/
def neatB : List Int → Bool
  | [] => true
  | [x] => decide (x ≠ 0)
  | x :: y :: r => (decide (x = 0) || decide (y = 0)) && neatB (y :: r)
def digit (n : Int) : Int := if n % 2 = 1 then 2 - n % 4 else 0
theorem digit_pm (n : Int) : Pm (digit n) := by
  unfold digit Pm
  split <;> omega
theorem digit_less (n : Int) (h : n ≠ 0) : ((n - digit n) / 2).natAbs < n.natAbs := by
  unfold digit
  split <;> omega
def laid (n : Int) : List Int := if h : n = 0 then [] else digit n :: laid ((n - digit n) / 2)
termination_by n.natAbs
decreasing_by exact digit_less n h
theorem laid_zero : laid 0 = [] := by
  rw [laid]
  exact dif_pos rfl
theorem laid_ne {n : Int} (h : n ≠ 0) : laid n = digit n :: laid ((n - digit n) / 2) := by
  rw [laid, dif_neg h]
theorem laid_even {n : Int} (h : n ≠ 0) : laid (2 * n) = 0 :: laid n := by
  have d : digit (2 * n) = 0 := by
    unfold digit
    rw [if_neg (by omega)]
  rw [laid_ne (show 2 * n ≠ 0 by omega), d]
  congr 2
  omega
theorem laid_41 (n : Int) : laid (4 * n + 1) = 1 :: laid (2 * n) := by
  have d : digit (4 * n + 1) = 1 := by
    unfold digit
    rw [if_pos (by omega)]
    omega
  rw [laid_ne (show 4 * n + 1 ≠ 0 by omega), d]
  congr 2
  omega
theorem laid_43 (n : Int) : laid (4 * n + 3) = -1 :: laid (2 * n + 2) := by
  have d : digit (4 * n + 3) = -1 := by
    unfold digit
    rw [if_pos (by omega)]
    omega
  rw [laid_ne (show 4 * n + 3 ≠ 0 by omega), d]
  congr 2
  omega
/-- induction along laid -/
theorem laid_ind {P : Int → Prop} (h0 : P 0) (hs : ∀ n, n ≠ 0 → P ((n - digit n) / 2) → P n) : ∀ n, P n := by
  have go : ∀ (k : Nat) (n : Int), n.natAbs ≤ k → P n := by
    intro k
    induction k with
    | zero =>
      intro n h
      have e : n = 0 := by omega
      rw [e]
      exact h0
    | succ k ih =>
      intro n h
      by_cases e : n = 0
      · rw [e]
        exact h0
      · have q := digit_less n e
        exact hs n e (ih _ (by omega))
  intro n
  exact go _ n (Nat.le_refl _)
theorem load_laid : ∀ n, loadOf (laid n) = n := by
  apply laid_ind
  · rw [laid_zero]
    rfl
  · intro n h ih
    rw [laid_ne h]
    show 2 * loadOf (laid ((n - digit n) / 2)) + digit n = n
    rw [ih]
    unfold digit
    split <;> omega
theorem lay_laid : ∀ n, Lay (laid n) := by
  apply laid_ind
  · rw [laid_zero]
    intro x hx
    cases hx
  · intro n h ih
    rw [laid_ne h]
    intro x hx
    rcases List.mem_cons.mp hx with e | e
    · rw [e]
      exact digit_pm n
    · exact ih x e
theorem laid_nil {n : Int} (h : laid n = []) : n = 0 := by
  by_cases e : n = 0
  · exact e
  · rw [laid_ne e] at h
    cases h
theorem neat_laid : ∀ n, neatB (laid n) = true := by
  apply laid_ind
  · rw [laid_zero]
    rfl
  · intro n h ih
    rw [laid_ne h]
    by_cases e : (n - digit n) / 2 = 0
    · rw [e, laid_zero]
      show decide (digit n ≠ 0) = true
      apply decide_eq_true
      unfold digit at e ⊢
      split at e <;> split <;> omega
    · rw [laid_ne e] at ih ⊢
      show ((decide (digit n = 0) || decide (digit ((n - digit n) / 2) = 0)) && neatB (digit ((n - digit n) / 2) :: laid (((n - digit n) / 2 - digit ((n - digit n) / 2)) / 2))) = true
      rw [ih, Bool.and_true]
      by_cases z : digit n = 0
      · rw [decide_eq_true z, Bool.true_or]
      · rw [Bool.or_eq_true]
        right
        apply decide_eq_true
        unfold digit at z ⊢
        split at z
        · rename_i o
          rw [if_pos o]
          rw [if_neg (by omega)]
        · exact absurd rfl z
theorem neat_tail {x : Int} {r : List Int} (h : neatB (x :: r) = true) : neatB r = true := by
  cases r with
  | nil => rfl
  | cons y r =>
    have h' : ((decide (x = 0) || decide (y = 0)) && neatB (y :: r)) = true := h
    rw [Bool.and_eq_true] at h'
    exact h'.2
theorem neat_two {x y : Int} {r : List Int} (h : neatB (x :: y :: r) = true) : x = 0 ∨ y = 0 := by
  have h' : ((decide (x = 0) || decide (y = 0)) && neatB (y :: r)) = true := h
  rw [Bool.and_eq_true, Bool.or_eq_true] at h'
  exact h'.1.imp of_decide_eq_true of_decide_eq_true
theorem neat_load_ne : ∀ {l : List Int}, Lay l → neatB l = true → l ≠ [] → loadOf l ≠ 0
  | [], _, _, h => absurd rfl h
  | [x], a, n, _ => by
    have e : x ≠ 0 := of_decide_eq_true n
    show 2 * 0 + x ≠ 0
    omega
  | x :: y :: r, a, n, _ => by
    have ih := neat_load_ne a.tail (neat_tail n) (List.cons_ne_nil y r)
    have p := a.head
    show 2 * loadOf (y :: r) + x ≠ 0
    unfold Pm at p
    omega
/-- each load has just one neat laying -/
theorem laid_load : ∀ {l : List Int}, Lay l → neatB l = true → laid (loadOf l) = l
  | [], _, _ => laid_zero
  | [x], a, n => by
    have e : x ≠ 0 := of_decide_eq_true n
    have p := a.head
    show laid (2 * 0 + x) = [x]
    rcases p with p | p | p
    · rw [p]
      have q := laid_41 0
      rw [show (2 : Int) * 0 = 0 from rfl, laid_zero] at q
      exact q
    · exact absurd p e
    · rw [p]
      have q := laid_43 (-1)
      rw [show (2 : Int) * -1 + 2 = 0 from rfl, laid_zero] at q
      exact q
  | x :: y :: r, a, n => by
    have ih := laid_load a.tail (neat_tail n)
    have ne := neat_load_ne a.tail (neat_tail n) (List.cons_ne_nil y r)
    have p := a.head
    have t := neat_two n
    show laid (2 * loadOf (y :: r) + x) = x :: y :: r
    rcases p with p | p | p
    · have hy : y = 0 := by omega
      subst hy p
      have e : loadOf (0 :: r) = 2 * loadOf r := by
        show 2 * loadOf r + 0 = 2 * loadOf r
        omega
      rw [e] at ih ⊢
      have q := laid_41 (loadOf r)
      rw [show 2 * (2 * loadOf r) + 1 = 4 * loadOf r + 1 by omega, q, ih]
    · subst p
      rw [Int.add_zero, laid_even ne, ih]
    · have hy : y = 0 := by omega
      subst hy p
      have e : loadOf (0 :: r) = 2 * loadOf r := by
        show 2 * loadOf r + 0 = 2 * loadOf r
        omega
      rw [e] at ih ⊢
      have q := laid_43 (loadOf r - 1)
      rw [show 4 * (loadOf r - 1) + 3 = 2 * (2 * loadOf r) + -1 by omega, show 2 * (loadOf r - 1) + 2 = 2 * loadOf r by omega, ih] at q
      exact q
/-! how long -/
theorem laid_len : ∀ (k : Nat) (n : Int), n.natAbs < 2 ^ k → (laid n).length ≤ k + 1
  | 0, n, h => by
    have e : n = 0 := by
      have : n.natAbs < 1 := h
      omega
    rw [e, laid_zero]
    exact Nat.zero_le _
  | k + 1, n, h => by
    by_cases e : n = 0
    · rw [e, laid_zero]
      exact Nat.zero_le _
    · rw [laid_ne e, List.length_cons]
      have h' : n.natAbs < 2 * 2 ^ k := by
        rw [Nat.pow_succ] at h
        omega
      by_cases b : ((n - digit n) / 2).natAbs < 2 ^ k
      · have := laid_len k _ b
        omega
      · -- only a half that is 2 ^ k itself
        have d := digit_pm n
        unfold Pm at d
        have e2 : ((n - digit n) / 2).natAbs = 2 ^ k := by
          unfold digit at b d ⊢
          split at b <;> rename_i o
          · rw [if_pos o]
            omega
          · rw [if_neg o]
            omega
        have : ∀ (k : Nat) (m : Int), m.natAbs = 2 ^ k → (laid m).length ≤ k + 1 := by
          intro k
          induction k with
          | zero =>
            intro m hm
            have hm' : m.natAbs = 1 := hm
            have : m = 1 ∨ m = -1 := by omega
            rcases this with z | z
            · rw [z]
              have q := laid_41 0
              rw [show (2 : Int) * 0 = 0 from rfl, laid_zero] at q
              rw [show (1 : Int) = 4 * 0 + 1 from rfl, q]
              exact Nat.le_refl _
            · rw [z]
              have q := laid_43 (-1)
              rw [show (2 : Int) * -1 + 2 = 0 from rfl, laid_zero] at q
              rw [show (-1 : Int) = 4 * -1 + 3 from rfl, q]
              exact Nat.le_refl _
          | succ k ih =>
            intro m hm
            rw [Nat.pow_succ] at hm
            have pos : 0 < 2 ^ k := Nat.two_pow_pos k
            obtain ⟨j, hj⟩ : ∃ j, m = 2 * j := ⟨m / 2, by omega⟩
            have hj0 : j ≠ 0 := by omega
            rw [hj, laid_even hj0, List.length_cons]
            have := ih j (by omega)
            omega
        have := this k _ e2
        omega
/-! as few as can be -/
def w (n : Int) : Nat := used (laid n)
theorem used_cons (x : Int) (r : List Int) : used (x :: r) = (if x = 0 then 0 else 1) + used r := by
  unfold used
  rw [List.filter_cons]
  by_cases e : x = 0
  · rw [if_neg (by simp [e]), if_pos e]
    omega
  · rw [if_pos (by simp [e]), if_neg e, List.length_cons]
    omega
theorem w_zero : w 0 = 0 := by
  unfold w
  rw [laid_zero]
  rfl
theorem w_even (n : Int) : w (2 * n) = w n := by
  by_cases e : n = 0
  · rw [e]
    rfl
  · unfold w
    rw [laid_even e, used_cons, if_pos rfl]
    omega
theorem w_41 (n : Int) : w (4 * n + 1) = w n + 1 := by
  rw [← w_even n]
  unfold w
  rw [laid_41, used_cons, if_neg (by decide)]
  omega
theorem w_43 (n : Int) : w (4 * n + 3) = w (n + 1) + 1 := by
  rw [← w_even (n + 1)]
  unfold w
  rw [laid_43, used_cons, if_neg (by decide), show 2 * (n + 1) = 2 * n + 2 by omega]
  omega
theorem w_near : ∀ (k : Nat) (n : Int), n.natAbs ≤ k → w n ≤ w (2 * n + 1) ∧ w (n + 1) ≤ w (2 * n + 1) ∧ w (2 * n + 1) ≤ w n + 1 ∧ w (2 * n + 1) ≤ w (n + 1) + 1 := by
  intro k
  induction k with
  | zero =>
    intro n h
    have e : n = 0 := by omega
    subst e
    have a := w_41 0
    rw [w_zero] at a
    rw [w_zero]
    have b : w (4 * 0 + 1) = w (0 + 1) := rfl
    have c : w (4 * 0 + 1) = w (2 * 0 + 1) := rfl
    omega
  | succ k ih =>
    intro n h
    by_cases z : n.natAbs ≤ k
    · exact ih n z
    · by_cases m1 : n = -1
      · subst m1
        have a := w_43 (-1)
        have b : w (4 * -1 + 3) = w (2 * -1 + 1) := rfl
        have c : w (-1 + 1) = w 0 := rfl
        have d : w (-1) = w (2 * -1 + 1) := rfl
        rw [c, w_zero] at a
        rw [d, c, w_zero]
        omega
      · rcases (show n % 2 = 0 ∨ n % 2 = 1 by omega) with e | e
        · obtain ⟨j, hj⟩ : ∃ j, n = 2 * j := ⟨n / 2, by omega⟩
          have q := ih j (by omega)
          subst hj
          have a := w_41 j
          have b := w_even j
          rw [show 2 * (2 * j) + 1 = 4 * j + 1 by omega]
          omega
        · obtain ⟨j, hj⟩ : ∃ j, n = 2 * j + 1 := ⟨n / 2, by omega⟩
          have q := ih j (by omega)
          subst hj
          have a := w_43 j
          have b := w_even (j + 1)
          rw [show 2 * (2 * j + 1) + 1 = 4 * j + 3 by omega, show 2 * j + 1 + 1 = 2 * (j + 1) by omega]
          omega
theorem w_step (n : Int) : w (n + 1) ≤ w n + 1 ∧ w n ≤ w (n + 1) + 1 := by
  rcases (show n % 2 = 0 ∨ n % 2 = 1 by omega) with e | e
  · obtain ⟨j, hj⟩ : ∃ j, n = 2 * j := ⟨n / 2, by omega⟩
    have q := w_near _ j (Nat.le_refl _)
    have b := w_even j
    subst hj
    omega
  · obtain ⟨j, hj⟩ : ∃ j, n = 2 * j + 1 := ⟨n / 2, by omega⟩
    have q := w_near _ j (Nat.le_refl _)
    have b := w_even (j + 1)
    subst hj
    rw [show 2 * j + 1 + 1 = 2 * (j + 1) by omega]
    omega
theorem w_put (n : Int) : w (n + 1) ≤ w n + 1 := (w_step n).1
theorem w_take (n : Int) : w (n - 1) ≤ w n + 1 := by
  have q := (w_step (n - 1)).2
  rw [show n - 1 + 1 = n by omega] at q
  exact q
/-- no laying of the same load uses fewer stones -/
theorem w_least : ∀ {l : List Int}, Lay l → w (loadOf l) ≤ used l
  | [], _ => by
    show w 0 ≤ 0
    rw [w_zero]
    exact Nat.le_refl _
  | x :: r, a => by
    have ih := w_least a.tail
    have p := a.head
    have e := w_even (loadOf r)
    rw [used_cons]
    show w (2 * loadOf r + x) ≤ _
    rcases p with p | p | p
    · subst p
      have q := w_put (2 * loadOf r)
      rw [if_neg (by decide)]
      omega
    · subst p
      rw [if_pos rfl, Int.add_zero]
      omega
    · subst p
      have q := w_take (2 * loadOf r)
      rw [if_neg (by decide)]
      rw [show 2 * loadOf r + -1 = 2 * loadOf r - 1 by omega]
      omega
/-! parted -/
theorem load_append : ∀ (a b : List Int), loadOf (a ++ b) = loadOf a + 2 ^ a.length * loadOf b
  | [], b => by
    show loadOf b = 0 + 2 ^ 0 * loadOf b
    rw [show (2 : Int) ^ 0 = 1 from rfl]
    omega
  | x :: r, b => by
    show 2 * loadOf (r ++ b) + x = 2 * loadOf r + x + 2 ^ (r.length + 1) * loadOf b
    rw [load_append r b, Int.pow_succ, Int.mul_add, Int.mul_comm (2 ^ r.length) 2, Int.mul_assoc]
    omega
theorem load_noughts (n : Nat) : loadOf (List.replicate n 0) = 0 := by
  induction n with
  | zero => rfl
  | succ n ih =>
    show 2 * loadOf (List.replicate n 0) + 0 = 0
    rw [ih]
    rfl
/-- no two neighbours used -/
def apartB : List Int → Bool
  | [] => true
  | [_] => true
  | x :: y :: r => (decide (x = 0) || decide (y = 0)) && apartB (y :: r)
theorem apart_tail {x : Int} {r : List Int} (h : apartB (x :: r) = true) : apartB r = true := by
  cases r with
  | nil => rfl
  | cons y r =>
    have h' : ((decide (x = 0) || decide (y = 0)) && apartB (y :: r)) = true := h
    rw [Bool.and_eq_true] at h'
    exact h'.2
theorem apart_two {x y : Int} {r : List Int} (h : apartB (x :: y :: r) = true) : x = 0 ∨ y = 0 := by
  have h' : ((decide (x = 0) || decide (y = 0)) && apartB (y :: r)) = true := h
  rw [Bool.and_eq_true, Bool.or_eq_true] at h'
  exact h'.1.imp of_decide_eq_true of_decide_eq_true
theorem apart_of_neat : ∀ {l : List Int}, neatB l = true → apartB l = true
  | [], _ => rfl
  | [_], _ => rfl
  | x :: y :: r, h => by
    have h' : ((decide (x = 0) || decide (y = 0)) && neatB (y :: r)) = true := h
    rw [Bool.and_eq_true] at h'
    show ((decide (x = 0) || decide (y = 0)) && apartB (y :: r)) = true
    rw [h'.1, apart_of_neat h'.2]
    rfl
theorem apart_bound : ∀ {l : List Int}, Lay l → apartB l = true → 3 * (loadOf l).natAbs < 2 ^ (l.length + 1)
  | [], _, _ => by
    show 3 * 0 < 2 ^ (0 + 1)
    decide
  | [x], a, _ => by
    have p := a.head
    show 3 * (2 * 0 + x).natAbs < 2 ^ (1 + 1)
    unfold Pm at p
    rw [show 2 ^ (1 + 1) = 4 from rfl]
    omega
  | x :: y :: r, a, n => by
    have p := a.head
    have t := apart_two n
    by_cases hx : x = 0
    · have ih := apart_bound a.tail (apart_tail n)
      subst hx
      show 3 * (2 * loadOf (y :: r) + 0).natAbs < 2 ^ ((y :: r).length + 1 + 1)
      rw [Nat.pow_succ]
      omega
    · have hy : y = 0 := by
        rcases t with t | t
        · exact absurd t hx
        · exact t
      subst hy
      have ih := apart_bound a.tail.tail (apart_tail (apart_tail n))
      show 3 * (2 * (2 * loadOf r + 0) + x).natAbs < 2 ^ (r.length + 1 + 1 + 1)
      rw [Nat.pow_succ, Nat.pow_succ]
      unfold Pm at p
      have pos : 2 ≤ 2 ^ (r.length + 1) := by
        rw [Nat.pow_succ]
        have := Nat.two_pow_pos r.length
        omega
      omega
end Few
namespace Few
/-! ended -/
def ended : List Int → List Int
  | [] => []
  | x :: r => if ended r = [] ∧ x = 0 then [] else x :: ended r
theorem ended_snoc0 : ∀ l : List Int, ended (l ++ [0]) = ended l
  | [] => by decide
  | x :: r => by
    show (if ended (r ++ [0]) = [] ∧ x = 0 then [] else x :: ended (r ++ [0])) = (if ended r = [] ∧ x = 0 then [] else x :: ended r)
    rw [ended_snoc0 r]
theorem ended_snoc : ∀ (l : List Int) {x : Int}, x ≠ 0 → ended (l ++ [x]) = l ++ [x]
  | [], x, h => by
    show (if ended [] = [] ∧ x = 0 then [] else x :: ended []) = [x]
    rw [if_neg (fun z => h z.2)]
    rfl
  | y :: r, x, h => by
    show (if ended (r ++ [x]) = [] ∧ y = 0 then [] else y :: ended (r ++ [x])) = y :: (r ++ [x])
    rw [ended_snoc r h, if_neg (fun z => by simp at z)]
/-- a list is its end's, by its last thing -/
theorem last_cases (l : List Int) : l = [] ∨ ∃ r x, l = r ++ [x] := by
  rcases List.eq_nil_or_concat l with h | ⟨r, x, h⟩
  · exact .inl h
  · exact .inr ⟨r, x, by rw [h]; simp⟩
theorem load_ended : ∀ l : List Int, loadOf (ended l) = loadOf l
  | [] => rfl
  | x :: r => by
    have ih := load_ended r
    show loadOf (if ended r = [] ∧ x = 0 then [] else x :: ended r) = 2 * loadOf r + x
    by_cases c : ended r = [] ∧ x = 0
    · rw [if_pos c]
      rw [c.1] at ih
      rw [← ih, c.2]
      rfl
    · rw [if_neg c, ← ih]
      rfl
theorem lay_ended {l : List Int} (h : Lay l) : Lay (ended l) := by
  have key : ∀ l : List Int, ∀ x ∈ ended l, x ∈ l := by
    intro l
    induction l with
    | nil =>
      intro x hx
      exact hx
    | cons y r ih =>
      intro x hx
      have hx' : x ∈ (if ended r = [] ∧ y = 0 then [] else y :: ended r) := hx
      by_cases c : ended r = [] ∧ y = 0
      · rw [if_pos c] at hx'
        cases hx'
      · rw [if_neg c] at hx'
        rcases List.mem_cons.mp hx' with e | e
        · rw [e]
          exact List.mem_cons_self
        · exact List.mem_cons_of_mem _ (ih x e)
  exact fun x hx => h x (key l x hx)
theorem ended_len : ∀ l : List Int, (ended l).length ≤ l.length
  | [] => Nat.le_refl _
  | x :: r => by
    have ih := ended_len r
    show (if ended r = [] ∧ x = 0 then [] else x :: ended r).length ≤ r.length + 1
    by_cases c : ended r = [] ∧ x = 0
    · rw [if_pos c]
      exact Nat.zero_le _
    · rw [if_neg c, List.length_cons]
      omega
/-- ended, and apart: neat -/
theorem neat_iff : ∀ l : List Int, neatB l = (apartB l && decide (ended l = l))
  | [] => by decide
  | [x] => by
    show decide (x ≠ 0) = (true && decide ((if ended [] = [] ∧ x = 0 then [] else x :: ended []) = [x]))
    rw [Bool.true_and]
    by_cases h : x = 0
    · subst h
      decide
    · rw [if_neg (fun z => h z.2)]
      simp [h, ended]
  | x :: y :: r => by
    have ih := neat_iff (y :: r)
    show ((decide (x = 0) || decide (y = 0)) && neatB (y :: r)) = (((decide (x = 0) || decide (y = 0)) && apartB (y :: r)) && decide ((if ended (y :: r) = [] ∧ x = 0 then [] else x :: ended (y :: r)) = x :: y :: r))
    rw [ih, Bool.and_assoc]
    congr 2
    by_cases c : ended (y :: r) = [] ∧ x = 0
    · rw [if_pos c, c.1]
      simp
    · rw [if_neg c]
      simp
theorem load_bound : ∀ {l : List Int}, Lay l → (loadOf l).natAbs < 2 ^ l.length
  | [], _ => by decide
  | x :: r, h => by
    have ih := load_bound h.tail
    have p := h.head
    show (2 * loadOf r + x).natAbs < 2 ^ (r.length + 1)
    rw [Nat.pow_succ]
    unfold Pm at p
    omega
theorem laid_load_len {l : List Int} (h : Lay l) : (laid (loadOf l)).length ≤ l.length + 1 := laid_len _ _ (load_bound h)
/-! a laying turned about -/
theorem lay_neg {l : List Int} (h : Lay l) : Lay (l.map fun x => -x) := by
  intro x hx
  obtain ⟨y, hy, rfl⟩ := List.mem_map.mp hx
  have := h y hy
  unfold Pm at *
  omega
theorem load_neg : ∀ l : List Int, loadOf (l.map fun x => -x) = - loadOf l
  | [] => rfl
  | x :: r => by
    show 2 * loadOf (r.map fun x => -x) + -x = -(2 * loadOf r + x)
    rw [load_neg r]
    omega
theorem lay_take {l : List Int} (h : Lay l) (n : Nat) : Lay (l.take n) := fun x hx => h x (List.mem_of_mem_take hx)
theorem lay_drop {l : List Int} (h : Lay l) (n : Nat) : Lay (l.drop n) := fun x hx => h x (List.mem_of_mem_drop hx)
theorem lay_append {a b : List Int} (h : Lay a) (h2 : Lay b) : Lay (a ++ b) := fun x hx => (List.mem_append.mp hx).elim (h x) (h2 x)
theorem lay_zeros (n : Nat) : Lay (List.replicate n 0) := fun x hx => by
  rw [(List.mem_replicate.mp hx).2]
  exact .inr (.inl rfl)
theorem lay_nil : Lay [] := fun x h => by cases h
theorem lay_cons {x : Int} {l : List Int} (p : Pm x) (h : Lay l) : Lay (x :: l) := fun y hy => by
  rcases List.mem_cons.mp hy with e | e
  · rw [e]
    exact p
  · exact h y e
end Few
namespace Few
/-- the last thing met, b where none was -/
def beforeOf (b : Int) (l : List Int) : Int := match l.getLast? with
  | some x => x
  | none => b
theorem before_take {ns : List Int} {i : Nat} {n : Int} (h : ns[i]? = some n) : beforeOf 0 (ns.take (i + 1)) = n := by
  unfold beforeOf
  rw [List.take_add_one, h]
  simp
theorem apart_snoc : ∀ (l : List Int) (x : Int), apartB (l ++ [x]) = (apartB l && (decide (beforeOf 0 l = 0) || decide (x = 0)))
  | [], x => by simp [apartB, beforeOf]
  | [y], x => by
    show ((decide (y = 0) || decide (x = 0)) && true) = (true && (decide (y = 0) || decide (x = 0)))
    rw [Bool.and_true, Bool.true_and]
  | y :: z :: r, x => by
    have ih := apart_snoc (z :: r) x
    have e : beforeOf 0 (y :: z :: r) = beforeOf 0 (z :: r) := by
      unfold beforeOf
      rw [List.getLast?_cons_cons]
    show ((decide (y = 0) || decide (z = 0)) && apartB ((z :: r) ++ [x])) = (((decide (y = 0) || decide (z = 0)) && apartB (z :: r)) && (decide (beforeOf 0 (y :: z :: r) = 0) || decide (x = 0)))
    rw [ih, e, Bool.and_assoc]
theorem apart_take_all : ∀ {l : List Int} (k : Nat), apartB (l.take k) = false → apartB l = false
  | [], k, h => by simp [apartB] at h
  | [x], k, h => by
    cases k with
    | zero => cases h
    | succ k => simp [apartB] at h
  | x :: y :: r, 0, h => by cases h
  | x :: y :: r, 1, h => by cases h
  | x :: y :: r, k + 2, h => by
    have h' : ((decide (x = 0) || decide (y = 0)) && apartB ((y :: r).take (k + 1))) = false := h
    show ((decide (x = 0) || decide (y = 0)) && apartB (y :: r)) = false
    rw [Bool.and_eq_false_iff] at h' ⊢
    exact h'.imp id fun q => apart_take_all (k + 1) q
theorem apart_step {ns : List Int} {i : Nat} {n b : Int} (h : ns[i]? = some n) (ha : apartB (ns.take i) = true) (hb : beforeOf 0 (ns.take i) = b) :
    ((!decide (b = 0) && !decide (n = 0)) = false → apartB (ns.take (i + 1)) = true) ∧ ((!decide (b = 0) && !decide (n = 0)) = true → apartB ns = false) := by
  have e : apartB (ns.take (i + 1)) = (decide (b = 0) || decide (n = 0)) := by
    rw [List.take_add_one, h, Option.toList, apart_snoc, ha, hb, Bool.true_and]
  refine ⟨fun z => ?_, fun z => apart_take_all (i + 1) ?_⟩
  · rw [e]
    revert z
    cases decide (b = 0) <;> cases decide (n = 0) <;> intro z <;> first | rfl | exact absurd z (by decide)
  · rw [e]
    revert z
    cases decide (b = 0) <;> cases decide (n = 0) <;> intro z <;> first | rfl | exact absurd z (by decide)
theorem neat_by_last (ns : List Int) {b : Int} (hb : beforeOf 0 ns = b) (ha : apartB ns = true) : neatB ns = (decide (ns = []) || !decide (b = 0)) := by
  rw [neat_iff, ha, Bool.true_and]
  rcases last_cases ns with h | ⟨r, x, h⟩
  · subst h
    rfl
  · subst h
    have e : b = x := by
      rw [← hb]
      unfold beforeOf
      simp
    subst e
    by_cases z : b = 0
    · subst z
      rw [ended_snoc0]
      have l := ended_len r
      have ne : ¬ ended r = r ++ [0] := fun q => by
        rw [q, List.length_append] at l
        simp at l
        omega
      simp [ne]
    · rw [ended_snoc r z]
      simp [z]
end Few
namespace Few
/-! a neat laying spoilt -/
theorem apart_mid : ∀ (a : List Int) {x y : Int} (b : List Int), x ≠ 0 → y ≠ 0 → apartB (a ++ x :: y :: b) = false
  | [], x, y, b, hx, hy => by
    show ((decide (x = 0) || decide (y = 0)) && apartB (y :: b)) = false
    rw [decide_eq_false hx, decide_eq_false hy]
    rfl
  | [z], x, y, b, hx, hy => by
    have ih := apart_mid [] b hx hy
    show ((decide (z = 0) || decide (x = 0)) && apartB (x :: y :: b)) = false
    have e : apartB (x :: y :: b) = false := ih
    rw [e, Bool.and_false]
  | z :: w :: r, x, y, b, hx, hy => by
    have ih := apart_mid (w :: r) b hx hy
    show ((decide (z = 0) || decide (w = 0)) && apartB (w :: (r ++ x :: y :: b))) = false
    have e : apartB (w :: (r ++ x :: y :: b)) = false := ih
    rw [e, Bool.and_false]
theorem neat_not_apart {l : List Int} (h : apartB l = false) : neatB l = false := by
  rw [neat_iff, h, Bool.false_and]
theorem ended_zeros (l : List Int) : ∀ n : Nat, ended (l ++ List.replicate n 0) = ended l
  | 0 => by simp
  | n + 1 => by
    rw [List.replicate_succ', ← List.append_assoc, ended_snoc0, ended_zeros l n]
theorem neat_zeros (l : List Int) (n : Nat) (h : 0 < n) : neatB (l ++ List.replicate n 0) = false := by
  rw [neat_iff, ended_zeros]
  have e := ended_len l
  have ne : ¬ ended l = l ++ List.replicate n 0 := fun z => by
    rw [z, List.length_append, List.length_replicate] at e
    omega
  rw [decide_eq_false ne, Bool.and_false]
/-- ended of a laying that is apart is neat -/
theorem apart_ended : ∀ {l : List Int}, apartB l = true → apartB (ended l) = true
  | [], _ => rfl
  | [x], _ => by
    show apartB (if ended [] = [] ∧ x = 0 then [] else x :: ended []) = true
    split <;> rfl
  | x :: y :: r, h => by
    have ih := apart_ended (apart_tail h)
    have t := apart_two h
    have e : ended (y :: r) = (if ended r = [] ∧ y = 0 then [] else y :: ended r) := rfl
    show apartB (if ended (y :: r) = [] ∧ x = 0 then [] else x :: ended (y :: r)) = true
    by_cases c : ended (y :: r) = [] ∧ x = 0
    · rw [if_pos c]
      rfl
    · rw [if_neg c]
      rw [e] at ih ⊢
      by_cases c2 : ended r = [] ∧ y = 0
      · rw [if_pos c2]
        rfl
      · rw [if_neg c2] at ih ⊢
        show ((decide (x = 0) || decide (y = 0)) && apartB (y :: ended r)) = true
        rw [ih, Bool.and_true, Bool.or_eq_true]
        exact t.imp decide_eq_true decide_eq_true
theorem ended_ended : ∀ l : List Int, ended (ended l) = ended l
  | [] => rfl
  | x :: r => by
    have ih := ended_ended r
    show ended (if ended r = [] ∧ x = 0 then [] else x :: ended r) = (if ended r = [] ∧ x = 0 then [] else x :: ended r)
    by_cases c : ended r = [] ∧ x = 0
    · rw [if_pos c]
      rfl
    · rw [if_neg c]
      show (if ended (ended r) = [] ∧ x = 0 then [] else x :: ended (ended r)) = x :: ended r
      rw [ih, if_neg c]
theorem neat_ended {l : List Int} (h : apartB l = true) : neatB (ended l) = true := by
  rw [neat_iff, apart_ended h, ended_ended, decide_eq_true rfl]
  rfl
theorem apart_zeros : ∀ n : Nat, apartB (List.replicate n 0) = true
  | 0 => rfl
  | 1 => rfl
  | n + 2 => by
    have ih := apart_zeros (n + 1)
    show ((decide ((0 : Int) = 0) || decide ((0 : Int) = 0)) && apartB (0 :: List.replicate n 0)) = true
    have e : apartB (0 :: List.replicate n 0) = true := ih
    rw [e]
    rfl
theorem before_snoc (l : List Int) (x : Int) : beforeOf 0 (l ++ [x]) = x := by
  unfold beforeOf
  simp
end Few
namespace Few
/-! parted -/
theorem parts_load (es : List Int) (j : Nat) : loadOf (es.drop j) * 2 ^ j + loadOf (es.take j) = loadOf es := by
  have h := load_append (es.take j) (es.drop j)
  rw [List.take_append_drop] at h
  rcases Nat.le_total j es.length with c | c
  · rw [List.length_take, Nat.min_eq_left c] at h
    rw [h, Int.mul_comm]
    omega
  · rw [List.drop_of_length_le c] at h ⊢
    have z : loadOf [] = 0 := rfl
    rw [z] at h ⊢
    rw [h]
    omega
theorem apart_take : ∀ {l : List Int} (k : Nat), apartB l = true → apartB (l.take k) = true := by
  intro l k h
  cases c : apartB (l.take k) with
  | true => rfl
  | false =>
    rw [apart_take_all k c] at h
    cases h
theorem apart_drop : ∀ {l : List Int} (k : Nat), apartB l = true → apartB (l.drop k) = true
  | [], k, h => by
    rw [List.drop_nil]
    exact h
  | x :: r, 0, h => h
  | x :: r, k + 1, h => apart_drop k (apart_tail h)
theorem low_bound {es : List Int} (h : Lay es) (ha : apartB es = true) (j : Nat) : 3 * (loadOf (es.take j)).natAbs < 2 ^ (j + 1) := by
  have b := apart_bound (lay_take h j) (apart_take j ha)
  have m : 2 ^ ((es.take j).length + 1) ≤ 2 ^ (j + 1) := Nat.pow_le_pow_right (by decide) (by rw [List.length_take]; omega)
  omega
end Few
/-! plans -/
inductive Wd where
  | dbl | put | tak
  deriving DecidableEq
namespace Few
def wstep (num : Int) (s : Int) : Wd → Int
  | .dbl => 2 * s
  | .put => s + num
  | .tak => s - num
/-- what a plan comes to with a number -/
def walkOf (num : Int) (ws : List Wd) : Int := ws.foldl (wstep num) 0
def costOf (ws : List Wd) : Nat := (ws.filter fun w => decide (w ≠ .dbl)).length
theorem walk_snoc (num : Int) (ws : List Wd) (w : Wd) : walkOf num (ws ++ [w]) = wstep num (walkOf num ws) w := by
  unfold walkOf
  rw [List.foldl_append]
  rfl
theorem cost_snoc (ws : List Wd) (w : Wd) : costOf (ws ++ [w]) = costOf ws + if w = .dbl then 0 else 1 := by
  unfold costOf
  rw [List.filter_append, List.length_append]
  by_cases h : w = .dbl
  · subst h
    rfl
  · rw [if_neg h]
    simp [h]
/-- one thing more of a laying, from its end on -/
def ptail (x : Int) : List Wd := if x = 1 then [.put] else if x = -1 then [.tak] else []
theorem ptail_1 : ptail 1 = [.put] := rfl
theorem ptail_0 : ptail 0 = [] := rfl
theorem ptail_m : ptail (-1) = [.tak] := rfl
def pstep (p : List Wd) (x : Int) : List Wd := (if p = [] then p else p ++ [.dbl]) ++ ptail x
def planAux (xs : List Int) : List Wd := xs.foldl pstep []
def planOf (n : Int) : List Wd := planAux (laid n).reverse
theorem plan_snoc (xs : List Int) (x : Int) : planAux (xs ++ [x]) = pstep (planAux xs) x := by
  unfold planAux
  rw [List.foldl_append]
  rfl
theorem pstep_walk (num : Int) {p : List Wd} {x : Int} (hx : Pm x) : walkOf num (pstep p x) = 2 * walkOf num p + x * num := by
  have e : walkOf num (if p = [] then p else p ++ [.dbl]) = 2 * walkOf num p := by
    by_cases h : p = []
    · rw [if_pos h, h]
      rfl
    · rw [if_neg h, walk_snoc]
      rfl
  unfold pstep
  rcases hx with z | z | z
  · rw [z, ptail_1, walk_snoc, e]
    show _ + num = _ + 1 * num
    omega
  · rw [z, ptail_0, List.append_nil, e]
    omega
  · rw [z, ptail_m, walk_snoc, e]
    show _ - num = _ + -1 * num
    omega
theorem pstep_cost {p : List Wd} {x : Int} (hx : Pm x) : costOf (pstep p x) = costOf p + if x = 0 then 0 else 1 := by
  have e : costOf (if p = [] then p else p ++ [.dbl]) = costOf p := by
    by_cases h : p = []
    · rw [if_pos h]
    · rw [if_neg h, cost_snoc, if_pos rfl]
      rfl
  unfold pstep
  rcases hx with z | z | z
  · rw [z, ptail_1, cost_snoc, e]
    rfl
  · rw [z, ptail_0, List.append_nil, e]
    rfl
  · rw [z, ptail_m, cost_snoc, e]
    rfl
theorem pstep_len (p : List Wd) (x : Int) : (pstep p x).length ≤ p.length + 2 := by
  unfold pstep
  rw [List.length_append]
  have a : (if p = [] then p else p ++ [.dbl]).length ≤ p.length + 1 := by
    split
    · omega
    · rw [List.length_append]
      exact Nat.le_refl _
  have b : (ptail x).length ≤ 1 := by
    unfold ptail
    split
    · exact Nat.le_refl _
    · split
      · exact Nat.le_refl _
      · exact Nat.zero_le _
  omega
theorem plan_aux (num : Int) : ∀ {l : List Int}, Lay l → walkOf num (planAux l.reverse) = loadOf l * num ∧ costOf (planAux l.reverse) = used l ∧ (planAux l.reverse).length ≤ 2 * l.length
  | [], _ => ⟨by show (0 : Int) = 0 * num; omega, rfl, Nat.le_refl _⟩
  | x :: r, h => by
    obtain ⟨a, b, c⟩ := plan_aux num h.tail
    have px := h.head
    have d := pstep_len (planAux r.reverse) x
    rw [List.reverse_cons, plan_snoc, pstep_walk num px, pstep_cost px, a, b, used_cons, List.length_cons]
    refine ⟨?_, by omega, by omega⟩
    show 2 * (loadOf r * num) + x * num = (2 * loadOf r + x) * num
    rw [Int.add_mul, Int.mul_assoc]
theorem plan_walk (num n : Int) : walkOf num (planOf n) = n * num := by
  have h := (plan_aux num (lay_laid n)).1
  rw [load_laid] at h
  exact h
theorem plan_cost (n : Int) : costOf (planOf n) = used (laid n) := (plan_aux 1 (lay_laid n)).2.1
theorem plan_len (n : Int) : (planOf n).length ≤ 2 * (laid n).length := (plan_aux 1 (lay_laid n)).2.2
/-- no plan that comes to the same load costs less -/
theorem plan_least (ws : List Wd) : w (walkOf 1 ws) ≤ costOf ws := by
  have key : ∀ (k : Nat) (ws : List Wd), ws.length = k → w (walkOf 1 ws) ≤ costOf ws := by
    intro k
    induction k with
    | zero =>
      intro ws h
      have e : ws = [] := List.length_eq_zero_iff.mp h
      rw [e]
      show w 0 ≤ 0
      rw [w_zero]
      exact Nat.le_refl _
    | succ k ih =>
      intro ws h
      rcases List.eq_nil_or_concat ws with z | ⟨r, x, z⟩
      · rw [z] at h
        cases h
      · have z' : ws = r ++ [x] := by rw [z]; simp
        subst z'
        have hr : r.length = k := by
          rw [List.length_append] at h
          simp at h
          exact h
        have q := ih r hr
        rw [walk_snoc, cost_snoc]
        cases x with
        | dbl =>
          show w (2 * walkOf 1 r) ≤ costOf r + 0
          rw [w_even]
          exact q
        | put =>
          have s := w_put (walkOf 1 r)
          show w (walkOf 1 r + 1) ≤ costOf r + 1
          omega
        | tak =>
          have s := w_take (walkOf 1 r)
          show w (walkOf 1 r - 1) ≤ costOf r + 1
          omega
  exact key _ ws rfl
theorem plan_none_less (ws : List Wd) : costOf (planOf (walkOf 1 ws)) ≤ costOf ws := by
  rw [plan_cost]
  exact plan_least ws
theorem walk_bound (ws : List Wd) : (walkOf 1 ws).natAbs < 2 ^ (2 * ws.length + 1) := by
  have key : ∀ (k : Nat) (ws : List Wd), ws.length = k → (walkOf 1 ws).natAbs < 2 ^ (2 * k + 1) := by
    intro k
    induction k with
    | zero =>
      intro ws h
      have e : ws = [] := List.length_eq_zero_iff.mp h
      rw [e]
      decide
    | succ k ih =>
      intro ws h
      rcases List.eq_nil_or_concat ws with z | ⟨r, x, z⟩
      · rw [z] at h
        cases h
      · have z' : ws = r ++ [x] := by rw [z]; simp
        subst z'
        have hr : r.length = k := by
          rw [List.length_append] at h
          simp at h
          exact h
        have q := ih r hr
        rw [walk_snoc, show 2 * (k + 1) + 1 = (2 * k + 1) + 1 + 1 by omega, Nat.pow_succ, Nat.pow_succ]
        have pos := Nat.two_pow_pos (2 * k + 1)
        generalize 2 ^ (2 * k + 1) = M at q pos
        cases x with
        | dbl =>
          show (2 * walkOf 1 r).natAbs < _
          omega
        | put =>
          show (walkOf 1 r + 1).natAbs < _
          omega
        | tak =>
          show (walkOf 1 r - 1).natAbs < _
          omega
  exact key _ ws rfl
end Few

namespace Fw
open PySem PySem.Spec PyProof.Rows L2 Evl
/-! addresses of the program's classes and constants -/
structure Ad where
  stone : Addr
  laying : Addr
  load : Addr
  plan : Addr
  text : Addr
  deed : Addr
  scale : Addr
  words : Addr
def A0 : Ad := ⟨0, 0, 0, 0, 0, 0, 0, 0⟩
/-! short words for what the operators' rules ask -/
abbrev rAddI : R2 := rI0 fun i j => .int (i + j)
abbrev rSubI : R2 := rI0 fun i j => .int (i - j)
abbrev rMulI : R2 := rI CMul fun i j => .int (i * j)
abbrev rMulW : R2 := rI CMulW fun i j => .int (i * j)
abbrev rModI : R2 := rI (fun _ j => 0 < j) fun i j => .int (i % j)
abbrev rDivI : R2 := rI CDiv fun i j => .int (i / j)
abbrev rPowI : R2 := rI CPow fun i j => .int (i ^ j.toNat)
abbrev rLtI : R2 := rI0 fun i j => .bl (decide (i < j))
abbrev rLeI : R2 := rI0 fun i j => .bl (decide (i ≤ j))
abbrev rGtI : R2 := rI0 fun i j => .bl (decide (j < i))
abbrev rGeI : R2 := rI0 fun i j => .bl (decide (j ≤ i))
abbrev rNegI : V → Hp → VK → Prop := rU fun i => .int (-i)
abbrev rIsNn : R2 := fun x y H Q => y = .non ∧ Q (.bl (decide (x = .non))) H
abbrev rNotNn : R2 := fun x y H Q => y = .non ∧ Q (.bl (!decide (x = .non))) H
abbrev rAbsI : List V → Hp → VK → Prop := fun xs H Q => ∃ i, xs = [.int i] ∧ Q (.int (if i < 0 then -i else i)) H
abbrev rIntB : List V → Hp → VK → Prop := fun xs H Q => (∃ i, xs = [.int i] ∧ Q (.int i) H) ∨ ∃ k, xs = [.bl k] ∧ Q (.int (if k then 1 else 0)) H
/-- raise of an own class's new instance -/
def tRaiseC (C : Addr) (E : XK) : TS := fun _ _ H => E (.ref C) none H
section
variable {K : PySem.W.Frag} {σ : L2.St} {H H' : Hp} {ta tb te tx : TE} {t u : TT} {x y z v : V} {r : R2}
/-! a value with something true of it -/
def EvX (te : TE) (σ : L2.St) (H : Hp) (P : V → Hp → Prop) : Prop := ∀ H1, Ex H H1 → ∀ Q : VK, (∀ v H2, Ex H1 H2 → P v H2 → Q v H2) → te σ H1 Q
def EaX (ta : TA) (σ : L2.St) (H : Hp) (P : List V → Hp → Prop) : Prop := ∀ H1, Ex H H1 → ∀ Q : List V → Hp → Prop, (∀ vs H2, Ex H1 H2 → P vs H2 → Q vs H2) → ta σ H1 Q
/-- what stays true while the heap grows -/
def Mono (P : V → Hp → Prop) : Prop := ∀ v H H', Ex H H' → P v H → P v H'
/-- a list of whole numbers -/
def IL (K : PySem.W.Frag) (ns : List Int) (v : V) (H : Hp) : Prop := ∃ a, v = .ref a ∧ SqL K H a (ns.map V.int)
/-- a list of values -/
def VL (K : PySem.W.Frag) (xs : List V) (v : V) (H : Hp) : Prop := ∃ a, v = .ref a ∧ SqL K H a xs
/-- a list that can be written -/
def ML (xs : List V) (v : V) (H : Hp) : Prop := ∃ a, v = .ref a ∧ H a = some (.lst xs)
def Is (x : V) (v : V) (_ : Hp) : Prop := v = x
theorem mono_is : Mono (Is x) := fun _ _ _ _ h => h
theorem mono_il {ns : List Int} : Mono (IL K ns) := fun _ _ _ e ⟨a, h, s⟩ => ⟨a, h, ex_l e s⟩
theorem mono_vl {xs : List V} : Mono (VL K xs) := fun _ _ _ e ⟨a, h, s⟩ => ⟨a, h, ex_l e s⟩
theorem mono_ml {xs : List V} : Mono (ML xs) := fun _ _ _ e ⟨a, h, s⟩ => ⟨a, h, e _ _ s⟩
theorem x_v (h : Ev te σ H v) : EvX te σ H (Is v) := fun H1 e Q q => h H1 e Q fun H2 e2 => q v H2 e2 rfl
theorem x_of {P : V → Hp → Prop} (h : Ev te σ H v) (m : Mono P) (p : P v H) : EvX te σ H P := fun H1 e Q q => h H1 e Q fun H2 e2 => q v H2 e2 (m _ _ _ (e.trans e2) p)
theorem x_il {a : Addr} {ns : List Int} (h : Ev te σ H (.ref a)) (p : SqL K H a (ns.map V.int)) : EvX te σ H (IL K ns) := x_of h mono_il ⟨a, rfl, p⟩
theorem x_ilL {ns : List Int} (h : EvL te σ H (ns.map V.int)) : EvX te σ H (IL K ns) := fun H1 e Q q => h H1 e Q fun p H2 _ e2 hp => q _ H2 e2 ⟨p, rfl, sq_of hp⟩
theorem x_vl {a : Addr} {xs : List V} (h : Ev te σ H (.ref a)) (p : SqL K H a xs) : EvX te σ H (VL K xs) := x_of h mono_vl ⟨a, rfl, p⟩
theorem x_vlL {xs : List V} (h : EvL te σ H xs) : EvX te σ H (VL K xs) := fun H1 e Q q => h H1 e Q fun p H2 _ e2 hp => q _ H2 e2 ⟨p, rfl, sq_of hp⟩
theorem x_ml {a : Addr} {xs : List V} (h : Ev te σ H (.ref a)) (p : H a = some (.lst xs)) : EvX te σ H (ML xs) := x_of h mono_ml ⟨a, rfl, p⟩
theorem x_mlL {xs : List V} (h : EvL te σ H xs) : EvX te σ H (ML xs) := fun H1 e Q q => h H1 e Q fun p H2 _ e2 hp => q _ H2 e2 ⟨p, rfl, hp⟩
theorem xa_nil : EaX tNil σ H (fun vs _ => vs = []) := fun H1 _ _ q => q _ H1 (Ex.refl H1) rfl
theorem xa_cons {tr : TA} {P : V → Hp → Prop} {R : List V → Hp → Prop} (h : EvX te σ H P) (m : Mono P) (hr : EaX tr σ H R) : EaX (tCons te tr) σ H (fun vs H => ∃ x r, vs = x :: r ∧ P x H ∧ R r H) := fun H1 e Q q =>
  h H1 e _ fun v H2 e2 hp => hr H2 (e.trans e2) _ fun vs H3 e3 hR => q _ H3 (e2.trans e3) ⟨v, vs, rfl, m _ _ _ e3 hp, hR⟩
theorem xa_1 {P : V → Hp → Prop} (h : EvX te σ H P) : EaX (tCons te tNil) σ H (fun vs H => ∃ x, vs = [x] ∧ P x H) := fun H1 e Q q =>
  h H1 e _ fun v H2 e2 hp => q _ H2 e2 ⟨v, rfl, hp⟩
theorem xa_2 {P R : V → Hp → Prop} (h : EvX te σ H P) (m : Mono P) (h2 : EvX tx σ H R) : EaX (tCons te (tCons tx tNil)) σ H (fun vs H => ∃ x y, vs = [x, y] ∧ P x H ∧ R y H) := fun H1 e Q q =>
  h H1 e _ fun v H2 e2 hp => h2 H2 (e.trans e2) _ fun w H3 e3 hr => q _ H3 (e2.trans e3) ⟨v, w, rfl, m _ _ _ e3 hp, hr⟩
/-! calls -/
theorem x_call1 {sp : Sp} {E : XK} {P R : V → Hp → Prop} (h : EvX te σ H P) (hs : ∀ x H1, Ex H H1 → P x H1 → ∀ Q : VK, (∀ v H2, Ex H1 H2 → R v H2 → Q v H2) → sp [x] H1 Q E) : EvX (tCall sp [] E (tCons te tNil)) σ H R := fun H1 e Q q =>
  h H1 e _ fun v H2 e2 hp => hs v H2 (e.trans e2) hp Q fun v H3 e3 hr => q v H3 (e2.trans e3) hr
theorem x_call2 {sp : Sp} {E : XK} {P P' R : V → Hp → Prop} (h : EvX te σ H P) (m : Mono P) (h2 : EvX tx σ H P') (hs : ∀ x y H1, Ex H H1 → P x H1 → P' y H1 → ∀ Q : VK, (∀ v H2, Ex H1 H2 → R v H2 → Q v H2) → sp [x, y] H1 Q E) : EvX (tCall sp [] E (tCons te (tCons tx tNil))) σ H R := fun H1 e Q q =>
  h H1 e _ fun v H2 e2 hp => h2 H2 (e.trans e2) _ fun w H3 e3 hp2 => hs v w H3 ((e.trans e2).trans e3) (m _ _ _ e3 hp) hp2 Q fun v H4 e4 hr => q v H4 ((e2.trans e3).trans e4) hr
theorem ev_call1 {sp : Sp} {E : XK} {P : V → Hp → Prop} (h : EvX te σ H P) (hs : ∀ x H1, Ex H H1 → P x H1 → ∀ Q : VK, (∀ H2, Ex H1 H2 → Q z H2) → sp [x] H1 Q E) : Ev (tCall sp [] E (tCons te tNil)) σ H z := fun H1 e Q q =>
  h H1 e _ fun v H2 e2 hp => hs v H2 (e.trans e2) hp Q fun H3 e3 => q H3 (e2.trans e3)
theorem ev_call2 {sp : Sp} {E : XK} {P P' : V → Hp → Prop} (h : EvX te σ H P) (m : Mono P) (h2 : EvX tx σ H P') (hs : ∀ x y H1, Ex H H1 → P x H1 → P' y H1 → ∀ Q : VK, (∀ H2, Ex H1 H2 → Q z H2) → sp [x, y] H1 Q E) : Ev (tCall sp [] E (tCons te (tCons tx tNil))) σ H z := fun H1 e Q q =>
  h H1 e _ fun v H2 e2 hp => h2 H2 (e.trans e2) _ fun w H3 e3 hp2 => hs v w H3 ((e.trans e2).trans e3) (m _ _ _ e3 hp) hp2 Q fun H4 e4 => q H4 ((e2.trans e3).trans e4)
theorem el_call1 {sp : Sp} {E : XK} {P : V → Hp → Prop} {xs : List V} (h : EvX te σ H P) (hs : ∀ x H1, Ex H H1 → P x H1 → ∀ Q : VK, (∀ p H2, H1 p = none → Ex H1 H2 → H2 p = some (.lst xs) → Q (.ref p) H2) → sp [x] H1 Q E) : EvL (tCall sp [] E (tCons te tNil)) σ H xs := fun H1 e Q q =>
  h H1 e _ fun v H2 e2 hp => hs v H2 (e.trans e2) hp Q fun p H3 hn e3 hx => q p H3 (fresh_back e2 hn) (e2.trans e3) hx
theorem el_call2 {sp : Sp} {E : XK} {P P' : V → Hp → Prop} {xs : List V} (h : EvX te σ H P) (m : Mono P) (h2 : EvX tx σ H P') (hs : ∀ x y H1, Ex H H1 → P x H1 → P' y H1 → ∀ Q : VK, (∀ p H2, H1 p = none → Ex H1 H2 → H2 p = some (.lst xs) → Q (.ref p) H2) → sp [x, y] H1 Q E) : EvL (tCall sp [] E (tCons te (tCons tx tNil))) σ H xs := fun H1 e Q q =>
  h H1 e _ fun v H2 e2 hp => h2 H2 (e.trans e2) _ fun w H3 e3 hp2 => hs v w H3 ((e.trans e2).trans e3) (m _ _ _ e3 hp) hp2 Q fun p H4 hn e4 hx => q p H4 (fresh_back (e2.trans e3) hn) ((e2.trans e3).trans e4) hx
/-! operations on values of which something is true -/
theorem ev_opX {P P' : V → Hp → Prop} (ha : EvX ta σ H P) (m : Mono P) (hb : EvX tb σ H P') (hr : ∀ x y H1, Ex H H1 → P x H1 → P' y H1 → RV r x y H1 z) : Ev (tOp r ta tb) σ H z := fun H1 e Q q =>
  ha H1 e _ fun x H2 e2 p => hb H2 (e.trans e2) _ fun y H3 e3 p' => hr x y H3 ((e.trans e2).trans e3) (m _ _ _ e3 p) p' H3 (Ex.refl H3) Q fun H4 e4 => q H4 ((e2.trans e3).trans e4)
theorem ev_cbX1 {r : List V → Hp → VK → Prop} {P : V → Hp → Prop} (h : EvX te σ H P) (hr : ∀ x H1, Ex H H1 → P x H1 → RC r [x] H1 z) : Ev (tCB r (tCons te tNil)) σ H z := fun H1 e Q q =>
  h H1 e _ fun v H2 e2 hp => hr v H2 (e.trans e2) hp H2 (Ex.refl H2) Q fun H3 e3 => q H3 (e2.trans e3)
theorem el_cbX1 {r : List V → Hp → VK → Prop} {P : V → Hp → Prop} {xs : List V} (h : EvX te σ H P) (hr : ∀ x H1, Ex H H1 → P x H1 → RCL r [x] H1 xs) : EvL (tCB r (tCons te tNil)) σ H xs := fun H1 e Q q =>
  h H1 e _ fun v H2 e2 hp => hr v H2 (e.trans e2) hp H2 (Ex.refl H2) Q fun p H3 hn e3 hx => q p H3 (fresh_back e2 hn) (e2.trans e3) hx
theorem rv_div {i j : Int} (h : 0 < j ∧ j < 1073741824) : RV rDivI (.int i) (.int j) H (.int (i / j)) := rv_I h
theorem rv_mod {i j : Int} (h : 0 < j) : RV rModI (.int i) (.int j) H (.int (i % j)) := rv_I h
theorem rv_mul {i j : Int} (h : CMul i j) : RV rMulI (.int i) (.int j) H (.int (i * j)) := rv_I h
theorem cmul_l {i j : Int} (h : -(2 ^ 64) < i ∧ i < 2 ^ 64) : CMul i j := .inl h
theorem cmul_r {i j : Int} (h : -(2 ^ 64) < j ∧ j < 2 ^ 64) : CMul i j := .inr h
theorem rv_isN : RV rIsNn x .non H (.bl (decide (x = .non))) := fun H1 _ _ q => ⟨rfl, q H1 (Ex.refl H1)⟩
theorem rv_notN : RV rNotNn x .non H (.bl (!decide (x = .non))) := fun H1 _ _ q => ⟨rfl, q H1 (Ex.refl H1)⟩
theorem rv_isB {a b : Bool} : RV rIsB (.bl a) (.bl b) H (.bl (decide (a = b))) := fun H1 _ _ q => ⟨a, b, rfl, rfl, q H1 (Ex.refl H1)⟩
theorem rv_notB {a b : Bool} : RV rNotB (.bl a) (.bl b) H (.bl (!decide (a = b))) := fun H1 _ _ q => ⟨a, b, rfl, rfl, q H1 (Ex.refl H1)⟩
/-- len of a list of which something is known -/
theorem ev_lenX {ns : List Int} (h : EvX te σ H (IL K ns)) : Ev (tCB (rLenS K) (tCons te tNil)) σ H (.int (ns.length : Int)) := ev_cbX1 h fun x H1 _ ⟨a, e, s⟩ H2 e2 Q q => ⟨a, _, by rw [e], .inl (ex_l e2 s), by rw [List.length_map]; exact q H2 (Ex.refl H2)⟩
theorem ev_lenV {xs : List V} (h : EvX te σ H (VL K xs)) : Ev (tCB (rLenS K) (tCons te tNil)) σ H (.int (xs.length : Int)) := ev_cbX1 h fun x H1 _ ⟨a, e, s⟩ H2 e2 Q q => ⟨a, _, by rw [e], .inl (ex_l e2 s), q H2 (Ex.refl H2)⟩
/-- list(xs) -/
theorem el_listX {xs : List V} (h : EvX te σ H (VL K xs)) : EvL (tCB (rListS K) (tCons te tNil)) σ H xs := el_cbX1 h fun x H1 _ ⟨a, e, s⟩ H2 e2 Q q => ⟨a, _, by rw [e], .inl (ex_l e2 s), fun l hl => q l _ hl (Ex.new hl) upd_same⟩
/-! two lists of whole numbers held beside one another -/
theorem dps {ns : List Int} {H : Hp} : DpAll K H (ns.map V.int) (ns.map PyData.int) := by
  induction ns with
  | nil => exact .nil
  | cons n r ih => exact .cons (.int n) ih
theorem eqv_ints : ∀ xs ys : List Int, PyData.eqvAll (xs.map PyData.int) (ys.map PyData.int) = decide (xs = ys)
  | [], [] => rfl
  | [], _ :: _ => by simp [PyData.eqvAll]
  | _ :: _, [] => by simp [PyData.eqvAll]
  | x :: xs, y :: ys => by
    have ih := eqv_ints xs ys
    show (PyData.eqv (.int x) (.int y) && PyData.eqvAll (xs.map PyData.int) (ys.map PyData.int)) = _
    rw [ih]
    have e : PyData.eqv (.int x) (.int y) = (x == y) := by simp [PyData.eqv]
    rw [e]
    by_cases h1 : x = y
    · subst h1
      by_cases h2 : xs = ys
      · subst h2
        simp
      · simp [h2]
    · simp [h1]
theorem canLay_ints : ∀ xs : List Int, PyData.canLayAll0 (xs.map PyData.int) = true
  | [] => rfl
  | x :: xs => by
    have ih := canLay_ints xs
    show (PyData.canLay0 (.int x) && PyData.canLayAll0 (xs.map PyData.int)) = true
    rw [ih]
    simp [PyData.canLay0]
theorem depth_ints : ∀ xs : List Int, PyData.depthAll (xs.map PyData.int) = 0
  | [] => rfl
  | x :: xs => by
    have ih := depth_ints xs
    show max (PyData.depth (.int x)) (PyData.depthAll (xs.map PyData.int)) = 0
    rw [ih]
    simp [PyData.depth]
theorem shaped_ints (xs : List Int) : SeqAt.shaped (.list (xs.map PyData.int)) = true := by
  unfold SeqAt.shaped
  have a : PyData.canLay0 (.list (xs.map PyData.int)) = true := canLay_ints xs
  have b : PyData.depth (.list (xs.map PyData.int)) = 1 := by
    show PyData.depthAll (xs.map PyData.int) + 1 = 1
    rw [depth_ints]
  rw [a, b]
  rfl
theorem rv_eqI {xs ys : List Int} (hx : IL K xs x H) (hy : IL K ys y H) : RV (rEqD K) x y H (.bl (decide (xs = ys))) := fun H1 e Q q => by
  obtain ⟨a, rfl, ha⟩ := hx
  obtain ⟨b, rfl, hb⟩ := hy
  refine ⟨_, _, .lst (ex_l e ha) dps, .lst (ex_l e hb) dps, shaped_ints _, shaped_ints _, ?_⟩
  have z : PyData.eqv (.list (xs.map PyData.int)) (.list (ys.map PyData.int)) = decide (xs = ys) := eqv_ints xs ys
  rw [z]
  exact q H1 (Ex.refl H1)
theorem rv_neI {xs ys : List Int} (hx : IL K xs x H) (hy : IL K ys y H) : RV (rNeD K) x y H (.bl (!decide (xs = ys))) := fun H1 e Q q => by
  obtain ⟨a, rfl, ha⟩ := hx
  obtain ⟨b, rfl, hb⟩ := hy
  refine ⟨_, _, .lst (ex_l e ha) dps, .lst (ex_l e hb) dps, shaped_ints _, shaped_ints _, ?_⟩
  have z : PyData.eqv (.list (xs.map PyData.int)) (.list (ys.map PyData.int)) = decide (xs = ys) := eqv_ints xs ys
  rw [z]
  exact q H1 (Ex.refl H1)
theorem ev_eqI {xs ys : List Int} (ha : EvX ta σ H (IL K xs)) (hb : EvX tb σ H (IL K ys)) : Ev (tOp (rEqD K) ta tb) σ H (.bl (decide (xs = ys))) := ev_opX ha mono_il hb fun _ _ _ _ p q => rv_eqI p q
theorem ev_neI {xs ys : List Int} (ha : EvX ta σ H (IL K xs)) (hb : EvX tb σ H (IL K ys)) : Ev (tOp (rNeD K) ta tb) σ H (.bl (!decide (xs = ys))) := ev_opX ha mono_il hb fun _ _ _ _ p q => rv_neI p q
/-- an item -/
theorem map_at {ns : List Int} {j : Nat} {n : Int} (h : ns[j]? = some n) : (ns.map V.int)[j]? = some (.int n) := by
  rw [List.getElem?_map, h]
  rfl
theorem of_map {ns : List Int} {j : Nat} {v : V} (h : (ns.map V.int)[j]? = some v) : ∃ n, ns[j]? = some n ∧ v = .int n := by
  rw [List.getElem?_map] at h
  cases e : ns[j]? with
  | none =>
    rw [e] at h
    cases h
  | some n =>
    rw [e] at h
    exact ⟨n, rfl, (Option.some.inj h).symm⟩
theorem ev_ix {ns : List Int} {j : Nat} {n i : Int} (ha : EvX ta σ H (IL K ns)) (hb : Ev tb σ H (.int i)) (hi : i = (j : Int)) (h : ns[j]? = some n) : Ev (tOp (rIxL K) ta tb) σ H (.int n) :=
  ev_opX ha mono_il (x_v hb) fun x y H1 _ ⟨a, e, s⟩ ey => by
    subst e
    cases ey
    exact rv_ixL s (at_of hi (map_at h))
theorem ev_ixV {xs : List V} {j : Nat} {i : Int} (ha : EvX ta σ H (VL K xs)) (hb : Ev tb σ H (.int i)) (hi : i = (j : Int)) (h : xs[j]? = some v) : Ev (tOp (rIxL K) ta tb) σ H v :=
  ev_opX ha mono_vl (x_v hb) fun x y H1 _ ⟨a, e, s⟩ ey => by
    subst e
    cases ey
    exact rv_ixL s (at_of hi h)
/-! new lists out of others -/
theorem el_catX {xs ys : List V} (ha : EvX ta σ H (ML xs)) (hb : EvX tb σ H (ML ys)) (hz : xs.length + ys.length ≤ 100000) : EvL (tOp rCat ta tb) σ H (xs ++ ys) := fun H1 e Q q =>
  ha H1 e _ fun x H2 e2 ⟨a, ex, ha⟩ => hb H2 (e.trans e2) _ fun y H3 e3 ⟨b, ey, hb⟩ =>
    ⟨a, b, xs, ys, ex, ey, e3 _ _ ha, hb, sz_of hz, fun p hp => q p _ (fresh_back (e2.trans e3) hp) ((e2.trans e3).trans (Ex.new hp)) upd_same⟩
theorem el_repX {xs : List V} {k : Int} (ha : EvX ta σ H (ML xs)) (hb : Ev tb σ H (.int k)) (h1 : -100000 ≤ k ∧ k ≤ 100000) (hz : xs.length * k.toNat ≤ 100000) : EvL (tOp rRep ta tb) σ H (List.replicate k.toNat xs).flatten := fun H1 e Q q =>
  ha H1 e _ fun x H2 e2 ⟨a, ex, ha⟩ => hb H2 (e.trans e2) _ fun H3 e3 =>
    ⟨a, k, xs, ex, rfl, e3 _ _ ha, by omega, by omega, sz_of hz, fun p hp => q p _ (fresh_back (e2.trans e3) hp) ((e2.trans e3).trans (Ex.new hp)) upd_same⟩
/-! loops over reversed(xs) -/
variable {D : Ends} {tu tw tz : TS} {g : TG}
theorem for_rv {a : Addr} {xs : List V} {σ : L2.St} (Pv : Nat → L2.St → Hp → Prop) (h0 : Pv 0 σ H) (hl : ∀ i σ H, i ≤ xs.length → Pv i σ H → SqL K H a xs)
    (hs : ∀ i x σ H, i < xs.length → xs[xs.length - 1 - i]? = some x → Pv i σ H → g x σ H fun σ2 H2 => tu { D with nx := Pv (i + 1), ct := Pv (i + 1), bk := D.nx } σ2 H2) (hd : ∀ σ H, Pv xs.length σ H → D.nx σ H) :
    ∃ W : Nat → Nat → L2.St → Hp → Prop, (∃ m, W 0 m σ H) ∧ ∀ i m σ H, W i m σ H → ((Itv K a xs.length).stop i H ∧ D.nx σ H) ∨ ((Itv K a xs.length).go i H ∧ ∃ Nx : L2.St → Hp → Prop, (∀ σ' H', Nx σ' H' → ∃ m', m' < m ∧ W (i + 1) m' σ' H') ∧
      ∀ x H', (Itv K a xs.length).yld i H x H' → g x σ H' fun σ2 H2 => tu { D with nx := Nx, ct := Nx, bk := D.nx } σ2 H2) := by
  refine ⟨fun i m σ H => m = xs.length - i ∧ i ≤ xs.length ∧ Pv i σ H, ⟨xs.length, by omega, Nat.zero_le _, h0⟩, ?_⟩
  rintro i m σ H ⟨rfl, hi, p⟩
  have hq := hl i σ H hi p
  by_cases hlt : i < xs.length
  · have hx : xs[xs.length - 1 - i]? = some (xs[xs.length - 1 - i]'(by omega)) := List.getElem?_eq_getElem (by omega)
    refine .inr ⟨⟨hlt, xs, _, hq, hx⟩, Pv (i + 1), fun σ' H' p' => ⟨xs.length - (i + 1), by omega, rfl, hlt, p'⟩, fun x H' y => ?_⟩
    obtain ⟨e, y⟩ := y
    subst e
    have z := y xs hq
    exact hs i x σ _ hlt z p
  · have e : i = xs.length := by omega
    subst e
    exact .inl ⟨Nat.le_refl _, hd σ H p⟩
end
/-! ### loops whose turns change nothing but slots -/
section
variable {K : PySem.W.Frag} {σ : L2.St} {H H' : Hp} {ta : TA} {tb te tx tl : TE} {t u : TT} {x y z v : V} {r : R2} {D : Ends} {tu tw tz : TS} {g : TG}
/-- the slots are as I says, the heap has only grown -/
def NX (H : Hp) (I : L2.St → Prop) : L2.St → Hp → Prop := fun σ2 H2 => I σ2 ∧ Ex H H2
theorem s_forP {xs : List V} {j : Nat} (h : EvX tl σ H (VL K xs)) (I : Nat → L2.St → Prop) (h0 : I 0 σ)
    (hs : ∀ H1 i x σ' H', Ex H H1 → Ex H1 H' → xs[i]? = some x → I i σ' → tu { D with nx := NX H1 (I (i + 1)), ct := NX H1 (I (i + 1)), bk := D.nx } (σ'.set j (some x)) H')
    (hd : ∀ σ' H', Ex H H' → I xs.length σ' → D.nx σ' H') : tFor (iList K tl) (gName j) tu D σ H :=
  h H (Ex.refl H) _ fun v H1 e1 ⟨a, ev, hq⟩ => ⟨a, ev, ⟨xs, hq⟩, for_list (K := K) (a := a) (xs := xs) (fun i => NX H1 (I i)) ⟨h0, Ex.refl H1⟩ (fun i σ' H' _ p => ex_l p.2 hq) (fun i x σ' H' hx p => hs H1 i x σ' H' e1 p.2 hx p.1) (fun σ' H' p => hd σ' H' (e1.trans p.2) p.1)⟩
theorem s_forRvP {xs : List V} {j : Nat} (h : EvX tl σ H (VL K xs)) (I : Nat → L2.St → Prop) (h0 : I 0 σ)
    (hs : ∀ H1 i x σ' H', Ex H H1 → Ex H1 H' → i < xs.length → xs[xs.length - 1 - i]? = some x → I i σ' → tu { D with nx := NX H1 (I (i + 1)), ct := NX H1 (I (i + 1)), bk := D.nx } (σ'.set j (some x)) H')
    (hd : ∀ σ' H', Ex H H' → I xs.length σ' → D.nx σ' H') : tFor (iRev K (tCons tl tNil)) (gName j) tu D σ H :=
  h H (Ex.refl H) _ fun v H1 e1 ⟨a, ev, hq⟩ => ⟨a, xs, by rw [ev], hq, for_rv (fun i => NX H1 (I i)) ⟨h0, Ex.refl H1⟩ (fun i σ' H' _ p => ex_l p.2 hq) (fun i x σ' H' hi hx p => hs H1 i x σ' H' e1 p.2 hi hx p.1) (fun σ' H' p => hd σ' H' (e1.trans p.2) p.1)⟩
theorem s_forRgP {n : Int} {j : Nat} (h : EvA ta σ H [.int n]) (hn : 0 ≤ n ∧ n ≤ 100000) (I : Nat → L2.St → Prop) (h0 : I 0 σ)
    (hs : ∀ H1 (i : Nat) σ' H', Ex H H1 → Ex H1 H' → (i : Int) < n → I i σ' → tu { D with nx := NX H1 (I (i + 1)), ct := NX H1 (I (i + 1)), bk := D.nx } (σ'.set j (some (.int (i : Int)))) H')
    (hd : ∀ σ' H', Ex H H' → I n.toNat σ' → D.nx σ' H') : tFor (iRng1 ta) (gName j) tu D σ H :=
  s_forR1 h hn (fun i => NX H (I i)) (fun H1 e => ⟨h0, e⟩) (fun i σ' H' hi p => hs H i σ' H' (Ex.refl H) p.2 hi p.1) (fun σ' H' p => hd σ' H' p.2 p.1)
theorem s_forRg2P {lo n : Int} {j : Nat} (h : EvA ta σ H [.int lo, .int n]) (hn : 0 ≤ lo ∧ lo ≤ 100000 ∧ -100000 ≤ n ∧ n ≤ 100000) (I : Nat → L2.St → Prop) (h0 : I 0 σ)
    (hs : ∀ H1 (i : Nat) σ' H', Ex H H1 → Ex H1 H' → lo + (i : Int) < n → I i σ' → tu { D with nx := NX H1 (I (i + 1)), ct := NX H1 (I (i + 1)), bk := D.nx } (σ'.set j (some (.int (lo + (i : Int))))) H')
    (hd : ∀ σ' H', Ex H H' → I (n - lo).toNat σ' → D.nx σ' H') : tFor (iRng2 ta) (gName j) tu D σ H :=
  s_forR2 h hn (fun i => NX H (I i)) (fun H1 e => ⟨h0, e⟩) (fun i σ' H' hi p => hs H i σ' H' (Ex.refl H) p.2 hi p.1) (fun σ' H' p => hd σ' H' p.2 p.1)
/-- .. and the rest of the block behind -/
theorem q_forP {xs : List V} {j : Nat} (h : EvX tl σ H (VL K xs)) (I : Nat → L2.St → Prop) (h0 : I 0 σ)
    (hs : ∀ H1 i x σ' H', Ex H H1 → Ex H1 H' → xs[i]? = some x → I i σ' → tu { D with nx := NX H1 (I (i + 1)), ct := NX H1 (I (i + 1)), bk := tz D } (σ'.set j (some x)) H')
    (hd : ∀ σ' H', Ex H H' → I xs.length σ' → tz D σ' H') : tSeq (tFor (iList K tl) (gName j) tu) tz D σ H := s_forP (D := { D with nx := tz D }) h I h0 hs hd
theorem q_forRvP {xs : List V} {j : Nat} (h : EvX tl σ H (VL K xs)) (I : Nat → L2.St → Prop) (h0 : I 0 σ)
    (hs : ∀ H1 i x σ' H', Ex H H1 → Ex H1 H' → i < xs.length → xs[xs.length - 1 - i]? = some x → I i σ' → tu { D with nx := NX H1 (I (i + 1)), ct := NX H1 (I (i + 1)), bk := tz D } (σ'.set j (some x)) H')
    (hd : ∀ σ' H', Ex H H' → I xs.length σ' → tz D σ' H') : tSeq (tFor (iRev K (tCons tl tNil)) (gName j) tu) tz D σ H := s_forRvP (D := { D with nx := tz D }) h I h0 hs hd
theorem q_forRgP {n : Int} {j : Nat} (h : EvA ta σ H [.int n]) (hn : 0 ≤ n ∧ n ≤ 100000) (I : Nat → L2.St → Prop) (h0 : I 0 σ)
    (hs : ∀ H1 (i : Nat) σ' H', Ex H H1 → Ex H1 H' → (i : Int) < n → I i σ' → tu { D with nx := NX H1 (I (i + 1)), ct := NX H1 (I (i + 1)), bk := tz D } (σ'.set j (some (.int (i : Int)))) H')
    (hd : ∀ σ' H', Ex H H' → I n.toNat σ' → tz D σ' H') : tSeq (tFor (iRng1 ta) (gName j) tu) tz D σ H := s_forRgP (D := { D with nx := tz D }) h hn I h0 hs hd
theorem q_forRg2P {lo n : Int} {j : Nat} (h : EvA ta σ H [.int lo, .int n]) (hn : 0 ≤ lo ∧ lo ≤ 100000 ∧ -100000 ≤ n ∧ n ≤ 100000) (I : Nat → L2.St → Prop) (h0 : I 0 σ)
    (hs : ∀ H1 (i : Nat) σ' H', Ex H H1 → Ex H1 H' → lo + (i : Int) < n → I i σ' → tu { D with nx := NX H1 (I (i + 1)), ct := NX H1 (I (i + 1)), bk := tz D } (σ'.set j (some (.int (lo + (i : Int))))) H')
    (hd : ∀ σ' H', Ex H H' → I (n - lo).toNat σ' → tz D σ' H') : tSeq (tFor (iRng2 ta) (gName j) tu) tz D σ H := s_forRg2P (D := { D with nx := tz D }) h hn I h0 hs hd
/-- the turn's end -/
theorem nx_ok {I : L2.St → Prop} {H1 : Hp} (h : I σ) (e : Ex H1 H) : NX H1 I σ H := ⟨h, e⟩
theorem s_retX {P : V → Hp → Prop} (h : EvX te σ H P) (k : ∀ v H1, Ex H H1 → P v H1 → D.rt v H1) : tRet te D σ H := h H (Ex.refl H) _ k
theorem s_asgX {P : V → Hp → Prop} {i : Nat} (h : EvX te σ H P) (k : ∀ v H1, Ex H H1 → P v H1 → D.nx (σ.set i (some v)) H1) : tAsg te (gName i) D σ H := h H (Ex.refl H) _ k
theorem q_asgX {P : V → Hp → Prop} {i : Nat} (h : EvX te σ H P) (k : ∀ v H1, Ex H H1 → P v H1 → tz D (σ.set i (some v)) H1) : tSeq (tAsg te (gName i)) tz D σ H := h H (Ex.refl H) _ k
/-! methods of lists -/
theorem s_popS {l : Addr} {xs : List V} (hl : H l = some (.lst xs)) (ha : Ev te σ H (.ref l)) (hy : xs[xs.length - 1]? = some y) (k : ∀ H1, Ex H H1 → D.nx σ (upd H1 l (.lst xs.dropLast))) : tDrop (tBM0 K "list" rPop te) D σ H :=
  ha H (Ex.refl H) _ fun H1 e1 => ⟨.inl ⟨rfl, xs, sq_of (e1 l _ hl)⟩, l, xs, y, rfl, rfl, e1 l _ hl, hy, k H1 e1⟩
theorem q_popS {l : Addr} {xs : List V} (hl : H l = some (.lst xs)) (ha : Ev te σ H (.ref l)) (hy : xs[xs.length - 1]? = some y) (k : ∀ H1, Ex H H1 → tz D σ (upd H1 l (.lst xs.dropLast))) : tSeq (tDrop (tBM0 K "list" rPop te)) tz D σ H := s_popS (D := { D with nx := tz D }) hl ha hy k
/-- an if that is not taken -/
theorem q_skip {b : Bool} (h : EvT t σ H b) (hb : b = false) (k : ∀ H1, Ex H H1 → tz D σ H1) : tSeq (tIfS t tu tNext) tz D σ H :=
  q_when h (fun z => by rw [hb] at z; cases z) fun _ => k
/-! ### what never comes back -/
def Er (te : TE) (σ : L2.St) (H : Hp) : Prop := ∀ H1, Ex H H1 → ∀ Q : VK, te σ H1 Q
theorem Er.mono (h : Er te σ H) (e : Ex H H') : Er te σ H' := fun H1 a Q => h H1 (e.trans a) Q
theorem er_asg {i : Nat} (h : Er te σ H) : tAsg te (gName i) D σ H := h H (Ex.refl H) _
theorem er_q {i : Nat} (h : Er te σ H) : tSeq (tAsg te (gName i)) tz D σ H := h H (Ex.refl H) _
theorem er_ret (h : Er te σ H) : tRet te D σ H := h H (Ex.refl H) _
theorem er_drop (h : Er te σ H) : tDrop te D σ H := h H (Ex.refl H) _
theorem er_for (h : Er te σ H) : tFor (iList K te) g tu D σ H := h H (Ex.refl H) _
theorem er_qfor (h : Er te σ H) : tSeq (tFor (iList K te) g tu) tz D σ H := h H (Ex.refl H) _
theorem er_qforRv (h : Er te σ H) : tSeq (tFor (iRev K (tCons te tNil)) g tu) tz D σ H := h H (Ex.refl H) _
theorem er_op1 (h : Er te σ H) : Er (tOp r te tb) σ H := fun H1 e Q => h H1 e _
theorem er_op2 {P : V → Hp → Prop} (ha : EvX te σ H P) (h : Er tb σ H) : Er (tOp r te tb) σ H := fun H1 e Q => ha H1 e _ fun v H2 e2 _ => h H2 (e.trans e2) _
theorem er_call {sp : Sp} {E : XK} (h : Er te σ H) {tr : TA} : Er (tCall sp [] E (tCons te tr)) σ H := fun H1 e Q => h H1 e _
theorem er_cb {rr : List V → Hp → VK → Prop} (h : Er te σ H) {tr : TA} : Er (tCB rr (tCons te tr)) σ H := fun H1 e Q => h H1 e _
theorem er_tup (h : Er te σ H) {tr : TA} : Er (tTup (tCons te tr)) σ H := fun H1 e Q => h H1 e _
theorem er_lc (h : Er te σ H) {vs : List Nat} : Er (tLc (iList K te) g t tx vs) σ H := fun H1 e Q => h H1 e _
theorem er_lcRv (h : Er te σ H) {vs : List Nat} : Er (tLc (iRev K (tCons te tNil)) g t tx vs) σ H := fun H1 e Q => h H1 e _
theorem er_call1 {sp : Sp} {E : XK} {P : V → Hp → Prop} (h : EvX te σ H P) (hs : ∀ x H1, Ex H H1 → P x H1 → ∀ Q : VK, sp [x] H1 Q E) : Er (tCall sp [] E (tCons te tNil)) σ H := fun H1 e Q => h H1 e _ fun v H2 e2 hp => hs v H2 (e.trans e2) hp Q
/-! ### what a promise says -/
def RaiseE (E : XK) (C : Addr) (H : Hp) : Prop := ∀ H', Ex H H' → E (.ref C) none H'
theorem RaiseE.mono {E : XK} {C : Addr} (h : RaiseE E C H) (e : Ex H H') : RaiseE E C H' := fun H1 a => h H1 (e.trans a)
theorem _root_.Evl.RetV.mono {Q : VK} (h : RetV v H Q) (e : Ex H H') : RetV v H' Q := fun H1 a => h H1 (e.trans a)
theorem _root_.Evl.RetL.mono {Q : VK} {xs : List V} (h : RetL xs H Q) (e : Ex H H') : RetL xs H' Q := fun p H1 hp a hx => h p H1 (fresh_back e hp) (e.trans a) hx
theorem s_retV (h : Ev te σ H v) (k : RetV v H D.rt) : tRet te D σ H := s_ret h fun H1 e => k H1 e
theorem s_retLL {xs : List V} (h : EvL te σ H xs) (k : RetL xs H D.rt) : tRet te D σ H := s_retL h fun p H1 hp e hx => k p H1 hp e hx
end
end Fw

namespace Fw
open PySem PySem.Spec PyProof.Rows L2 Evl
/-! any thing, and what kind it is -/
mutual
theorem dp_mono {K : PySem.W.Frag} {H H' : Hp} (e : Ex H H') : ∀ (d : PyData) (v : V), Dp K H v d → Dp K H' v d
  | .none, _, h => by
    cases h
    exact .non
  | .bool b, _, h => by
    cases h
    exact .bl b
  | .int i, _, h => by
    cases h
    exact .int i
  | .str x, _, h => by
    cases h
    exact .str x
  | .list ds, _, h => by
    cases h with
    | lst hs ha => exact .lst (ex_l e hs) (dpA_mono e ds _ ha)
  | .tuple ds, _, h => by
    cases h with
    | tup hs ha => exact .tup (ex_t e hs) (dpA_mono e ds _ ha)
  | .dict _, _, h => by cases h
theorem dpA_mono {K : PySem.W.Frag} {H H' : Hp} (e : Ex H H') : ∀ (ds : List PyData) (vs : List V), DpAll K H vs ds → DpAll K H' vs ds
  | [], _, h => by
    cases h
    exact .nil
  | d :: ds, _, h => by
    cases h with
    | cons h1 h2 => exact .cons (dp_mono e d _ h1) (dpA_mono e ds _ h2)
end
/-- a thing: data, or an empty dict -/
inductive Th (K : PySem.W.Frag) (H : Hp) : V → PyData → Prop
  | of {v : V} {d : PyData} (h : Dp K H v d) : Th K H v d
  | dict {a : Addr} {kvs : List (Key × V)} (h : H a = some (.dK kvs)) : Th K H (.ref a) (.dict [])
theorem Th.mono {K : PySem.W.Frag} {H H' : Hp} {v : V} {d : PyData} (e : Ex H H') (h : Th K H v d) : Th K H' v d := by
  cases h with
  | of h => exact .of (dp_mono e _ _ h)
  | dict h => exact .dict (e _ _ h)
/-- the kind's name -/
def tyD : PyData → String
  | .none => "NoneType"
  | .bool _ => "bool"
  | .int _ => "int"
  | .str _ => "str"
  | .list _ => "list"
  | .tuple _ => "tuple"
  | .dict _ => "dict"
section
variable {K : PySem.W.Frag} {H : Hp} {v : V} {d : PyData}
theorem sq_ty {a : Addr} {xs : List V} (h : SqL K H a xs) : TyX K H (.ref a) (.type "list") := by
  rcases h with (h | ⟨o, h⟩) | ⟨o, its, n, h1, h2, _⟩
  · exact .base (.lst h)
  · exact .base (.frz h)
  · exact .kList h1 h2
theorem st_ty {a : Addr} {xs : List V} (h : SqT K H a xs) : TyX K H (.ref a) (.type "tuple") := by
  rcases h with (h | ⟨o, h⟩) | ⟨o, its, n, h1, h2, _⟩
  · exact .base (.tup h)
  · exact .fTuple h
  · exact .kTuple h1 h2
theorem Th.ty (h : Th K H v d) : TyX K H v (.type (tyD d)) := by
  cases h with
  | dict h => exact .base (.dK h)
  | of h =>
    cases h with
    | non => exact .base .non
    | bl b => exact .base (.bl b)
    | int i => exact .base (.int i)
    | str x => exact .base (.str x)
    | lst hs _ => exact sq_ty hs
    | tup hs _ => exact st_ty hs
theorem kit_all : ∀ (d : PyData), kitB (tyD d) "int" = some (tyD d == "int" || tyD d == "bool") ∧ kitB (tyD d) "bool" = some (tyD d == "bool") ∧ kitB (tyD d) "list" = some (tyD d == "list") ∧ kitB (tyD d) "str" = some (tyD d == "str") ∧ kitB (tyD d) "tuple" = some (tyD d == "tuple") := by
  have k : ∀ n ∈ ["NoneType", "bool", "int", "str", "list", "tuple", "dict"], kitB n "int" = some (n == "int" || n == "bool") ∧ kitB n "bool" = some (n == "bool") ∧ kitB n "list" = some (n == "list") ∧ kitB n "str" = some (n == "str") ∧ kitB n "tuple" = some (n == "tuple") := by decide +kernel
  intro d
  apply k
  cases d <;> simp [tyD]
/-- isinstance(x, T) of a thing -/
theorem rc_isi {T : String} {b : Bool} (h : Th K H v d) (hk : kitB (tyD d) T = some b) : RC (rIsi K) [v, .ty T] H (.bl b) := fun H1 e Q q =>
  ⟨v, .ty T, .type (tyD d), .type T, b, rfl, .ty T, (h.mono e).ty, kit_ty hk, q H1 (Ex.refl H1)⟩
variable {σ : L2.St} {te : TE}
theorem ev_isi {T : String} {b : Bool} (hv : Ev te σ H v) (h : Th K H v d) (hk : kitB (tyD d) T = some b) : Ev (tCB (rIsi K) (tCons te (tCons (tC (.ty T)) tNil))) σ H (.bl b) :=
  ev_cb (ea_cons hv (ea_cons ev_c ea_nil)) (rc_isi h hk)
theorem ev_isiX {T : String} {b : Bool} (hv : EvX te σ H (fun v H => Th K H v d)) (hk : kitB (tyD d) T = some b) : Ev (tCB (rIsi K) (tCons te (tCons (tC (.ty T)) tNil))) σ H (.bl b) := fun H1 e Q q =>
  hv H1 e _ fun v H2 e2 h => ⟨v, .ty T, .type (tyD d), .type T, b, rfl, .ty T, h.ty, kit_ty hk, q H2 e2⟩
theorem ev_isInt (hv : Ev te σ H v) (h : Th K H v d) : Ev (tCB (rIsi K) (tCons te (tCons (tC (.ty "int")) tNil))) σ H (.bl (tyD d == "int" || tyD d == "bool")) := ev_isi hv h (kit_all d).1
theorem ev_isBool (hv : Ev te σ H v) (h : Th K H v d) : Ev (tCB (rIsi K) (tCons te (tCons (tC (.ty "bool")) tNil))) σ H (.bl (tyD d == "bool")) := ev_isi hv h (kit_all d).2.1
theorem ev_isList (hv : Ev te σ H v) (h : Th K H v d) : Ev (tCB (rIsi K) (tCons te (tCons (tC (.ty "list")) tNil))) σ H (.bl (tyD d == "list")) := ev_isi hv h (kit_all d).2.2.1
theorem ev_isStr (hv : Ev te σ H v) (h : Th K H v d) : Ev (tCB (rIsi K) (tCons te (tCons (tC (.ty "str")) tNil))) σ H (.bl (tyD d == "str")) := ev_isi hv h (kit_all d).2.2.2.1
theorem ev_isTuple (hv : Ev te σ H v) (h : Th K H v d) : Ev (tCB (rIsi K) (tCons te (tCons (tC (.ty "tuple")) tNil))) σ H (.bl (tyD d == "tuple")) := ev_isi hv h (kit_all d).2.2.2.2
end
/-! which things are layings -/
def wholeD : PyData → Bool
  | .int _ => true
  | _ => false
theorem wholeD_is (d : PyData) : ((tyD d == "int" || tyD d == "bool") && !(tyD d == "bool")) = wholeD d := by
  cases d <;> simp [tyD, wholeD]
def pmD : PyData → Bool
  | .int i => decide (-1 ≤ i) && decide (i ≤ 1)
  | _ => false
def isLayD : PyData → Bool
  | .list ds => ds.all pmD
  | _ => false
theorem pm_iff (x : Int) : pmD (.int x) = true ↔ Few.Pm x := by
  show (decide (-1 ≤ x) && decide (x ≤ 1)) = true ↔ _
  rw [Bool.and_eq_true, decide_eq_true_iff, decide_eq_true_iff]
  unfold Few.Pm
  omega
theorem lay_of_all : ∀ ds : List PyData, ds.all pmD = true → ∃ ns : List Int, ds = ns.map PyData.int ∧ Few.Lay ns
  | [], _ => ⟨[], rfl, fun _ h => by cases h⟩
  | d :: ds, h => by
    rw [List.all_cons, Bool.and_eq_true] at h
    obtain ⟨ns, e, l⟩ := lay_of_all ds h.2
    cases d with
    | int i =>
      refine ⟨i :: ns, by rw [e]; rfl, fun x hx => ?_⟩
      rcases List.mem_cons.mp hx with z | z
      · rw [z]
        exact (pm_iff i).mp h.1
      · exact l x z
    | none => exact absurd h.1 (by decide)
    | bool b => exact absurd h.1 Bool.false_ne_true
    | str b => exact absurd h.1 Bool.false_ne_true
    | list b => exact absurd h.1 Bool.false_ne_true
    | tuple b => exact absurd h.1 Bool.false_ne_true
    | dict b => exact absurd h.1 Bool.false_ne_true
theorem lay_is {d : PyData} (h : isLayD d = true) : ∃ ns : List Int, d = .list (ns.map PyData.int) ∧ Few.Lay ns := by
  cases d with
  | list ds =>
    obtain ⟨ns, e, l⟩ := lay_of_all ds h
    exact ⟨ns, by rw [e], l⟩
  | none => exact absurd h Bool.false_ne_true
  | bool b => exact absurd h Bool.false_ne_true
  | int b => exact absurd h Bool.false_ne_true
  | str b => exact absurd h Bool.false_ne_true
  | tuple b => exact absurd h Bool.false_ne_true
  | dict b => exact absurd h Bool.false_ne_true
theorem lay_ints {ns : List Int} (h : Few.Lay ns) : isLayD (.list (ns.map PyData.int)) = true := by
  show (ns.map PyData.int).all pmD = true
  rw [List.all_map, List.all_eq_true]
  exact fun x hx => (pm_iff x).mpr (h x hx)
theorem ints_inj {a b : List Int} (h : a.map PyData.int = b.map PyData.int) : a = b := by
  induction a generalizing b with
  | nil =>
    cases b with
    | nil => rfl
    | cons _ _ => cases h
  | cons x xs ih =>
    cases b with
    | nil => cases h
    | cons y ys =>
      rw [List.map_cons, List.map_cons] at h
      injection h with h1 h2
      injection h1 with h1
      rw [h1, ih h2]
section
variable {K : PySem.W.Frag} {H : Hp} {v : V}
theorem dps_ints {vs : List V} : ∀ {ns : List Int}, DpAll K H vs (ns.map PyData.int) → vs = ns.map V.int := by
  induction vs with
  | nil =>
    intro ns h
    cases ns with
    | nil => rfl
    | cons n r => cases h
  | cons v vs ih =>
    intro ns h
    cases ns with
    | nil => cases h
    | cons n r =>
      cases h with
      | cons h1 h2 =>
        cases h1
        rw [ih h2]
        rfl
theorem Th.il {ns : List Int} (h : Th K H v (.list (ns.map PyData.int))) : IL K ns v H := by
  cases h with
  | of h =>
    cases h with
    | lst hs ha =>
      rw [dps_ints ha] at hs
      exact ⟨_, rfl, hs⟩
theorem il_th {ns : List Int} (h : IL K ns v H) : Th K H v (.list (ns.map PyData.int)) := by
  obtain ⟨a, rfl, hs⟩ := h
  exact .of (.lst hs dps)
theorem th_int (i : Int) : Th K H (.int i) (.int i) := .of (.int i)
theorem th_bl (b : Bool) : Th K H (.bl b) (.bool b) := .of (.bl b)
theorem th_str (x : Str) : Th K H (.str x) (.str x) := .of (.str x)
theorem th_non : Th K H .non .none := .of .non
theorem IL.vl {ns : List Int} (h : IL K ns v H) : VL K (ns.map V.int) v H := h
theorem x_vlI {te : TE} {σ : L2.St} {ns : List Int} (h : EvX te σ H (IL K ns)) : EvX te σ H (VL K (ns.map V.int)) := h
/-- an item of a list of things -/
theorem dps_at {vs : List V} {ds : List PyData} (h : DpAll K H vs ds) : ∀ {i : Nat} {x : V}, vs[i]? = some x → ∃ d, ds[i]? = some d ∧ Dp K H x d := by
  induction vs generalizing ds with
  | nil =>
    intro i x hx
    simp at hx
  | cons v vs ih =>
    intro i x hx
    cases h with
    | cons h1 h2 =>
      cases i with
      | zero =>
        have e : v = x := Option.some.inj hx
        subst e
        exact ⟨_, rfl, h1⟩
      | succ i => exact ih h2 (i := i) hx
theorem dps_len {vs : List V} {ds : List PyData} (h : DpAll K H vs ds) : vs.length = ds.length := by
  induction vs generalizing ds with
  | nil =>
    cases h
    rfl
  | cons v vs ih =>
    cases h with
    | cons h1 h2 => rw [List.length_cons, List.length_cons, ih h2]
end
end Fw

namespace Fw
open PySem PySem.Spec PyProof.Rows L2 Evl
local macro_rules | `(tactic| walk_at "rv") => `(tactic| first | exact rv_I0 | exact rv_eq rfl | exact rv_ne rfl | exact rv_mod (by omega) | exact rv_div ⟨by omega, by omega⟩ | exact rv_mul (cmul_l ⟨by omega, by omega⟩) | exact rv_mul (cmul_r ⟨by omega, by omega⟩) | exact rv_isB | exact rv_notB | exact rv_isN | exact rv_notN)
local macro_rules | `(tactic| walk_at "ev") => `(tactic| first | assumption | exact ev_c | exact ev_var rfl | (refine ev_op ?_ ?_ ?_ <;> first | (walk_at "ev"; done) | (walk_at "rv"; done)) | (refine ev_un ?_ ru_neg; walk_at "ev") | (refine ev_andV ?_ (fun _ => ?_) <;> walk_at "ev") | (refine ev_orV ?_ (fun _ => ?_) <;> walk_at "ev") | (refine ev_notV ?_; walk_at "ev"))
local macro_rules | `(tactic| walk_at "et") => `(tactic| first | assumption | (refine et_test ?_; walk_at "ev") | (refine et_B ?_; walk_at "ev") | (refine et_not ?_; walk_at "et") | (refine et_and ?_ (fun _ => ?_) <;> walk_at "et") | (refine et_or ?_ (fun _ => ?_) <;> walk_at "et"))
abbrev D0 (Q : VK) : Ends := { nx := fun _ H' => Q .non H', rt := Q }
section
variable {K : PySem.W.Frag} {A : Ad} {vs : List V} {H : Hp} {Q : VK} {E : XK}
/-! ### is_whole -/
def sp_is_whole (K : PySem.W.Frag) (A : Ad) : Sp := fun vs H Q _ => ∃ v d, vs = [v] ∧ Th K H v d ∧ RetV (.bl (wholeD d)) H Q
def t_is_whole (K : PySem.W.Frag) (A : Ad) : TS :=
  (tRet (tAndV (tCB (rIsi K) (tCons (tVar 0) (tCons (tC (.ty "int")) tNil))) (tNotV (tCB (rIsi K) (tCons (tVar 0) (tCons (tC (.ty "bool")) tNil))))))
theorem r_is_whole (h : sp_is_whole K A vs H Q E) : t_is_whole K A (D0 Q) (start ["thing"] vs) H := by
  obtain ⟨v, d, rfl, hd, k⟩ := h
  refine s_retV (v := .bl (wholeD d)) ?_ k
  rw [← wholeD_is d]
  exact ev_andV (ev_isInt (ev_var rfl) hd) fun _ => ev_notV (ev_isBool (ev_var rfl) hd)
theorem ev_is_whole {te : TE} {σ : L2.St} {v : V} {d : PyData} {E : XK} (h : Ev te σ H v) (hd : Th K H v d) : Ev (tCall (sp_is_whole K A) [] E (tCons te tNil)) σ H (.bl (wholeD d)) :=
  ev_call1 (x_v h) fun x H1 e1 ex Q q => ⟨v, d, by rw [show x = v from ex], hd.mono e1, fun H' e => q H' e⟩
/-! ### is_laying -/
def sp_is_laying (K : PySem.W.Frag) (A : Ad) : Sp := fun vs H Q _ => ∃ v d, vs = [v] ∧ Th K H v d ∧ RetV (.bl (isLayD d)) H Q
def t_is_laying (K : PySem.W.Frag) (A : Ad) : TS :=
  (tSeq (tIfS (tNot (tB (tCB (rIsi K) (tCons (tVar 0) (tCons (tC (.ty "list")) tNil))))) (tRet (tC (.bl false))) tNext)
    (tSeq (tFor (iList K (tVar 0)) (gName 1) (tIfS (tOr (tNot (tB (tCall (sp_is_whole K A) [] E0 (tCons (tVar 1) tNil)))) (tOr (tTest (tOp rLtI (tVar 1) (tUn rNegI (tC (.int 1))))) (tTest (tOp rGtI (tVar 1) (tC (.int 1)))))) (tRet (tC (.bl false))) tNext))
    (tRet (tC (.bl true)))))
theorem not_list {d : PyData} (h : (!(tyD d == "list")) = true) : isLayD d = false := by
  cases d <;> first | rfl | (exfalso; simp [tyD] at h)
theorem is_list {d : PyData} (h : (!(tyD d == "list")) = false) : ∃ ds, d = .list ds := by
  cases d <;> first | exact ⟨_, rfl⟩ | (exfalso; simp [tyD] at h)
theorem take_all {p : PyData → Bool} {ds : List PyData} {i : Nat} {d : PyData} (h : ds[i]? = some d) (ha : (ds.take i).all p = true) (hd : p d = true) : (ds.take (i + 1)).all p = true := by
  rw [List.take_add_one, h, List.all_append, ha]
  simp [hd]
theorem all_not {p : PyData → Bool} {ds : List PyData} {i : Nat} {d : PyData} (h : ds[i]? = some d) (hd : p d = false) : ds.all p = false := by
  rw [List.all_eq_false]
  exact ⟨d, List.mem_of_getElem? h, by rw [hd]; decide⟩
theorem r_is_laying (h : sp_is_laying K A vs H Q E) : t_is_laying K A (D0 Q) (start ["thing", "one"] vs) H := by
  obtain ⟨v, d, rfl, hd, k⟩ := h
  refine q_when (et_not (et_B (ev_isList (ev_var rfl) hd))) (fun hb H1 e1 => ?_) (fun hb H1 e1 => ?_)
  · rw [not_list hb] at k
    exact s_retV ev_c (k.mono e1)
  · obtain ⟨ds, rfl⟩ := is_list hb
    have hd1 := hd.mono e1
    cases hd1 with
    | of hd1 =>
      cases hd1 with
      | @lst a xs _ hs ha =>
        have hl := dps_len ha
        refine q_forP (x_vl (ev_var rfl) hs) (fun i σ' => ∃ u, σ' = [some (.ref a), u] ∧ (ds.take i).all pmD = true) ⟨none, rfl, rfl⟩ ?_ ?_
        · rintro H2 i x σ' H' e2 e3 hx ⟨u, rfl, hall⟩
          obtain ⟨d, hd, hp⟩ := dps_at ha hx
          have hp' : Th K H' x d := .of (dp_mono (e2.trans e3) _ _ hp)
          have test : EvT (tOr (tNot (tB (tCall (sp_is_whole K A) [] E0 (tCons (tVar 1) tNil)))) (tOr (tTest (tOp rLtI (tVar 1) (tUn rNegI (tC (.int 1))))) (tTest (tOp rGtI (tVar 1) (tC (.int 1)))))) [some (.ref a), some x] H' (!pmD d) := by
            have h1 : EvT (tNot (tB (tCall (sp_is_whole K A) [] E0 (tCons (tVar 1) tNil)))) [some (.ref a), some x] H' (!wholeD d) := et_not (et_B (ev_is_whole (ev_var rfl) hp'))
            by_cases w : wholeD d = true
            · cases d with
              | int i =>
                cases hp
                refine et_is (et_or h1 fun _ => et_or (et_test (ev_op (ev_var rfl) (ev_un ev_c ru_neg) rv_I0)) fun _ => et_test (ev_op (ev_var rfl) ev_c rv_I0)) ?_
                show (!true || (decide (i < -1) || decide (1 < i))) = !(decide (-1 ≤ i) && decide (i ≤ 1))
                by_cases c1 : i < -1
                · simp [c1, show ¬ -1 ≤ i by omega]
                · by_cases c2 : 1 < i
                  · simp [c1, c2, show ¬ i ≤ 1 by omega]
                  · simp [c1, c2, show -1 ≤ i by omega, show i ≤ 1 by omega]
              | none => exact absurd w Bool.false_ne_true
              | bool b => exact absurd w Bool.false_ne_true
              | str b => exact absurd w Bool.false_ne_true
              | list b => exact absurd w Bool.false_ne_true
              | tuple b => exact absurd w Bool.false_ne_true
              | dict b => exact absurd w Bool.false_ne_true
            · have w' : wholeD d = false := by simpa using w
              have p' : pmD d = false := by
                cases d <;> first | rfl | exact absurd rfl w
              rw [w'] at h1
              exact et_is (et_or (b := true) h1 fun z => by cases z) (by rw [p']; rfl)
          refine s_when test (fun hb H4 e4 => ?_) (fun hb H4 e4 => ?_)
          · have p' : pmD d = false := by simpa using hb
            have z : isLayD (.list ds) = false := all_not hd p'
            rw [z] at k
            exact s_retV ev_c (k.mono (((e1.trans e2).trans e3).trans e4))
          · have p' : pmD d = true := by simpa using hb
            exact ⟨⟨_, rfl, take_all hd hall p'⟩, e3.trans e4⟩
        · rintro σ' H' e2 ⟨u, rfl, hall⟩
          rw [hl, List.take_length] at hall
          have z : isLayD (.list ds) = true := hall
          rw [z] at k
          exact s_retV ev_c (k.mono (e1.trans e2))
theorem ev_is_laying {te : TE} {σ : L2.St} {v : V} {d : PyData} {E : XK} (h : Ev te σ H v) (hd : Th K H v d) : Ev (tCall (sp_is_laying K A) [] E (tCons te tNil)) σ H (.bl (isLayD d)) :=
  ev_call1 (x_v h) fun x H1 e1 ex Q q => ⟨v, d, by rw [show x = v from ex], hd.mono e1, fun H' e => q H' e⟩
/-! ### good_laying -/
def sp_good_laying (K : PySem.W.Frag) (A : Ad) : Sp := fun vs H Q E => ∃ v d, vs = [v] ∧ Th K H v d ∧ (isLayD d = true → RetV v H Q) ∧ (isLayD d = false → RaiseE E A.laying H)
def t_good_laying (K : PySem.W.Frag) (A : Ad) (E : XK) : TS :=
  (tSeq (tIfS (tNot (tB (tCall (sp_is_laying K A) [] E0 (tCons (tVar 0) tNil)))) (tRaiseC A.laying E) tNext)
    (tRet (tVar 0)))
theorem r_good_laying (h : sp_good_laying K A vs H Q E) : t_good_laying K A E (D0 Q) (start ["laying"] vs) H := by
  obtain ⟨v, d, rfl, hd, k1, k2⟩ := h
  refine q_when (et_not (et_B (ev_is_laying (ev_var rfl) hd))) (fun hb H1 e1 => ?_) (fun hb H1 e1 => ?_)
  · exact k2 (by simpa using hb) H1 e1
  · exact s_retV (ev_var rfl) ((k1 (by simpa using hb)).mono e1)
/-- a promise of a def upon one laying: R says what it gives -/
def LaySp (R : List Int → Hp → VK → Prop) (K : PySem.W.Frag) (A : Ad) : Sp := fun vs H Q E => ∃ v d, vs = [v] ∧ Th K H v d ∧ (∀ ns, d = .list (ns.map PyData.int) → Few.Lay ns → R ns H Q) ∧ (isLayD d = false → RaiseE E A.laying H)
section
variable {te : TE} {σ : L2.St} {ns : List Int} {v : V} {d : PyData} {R : List Int → Hp → VK → Prop}
theorem LaySp.good (h : IL K ns v H) (hl : Few.Lay ns) (hr : R ns H Q) : LaySp R K A [v] H Q E :=
  ⟨v, _, rfl, il_th h, fun ms e _ => by
    have e' : ns = ms := ints_inj (PyData.list.inj e)
    rw [← e']
    exact hr, fun z => by rw [lay_ints hl] at z; cases z⟩
theorem LaySp.bad (h : Th K H v d) (hl : isLayD d = false) (hr : RaiseE E A.laying H) : LaySp R K A [v] H Q E :=
  ⟨v, d, rfl, h, (fun ms e l => by rw [e, lay_ints l] at hl; cases hl), fun _ => hr⟩
/-- the call of good_laying in a def of that kind -/
theorem x_good (h : EvX te σ H (IL K ns)) (hl : Few.Lay ns) : EvX (tCall (sp_good_laying K A) [] E (tCons te tNil)) σ H (IL K ns) :=
  x_call1 h fun x H1 e1 hx Q q => ⟨x, _, rfl, il_th hx, fun _ H' e => q x H' e (mono_il _ _ _ e hx), fun z => by rw [lay_ints hl] at z; cases z⟩
theorem er_good (h : EvX te σ H (fun v H => Th K H v d)) (hl : isLayD d = false) (k : RaiseE E A.laying H) : Er (tCall (sp_good_laying K A) [] E (tCons te tNil)) σ H :=
  er_call1 h fun x H1 e1 hx Q => ⟨x, d, rfl, hx, (fun z => by rw [hl] at z; cases z), fun _ => k.mono e1⟩
theorem x_th {i : Nat} (h : σ[i]? = some (some v)) (hd : Th K H v d) : EvX (tVar i) σ H (fun v H => Th K H v d) := x_of (ev_var h) (fun _ _ _ e p => p.mono e) hd
theorem x_ilv {i : Nat} (h : σ[i]? = some (some v)) (hd : IL K ns v H) : EvX (tVar i) σ H (IL K ns) := x_of (ev_var h) mono_il hd
end
/-! ### load_of -/
def sp_load_of (K : PySem.W.Frag) (A : Ad) : Sp := LaySp (fun ns => RetV (.int (Few.loadOf ns))) K A
def t_load_of (K : PySem.W.Frag) (A : Ad) (E : XK) : TS :=
  (tSeq (tAsg (tC (.int 0)) (gName 1))
    (tSeq (tFor (iRev K (tCons (tCall (sp_good_laying K A) [] E (tCons (tVar 0) tNil)) tNil)) (gName 2) (tAsg (tOp rAddI (tOp rMulI (tC (.int 2)) (tVar 1)) (tVar 2)) (gName 1)))
    (tRet (tVar 1))))
theorem load_drop {ns : List Int} {i : Nat} {n : Int} (hi : i < ns.length) (h : ns[ns.length - 1 - i]? = some n) : Few.loadOf (ns.drop (ns.length - (i + 1))) = 2 * Few.loadOf (ns.drop (ns.length - i)) + n := by
  have e : ns.length - (i + 1) = ns.length - 1 - i := by omega
  have hlt : ns.length - 1 - i < ns.length := by omega
  rw [e, List.drop_eq_getElem_cons hlt]
  have e2 : ns[ns.length - 1 - i] = n := by
    rw [List.getElem?_eq_getElem hlt] at h
    exact Option.some.inj h
  show 2 * Few.loadOf (ns.drop (ns.length - 1 - i + 1)) + ns[ns.length - 1 - i] = _
  rw [e2, show ns.length - 1 - i + 1 = ns.length - i by omega]
theorem r_load_of (h : sp_load_of K A vs H Q E) : t_load_of K A E (D0 Q) (start ["laying", "load", "one"] vs) H := by
  obtain ⟨v, d, rfl, hd, k1, k2⟩ := h
  refine q_asg ev_c fun H1 e1 => ?_
  cases hl : isLayD d with
  | false => exact er_qforRv (er_good (x_th rfl (hd.mono e1)) hl ((k2 hl).mono e1))
  | true =>
    obtain ⟨ns, rfl, l⟩ := lay_is hl
    have k := k1 ns rfl l
    refine q_forRvP (x_vlI (x_good (x_ilv rfl (hd.mono e1).il) l)) (fun i σ' => ∃ u, σ' = [some v, some (.int (Few.loadOf (ns.drop (ns.length - i)))), u]) ⟨none, by rw [Nat.sub_zero, List.drop_length]; rfl⟩ ?_ ?_
    · rintro H2 i x σ' H' e2 e3 hi hx ⟨u, rfl⟩
      rw [List.length_map] at hi hx
      obtain ⟨n, hn, rfl⟩ := of_map hx
      refine s_asg (v := .int (2 * Few.loadOf (ns.drop (ns.length - i)) + n)) (ev_op (ev_op ev_c (ev_var rfl) (rv_mul (cmul_l ⟨by decide, by decide⟩))) (ev_var rfl) rv_I0) fun H4 e4 => ?_
      refine ⟨⟨some (.int n), ?_⟩, e3.trans e4⟩
      rw [load_drop hi hn]
      rfl
    · rintro σ' H' e2 ⟨u, rfl⟩
      rw [List.length_map, Nat.sub_self, List.drop_zero]
      exact s_retV (ev_var rfl) (k.mono (e1.trans e2))
theorem ev_load_of {te : TE} {σ : L2.St} {ns : List Int} (h : EvX te σ H (IL K ns)) (hl : Few.Lay ns) : Ev (tCall (sp_load_of K A) [] E (tCons te tNil)) σ H (.int (Few.loadOf ns)) :=
  ev_call1 h fun x H1 e1 hx Q q => LaySp.good hx hl fun H' e => q H' e
theorem er_load_of {te : TE} {σ : L2.St} {d : PyData} (h : EvX te σ H (fun v H => Th K H v d)) (hl : isLayD d = false) (k : RaiseE E A.laying H) : Er (tCall (sp_load_of K A) [] E (tCons te tNil)) σ H :=
  er_call1 h fun x H1 e1 hx Q => LaySp.bad hx hl (k.mono e1)
/-! ### stones -/
def sp_stones (K : PySem.W.Frag) (A : Ad) : Sp := LaySp (fun ns => RetV (.int (Few.used ns : Nat))) K A
def t_stones (K : PySem.W.Frag) (A : Ad) (E : XK) : TS :=
  (tSeq (tAsg (tC (.int 0)) (gName 1))
    (tSeq (tFor (iList K (tCall (sp_good_laying K A) [] E (tCons (tVar 0) tNil))) (gName 2) (tIfS (tTest (tOp rNe (tVar 2) (tC (.int 0)))) (tAug 1 (tC (.int 1)) (ipI fun i j => i + j)) tNext))
    (tRet (tVar 1))))
theorem used_take {ns : List Int} {i : Nat} {n : Int} (h : ns[i]? = some n) : Few.used (ns.take (i + 1)) = Few.used (ns.take i) + if n = 0 then 0 else 1 := by
  rw [List.take_add_one, h]
  unfold Few.used
  rw [List.filter_append, List.length_append]
  by_cases z : n = 0
  · subst z
    simp
  · rw [if_neg z]
    simp [z]
theorem ne_zero {n : Int} : (!decide (V.int n = V.int 0)) = !decide (n = 0) := by
  by_cases h : n = 0
  · subst h
    simp
  · rw [decide_eq_false h, decide_eq_false (fun z => h (V.int.inj z))]
theorem eq_dec {n m : Int} : decide (V.int n = V.int m) = decide (n = m) := by
  by_cases h : n = m
  · subst h
    simp
  · rw [decide_eq_false h, decide_eq_false (fun z => h (V.int.inj z))]
theorem r_stones (h : sp_stones K A vs H Q E) : t_stones K A E (D0 Q) (start ["laying", "many", "one"] vs) H := by
  obtain ⟨v, d, rfl, hd, k1, k2⟩ := h
  refine q_asg ev_c fun H1 e1 => ?_
  cases hl : isLayD d with
  | false => exact er_qfor (er_good (x_th rfl (hd.mono e1)) hl ((k2 hl).mono e1))
  | true =>
    obtain ⟨ns, rfl, l⟩ := lay_is hl
    have k := k1 ns rfl l
    refine q_forP (x_vlI (x_good (x_ilv rfl (hd.mono e1).il) l)) (fun i σ' => ∃ u, σ' = [some v, some (.int (Few.used (ns.take i) : Nat)), u]) ⟨none, rfl⟩ ?_ ?_
    · rintro H2 i x σ' H' e2 e3 hx ⟨u, rfl⟩
      obtain ⟨n, hn, rfl⟩ := of_map hx
      have step := used_take hn
      refine s_when (et_test (ev_op (ev_var rfl) ev_c (rv_ne rfl))) (fun hb H4 e4 => ?_) (fun hb H4 e4 => ?_)
      · rw [ne_zero] at hb
        have z : ¬ n = 0 := by simpa using hb
        rw [if_neg z] at step
        refine s_aug rfl ev_c fun H5 e5 => ?_
        refine ⟨⟨some (.int n), ?_⟩, (e3.trans e4).trans e5⟩
        rw [step]
        rfl
      · rw [ne_zero] at hb
        have z : n = 0 := by simpa using hb
        rw [if_pos z] at step
        refine ⟨⟨some (.int n), ?_⟩, e3.trans e4⟩
        rw [step]
        rfl
    · rintro σ' H' e2 ⟨u, rfl⟩
      rw [List.length_map, List.take_length]
      exact s_retV (ev_var rfl) (k.mono (e1.trans e2))
theorem ev_stones {te : TE} {σ : L2.St} {ns : List Int} (h : EvX te σ H (IL K ns)) (hl : Few.Lay ns) : Ev (tCall (sp_stones K A) [] E (tCons te tNil)) σ H (.int (Few.used ns : Nat)) :=
  ev_call1 h fun x H1 e1 hx Q q => LaySp.good hx hl fun H' e => q H' e
/-! ### ended -/
def sp_ended (K : PySem.W.Frag) (A : Ad) : Sp := LaySp (fun ns => RetL ((Few.ended ns).map V.int)) K A
def t_ended (K : PySem.W.Frag) (A : Ad) (E : XK) : TS :=
  (tSeq (tAsg (tCB (Evl.rListS K) (tCons (tCall (sp_good_laying K A) [] E (tCons (tVar 0) tNil)) tNil)) (gName 1))
    (tSeq (tWhile (tAnd (tTest (tOp rGtI (tCB (Evl.rLenS K) (tCons (tVar 1) tNil)) (tC (.int 0)))) (tTest (tOp rEq (tOp (rIxL K) (tVar 1) (tUn rNegI (tC (.int 1)))) (tC (.int 0))))) (tDrop (tBM0 K "list" rPop (tVar 1))))
    (tRet (tVar 1))))
theorem at_last {r : List Int} {x : Int} : atI ((r ++ [x]).map V.int) (-1) = some (.int x) := by
  rw [List.map_append]
  exact atI_last _ _
theorem dropLast_ints {r : List Int} {x : Int} : ((r ++ [x]).map V.int).dropLast = r.map V.int := by
  rw [List.map_append]
  exact List.dropLast_concat
theorem r_ended (h : sp_ended K A vs H Q E) : t_ended K A E (D0 Q) (start ["laying", "kept"] vs) H := by
  obtain ⟨v, d, rfl, hd, k1, k2⟩ := h
  cases hl : isLayD d with
  | false => exact er_q (er_cb (er_good (x_th rfl hd) hl (k2 hl)))
  | true =>
    obtain ⟨ns, rfl, l⟩ := lay_is hl
    have k : RetL ((Few.ended ns).map V.int) H Q := k1 ns rfl l
    refine q_asgL (el_listX (x_vlI (x_good (x_ilv rfl hd.il) l))) fun p H1 hp e1 hx => ?_
    refine q_while (fun m σ' H' => ∃ ks : List Int, m = ks.length ∧ Few.ended ks = Few.ended ns ∧ σ' = [some v, some (.ref p)] ∧ Ex H H' ∧ H' p = some (.lst (ks.map V.int))) ns.length ⟨ns, rfl, rfl, rfl, e1, hx⟩ ?_
    rintro m σ' H' ⟨ks, rfl, he, rfl, e2, hk⟩
    have tl : EvT (tTest (tOp rGtI (tCB (Evl.rLenS K) (tCons (tVar 1) tNil)) (tC (.int 0)))) [some v, some (.ref p)] H' (decide (0 < (ks.length : Int))) :=
      et_test (ev_op (ev_lenX (x_ilv rfl ⟨p, rfl, sq_of hk⟩)) ev_c rv_I0)
    rcases Few.last_cases ks with z | ⟨r, x, z⟩
    · subst z
      refine ⟨false, et_and (b := false) tl (fun z => by cases z), (fun z => by cases z), fun _ H4 e4 => ?_⟩
      have e0 : Few.ended ns = [] := he.symm
      rw [e0] at k
      exact s_ret (ev_var rfl) fun H5 e5 => k p H5 hp ((e2.trans e4).trans e5) (e5 _ _ (e4 _ _ hk))
    · subst z
      have lt : EvT (tTest (tOp rEq (tOp (rIxL K) (tVar 1) (tUn rNegI (tC (.int 1)))) (tC (.int 0)))) [some v, some (.ref p)] H' (decide (x = 0)) := by
        refine et_is (et_test (ev_op (ev_op (ev_var rfl) (ev_un ev_c ru_neg) (rv_ixL (sq_of hk) at_last)) ev_c (rv_eq rfl))) eq_dec
      refine ⟨decide (x = 0), et_is (et_and tl fun _ => lt) (by rw [List.length_append]; simp), fun hb H4 e4 => ?_, fun hb H4 e4 => ?_⟩
      · have hx0 : x = 0 := of_decide_eq_true hb
        subst hx0
        refine ⟨fun σ2 H2 => σ2 = [some v, some (.ref p)] ∧ Ex H H2 ∧ H2 p = some (.lst (r.map V.int)), fun σ2 H2 q => ⟨r.length, by rw [List.length_append]; simp, r, rfl, by rw [← he, Few.ended_snoc0], q.1, q.2.1, q.2.2⟩, ?_⟩
        refine s_popS (y := .int 0) (e4 _ _ hk) (ev_var rfl) ?_ fun H5 e5 => ?_
        · rw [List.length_map, List.length_append, List.map_append]
          simp
        · rw [dropLast_ints]
          exact ⟨rfl, Ex.mut ((e2.trans e4).trans e5) hp, upd_same⟩
      · have hx0 : x ≠ 0 := by simpa using hb
        have ek : r ++ [x] = Few.ended ns := by rw [← he, Few.ended_snoc r hx0]
        rw [ek] at hk
        exact s_ret (ev_var rfl) fun H5 e5 => k p H5 hp ((e2.trans e4).trans e5) (e5 _ _ (e4 _ _ hk))
theorem el_ended {te : TE} {σ : L2.St} {ns : List Int} (h : EvX te σ H (IL K ns)) (hl : Few.Lay ns) : EvL (tCall (sp_ended K A) [] E (tCons te tNil)) σ H ((Few.ended ns).map V.int) :=
  el_call1 h fun x H1 e1 hx Q q => LaySp.good hx hl fun p H' hp e hx => q p H' hp e hx
/-! ### is_neat -/
def sp_is_neat (K : PySem.W.Frag) (A : Ad) : Sp := LaySp (fun ns => RetV (.bl (Few.neatB ns))) K A
def t_is_neat (K : PySem.W.Frag) (A : Ad) (E : XK) : TS :=
  (tSeq (tAsg (tC (.int 0)) (gName 1))
    (tSeq (tFor (iList K (tCall (sp_good_laying K A) [] E (tCons (tVar 0) tNil))) (gName 2) (tSeq (tIfS (tAnd (tTest (tOp rNe (tVar 1) (tC (.int 0)))) (tTest (tOp rNe (tVar 2) (tC (.int 0))))) (tRet (tC (.bl false))) tNext)
    (tAsg (tVar 2) (gName 1))))
    (tRet (tOrV (tOp (rEqD K) (tVar 0) (tLst tNil)) (tOp rNe (tVar 1) (tC (.int 0)))))))
theorem r_is_neat (h : sp_is_neat K A vs H Q E) : t_is_neat K A E (D0 Q) (start ["laying", "before", "one"] vs) H := by
  obtain ⟨v, d, rfl, hd, k1, k2⟩ := h
  refine q_asg ev_c fun H1 e1 => ?_
  cases hl : isLayD d with
  | false => exact er_qfor (er_good (x_th rfl (hd.mono e1)) hl ((k2 hl).mono e1))
  | true =>
    obtain ⟨ns, rfl, l⟩ := lay_is hl
    have k : RetV (.bl (Few.neatB ns)) H Q := k1 ns rfl l
    refine q_forP (x_vlI (x_good (x_ilv rfl (hd.mono e1).il) l)) (fun i σ' => ∃ u b, σ' = [some v, some (.int b), u] ∧ Few.beforeOf 0 (ns.take i) = b ∧ Few.apartB (ns.take i) = true) ⟨none, 0, rfl, rfl, rfl⟩ ?_ ?_
    · rintro H2 i x σ' H' e2 e3 hx ⟨u, b, rfl, hb, ha⟩
      obtain ⟨n, hn, rfl⟩ := of_map hx
      have t1 : EvT (tAnd (tTest (tOp rNe (tVar 1) (tC (.int 0)))) (tTest (tOp rNe (tVar 2) (tC (.int 0))))) [some v, some (.int b), some (.int n)] H' (!decide (b = 0) && !decide (n = 0)) :=
        et_and (et_is (et_test (ev_op (ev_var rfl) ev_c (rv_ne rfl))) ne_zero) fun _ => et_is (et_test (ev_op (ev_var rfl) ev_c (rv_ne rfl))) ne_zero
      have st := Few.apart_step hn ha hb
      refine q_when t1 (fun hc H4 e4 => ?_) (fun hc H4 e4 => ?_)
      · have z : Few.neatB ns = false := by
          rw [Few.neat_iff, st.2 hc]
          rfl
        rw [z] at k
        exact s_retV ev_c (k.mono (((e1.trans e2).trans e3).trans e4))
      · exact s_asg (ev_var rfl) fun H5 e5 => ⟨⟨some (.int n), n, rfl, Few.before_take hn, st.1 hc⟩, (e3.trans e4).trans e5⟩
    · rintro σ' H' e2 ⟨u, b, rfl, hb, ha⟩
      rw [List.length_map, List.take_length] at hb ha
      have hq := mono_il _ _ _ (e1.trans e2) hd.il
      refine s_retV (v := .bl (Few.neatB ns)) ?_ (k.mono (e1.trans e2))
      have first : Ev (tOp (rEqD K) (tVar 0) (tLst tNil)) [some v, some (.int b), u] H' (.bl (decide (ns = []))) := ev_eqI (ys := []) (x_ilv rfl hq) (x_ilL (el_lst ea_nil (by decide)))
      refine ev_is (ev_orV first fun _ => ev_is (ev_op (ev_var rfl) ev_c (rv_ne rfl)) (by rw [ne_zero])) ?_
      rw [Few.neat_by_last ns hb ha]
theorem ev_is_neat {te : TE} {σ : L2.St} {ns : List Int} (h : EvX te σ H (IL K ns)) (hl : Few.Lay ns) : Ev (tCall (sp_is_neat K A) [] E (tCons te tNil)) σ H (.bl (Few.neatB ns)) :=
  ev_call1 h fun x H1 e1 hx Q q => LaySp.good hx hl fun H' e => q H' e
/-! ### good_load, laid -/
def sp_good_load (K : PySem.W.Frag) (A : Ad) : Sp := fun vs H Q E => ∃ v d, vs = [v] ∧ Th K H v d ∧ (wholeD d = true → RetV v H Q) ∧ (wholeD d = false → RaiseE E A.load H)
def t_good_load (K : PySem.W.Frag) (A : Ad) (E : XK) : TS :=
  (tSeq (tIfS (tNot (tB (tCall (sp_is_whole K A) [] E0 (tCons (tVar 0) tNil)))) (tRaiseC A.load E) tNext)
    (tRet (tVar 0)))
theorem r_good_load (h : sp_good_load K A vs H Q E) : t_good_load K A E (D0 Q) (start ["load"] vs) H := by
  obtain ⟨v, d, rfl, hd, k1, k2⟩ := h
  refine q_when (et_not (et_B (ev_is_whole (ev_var rfl) hd))) (fun hb H1 e1 => ?_) (fun hb H1 e1 => ?_)
  · exact k2 (by simpa using hb) H1 e1
  · exact s_retV (ev_var rfl) ((k1 (by simpa using hb)).mono e1)
/-- a promise of a def upon one load -/
def LoadSp (R : Int → Hp → VK → Prop) (K : PySem.W.Frag) (A : Ad) : Sp := fun vs H Q E => ∃ v d, vs = [v] ∧ Th K H v d ∧ (∀ n, d = .int n → R n H Q) ∧ (wholeD d = false → RaiseE E A.load H)
theorem whole_is {d : PyData} (h : wholeD d = true) : ∃ n, d = .int n := by
  cases d <;> first | exact ⟨_, rfl⟩ | cases h
theorem th_int_is {v : V} {n : Int} (h : Th K H v (.int n)) : v = .int n := by
  cases h with
  | of h =>
    cases h
    rfl
section
variable {te : TE} {σ : L2.St} {n : Int} {v : V} {d : PyData} {R : Int → Hp → VK → Prop}
theorem LoadSp.good (hr : R n H Q) : LoadSp R K A [.int n] H Q E := ⟨.int n, .int n, rfl, th_int n, (fun m e => by cases e; exact hr), fun z => by cases z⟩
theorem LoadSp.bad (h : Th K H v d) (hl : wholeD d = false) (hr : RaiseE E A.load H) : LoadSp R K A [v] H Q E := ⟨v, d, rfl, h, (fun m e => by rw [e] at hl; cases hl), fun _ => hr⟩
theorem ev_goodload (h : Ev te σ H (.int n)) : Ev (tCall (sp_good_load K A) [] E (tCons te tNil)) σ H (.int n) :=
  ev_call1 (x_v h) fun x H1 e1 hx Q q => ⟨.int n, .int n, by rw [show x = V.int n from hx], th_int n, (fun _ H' e => q H' e), fun z => by cases z⟩
theorem er_goodload (h : EvX te σ H (fun v H => Th K H v d)) (hl : wholeD d = false) (k : RaiseE E A.load H) : Er (tCall (sp_good_load K A) [] E (tCons te tNil)) σ H :=
  er_call1 h fun x H1 e1 hx Q => ⟨x, d, rfl, hx, (fun z => by rw [hl] at z; cases z), fun _ => k.mono e1⟩
end
def sp_laid (K : PySem.W.Frag) (A : Ad) : Sp := LoadSp (fun n H Q => (Few.laid n).length < 100000 ∧ RetL ((Few.laid n).map V.int) H Q) K A
def t_laid (K : PySem.W.Frag) (A : Ad) (E : XK) : TS :=
  (tSeq (tAsg (tCall (sp_good_load K A) [] E (tCons (tVar 0) tNil)) (gName 1))
    (tSeq (tAsg (tLst tNil) (gName 2))
    (tSeq (tWhile (tTest (tOp rNe (tVar 1) (tC (.int 0)))) (tSeq (tAsg (tC (.int 0)) (gName 3))
    (tSeq (tIfS (tTest (tOp rEq (tOp rModI (tVar 1) (tC (.int 2))) (tC (.int 1)))) (tAsg (tOp rSubI (tC (.int 2)) (tOp rModI (tVar 1) (tC (.int 4)))) (gName 3)) tNext)
    (tSeq (tDrop (tBM K "list" rAppend (tVar 2) (tCons (tVar 3) tNil)))
    (tAsg (tOp rDivI (tOp rSubI (tVar 1) (tVar 3)) (tC (.int 2))) (gName 1))))))
    (tRet (tVar 2)))))
theorem r_laid (h : sp_laid K A vs H Q E) : t_laid K A E (D0 Q) (start ["load", "rest", "found", "one"] vs) H := by
  obtain ⟨v, d, rfl, hd, k1, k2⟩ := h
  cases hl : wholeD d with
  | false => exact er_q (er_goodload (x_th rfl hd) hl (k2 hl))
  | true =>
    obtain ⟨n, rfl⟩ := whole_is hl
    obtain ⟨hlen, k⟩ := k1 n rfl
    have hv := th_int_is hd
    subst hv
    refine q_asg (ev_goodload (ev_var rfl)) fun H1 e1 => ?_
    refine q_asgL (xs := []) (el_lst ea_nil (by decide)) fun p H2 hp e2 hx => ?_
    refine q_while (fun m σ' H' => ∃ (r : Int) (l : List Int) (u : Option V), m = r.natAbs ∧ l ++ Few.laid r = Few.laid n ∧ σ' = [some (.int n), some (.int r), some (.ref p), u] ∧ Ex H1 H' ∧ H' p = some (.lst (l.map V.int))) n.natAbs ⟨n, [], none, rfl, rfl, rfl, e2, hx⟩ ?_
    rintro m σ' H' ⟨r, l, u, rfl, he, rfl, e3, hk⟩
    refine ⟨!decide (r = 0), et_is (et_test (ev_op (ev_var rfl) ev_c (rv_ne rfl))) ne_zero, fun hb H4 e4 => ?_, fun hb H4 e4 => ?_⟩
    · have hr : r ≠ 0 := by simpa using hb
      have e0 := Few.laid_ne hr
      refine ⟨fun σ2 H2 => ∃ u, σ2 = [some (.int n), some (.int ((r - Few.digit r) / 2)), some (.ref p), u] ∧ Ex H1 H2 ∧ H2 p = some (.lst ((l ++ [Few.digit r]).map V.int)), fun σ2 H2 ⟨u, q1, q2, q3⟩ => ⟨_, Few.digit_less r hr, _, l ++ [Few.digit r], u, rfl, by rw [← he, e0]; simp, q1, q2, q3⟩, ?_⟩
      have hlt : (l.map V.int).length < 100000 := by
        have e5 : (l ++ Few.laid r).length = (Few.laid n).length := by rw [he]
        rw [List.length_append] at e5
        rw [List.length_map]
        omega
      refine q_asg ev_c fun H5 e5 => ?_
      refine q_ifAsg (v := .int (Few.digit r)) (b := decide (r % 2 = 1)) (et_is (et_test (ev_op (ev_op (ev_var rfl) ev_c (rv_mod (by decide))) ev_c (rv_eq rfl))) eq_dec) (fun hm => ?_) (fun hm => ?_) fun H6 e6 => ?_
      · have o : r % 2 = 1 := of_decide_eq_true hm
        refine ev_is (ev_op ev_c (ev_op (ev_var rfl) ev_c (rv_mod (by decide))) rv_I0) ?_
        unfold Few.digit
        rw [if_pos o]
      · have o : ¬ r % 2 = 1 := by simpa using hm
        unfold Few.digit
        rw [if_neg o]
        rfl
      · refine q_app (xs := l.map V.int) (e6 _ _ (e5 _ _ (e4 _ _ hk))) (ev_var rfl) (ev_var rfl) hlt fun H7 e7 => ?_
        refine s_asg (ev_op (ev_op (ev_var rfl) (ev_var rfl) rv_I0) ev_c (rv_div ⟨by decide, by decide⟩)) fun H8 e8 => ?_
        have hp1 : H1 p = none := hp
        refine ⟨some (.int (Few.digit r)), rfl, (Ex.mut ((((e3.trans e4).trans e5).trans e6).trans e7) hp1).trans e8, e8 _ _ ?_⟩
        rw [upd_same, List.map_append]
        rfl
    · have hr : r = 0 := by simpa using hb
      subst hr
      rw [Few.laid_zero, List.append_nil] at he
      rw [he] at hk
      exact s_ret (ev_var rfl) fun H5 e5 => k p H5 (fresh_back e1 hp) (((e1.trans e3).trans e4).trans e5) (e5 _ _ (e4 _ _ hk))
theorem el_laid {te : TE} {σ : L2.St} {n : Int} (h : Ev te σ H (.int n)) (hl : (Few.laid n).length < 100000) : EvL (tCall (sp_laid K A) [] E (tCons te tNil)) σ H ((Few.laid n).map V.int) :=
  el_call1 (x_v h) fun x H1 e1 hx Q q => by
    rw [show x = V.int n from hx]
    exact LoadSp.good ⟨hl, fun p H' hp e hx => q p H' hp e hx⟩
theorem er_laid {te : TE} {σ : L2.St} {d : PyData} (h : EvX te σ H (fun v H => Th K H v d)) (hl : wholeD d = false) (k : RaiseE E A.load H) : Er (tCall (sp_laid K A) [] E (tCons te tNil)) σ H :=
  er_call1 h fun x H1 e1 hx Q => LoadSp.bad hx hl (k.mono e1)
end
end Fw

namespace Fw
open PySem PySem.Spec PyProof.Rows L2 Evl
/-! comprehensions -/
section
variable {K : PySem.W.Frag} {σ : L2.St} {H H' : Hp} {ta : TA} {tb te tx tl : TE} {t u : TT} {x y z v : V}
def CwV (H : Hp) (xs : List V) (Dl : Addr) (H' : Hp) : Prop := H Dl = none ∧ Ex H H' ∧ H' Dl = some (.lst xs)
theorem cwv_turn {H H' : Hp} {acc : List V} {b : Bool} {y : V} {Dl : Addr} {σ2 : L2.St} (p : CwV H acc Dl H') (hi : acc.length < 50000) (ht : EvT t σ2 H b) (he : b = true → Ev te σ2 H y) (R : Hp → Prop) (hR : ∀ H2, CwV H (if b = true then acc ++ [y] else acc) Dl H2 → R H2) :
    t σ2 H' fun b H3 => if b = true then te σ2 H3 fun y H4 => ∃ acc, H4 Dl = some (.lst acc) ∧ acc.length < sizeLine ∧ R (upd H4 Dl (.lst (acc ++ [y]))) else R H3 := by
  obtain ⟨p1, p2, p3⟩ := p
  refine ht H' p2 _ fun H3 e3 => ?_
  cases hb : b with
  | true =>
    show te σ2 H3 fun y H4 => ∃ acc, H4 Dl = some (.lst acc) ∧ acc.length < sizeLine ∧ R (upd H4 Dl (.lst (acc ++ [y])))
    refine he hb H3 (p2.trans e3) _ fun H4 e4 => ⟨acc, e4 Dl _ (e3 Dl _ p3), sz_lt (by omega), hR _ ⟨p1, Ex.mut ((p2.trans e3).trans e4) p1, ?_⟩⟩
    rw [hb, if_pos rfl]
    exact upd_same
  | false =>
    show R H3
    refine hR _ ⟨p1, p2.trans e3, ?_⟩
    rw [hb, if_neg (by decide)]
    exact e3 Dl _ p3
theorem filt_take {f : V → Bool} {g : V → V} {xs : List V} {i : Nat} {x : V} (h : xs[i]? = some x) : ((xs.take (i + 1)).filter f).map g = if f x = true then ((xs.take i).filter f).map g ++ [g x] else ((xs.take i).filter f).map g := by
  rw [List.take_add_one, h, List.filter_append]
  show List.map g (List.filter f (List.take i xs) ++ List.filter f [x]) = _
  by_cases c : f x = true
  · rw [if_pos c, List.filter_cons, if_pos c, List.map_append]
    rfl
  · rw [if_neg c, List.filter_cons, if_neg c]
    simp
theorem filt_len {f : V → Bool} {g : V → V} {xs : List V} {i : Nat} : (((xs.take i).filter f).map g).length ≤ xs.length := by
  rw [List.length_map]
  have h := List.length_filter_le f (xs.take i)
  have h2 : (xs.take i).length ≤ xs.length := by
    rw [List.length_take]
    omega
  omega
theorem el_lcV {xs : List V} {j : Nat} {vs : List Nat} (f : V → Bool) (g : V → V) (h : EvX tl σ H (VL K xs)) (hz : xs.length ≤ 40000) (hw : ∀ x, wipe ((wipe σ vs).set j (some x)) vs = wipe σ vs)
    (ht : ∀ (x : V) H1, Ex H H1 → x ∈ xs → EvT t ((wipe σ vs).set j (some x)) H1 (f x)) (he : ∀ (x : V) H1, Ex H H1 → x ∈ xs → f x = true → Ev te ((wipe σ vs).set j (some x)) H1 (g x)) :
    EvL (tLc (iList K tl) (gName j) t te vs) σ H ((xs.filter f).map g) := fun H0 e Q q => h H0 e _ fun v H1 e1 ⟨a, ev, hx⟩ => ⟨a, ev, ⟨xs, hx⟩, fun Dl hD =>
  lc_list (xs := xs) (fun i => CwV H1 (((xs.take i).filter f).map g) Dl) ⟨hD, Ex.new hD, upd_same⟩ (fun i H' _ p => ex_l p.2.1 hx) (fun i x H' hi p => ⟨hw x, by
    refine cwv_turn (b := f x) (y := g x) p (by have := @filt_len f g xs i; omega) (ht x H1 (e.trans e1) (List.mem_of_getElem? hi)) (fun hf => he x H1 (e.trans e1) (List.mem_of_getElem? hi) hf) _ fun H2 p2 => ?_
    rw [filt_take hi]
    exact p2⟩) (fun H' p => q Dl H' (fresh_back e1 p.1) (e1.trans p.2.1) (by have z := p.2.2; rw [List.take_length] at z; exact z))⟩
theorem el_lcI {ns : List Int} {j : Nat} {vs : List Nat} (f : Int → Bool) (g : Int → V) (h : EvX tl σ H (IL K ns)) (hz : ns.length ≤ 40000) (hw : ∀ x, wipe ((wipe σ vs).set j (some x)) vs = wipe σ vs)
    (ht : ∀ (n : Int) H1, Ex H H1 → n ∈ ns → EvT t ((wipe σ vs).set j (some (.int n))) H1 (f n)) (he : ∀ (n : Int) H1, Ex H H1 → n ∈ ns → f n = true → Ev te ((wipe σ vs).set j (some (.int n))) H1 (g n)) :
    EvL (tLc (iList K tl) (gName j) t te vs) σ H ((ns.filter f).map g) := by
  have key := el_lcV (xs := ns.map V.int) (fun x => match x with | .int n => f n | _ => false) (fun x => match x with | .int n => g n | _ => x) (x_vlI h) (by rw [List.length_map]; exact hz) hw (t := t) (te := te) (fun x H1 e hx => by
    obtain ⟨n, hn, rfl⟩ := List.mem_map.mp hx
    exact ht n H1 e hn) (fun x H1 e hx hf => by
    obtain ⟨n, hn, rfl⟩ := List.mem_map.mp hx
    exact he n H1 e hn hf)
  rw [List.filter_map, List.map_map] at key
  exact key
theorem et_yes : EvT tYes σ H true := fun H1 _ Q q => q H1 (Ex.refl H1)
/-- without a test -/
theorem el_lcI0 {ns : List Int} {j : Nat} {vs : List Nat} (g : Int → V) (h : EvX tl σ H (IL K ns)) (hz : ns.length ≤ 40000) (hw : ∀ x, wipe ((wipe σ vs).set j (some x)) vs = wipe σ vs)
    (he : ∀ (n : Int) H1, Ex H H1 → n ∈ ns → Ev te ((wipe σ vs).set j (some (.int n))) H1 (g n)) :
    EvL (tLc (iList K tl) (gName j) tYes te vs) σ H (ns.map g) := by
  have k := el_lcI (t := tYes) (te := te) (fun _ => true) g h hz hw (fun _ _ _ _ => et_yes) (fun n H1 e hn _ => he n H1 e hn)
  rw [List.filter_eq_self.mpr (fun _ _ => rfl)] at k
  exact k
/-- slices -/
theorem cut_to {xs : List V} {n : Nat} : cutV xs none (some (n : Int)) = xs.take n := by
  unfold cutV
  rw [HT.sIx_none, HT.sIx_nat, List.drop_zero, Nat.sub_zero]
  rcases Nat.le_total n xs.length with h | h
  · rw [Nat.min_eq_left h]
  · rw [Nat.min_eq_right h, List.take_length, List.take_of_length_le h]
theorem cut_from {xs : List V} {n : Nat} : cutV xs (some (n : Int)) none = xs.drop n := by
  unfold cutV
  rw [HT.sIx_none, HT.sIx_nat]
  rcases Nat.le_total n xs.length with h | h
  · rw [Nat.min_eq_left h]
    exact List.take_of_length_le (by rw [List.length_drop]; exact Nat.le_refl _)
  · rw [Nat.min_eq_right h, List.drop_length, List.drop_of_length_le h]
    simp
theorem el_to {ns : List Int} {n : Nat} {i : Int} (h : EvX te σ H (IL K ns)) (hb : Ev tb σ H (.int i)) (hi : i = (n : Int)) : EvL (tSl (rSlL K) te tNoPart (tPart tb)) σ H ((ns.take n).map V.int) := fun H1 e Q q =>
  h H1 e _ fun v H2 e2 hv => (eo_none (σ := σ) (H := H)) H2 (e.trans e2) _ fun H3 e3 => (eo_some hb) H3 ((e.trans e2).trans e3) _ fun H4 e4 => by
    obtain ⟨a, rfl, hs⟩ := hv
    refine ⟨a, _, rfl, ex_l (e3.trans e4) hs, fun p hp => q p _ (fresh_back ((e2.trans e3).trans e4) hp) (((e2.trans e3).trans e4).trans (Ex.new hp)) ?_⟩
    rw [upd_same, hi, cut_to, List.map_take]
theorem el_from {ns : List Int} {n : Nat} {i : Int} (h : EvX te σ H (IL K ns)) (hb : Ev tb σ H (.int i)) (hi : i = (n : Int)) : EvL (tSl (rSlL K) te (tPart tb) tNoPart) σ H ((ns.drop n).map V.int) := fun H1 e Q q =>
  h H1 e _ fun v H2 e2 hv => (eo_some hb) H2 (e.trans e2) _ fun H3 e3 => (eo_none (σ := σ) (H := H)) H3 ((e.trans e2).trans e3) _ fun H4 e4 => by
    obtain ⟨a, rfl, hs⟩ := hv
    refine ⟨a, _, rfl, ex_l (e3.trans e4) hs, fun p hp => q p _ (fresh_back ((e2.trans e3).trans e4) hp) (((e2.trans e3).trans e4).trans (Ex.new hp)) ?_⟩
    rw [upd_same, hi, cut_from, List.map_drop]
end
end Fw

namespace Fw
open PySem PySem.Spec PyProof.Rows L2 Evl
/-! the lists that a def has made, written out: all else is as it was -/
def Led (H0 H : Hp) (ps : List (Addr × List V)) : Prop := Ex H0 H ∧ (∀ q ∈ ps, H0 q.1 = none ∧ H q.1 = some (.lst q.2)) ∧ (ps.map (·.1)).Nodup
section
variable {H0 H H1 : Hp} {ps : List (Addr × List V)} {p : Addr} {xs ys : List V}
theorem Led.nil (H : Hp) : Led H H [] := ⟨Ex.refl H, (fun q h => by cases h), List.nodup_nil⟩
theorem Led.ext (h : Led H0 H ps) : Ex H0 H := h.1
theorem Led.ex (h : Led H0 H ps) (e : Ex H H1) : Led H0 H1 ps := ⟨h.1.trans e, fun q hq => ⟨(h.2.1 q hq).1, e _ _ (h.2.1 q hq).2⟩, h.2.2⟩
theorem Led.new (h : Led H0 H ps) (hp : H p = none) (e : Ex H H1) (hx : H1 p = some (.lst xs)) : Led H0 H1 ((p, xs) :: ps) := by
  refine ⟨h.1.trans e, fun q hq => ?_, ?_⟩
  · rcases List.mem_cons.mp hq with z | z
    · rw [z]
      exact ⟨fresh_back h.1 hp, hx⟩
    · exact ⟨(h.2.1 q z).1, e _ _ (h.2.1 q z).2⟩
  · rw [List.map_cons, List.nodup_cons]
    refine ⟨fun z => ?_, h.2.2⟩
    obtain ⟨q, hq, eq⟩ := List.mem_map.mp z
    have a := (h.2.1 q hq).2
    rw [eq, hp] at a
    cases a
theorem Led.at (h : Led H0 H ps) (i : Nat) (hi : ps[i]? = some (p, xs)) : H p = some (.lst xs) := (h.2.1 _ (List.mem_of_getElem? hi)).2
theorem Led.free (h : Led H0 H ps) (i : Nat) (hi : ps[i]? = some (p, xs)) : H0 p = none := (h.2.1 _ (List.mem_of_getElem? hi)).1
theorem set_keys : ∀ {ps : List (Addr × List V)} {i : Nat} {p : Addr} {xs ys : List V}, ps[i]? = some (p, xs) → (ps.set i (p, ys)).map (·.1) = ps.map (·.1)
  | [], i, p, xs, ys, h => by simp at h
  | q :: r, 0, p, xs, ys, h => by
    have e : q = (p, xs) := Option.some.inj h
    rw [e]
    rfl
  | q :: r, i + 1, p, xs, ys, h => by
    have ih := set_keys (ps := r) (i := i) (p := p) (xs := xs) (ys := ys) h
    show q.1 :: (r.set i (p, ys)).map (·.1) = q.1 :: r.map (·.1)
    rw [ih]
theorem mem_set_of {ps : List (Addr × List V)} {i : Nat} {a : Addr × List V} {q : Addr × List V} (h : q ∈ ps.set i a) : q = a ∨ ∃ j, j ≠ i ∧ ps[j]? = some q := by
  obtain ⟨j, hj⟩ := List.getElem?_of_mem h
  by_cases e : j = i
  · subst e
    left
    rw [List.getElem?_set_self'] at hj
    cases z : ps[j]? with
    | none =>
      rw [z] at hj
      cases hj
    | some w =>
      rw [z] at hj
      exact (Option.some.inj hj).symm
  · right
    rw [List.getElem?_set_ne (Ne.symm e)] at hj
    exact ⟨j, e, hj⟩
theorem Led.put (h : Led H0 H ps) (i : Nat) (ys : List V) (hi : ps[i]? = some (p, xs)) : Led H0 (upd H p (.lst ys)) (ps.set i (p, ys)) := by
  refine ⟨Ex.mut h.1 (h.free i hi), fun q hq => ?_, ?_⟩
  · rcases mem_set_of hq with z | ⟨j, hj, z⟩
    · rw [z]
      exact ⟨h.free i hi, upd_same⟩
    · have ne : q.1 ≠ p := fun eq => by
        have a : (ps.map (·.1))[j]? = some p := by
          rw [List.getElem?_map, z]
          exact congrArg some eq
        have b : (ps.map (·.1))[i]? = some p := by
          rw [List.getElem?_map, hi]
          rfl
        exact hj (nd_ix h.2.2 a b)
      rw [upd_ne ne]
      exact h.2.1 q (List.mem_of_getElem? z)
  · rw [set_keys hi]
    exact h.2.2
variable {K : PySem.W.Frag} {ns : List Int}
theorem Led.il (h : Led H0 H ps) (i : Nat) (hi : ps[i]? = some (p, ns.map V.int)) : IL K ns (.ref p) H := ⟨p, rfl, sq_of (h.at i hi)⟩
end
/-! ### helpers that most laws have -/
section
variable {K : PySem.W.Frag} {A : Ad} {vs : List V} {H : Hp} {Q : VK} {E : XK}
/-! _law_cell_at -/
def cellAt (ns : List Int) (k : Nat) : Int := ns.getD k 0
def sp_l_cell_at (K : PySem.W.Frag) (A : Ad) : Sp := fun vs H Q _ => ∃ v ns, ∃ k : Nat, vs = [v, .int (k : Int)] ∧ IL K ns v H ∧ RetV (.int (cellAt ns k)) H Q
def t_l_cell_at (K : PySem.W.Frag) (A : Ad) : TS :=
  (tSeq (tIfS (tTest (tOp rLtI (tVar 1) (tCB (Evl.rLenS K) (tCons (tVar 0) tNil)))) (tRet (tOp (rIxL K) (tVar 0) (tVar 1))) tNext)
    (tRet (tC (.int 0))))
theorem r_l_cell_at (h : sp_l_cell_at K A vs H Q E) : t_l_cell_at K A (D0 Q) (start ["_law_script", "_law_k"] vs) H := by
  obtain ⟨v, ns, j, rfl, hv, k⟩ := h
  refine q_when (et_test (ev_op (ev_var rfl) (ev_lenX (x_ilv rfl hv)) rv_I0)) (fun hb H1 e1 => ?_) (fun hb H1 e1 => ?_)
  · have hb' : (j : Int) < (ns.length : Int) := of_decide_eq_true hb
    have hj : j < ns.length := by omega
    have g : ns[j]? = some (cellAt ns j) := by
      unfold cellAt
      rw [List.getD_eq_getElem?_getD, List.getElem?_eq_getElem hj]
      rfl
    exact s_retV (ev_ix (x_ilv rfl (mono_il _ _ _ e1 hv)) (ev_var rfl) rfl g) (k.mono e1)
  · have hb' : ¬ (j : Int) < (ns.length : Int) := of_decide_eq_false hb
    have hj : ns.length ≤ j := by omega
    have g : cellAt ns j = 0 := by
      unfold cellAt
      rw [List.getD_eq_getElem?_getD, List.getElem?_eq_none hj]
      rfl
    rw [g] at k
    exact s_retV ev_c (k.mono e1)
theorem ev_cell {te tx : TE} {σ : L2.St} {ns : List Int} {k : Nat} {i : Int} (h : EvX te σ H (IL K ns)) (h2 : Ev tx σ H (.int i)) (hi : i = (k : Int)) : Ev (tCall (sp_l_cell_at K A) [] E (tCons te (tCons tx tNil))) σ H (.int (cellAt ns k)) :=
  ev_call2 h mono_il (x_v h2) fun x y H1 e1 hx hy Q q => ⟨x, ns, k, by rw [show y = V.int i from hy, hi], hx, fun H' e => q H' e⟩
/-! _law_whole -/
def sp_l_whole (K : PySem.W.Frag) (A : Ad) : Sp := sp_is_whole K A
def t_l_whole (K : PySem.W.Frag) (A : Ad) : TS :=
  (tRet (tAndV (tCB (rIsi K) (tCons (tVar 0) (tCons (tC (.ty "int")) tNil))) (tNotV (tCB (rIsi K) (tCons (tVar 0) (tCons (tC (.ty "bool")) tNil))))))
theorem r_l_whole (h : sp_l_whole K A vs H Q E) : t_l_whole K A (D0 Q) (start ["_law_found"] vs) H := r_is_whole h
theorem ev_l_whole {te : TE} {σ : L2.St} {n : Int} {E : XK} (h : Ev te σ H (.int n)) : Ev (tCall (sp_l_whole K A) [] E (tCons te tNil)) σ H (.bl true) := ev_is_whole h (th_int n)
/-! _law_load, by reversed -/
def sp_l_load (K : PySem.W.Frag) (A : Ad) : Sp := fun vs H Q _ => ∃ v ns, vs = [v] ∧ IL K ns v H ∧ RetV (.int (Few.loadOf ns)) H Q
def t_l_load (K : PySem.W.Frag) (A : Ad) : TS :=
  (tSeq (tAsg (tC (.int 0)) (gName 1))
    (tSeq (tFor (iRev K (tCons (tVar 0) tNil)) (gName 2) (tAsg (tOp rAddI (tOp rMulI (tC (.int 2)) (tVar 1)) (tVar 2)) (gName 1)))
    (tRet (tVar 1))))
theorem r_l_load (h : sp_l_load K A vs H Q E) : t_l_load K A (D0 Q) (start ["_law_things_here", "_law_load_here", "_law_thing"] vs) H := by
  obtain ⟨v, ns, rfl, hv, k⟩ := h
  refine q_asg ev_c fun H1 e1 => ?_
  refine q_forRvP (x_vlI (x_ilv rfl (mono_il _ _ _ e1 hv))) (fun i σ' => ∃ u, σ' = [some v, some (.int (Few.loadOf (ns.drop (ns.length - i)))), u]) ⟨none, by rw [Nat.sub_zero, List.drop_length]; rfl⟩ ?_ ?_
  · rintro H2 i x σ' H' e2 e3 hi hx ⟨u, rfl⟩
    rw [List.length_map] at hi hx
    obtain ⟨n, hn, rfl⟩ := of_map hx
    refine s_asg (v := .int (2 * Few.loadOf (ns.drop (ns.length - i)) + n)) (ev_op (ev_op ev_c (ev_var rfl) (rv_mul (cmul_l ⟨by decide, by decide⟩))) (ev_var rfl) rv_I0) fun H4 e4 => ?_
    refine ⟨⟨some (.int n), ?_⟩, e3.trans e4⟩
    rw [load_drop hi hn]
    rfl
  · rintro σ' H' e2 ⟨u, rfl⟩
    rw [List.length_map, Nat.sub_self, List.drop_zero]
    exact s_retV (ev_var rfl) (k.mono (e1.trans e2))
theorem ev_l_load {te : TE} {σ : L2.St} {ns : List Int} (h : EvX te σ H (IL K ns)) : Ev (tCall (sp_l_load K A) [] E (tCons te tNil)) σ H (.int (Few.loadOf ns)) :=
  ev_call1 h fun x H1 e1 hx Q q => ⟨x, ns, rfl, hx, fun H' e => q H' e⟩
/-! _law_ended -/
def sp_l_ended (K : PySem.W.Frag) (A : Ad) : Sp := fun vs H Q _ => ∃ v ns, vs = [v] ∧ IL K ns v H ∧ ns.length ≤ 100000 ∧ RetL ((Few.ended ns).map V.int) H Q
def t_l_ended (K : PySem.W.Frag) (A : Ad) : TS :=
  (tSeq (tAsg (tC (.int 0)) (gName 1))
    (tSeq (tFor (iRng1 (tCons (tCB (Evl.rLenS K) (tCons (tVar 0) tNil)) tNil)) (gName 2) (tIfS (tTest (tOp rNe (tOp (rIxL K) (tVar 0) (tVar 2)) (tC (.int 0)))) (tAsg (tOp rAddI (tVar 2) (tC (.int 1))) (gName 1)) tNext))
    (tRet (tSl (rSlL K) (tVar 0) tNoPart (tPart (tVar 1))))))
theorem r_l_ended (h : sp_l_ended K A vs H Q E) : t_l_ended K A (D0 Q) (start ["_law_things_here", "_law_size", "_law_k"] vs) H := by
  obtain ⟨v, ns, rfl, hv, hlen, k⟩ := h
  refine q_asg ev_c fun H1 e1 => ?_
  have hv1 := mono_il _ _ _ e1 hv
  refine q_forRgP (n := (ns.length : Int)) (ea_cons (ev_lenX (x_ilv rfl hv1)) ea_nil) ⟨by omega, by omega⟩ (fun i σ' => ∃ u, ∃ s : Nat, σ' = [some v, some (.int (s : Int)), u] ∧ s ≤ i ∧ ns.take s = Few.ended (ns.take i)) ⟨none, 0, rfl, Nat.le_refl _, rfl⟩ ?_ ?_
  · rintro H2 i σ' H' e2 e3 hi ⟨u, s, rfl, hs, he⟩
    have hi' : i < ns.length := by omega
    have g : ns[i]? = some ns[i] := List.getElem?_eq_getElem hi'
    have hv2 := mono_il _ _ _ (e2.trans e3) hv1
    have tk : ns.take (i + 1) = ns.take i ++ [ns[i]] := by
      rw [List.take_add_one, g]
      rfl
    refine s_when (et_is (et_test (ev_op (ev_ix (x_ilv rfl hv2) (ev_var rfl) rfl g) ev_c (rv_ne rfl))) ne_zero) (fun hb H4 e4 => ?_) (fun hb H4 e4 => ?_)
    · have z : ns[i] ≠ 0 := by simpa using hb
      refine s_asg (v := .int ((i + 1 : Nat) : Int)) (ev_op (ev_var rfl) ev_c rv_I0) fun H5 e5 => ?_
      refine ⟨⟨some (.int (i : Int)), i + 1, rfl, Nat.le_refl _, ?_⟩, (e3.trans e4).trans e5⟩
      rw [tk, Few.ended_snoc _ z]
    · have z : ns[i] = 0 := by simpa using hb
      refine ⟨⟨some (.int (i : Int)), s, rfl, Nat.le_succ_of_le hs, ?_⟩, e3.trans e4⟩
      rw [tk, z, Few.ended_snoc0, he]
  · rintro σ' H' e2 ⟨u, s, rfl, hs, he⟩
    have e0 : ns.take ((ns.length : Int).toNat) = ns := by
      rw [Int.toNat_natCast]
      exact List.take_length
    rw [e0] at he
    rw [← he] at k
    exact s_retLL (el_to (x_ilv rfl (mono_il _ _ _ e2 hv1)) (ev_var rfl) rfl) (k.mono (e1.trans e2))
theorem el_l_ended {te : TE} {σ : L2.St} {ns : List Int} (h : EvX te σ H (IL K ns)) (hl : ns.length ≤ 100000) : EvL (tCall (sp_l_ended K A) [] E (tCons te tNil)) σ H ((Few.ended ns).map V.int) :=
  el_call1 h fun x H1 e1 hx Q q => ⟨x, ns, rfl, hx, hl, fun p H' hp e hx => q p H' hp e hx⟩
/-! _law_alike -/
def sp_l_alike (K : PySem.W.Frag) (A : Ad) : Sp := fun vs H Q _ => ∃ v w xs ys, vs = [v, w] ∧ IL K xs v H ∧ IL K ys w H ∧ ys.length ≤ 100000 ∧ RetV (.bl (decide (xs = ys))) H Q
def t_l_alike (K : PySem.W.Frag) (A : Ad) : TS :=
  (tSeq (tIfS (tOr (tNot (tB (tCB (rIsi K) (tCons (tVar 0) (tCons (tC (.ty "list")) tNil))))) (tTest (tOp rNe (tCB (Evl.rLenS K) (tCons (tVar 0) tNil)) (tCB (Evl.rLenS K) (tCons (tVar 1) tNil))))) (tRet (tC (.bl false))) tNext)
    (tSeq (tFor (iRng1 (tCons (tCB (Evl.rLenS K) (tCons (tVar 1) tNil)) tNil)) (gName 2) (tIfS (tOr (tNot (tB (tCall (sp_l_whole K A) [] E0 (tCons (tOp (rIxL K) (tVar 0) (tVar 2)) tNil)))) (tTest (tOp rNe (tOp (rIxL K) (tVar 0) (tVar 2)) (tOp (rIxL K) (tVar 1) (tVar 2))))) (tRet (tC (.bl false))) tNext))
    (tRet (tC (.bl true)))))
theorem take_eq_step {xs ys : List Int} {i : Nat} (hx : i < xs.length) (hy : i < ys.length) (h : xs.take i = ys.take i) (e : xs[i] = ys[i]) : xs.take (i + 1) = ys.take (i + 1) := by
  rw [List.take_add_one, List.take_add_one, h, List.getElem?_eq_getElem hx, List.getElem?_eq_getElem hy, e]
theorem r_l_alike (h : sp_l_alike K A vs H Q E) : t_l_alike K A (D0 Q) (start ["_law_found", "_law_due", "_law_k"] vs) H := by
  obtain ⟨v, w, xs, ys, rfl, hv, hw, hlen, k⟩ := h
  have hnl : decide (V.int (xs.length : Int) = V.int (ys.length : Int)) = decide (xs.length = ys.length) := by
    rw [eq_dec]
    by_cases c : xs.length = ys.length
    · rw [c]
      simp
    · rw [decide_eq_false c, decide_eq_false (by omega)]
  refine q_when (b := !decide (xs.length = ys.length)) (et_is (et_or (et_not (et_B (ev_isList (ev_var rfl) (il_th hv)))) fun _ => et_test (ev_op (ev_lenX (x_ilv rfl hv)) (ev_lenX (x_ilv rfl hw)) (rv_ne rfl))) (by rw [hnl]; simp [tyD])) (fun hb H1 e1 => ?_) (fun hb H1 e1 => ?_)
  · have z : xs ≠ ys := fun e => by
      rw [e] at hb
      simp at hb
    rw [decide_eq_false z] at k
    exact s_retV ev_c (k.mono e1)
  · have hl : xs.length = ys.length := by simpa using hb
    have hv1 := mono_il _ _ _ e1 hv
    have hw1 := mono_il _ _ _ e1 hw
    refine q_forRgP (n := (ys.length : Int)) (ea_cons (ev_lenX (x_ilv rfl hw1)) ea_nil) ⟨by omega, by omega⟩ (fun i σ' => ∃ u, σ' = [some v, some w, u] ∧ xs.take i = ys.take i) ⟨none, rfl, rfl⟩ ?_ ?_
    · rintro H2 i σ' H' e2 e3 hi ⟨u, rfl, he⟩
      have hy' : i < ys.length := by omega
      have hx' : i < xs.length := by omega
      have g1 : xs[i]? = some xs[i] := List.getElem?_eq_getElem hx'
      have g2 : ys[i]? = some ys[i] := List.getElem?_eq_getElem hy'
      have hv2 := mono_il _ _ _ (e2.trans e3) hv1
      have hw2 := mono_il _ _ _ (e2.trans e3) hw1
      have ix1 : Ev (tOp (rIxL K) (tVar 0) (tVar 2)) [some v, some w, some (.int (i : Int))] H' (.int xs[i]) := ev_ix (x_ilv rfl hv2) (ev_var rfl) rfl g1
      have ix2 : Ev (tOp (rIxL K) (tVar 1) (tVar 2)) [some v, some w, some (.int (i : Int))] H' (.int ys[i]) := ev_ix (x_ilv rfl hw2) (ev_var rfl) rfl g2
      refine s_when (b := !decide (xs[i] = ys[i])) (et_is (et_or (et_not (et_B (ev_l_whole ix1))) fun _ => et_test (ev_op ix1 ix2 (rv_ne rfl))) (by rw [eq_dec]; rfl)) (fun hb H4 e4 => ?_) (fun hb H4 e4 => ?_)
      · have z : xs ≠ ys := fun e => by
          subst e
          simp at hb
        rw [decide_eq_false z] at k
        exact s_retV ev_c (k.mono (((e1.trans e2).trans e3).trans e4))
      · have z : xs[i] = ys[i] := by simpa using hb
        exact ⟨⟨some (.int (i : Int)), rfl, take_eq_step hx' hy' he z⟩, e3.trans e4⟩
    · rintro σ' H' e2 ⟨u, rfl, he⟩
      rw [Int.toNat_natCast, List.take_length, ← hl, List.take_length] at he
      rw [decide_eq_true he] at k
      exact s_retV ev_c (k.mono (e1.trans e2))
theorem ev_alike {te tx : TE} {σ : L2.St} {xs ys : List Int} (h : EvX te σ H (IL K xs)) (h2 : EvX tx σ H (IL K ys)) (hl : ys.length ≤ 100000) : Ev (tCall (sp_l_alike K A) [] E (tCons te (tCons tx tNil))) σ H (.bl (decide (xs = ys))) :=
  ev_call2 h mono_il h2 fun x y H1 e1 hx hy Q q => ⟨x, y, xs, ys, rfl, hx, hy, hl, fun H' e => q H' e⟩
end
end Fw

namespace Fw
open PySem PySem.Spec PyProof.Rows L2 Evl
/-! errors caught -/
theorem pss_pre {X : Cx} {sts : List Stmt} {p : Prop} {t : TS} (h : p → PSs X sts t) : PSs X sts (fun D σ H => p ∧ t D σ H) := ⟨fun pins s σ H D I w => (h w.1).run pins s σ H D I w.2⟩
/-- an except suite that is met with an error of the class at D alone -/
def sufC (D : Addr) (ts : Addr → TS) : Addr → Value → Option Addr → TS := fun a cls d D' σ H => (cls = .ref D ∧ d = none) ∧ ts a D' σ H
def tTryC (K : PySem.W.Frag) (D S : Addr) (i : Nat) (tb : WX → TS) (ts : Addr → TS) : TS := fun D' σ H => tb (wAs K (.ref S) i (sufC D ts) (fun _ _ _ _ => False) D') D' σ H
/-- what the written part says of the error class at D, asked of the others -/
structure Caught (K : PySem.W.Frag) (A : Ad) (D : Addr) (b1 b2 b3 b4 b5 : Bool) : Prop where
  te : PySem.W.exmOne K (.ref D) (.ref A.stone) = some true
  ve : PySem.W.kitOne K (.ref D) (.type "ValueError") = some true
  ly : PySem.W.kitOne K (.ref D) (.ref A.laying) = some b1
  lo : PySem.W.kitOne K (.ref D) (.ref A.load) = some b2
  pl : PySem.W.kitOne K (.ref D) (.ref A.plan) = some b3
  tx : PySem.W.kitOne K (.ref D) (.ref A.text) = some b4
  de : PySem.W.kitOne K (.ref D) (.ref A.deed) = some b5
theorem kit_ref {K : PySem.W.Frag} {D C : Addr} {b : Bool} (hd : PySem.W.hasDictIn K C = true) (ht : PySem.W.typeIn K (.ref C) = some (.type "type")) (hs : PySem.W.subIn K (.ref D) (.ref C) = some b) (self : PySem.W.subIn K (.ref D) (.ref D) = some true) : PySem.W.kitOne K (.ref D) (.ref C) = some b := by
  unfold PySem.W.kitOne
  by_cases e : (Value.ref D == Value.ref C) = true
  · rw [if_pos e]
    have e' : D = C := Value.ref.inj (beq_iff_eq.mp e)
    rw [← e', self] at hs
    exact hs
  · rw [if_neg e]
    obtain ⟨cd, hc, _⟩ := PySem.W.any_some hd
    show (if ((PySem.W.clsIn K C).isSome && PySem.W.typeIn K (.ref C) == some (.type "type")) = true then PySem.W.subIn K (.ref D) (.ref C) else none) = some b
    rw [hc, ht, if_pos (by simp)]
    exact hs
theorem kit_type {K : PySem.W.Frag} {D : Addr} {T : String} {b : Bool} (hm : PySem.W.kitMeta T = true) (hs : PySem.W.subIn K (.ref D) (.type T) = some b) : PySem.W.kitOne K (.ref D) (.type T) = some b := by
  unfold PySem.W.kitOne
  rw [if_neg (by intro z; cases beq_iff_eq.mp z)]
  show (if PySem.W.kitMeta T = true then PySem.W.subIn K (.ref D) (.type T) else none) = some b
  rw [if_pos hm]
  exact hs
section
variable {K : PySem.W.Frag} {A : Ad} {σ : L2.St} {H H' : Hp} {ta : TA} {tb te tx tl : TE} {D : Ends} {tz : TS}
theorem ev_isE {C a : Addr} {i : Nat} {n : String} {b : Bool} (h : σ[i]? = some (some (.ref a))) (hk : PySem.W.kitOne K (.ref C) (.type n) = some b) : Ev (tCB (rIsE K C a) (tCons (tVar i) (tCons (tC (.ty n)) tNil))) σ H (.bl b) :=
  ev_cb (ea_cons (ev_var h) (ea_cons ev_c ea_nil)) fun H1 _ Q q => ⟨.ty n, .type n, b, rfl, (fun u r => r), hk, q H1 (Ex.refl H1)⟩
theorem ev_isEC {C a c : Addr} {i : Nat} {b : Bool} (h : σ[i]? = some (some (.ref a))) (hk : PySem.W.kitOne K (.ref C) (.ref c) = some b) : Ev (tCB (rIsE K C a) (tCons (tVar i) (tCons (tC (.ref c)) tNil))) σ H (.bl b) :=
  ev_cb (ea_cons (ev_var h) (ea_cons ev_c ea_nil)) fun H1 _ Q q => ⟨.ref c, .ref c, b, rfl, (fun u r => r), hk, q H1 (Ex.refl H1)⟩
/-- a try whose body is a call that raises D -/
theorem q_tryDrop {C S : Addr} {i : Nat} {sp : Sp} {P : V → Hp → Prop} {ts : Addr → TS} (h : EvX te σ H P) (hs : ∀ x H1, Ex H H1 → P x H1 → ∀ (Q : VK) (E : XK), RaiseE E C H1 → sp [x] H1 Q E) (ht : PySem.W.exmOne K (.ref C) (.ref S) = some true)
    (k : ∀ a H1, Ex H H1 → H1 a = none → ts a { nx := fun σ' H' => tz D (σ'.set i none) H', rt := D.rt, bk := fun σ' H' => D.bk (σ'.set i none) H', ct := fun σ' H' => D.ct (σ'.set i none) H' } (σ.set i (some (.ref a))) H1) :
    tSeq (tTryC K C S i (fun W => tDrop (tCallS sp (WE W) (tCons te tNil))) ts) tz D σ H :=
  h H (Ex.refl H) _ fun v H1 e1 hp => hs v H1 e1 hp _ _ fun H2 e2 => ⟨true, ht, fun _ a ha => ⟨⟨rfl, rfl⟩, k a H2 (e1.trans e2) ha⟩, fun z => by cases z⟩
/-- .. that runs through -/
theorem q_tryThru {C S : Addr} {i : Nat} {sp : Sp} {P : V → Hp → Prop} {ts : Addr → TS} (h : EvX te σ H P) (hs : ∀ x H1, Ex H H1 → P x H1 → ∀ (Q : VK) (E : XK), (∀ v H2, Ex H1 H2 → Q v H2) → sp [x] H1 Q E)
    (k : ∀ H1, Ex H H1 → tz D σ H1) : tSeq (tTryC K C S i (fun W => tDrop (tCallS sp (WE W) (tCons te tNil))) ts) tz D σ H :=
  h H (Ex.refl H) _ fun v H1 e1 hp => hs v H1 e1 hp _ _ fun v H2 e2 => k H2 (e1.trans e2)
/-! lists of things -/
inductive ThAll (K : PySem.W.Frag) (H : Hp) : List V → List PyData → Prop
  | nil : ThAll K H [] []
  | cons {v : V} {vs : List V} {d : PyData} {ds : List PyData} : Th K H v d → ThAll K H vs ds → ThAll K H (v :: vs) (d :: ds)
theorem ThAll.mono (e : Ex H H') : ∀ {vs : List V} {ds : List PyData}, ThAll K H vs ds → ThAll K H' vs ds
  | _, _, .nil => .nil
  | _, _, .cons a b => .cons (a.mono e) (b.mono e)
theorem ThAll.at : ∀ {vs : List V} {ds : List PyData}, ThAll K H vs ds → ∀ {i : Nat} {x : V}, vs[i]? = some x → ∃ d, ds[i]? = some d ∧ Th K H x d
  | _, _, .nil, i, x, h => by simp at h
  | _, _, .cons a b, 0, x, h => ⟨_, rfl, by have e := Option.some.inj h; rw [← e]; exact a⟩
  | _, _, .cons a b, i + 1, x, h => ThAll.at b (i := i) (x := x) h
theorem ThAll.length : ∀ {vs : List V} {ds : List PyData}, ThAll K H vs ds → vs.length = ds.length
  | _, _, .nil => rfl
  | _, _, .cons a b => by rw [List.length_cons, List.length_cons, ThAll.length b]
abbrev ThP (K : PySem.W.Frag) (d : PyData) : V → Hp → Prop := fun v H => Th K H v d
theorem mono_th {d : PyData} : Mono (ThP K d) := fun _ _ _ e p => p.mono e
theorem xt_c {v : V} {d : PyData} (h : ∀ H, Th K H v d) : EvX (tC v) σ H (ThP K d) := x_of ev_c mono_th (h H)
theorem xt_nil : EaX tNil σ H (fun vs H => ThAll K H vs []) := fun H1 _ _ q => q _ H1 (Ex.refl H1) .nil
theorem xt_cons {tr : TA} {d : PyData} {ds : List PyData} (h : EvX te σ H (ThP K d)) (hr : EaX tr σ H (fun vs H => ThAll K H vs ds)) : EaX (tCons te tr) σ H (fun vs H => ThAll K H vs (d :: ds)) := fun H1 e Q q =>
  h H1 e _ fun v H2 e2 hp => hr H2 (e.trans e2) _ fun vs H3 e3 hR => q _ H3 (e2.trans e3) (.cons (hp.mono e3) hR)
/-- a list of things -/
def ThL (K : PySem.W.Frag) (ds : List PyData) : V → Hp → Prop := fun v H => ∃ a xs, v = .ref a ∧ SqL K H a xs ∧ ThAll K H xs ds
theorem mono_thl {ds : List PyData} : Mono (ThL K ds) := fun _ _ _ e ⟨a, xs, h, s, t⟩ => ⟨a, xs, h, ex_l e s, t.mono e⟩
theorem xt_lst {ds : List PyData} (h : EaX ta σ H (fun vs H => ThAll K H vs ds)) (hz : ds.length ≤ 100000) : EvX (tLst ta) σ H (ThL K ds) := fun H1 e Q q =>
  h H1 e _ fun vs H2 e2 hr => ⟨sz_of (by rw [hr.length]; exact hz), fun p hp => q _ _ (e2.trans (Ex.new hp)) ⟨p, vs, rfl, sq_of upd_same, hr.mono (Ex.new hp)⟩⟩
/-- [5], (5,): things -/
theorem dpa_of : ∀ {vs : List V} {ds : List PyData}, ThAll K H vs ds → (∀ d ∈ ds, d ≠ .dict []) → DpAll K H vs ds
  | _, _, .nil, _ => .nil
  | _, _, .cons (d := d) a b, h => .cons (by
      cases a with
      | of a => exact a
      | dict a => exact absurd rfl (h _ List.mem_cons_self)) (dpa_of b fun d hd => h d (List.mem_cons_of_mem _ hd))
theorem xt_lstD {ds : List PyData} (h : EaX ta σ H (fun vs H => ThAll K H vs ds)) (hz : ds.length ≤ 100000) (hd : ∀ d ∈ ds, d ≠ .dict []) : EvX (tLst ta) σ H (ThP K (.list ds)) := fun H1 e Q q =>
  h H1 e _ fun vs H2 e2 hr => ⟨sz_of (by rw [hr.length]; exact hz), fun p hp => q _ _ (e2.trans (Ex.new hp)) (.of (.lst (sq_of upd_same) (dpa_of (hr.mono (Ex.new hp)) hd)))⟩
theorem xt_tup {ds : List PyData} (h : EaX ta σ H (fun vs H => ThAll K H vs ds)) (hz : ds.length ≤ 100000) (hd : ∀ d ∈ ds, d ≠ .dict []) : EvX (tTup ta) σ H (ThP K (.tuple ds)) := fun H1 e Q q =>
  h H1 e _ fun vs H2 e2 hr => ⟨sz_of (by rw [hr.length]; exact hz), fun p hp => q _ _ (e2.trans (Ex.new hp)) (.of (.tup (st_of upd_same) (dpa_of (hr.mono (Ex.new hp)) hd)))⟩
abbrev tDictN : TE := tDNewK
theorem xt_dict : EvX tDictN σ H (ThP K (.dict [])) := fun H1 e Q q p hp => q _ _ (Ex.new hp) (.dict upd_same)
/-- a loop over things -/
theorem q_forTh {ds : List PyData} {j : Nat} {tu : TS} (h : EvX tl σ H (ThL K ds)) (I : Nat → L2.St → Prop) (h0 : I 0 σ)
    (hs : ∀ H1 i x d σ' H', Ex H H1 → Ex H1 H' → ds[i]? = some d → Th K H' x d → I i σ' → tu { D with nx := NX H1 (I (i + 1)), ct := NX H1 (I (i + 1)), bk := tz D } (σ'.set j (some x)) H')
    (hd : ∀ σ' H', Ex H H' → I ds.length σ' → tz D σ' H') : tSeq (tFor (iList K tl) (gName j) tu) tz D σ H :=
  h H (Ex.refl H) _ fun v H1 e1 ⟨a, xs, ev, hq, ht⟩ => ⟨a, ev, ⟨xs, hq⟩, for_list (K := K) (D := { D with nx := tz D }) (a := a) (xs := xs) (fun i => NX H1 (I i)) ⟨h0, Ex.refl H1⟩ (fun i σ' H' _ p => ex_l p.2 hq) (fun i x σ' H' hx p => by
    obtain ⟨d, hd, th⟩ := ht.at hx
    exact hs H1 i x d σ' H' e1 p.2 hd (th.mono p.2) p.1) (fun σ' H' p => by
    have hp := p.1
    rw [ht.length] at hp
    exact hd σ' H' (e1.trans p.2) hp)⟩
/-- == of two lists of truths -/
theorem dps_bl {bs : List Bool} : DpAll K H (bs.map V.bl) (bs.map PyData.bool) := by
  induction bs with
  | nil => exact .nil
  | cons n r ih => exact .cons (.bl n) ih
theorem ev_eqB {xs ys : List Bool} (ha : EvX te σ H (VL K (xs.map V.bl))) (hb : EvX tb σ H (VL K (ys.map V.bl))) (s1 : SeqAt.shaped (.list (xs.map PyData.bool)) = true) (s2 : SeqAt.shaped (.list (ys.map PyData.bool)) = true) :
    Ev (tOp (rEqD K) te tb) σ H (.bl (PyData.eqvAll (xs.map PyData.bool) (ys.map PyData.bool))) := ev_opX ha mono_vl hb fun x y H1 _ ⟨a, ea, p⟩ ⟨b, eb, q⟩ H2 e2 Q k => by
  subst ea eb
  refine ⟨_, _, .lst (ex_l e2 p) dps_bl, .lst (ex_l e2 q) dps_bl, s1, s2, ?_⟩
  have z : PyData.eqv (.list (xs.map PyData.bool)) (.list (ys.map PyData.bool)) = PyData.eqvAll (xs.map PyData.bool) (ys.map PyData.bool) := by simp [PyData.eqv]
  rw [z]
  exact k H2 (Ex.refl H2)
/-- xs.insert(i, y) -/
abbrev rInsert : V → List V → Hp → VK → Prop := fun x vs H Q => ∃ (l : Addr) (xs : List V) (i : Int) (y : V), x = .ref l ∧ vs = [.int i, y] ∧ H l = some (.lst xs) ∧ xs.length < sizeLine ∧ 0 ≤ i ∧ i < 2 ^ 63 ∧ Q .non (upd H l (.lst (xs.take i.toNat ++ [y] ++ xs.drop i.toNat)))
theorem q_ins0 {l : Addr} {xs : List V} {v : V} (hl : H l = some (.lst xs)) (ha : Ev te σ H (.ref l)) (hi : Ev tb σ H (.int 0)) (hv : Ev tx σ H v) (hz : xs.length < 100000) (k : ∀ H1, Ex H H1 → tz D σ (upd H1 l (.lst (v :: xs)))) :
    tSeq (tDrop (tBM K "list" rInsert te (tCons tb (tCons tx tNil)))) tz D σ H := ha H (Ex.refl H) _ fun H1 e1 =>
  ⟨Or.inl ⟨rfl, xs, sq_of (e1 l _ hl)⟩, hi H1 e1 _ fun H2 e2 => hv H2 (e1.trans e2) _ fun H3 e3 => ⟨l, xs, 0, v, rfl, rfl, e3 _ _ (e2 l _ (e1 l _ hl)), sz_lt hz, by decide, by decide, k H3 ((e1.trans e2).trans e3)⟩⟩
end
end Fw

namespace Fw
open PySem PySem.Spec PyProof.Rows L2 Evl
section
variable {K : PySem.W.Frag} {A : Ad} {vs : List V} {H : Hp} {Q : VK} {E : XK}
/-! _law_power -/
def sp_l_power (K : PySem.W.Frag) (A : Ad) : Sp := fun vs H Q _ => ∃ k : Nat, vs = [.int (k : Int)] ∧ k ≤ 100000 ∧ RetV (.int (2 ^ k)) H Q
def t_l_power (K : PySem.W.Frag) (A : Ad) : TS :=
  (tSeq (tAsg (tC (.int 1)) (gName 1))
    (tSeq (tFor (iRng1 (tCons (tVar 0) tNil)) (gName 2) (tAsg (tOp rAddI (tVar 1) (tVar 1)) (gName 1)))
    (tRet (tVar 1))))
theorem pow_step (i : Nat) : (2 : Int) ^ i + 2 ^ i = 2 ^ (i + 1) := by
  rw [Int.pow_succ]
  omega
theorem r_l_power (h : sp_l_power K A vs H Q E) : t_l_power K A (D0 Q) (start ["_law_k", "_law_found", "_law_j"] vs) H := by
  obtain ⟨n, rfl, hn, k⟩ := h
  refine q_asg ev_c fun H1 e1 => ?_
  refine q_forRgP (n := (n : Int)) (ea_cons (ev_var rfl) ea_nil) ⟨by omega, by omega⟩ (fun i σ' => ∃ u, σ' = [some (.int (n : Int)), some (.int (2 ^ i)), u]) ⟨none, rfl⟩ ?_ ?_
  · rintro H2 i σ' H' e2 e3 hi ⟨u, rfl⟩
    refine s_asg (ev_op (ev_var rfl) (ev_var rfl) rv_I0) fun H4 e4 => ⟨⟨some (.int (i : Int)), ?_⟩, e3.trans e4⟩
    rw [← pow_step]
    rfl
  · rintro σ' H' e2 ⟨u, rfl⟩
    rw [Int.toNat_natCast]
    exact s_retV (ev_var rfl) (k.mono (e1.trans e2))
theorem ev_power {te : TE} {σ : L2.St} {i : Int} {k : Nat} (h : Ev te σ H (.int i)) (hi : i = (k : Int)) (hk : k ≤ 100000) : Ev (tCall (sp_l_power K A) [] E (tCons te tNil)) σ H (.int (2 ^ k)) :=
  ev_call1 (x_v h) fun x H1 e1 hx Q q => ⟨k, by rw [show x = V.int i from hx, hi], hk, fun H' e => q H' e⟩
/-! _law_neat (by things, then by range(1, n)) -/
def sp_l_neat (K : PySem.W.Frag) (A : Ad) : Sp := fun vs H Q _ => ∃ v ns, vs = [v] ∧ IL K ns v H ∧ Few.Lay ns ∧ ns.length ≤ 100000 ∧ RetV (.bl (Few.neatB ns)) H Q
def t_l_neat (K : PySem.W.Frag) (A : Ad) : TS :=
  (tSeq (tIfS (tNot (tB (tCB (rIsi K) (tCons (tVar 0) (tCons (tC (.ty "list")) tNil))))) (tRet (tC (.bl false))) tNext)
    (tSeq (tFor (iList K (tVar 0)) (gName 1) (tIfS (tOr (tNot (tB (tCall (sp_l_whole K A) [] E0 (tCons (tVar 1) tNil)))) (tOr (tTest (tOp rLtI (tVar 1) (tUn rNegI (tC (.int 1))))) (tTest (tOp rGtI (tVar 1) (tC (.int 1)))))) (tRet (tC (.bl false))) tNext))
    (tSeq (tFor (iRng2 (tCons (tC (.int 1)) (tCons (tCB (Evl.rLenS K) (tCons (tVar 0) tNil)) tNil))) (gName 2) (tIfS (tAnd (tTest (tOp rNe (tOp (rIxL K) (tVar 0) (tVar 2)) (tC (.int 0)))) (tTest (tOp rNe (tOp (rIxL K) (tVar 0) (tOp rSubI (tVar 2) (tC (.int 1)))) (tC (.int 0))))) (tRet (tC (.bl false))) tNext))
    (tRet (tOrV (tOp (rEqD K) (tVar 0) (tLst tNil)) (tOp rNe (tOp (rIxL K) (tVar 0) (tUn rNegI (tC (.int 1)))) (tC (.int 0))))))))
theorem lay_test {n : Int} (h : Few.Pm n) : (!true || (decide (n < -1) || decide (1 < n))) = false := by
  unfold Few.Pm at h
  simp
  omega
theorem before_at {ns : List Int} {i : Nat} (hi : i < ns.length) : Few.beforeOf 0 (ns.take (i + 1)) = ns[i] := Few.before_take (List.getElem?_eq_getElem hi)
/-- found == [] or found[-1] != 0 -/
theorem ev_lastOr {σ : L2.St} {ns : List Int} {i : Nat} (hv : ∃ v, σ[i]? = some (some v) ∧ IL K ns v H) : Ev (tOrV (tOp (rEqD K) (tVar i) (tLst tNil)) (tOp rNe (tOp (rIxL K) (tVar i) (tUn rNegI (tC (.int 1)))) (tC (.int 0)))) σ H (.bl (decide (ns = []) || !decide (Few.beforeOf 0 ns = 0))) := by
  obtain ⟨v, hs, hv⟩ := hv
  have first : Ev (tOp (rEqD K) (tVar i) (tLst tNil)) σ H (.bl (decide (ns = []))) := ev_eqI (ys := []) (x_ilv hs hv) (x_ilL (el_lst ea_nil (by decide)))
  rcases Few.last_cases ns with z | ⟨r, x, z⟩
  · subst z
    exact ev_orV (a := true) first fun z => by cases z
  · subst z
    obtain ⟨a, rfl, hs'⟩ := hv
    have e : Few.beforeOf 0 (r ++ [x]) = x := by
      unfold Few.beforeOf
      simp
    rw [e]
    exact ev_orV first fun _ => ev_is (ev_op (ev_op (ev_var hs) (ev_un ev_c ru_neg) (rv_ixL hs' at_last)) ev_c (rv_ne rfl)) (by rw [ne_zero])
theorem r_l_neat (h : sp_l_neat K A vs H Q E) : t_l_neat K A (D0 Q) (start ["_law_found", "_law_thing", "_law_k"] vs) H := by
  obtain ⟨v, ns, rfl, hv, hl, hz, k⟩ := h
  refine q_skip (et_not (et_B (ev_isList (ev_var rfl) (il_th hv)))) (by simp [tyD]) fun H1 e1 => ?_
  have hv1 := mono_il _ _ _ e1 hv
  refine q_forP (x_vlI (x_ilv rfl hv1)) (fun i σ' => ∃ u, σ' = [some v, u, none]) ⟨none, rfl⟩ ?_ ?_
  · rintro H2 i x σ' H' e2 e3 hx ⟨u, rfl⟩
    obtain ⟨n, hn, rfl⟩ := of_map hx
    have pm := hl n (List.mem_of_getElem? hn)
    refine s_when (et_or (et_not (et_B (ev_l_whole (ev_var rfl)))) fun _ => et_or (et_test (ev_op (ev_var rfl) (ev_un ev_c ru_neg) rv_I0)) fun _ => et_test (ev_op (ev_var rfl) ev_c rv_I0)) (fun hb H4 e4 => ?_) (fun hb H4 e4 => ?_)
    · have z := lay_test pm
      rw [z] at hb
      cases hb
    · exact ⟨⟨some (.int n), rfl⟩, e3.trans e4⟩
  · rintro σ' H' e2 ⟨u, rfl⟩
    have hv2 := mono_il _ _ _ e2 hv1
    refine q_forRg2P (lo := 1) (n := (ns.length : Int)) (ea_cons ev_c (ea_cons (ev_lenX (x_ilv rfl hv2)) ea_nil)) ⟨by omega, by omega, by omega, by omega⟩ (fun i σ' => ∃ u2, σ' = [some v, u, u2] ∧ Few.apartB (ns.take (i + 1)) = true) ⟨none, rfl, ?_⟩ ?_ ?_
    · cases ns with
      | nil => rfl
      | cons n r => rfl
    · rintro H3 i σ' H4 e3 e4 hi ⟨u2, rfl, ha⟩
      have hi1 : i + 1 < ns.length := by omega
      have g1 : ns[i + 1]? = some ns[i + 1] := List.getElem?_eq_getElem hi1
      have g0 : ns[i]? = some ns[i] := List.getElem?_eq_getElem (by omega)
      have hv4 := mono_il _ _ _ (e3.trans e4) hv2
      have st := Few.apart_step g1 ha (before_at (by omega))
      refine s_when (b := !decide (ns[i] = 0) && !decide (ns[i + 1] = 0)) ?_ (fun hb H5 e5 => ?_) (fun hb H5 e5 => ?_)
      · refine et_is (et_and (et_is (et_test (ev_op (ev_ix (j := i + 1) (x_ilv rfl hv4) (ev_var rfl) (by omega) g1) ev_c (rv_ne rfl))) ne_zero) fun _ => et_is (et_test (ev_op (ev_ix (j := i) (x_ilv rfl hv4) (ev_op (ev_var rfl) ev_c rv_I0) (by omega) g0) ev_c (rv_ne rfl))) ne_zero) ?_
        rw [Bool.and_comm]
      · have z : Few.neatB ns = false := by
          rw [Few.neat_iff, st.2 hb]
          rfl
        rw [z] at k
        exact s_retV ev_c (k.mono ((((e1.trans e2).trans e3).trans e4).trans e5))
      · exact ⟨⟨some (.int (1 + (i : Int))), rfl, st.1 hb⟩, e4.trans e5⟩
    · rintro σ' H5 e3 ⟨u2, rfl, ha⟩
      have ha' : Few.apartB ns = true := by
        rw [List.take_of_length_le (by omega)] at ha
        exact ha
      rw [Few.neat_by_last ns rfl ha'] at k
      exact s_retV (ev_lastOr ⟨v, rfl, mono_il _ _ _ e3 hv2⟩) (k.mono ((e1.trans e2).trans e3))
theorem ev_neat {te : TE} {σ : L2.St} {ns : List Int} (h : EvX te σ H (IL K ns)) (hl : Few.Lay ns) (hz : ns.length ≤ 100000) : Ev (tCall (sp_l_neat K A) [] E (tCons te tNil)) σ H (.bl (Few.neatB ns)) :=
  ev_call1 h fun x H1 e1 hx Q q => ⟨x, ns, rfl, hx, hl, hz, fun H' e => q H' e⟩
/-! small things -/
theorem lay_mod (ns : List Int) : Few.Lay (ns.map fun c => c % 3 - 1) := by
  intro x hx
  obtain ⟨y, _, rfl⟩ := List.mem_map.mp hx
  unfold Few.Pm
  omega
theorem pm_mod (c : Int) : Few.Pm (c % 3 - 1) := by
  unfold Few.Pm
  omega
theorem map_snoc (ts : List Int) (x : Int) : ts.map V.int ++ [V.int x] = (ts ++ [x]).map V.int := by rw [List.map_append]; rfl
theorem len_mapI (l : List Int) : (l.map V.int).length = l.length := List.length_map ..
theorem mod_nat (c : Int) (m : Nat) (hm : 0 < m) : ∃ k : Nat, c % (m : Int) = (k : Int) ∧ k < m := by
  have b1 := Int.emod_nonneg c (show (m : Int) ≠ 0 by omega)
  have b2 := Int.emod_lt_of_pos c (show (0 : Int) < (m : Int) by omega)
  exact ⟨(c % (m : Int)).toNat, by omega, by omega⟩
theorem rep_zero (n : Nat) : (List.replicate n [V.int 0]).flatten = (List.replicate n (0 : Int)).map V.int := by
  induction n with
  | zero => rfl
  | succ n ih =>
    rw [List.replicate_succ, List.replicate_succ, List.flatten_cons, ih]
    rfl
/-- [0] * n -/
theorem el_zeros {tb : TE} {σ : L2.St} {n : Int} (hb : Ev tb σ H (.int n)) (h : 0 ≤ n ∧ n ≤ 100000) : EvL (tOp rRep (tLst (tCons (tC (.int 0)) tNil)) tb) σ H ((List.replicate n.toNat (0 : Int)).map V.int) := by
  rw [← rep_zero]
  exact el_repX (x_mlL (el_lst (ea_cons ev_c ea_nil) (by decide))) hb ⟨by omega, by omega⟩ (by rw [show ([V.int 0] : List V).length = 1 from rfl]; omega)
/-! xs.clear(), xs.extend(ys) -/
section
variable {σ : L2.St} {te tb : TE} {D : Ends} {tz : TS}
theorem q_clear {l : Addr} {xs : List V} (hl : H l = some (.lst xs)) (ha : Ev te σ H (.ref l)) (k : ∀ H1, Ex H H1 → tz D σ (upd H1 l (.lst []))) : tSeq (tDrop (tBM0 K "list" rClear te)) tz D σ H :=
  ha H (Ex.refl H) _ fun H1 e1 => ⟨.inl ⟨rfl, xs, sq_of (e1 l _ hl)⟩, l, xs, rfl, rfl, e1 l _ hl, k H1 e1⟩
theorem q_extend {l b : Addr} {xs ys : List V} (hl : H l = some (.lst xs)) (hb : H b = some (.lst ys)) (ha : Ev te σ H (.ref l)) (hy : Ev tb σ H (.ref b)) (hz : xs.length + ys.length ≤ 100000) (k : ∀ H1, Ex H H1 → tz D σ (upd H1 l (.lst (xs ++ ys)))) : tSeq (tDrop (tBM K "list" rExtend te (tCons tb tNil))) tz D σ H :=
  ha H (Ex.refl H) _ fun H1 e1 => ⟨.inl ⟨rfl, xs, sq_of (e1 l _ hl)⟩, hy H1 e1 _ fun H2 e2 => ⟨l, b, xs, ys, rfl, rfl, e2 _ _ (e1 l _ hl), e2 _ _ (e1 b _ hb), sz_of hz, k H2 (e1.trans e2)⟩⟩
end
/-- a new list of whole numbers of which P is true -/
def RetN (P : List Int → Prop) (H : Hp) (Q : VK) : Prop := ∀ p H' ts, H p = none → Ex H H' → H' p = some (.lst (ts.map V.int)) → P ts → Q (.ref p) H'
def EvN (te : TE) (σ : L2.St) (H : Hp) (P : List Int → Prop) : Prop := ∀ H1, Ex H H1 → ∀ Q : VK, (∀ p H2 ts, H1 p = none → Ex H1 H2 → H2 p = some (.lst (ts.map V.int)) → P ts → Q (.ref p) H2) → te σ H1 Q
theorem q_asgN {te : TE} {σ : L2.St} {D : Ends} {tz : TS} {i : Nat} {P : List Int → Prop} (h : EvN te σ H P) (k : ∀ p H1 ts, H p = none → Ex H H1 → H1 p = some (.lst (ts.map V.int)) → P ts → tz D (σ.set i (some (.ref p))) H1) : tSeq (tAsg te (gName i)) tz D σ H := h H (Ex.refl H) _ k
theorem en_call1 {sp : Sp} {te : TE} {σ : L2.St} {P : V → Hp → Prop} {R : List Int → Prop} (h : EvX te σ H P) (hs : ∀ x H1, Ex H H1 → P x H1 → ∀ Q : VK, RetN R H1 Q → sp [x] H1 Q E) : EvN (tCall sp [] E (tCons te tNil)) σ H R := fun H1 e Q q =>
  h H1 e _ fun v H2 e2 hp => hs v H2 (e.trans e2) hp Q fun p H3 ts hn e3 hx hr => q p H3 ts (fresh_back e2 hn) (e2.trans e3) hx hr
theorem en_call2 {sp : Sp} {te tx : TE} {σ : L2.St} {P P' : V → Hp → Prop} {R : List Int → Prop} (h : EvX te σ H P) (m : Mono P) (h2 : EvX tx σ H P') (hs : ∀ x y H1, Ex H H1 → P x H1 → P' y H1 → ∀ Q : VK, RetN R H1 Q → sp [x, y] H1 Q E) : EvN (tCall sp [] E (tCons te (tCons tx tNil))) σ H R := fun H1 e Q q =>
  h H1 e _ fun v H2 e2 hp => h2 H2 (e.trans e2) _ fun w H3 e3 hp2 => hs v w H3 ((e.trans e2).trans e3) (m _ _ _ e3 hp) hp2 Q fun p H4 ts hn e4 hx hr => q p H4 ts (fresh_back (e2.trans e3) hn) ((e2.trans e3).trans e4) hx hr
theorem x_newL {te : TE} {σ : L2.St} {xs : List V} (h : EvL te σ H xs) : EvX te σ H (fun v H' => ∃ p, v = .ref p ∧ H p = none ∧ H' p = some (.lst xs)) := fun H1 e Q q => h H1 e Q fun p H2 hp e2 hx => q _ H2 e2 ⟨p, rfl, fresh_back e hp, hx⟩
/-- if c: x = e, and the rest from what both ways come to -/
theorem q_ifX {te : TE} {t : TT} {σ : L2.St} {D : Ends} {tz : TS} {b : Bool} {i : Nat} {P : V → Hp → Prop} (h : EvT t σ H b) (h1 : b = true → EvX te σ H P) (Mid : L2.St → Hp → Prop) (k1 : b = true → ∀ v H1, Ex H H1 → P v H1 → Mid (σ.set i (some v)) H1) (k0 : b = false → ∀ H1, Ex H H1 → Mid σ H1) (rest : ∀ σ' H', Mid σ' H' → tz D σ' H') :
    tSeq (tIfS t (tAsg te (gName i)) tNext) tz D σ H :=
  q_when h (fun hb H1 e1 => h1 hb H1 e1 _ fun v H2 e2 hp => rest _ _ (k1 hb v H2 (e1.trans e2) hp)) (fun hb H1 e1 => rest _ _ (k0 hb H1 e1))
end
end Fw

namespace Fw
open PySem PySem.Spec PyProof.Rows L2 Evl
section
variable {K : PySem.W.Frag} {A : Ad} {vs : List V} {H : Hp} {Q : VK} {E : XK}
/-! ### neat -/
def sp_neat (K : PySem.W.Frag) (A : Ad) : Sp := LaySp (fun ns H Q => ns.length ≤ 50000 ∧ RetL ((Few.laid (Few.loadOf ns)).map V.int) H Q) K A
def t_neat (K : PySem.W.Frag) (A : Ad) (E : XK) : TS :=
  (tRet (tCall (sp_laid K A) [] E (tCons (tCall (sp_load_of K A) [] E (tCons (tVar 0) tNil)) tNil)))
theorem r_neat (h : sp_neat K A vs H Q E) : t_neat K A E (D0 Q) (start ["laying"] vs) H := by
  obtain ⟨v, d, rfl, hd, k1, k2⟩ := h
  cases hl : isLayD d with
  | false => exact er_ret (er_call (er_load_of (x_th rfl hd) hl (k2 hl)))
  | true =>
    obtain ⟨ns, rfl, l⟩ := lay_is hl
    obtain ⟨hz, k⟩ := k1 ns rfl l
    have := Few.laid_load_len l
    exact s_retLL (el_laid (ev_load_of (x_ilv rfl hd.il) l) (by omega)) k
theorem el_neat {te : TE} {σ : L2.St} {ns : List Int} (h : EvX te σ H (IL K ns)) (hl : Few.Lay ns) (hz : ns.length ≤ 50000) : EvL (tCall (sp_neat K A) [] E (tCons te tNil)) σ H ((Few.laid (Few.loadOf ns)).map V.int) :=
  el_call1 h fun x H1 e1 hx Q q => LaySp.good hx hl ⟨hz, fun p H' hp e hx => q p H' hp e hx⟩
/-! ### turned -/
def sp_turned (K : PySem.W.Frag) (A : Ad) : Sp := LaySp (fun ns H Q => ns.length ≤ 40000 ∧ RetL ((ns.map fun x => -x).map V.int) H Q) K A
def t_turned (K : PySem.W.Frag) (A : Ad) (E : XK) : TS :=
  (tRet (tLc (iList K (tCall (sp_good_laying K A) [] E (tCons (tVar 0) tNil))) (gName 1) tYes (tUn rNegI (tVar 1)) [1]))
theorem r_turned (h : sp_turned K A vs H Q E) : t_turned K A E (D0 Q) (start ["laying", "one"] vs) H := by
  obtain ⟨v, d, rfl, hd, k1, k2⟩ := h
  cases hl : isLayD d with
  | false => exact er_ret (er_lc (er_good (x_th rfl hd) hl (k2 hl)))
  | true =>
    obtain ⟨ns, rfl, l⟩ := lay_is hl
    obtain ⟨hz, k⟩ := k1 ns rfl l
    have em : (ns.map fun x => -x).map V.int = ns.map fun n => V.int (-n) := by rw [List.map_map]; rfl
    rw [em] at k
    exact s_retLL (el_lcI0 (fun n => V.int (-n)) (x_good (x_ilv rfl hd.il) l) hz (fun _ => rfl) (fun n H1 _ _ => ev_un (ev_var rfl) ru_neg)) k
theorem el_turned {te : TE} {σ : L2.St} {ns : List Int} (h : EvX te σ H (IL K ns)) (hl : Few.Lay ns) (hz : ns.length ≤ 40000) : EvL (tCall (sp_turned K A) [] E (tCons te tNil)) σ H ((ns.map fun x => -x).map V.int) :=
  el_call1 h fun x H1 e1 hx Q q => LaySp.good hx hl ⟨hz, fun p H' hp e hx => q p H' hp e hx⟩
/-! ### two layings -/
def Lay2Sp (R : List Int → List Int → Hp → VK → Prop) (K : PySem.W.Frag) (A : Ad) : Sp := fun vs H Q E => ∃ v w d e, vs = [v, w] ∧ Th K H v d ∧ Th K H w e ∧ (∀ xs ys, d = .list (xs.map PyData.int) → Few.Lay xs → e = .list (ys.map PyData.int) → Few.Lay ys → R xs ys H Q) ∧ ((isLayD d && isLayD e) = false → RaiseE E A.laying H)
theorem Lay2Sp.good {R : List Int → List Int → Hp → VK → Prop} {xs ys : List Int} {v w : V} (h : IL K xs v H) (h2 : IL K ys w H) (hl : Few.Lay xs) (hl2 : Few.Lay ys) (hr : R xs ys H Q) : Lay2Sp R K A [v, w] H Q E :=
  ⟨v, w, _, _, rfl, il_th h, il_th h2, (fun a b e1 _ e2 _ => by
    have e1' : xs = a := ints_inj (PyData.list.inj e1)
    have e2' : ys = b := ints_inj (PyData.list.inj e2)
    rw [← e1', ← e2']
    exact hr), fun z => by rw [lay_ints hl, lay_ints hl2] at z; cases z⟩
theorem Lay2Sp.bad {R : List Int → List Int → Hp → VK → Prop} {d e : PyData} {v w : V} (h : Th K H v d) (h2 : Th K H w e) (hl : (isLayD d && isLayD e) = false) (hr : RaiseE E A.laying H) : Lay2Sp R K A [v, w] H Q E :=
  ⟨v, w, d, e, rfl, h, h2, (fun a b e1 l1 e2 l2 => by rw [e1, e2, lay_ints l1, lay_ints l2] at hl; cases hl), fun _ => hr⟩
/-! ### plus -/
def sp_plus (K : PySem.W.Frag) (A : Ad) : Sp := Lay2Sp (fun xs ys H Q => (xs.length ≤ 40000 ∧ ys.length ≤ 40000) ∧ RetL ((Few.laid (Few.loadOf xs + Few.loadOf ys)).map V.int) H Q) K A
def t_plus (K : PySem.W.Frag) (A : Ad) (E : XK) : TS :=
  (tRet (tCall (sp_laid K A) [] E (tCons (tOp rAddI (tCall (sp_load_of K A) [] E (tCons (tVar 0) tNil)) (tCall (sp_load_of K A) [] E (tCons (tVar 1) tNil))) tNil)))
theorem plus_len {xs ys : List Int} (hx : Few.Lay xs) (hy : Few.Lay ys) (h1 : xs.length ≤ 40000) (h2 : ys.length ≤ 40000) : (Few.laid (Few.loadOf xs + Few.loadOf ys)).length ≤ 40002 := by
  have b1 := Few.load_bound hx
  have b2 := Few.load_bound hy
  have m1 : 2 ^ xs.length ≤ 2 ^ 40000 := Nat.pow_le_pow_right (by decide) h1
  have m2 : 2 ^ ys.length ≤ 2 ^ 40000 := Nat.pow_le_pow_right (by decide) h2
  refine Few.laid_len 40001 _ ?_
  rw [Nat.pow_succ]
  generalize 2 ^ 40000 = M at m1 m2
  omega
theorem r_plus (h : sp_plus K A vs H Q E) : t_plus K A E (D0 Q) (start ["one", "other"] vs) H := by
  obtain ⟨v, w, d, e, rfl, hd, he, k1, k2⟩ := h
  cases hl : isLayD d with
  | false => exact er_ret (er_call (er_op1 (er_load_of (x_th rfl hd) hl (k2 (by rw [hl]; rfl)))))
  | true =>
    obtain ⟨xs, rfl, lx⟩ := lay_is hl
    cases hl2 : isLayD e with
    | false => exact er_ret (er_call (er_op2 (x_v (ev_load_of (x_ilv rfl hd.il) lx)) (er_load_of (x_th rfl he) hl2 (k2 (by rw [hl2, Bool.and_false])))))
    | true =>
      obtain ⟨ys, rfl, ly⟩ := lay_is hl2
      obtain ⟨⟨hz, hz2⟩, k⟩ := k1 xs ys rfl lx rfl ly
      have := plus_len lx ly hz hz2
      exact s_retLL (el_laid (ev_op (ev_load_of (x_ilv rfl hd.il) lx) (ev_load_of (x_ilv rfl he.il) ly) rv_I0) (by omega)) k
theorem el_plus {te tx : TE} {σ : L2.St} {xs ys : List Int} (h : EvX te σ H (IL K xs)) (h2 : EvX tx σ H (IL K ys)) (hl : Few.Lay xs) (hl2 : Few.Lay ys) (hz : xs.length ≤ 40000) (hz2 : ys.length ≤ 40000) : EvL (tCall (sp_plus K A) [] E (tCons te (tCons tx tNil))) σ H ((Few.laid (Few.loadOf xs + Few.loadOf ys)).map V.int) :=
  el_call2 h mono_il h2 fun x y H1 e1 hx hy Q q => Lay2Sp.good hx hy hl hl2 ⟨⟨hz, hz2⟩, fun p H' hp e hx => q p H' hp e hx⟩
/-! ### heavier -/
def sgn (a b : Int) : Int := if b < a then 1 else if a < b then -1 else 0
def sp_heavier (K : PySem.W.Frag) (A : Ad) : Sp := Lay2Sp (fun xs ys H Q => RetV (.int (sgn (Few.loadOf xs) (Few.loadOf ys))) H Q) K A
def t_heavier (K : PySem.W.Frag) (A : Ad) (E : XK) : TS :=
  (tSeq (tAsg (tCall (sp_load_of K A) [] E (tCons (tVar 0) tNil)) (gName 2))
    (tSeq (tAsg (tCall (sp_load_of K A) [] E (tCons (tVar 1) tNil)) (gName 3))
    (tSeq (tIfS (tTest (tOp rGtI (tVar 2) (tVar 3))) (tRet (tC (.int 1))) tNext)
    (tSeq (tIfS (tTest (tOp rLtI (tVar 2) (tVar 3))) (tRet (tUn rNegI (tC (.int 1)))) tNext)
    (tRet (tC (.int 0)))))))
theorem r_heavier (h : sp_heavier K A vs H Q E) : t_heavier K A E (D0 Q) (start ["one", "other", "first", "second"] vs) H := by
  obtain ⟨v, w, d, e, rfl, hd, he, k1, k2⟩ := h
  cases hl : isLayD d with
  | false => exact er_q (er_load_of (x_th rfl hd) hl (k2 (by rw [hl]; rfl)))
  | true =>
    obtain ⟨xs, rfl, lx⟩ := lay_is hl
    refine q_asg (ev_load_of (x_ilv rfl hd.il) lx) fun H1 e1 => ?_
    have he1 := he.mono e1
    cases hl2 : isLayD e with
    | false => exact er_q (er_load_of (x_th rfl he1) hl2 ((k2 (by rw [hl2, Bool.and_false])).mono e1))
    | true =>
      obtain ⟨ys, rfl, ly⟩ := lay_is hl2
      have k : RetV (.int (sgn (Few.loadOf xs) (Few.loadOf ys))) H Q := k1 xs ys rfl lx rfl ly
      refine q_asg (ev_load_of (x_ilv rfl he1.il) ly) fun H2 e2 => ?_
      unfold sgn at k
      refine q_when (et_test (ev_op (ev_var rfl) (ev_var rfl) rv_I0)) (fun hb H3 e3 => ?_) (fun hb H3 e3 => ?_)
      · rw [if_pos (of_decide_eq_true hb)] at k
        exact s_retV ev_c (k.mono ((e1.trans e2).trans e3))
      · rw [if_neg (of_decide_eq_false hb)] at k
        refine q_when (et_test (ev_op (ev_var rfl) (ev_var rfl) rv_I0)) (fun hb H4 e4 => ?_) (fun hb H4 e4 => ?_)
        · rw [if_pos (of_decide_eq_true hb)] at k
          exact s_retV (ev_un ev_c ru_neg) (k.mono (((e1.trans e2).trans e3).trans e4))
        · rw [if_neg (of_decide_eq_false hb)] at k
          exact s_retV ev_c (k.mono (((e1.trans e2).trans e3).trans e4))
theorem ev_heavier {te tx : TE} {σ : L2.St} {xs ys : List Int} (h : EvX te σ H (IL K xs)) (h2 : EvX tx σ H (IL K ys)) (hl : Few.Lay xs) (hl2 : Few.Lay ys) : Ev (tCall (sp_heavier K A) [] E (tCons te (tCons tx tNil))) σ H (.int (sgn (Few.loadOf xs) (Few.loadOf ys))) :=
  ev_call2 h mono_il h2 fun x y H1 e1 hx hy Q q => Lay2Sp.good hx hy hl hl2 fun H' e => q H' e
/-! ### parted -/
/-- a new tuple of two new lists -/
def RetT2 (xs ys : List V) (H : Hp) (Q : VK) : Prop := ∀ t p q H', H t = none → (∀ H0 ps, Led H0 H ps → Led H0 H' ((q, ys) :: (p, xs) :: ps)) → H' t = some (.tup [.ref p, .ref q]) → Q (.ref t) H'
def sp_parted (K : PySem.W.Frag) (A : Ad) : Sp := fun vs H Q E => ∃ v d, ∃ j : Nat, vs = [v, .int (j : Int)] ∧ Th K H v d ∧ (∀ ns, d = .list (ns.map PyData.int) → Few.Lay ns → RetT2 ((Few.ended (ns.drop j)).map V.int) ((Few.ended (ns.take j)).map V.int) H Q) ∧ (isLayD d = false → RaiseE E A.laying H)
def t_parted (K : PySem.W.Frag) (A : Ad) (E : XK) : TS :=
  (tSeq (tAsg (tCall (sp_good_laying K A) [] E (tCons (tVar 0) tNil)) (gName 2))
    (tRet (tTup (tCons (tCall (sp_ended K A) [] E (tCons (tSl (rSlL K) (tVar 2) (tPart (tVar 1)) tNoPart) tNil)) (tCons (tCall (sp_ended K A) [] E (tCons (tSl (rSlL K) (tVar 2) tNoPart (tPart (tVar 1))) tNil)) tNil)))))
theorem Led.tup {H0 H' : Hp} {ps : List (Addr × List V)} {t : Addr} {o : HO} (h : Led H0 H ps) (ht : H t = none) : Led H0 (upd H t o) ps := h.ex (Ex.new ht)
theorem r_parted (h : sp_parted K A vs H Q E) : t_parted K A E (D0 Q) (start ["laying", "place", "things"] vs) H := by
  obtain ⟨v, d, j, rfl, hd, k1, k2⟩ := h
  cases hl : isLayD d with
  | false => exact er_q (er_good (x_th rfl hd) hl (k2 hl))
  | true =>
    obtain ⟨ns, rfl, l⟩ := lay_is hl
    have k := k1 ns rfl l
    refine q_asgX (x_good (x_ilv rfl hd.il) l) fun w H1 e1 hw => ?_
    have up : EvL (tCall (sp_ended K A) [] E (tCons (tSl (rSlL K) (tVar 2) (tPart (tVar 1)) tNoPart) tNil)) [some v, some (.int (j : Int)), some w] H1 ((Few.ended (ns.drop j)).map V.int) := el_ended (x_ilL (el_from (x_ilv rfl hw) (ev_var rfl) rfl)) (Few.lay_drop l j)
    have lo : EvL (tCall (sp_ended K A) [] E (tCons (tSl (rSlL K) (tVar 2) tNoPart (tPart (tVar 1))) tNil)) [some v, some (.int (j : Int)), some w] H1 ((Few.ended (ns.take j)).map V.int) := el_ended (x_ilL (el_to (x_ilv rfl hw) (ev_var rfl) rfl)) (Few.lay_take l j)
    refine up H1 (Ex.refl H1) _ fun p H2 hp e2 hx => lo H2 e2 _ fun q H3 hq e3 hy => ⟨by show 2 ≤ sizeLine; decide, fun t ht => ?_⟩
    refine k t p q _ (fresh_back ((e1.trans e2).trans e3) ht) (fun H0 ps L => ?_) upd_same
    exact (((L.ex e1).new hp e2 hx).new hq e3 hy).tup (H' := H) ht
theorem er_parted {te tb : TE} {σ : L2.St} {d : PyData} {j : Nat} (h : EvX te σ H (ThP K d)) (h2 : Ev tb σ H (.int (j : Int))) (hl : isLayD d = false) (k : RaiseE E A.laying H) : Er (tCall (sp_parted K A) [] E (tCons te (tCons tb tNil))) σ H := fun H1 e Q =>
  h H1 e _ fun v H2 e2 hp => h2 H2 (e.trans e2) _ fun H3 e3 => ⟨v, d, j, rfl, hp.mono e3, (fun ns e l => by rw [e, lay_ints l] at hl; cases hl), fun _ => k.mono ((e.trans e2).trans e3)⟩
/-- its call -/
theorem q_parted {te tb : TE} {σ : L2.St} {D : Ends} {tz : TS} {i : Nat} {ns : List Int} {j : Nat} (h : EvX te σ H (IL K ns)) (h2 : Ev tb σ H (.int (j : Int))) (hl : Few.Lay ns)
    (k : ∀ t p q H', H t = none → (∀ H0 ps, Led H0 H ps → Led H0 H' ((q, (Few.ended (ns.take j)).map V.int) :: (p, (Few.ended (ns.drop j)).map V.int) :: ps)) → H' t = some (.tup [.ref p, .ref q]) → tz D (σ.set i (some (.ref t))) H') :
    tSeq (tAsg (tCall (sp_parted K A) [] E (tCons te (tCons tb tNil))) (gName i)) tz D σ H :=
  h H (Ex.refl H) _ fun v H2 e2 hp => h2 H2 e2 _ fun H3 e3 => ⟨v, _, j, rfl, (il_th hp).mono e3, (fun ms e _ => by
    have e' : ns = ms := ints_inj (PyData.list.inj e)
    rw [← e']
    exact fun t p q H' ht g hx => k t p q H' (fresh_back (e2.trans e3) ht) (fun H0 ps L => g H0 ps ((L.ex e2).ex e3)) hx), fun z => by rw [lay_ints hl] at z; cases z⟩
end
end Fw

namespace Fw
open PySem PySem.Spec PyProof.Rows L2 Evl
/-! lists of lists of whole numbers -/
inductive ILs (K : PySem.W.Frag) (H : Hp) : List V → List (List Int) → Prop
  | nil : ILs K H [] []
  | cons {v : V} {vs : List V} {ns : List Int} {nss : List (List Int)} : IL K ns v H → ILs K H vs nss → ILs K H (v :: vs) (ns :: nss)
section
variable {K : PySem.W.Frag} {A : Ad} {σ : L2.St} {H H' : Hp} {ta : TA} {tb te tx tl : TE} {D : Ends} {tz : TS}
theorem ILs.mono (e : Ex H H') : ∀ {vs : List V} {nss : List (List Int)}, ILs K H vs nss → ILs K H' vs nss
  | _, _, .nil => .nil
  | _, _, .cons a b => .cons (mono_il _ _ _ e a) (b.mono e)
theorem ILs.length : ∀ {vs : List V} {nss : List (List Int)}, ILs K H vs nss → vs.length = nss.length
  | _, _, .nil => rfl
  | _, _, .cons a b => by rw [List.length_cons, List.length_cons, ILs.length b]
theorem ILs.at : ∀ {vs : List V} {nss : List (List Int)}, ILs K H vs nss → ∀ {i : Nat} {ns : List Int}, nss[i]? = some ns → ∃ v, vs[i]? = some v ∧ IL K ns v H
  | _, _, .nil, i, x, h => by simp at h
  | _, _, .cons a b, 0, x, h => ⟨_, rfl, by have e := Option.some.inj h; rw [← e]; exact a⟩
  | _, _, .cons a b, i + 1, x, h => ILs.at b (i := i) (ns := x) h
theorem ILs.dpa : ∀ {vs : List V} {nss : List (List Int)}, ILs K H vs nss → DpAll K H vs (nss.map fun ns => PyData.list (ns.map PyData.int))
  | _, _, .nil => .nil
  | _, _, .cons ⟨a, ev, hs⟩ b => by
    subst ev
    exact .cons (.lst hs dps) (ILs.dpa b)
def ILL (K : PySem.W.Frag) (nss : List (List Int)) : V → Hp → Prop := fun v H => ∃ a xs, v = .ref a ∧ SqL K H a xs ∧ ILs K H xs nss
theorem mono_ill {nss : List (List Int)} : Mono (ILL K nss) := fun _ _ _ e ⟨a, xs, h, s, t⟩ => ⟨a, xs, h, ex_l e s, t.mono e⟩
theorem xi_nil : EaX tNil σ H (fun vs H => ILs K H vs []) := fun H1 _ _ q => q _ H1 (Ex.refl H1) .nil
theorem xi_cons {tr : TA} {ns : List Int} {nss : List (List Int)} (h : EvX te σ H (IL K ns)) (hr : EaX tr σ H (fun vs H => ILs K H vs nss)) : EaX (tCons te tr) σ H (fun vs H => ILs K H vs (ns :: nss)) := fun H1 e Q q =>
  h H1 e _ fun v H2 e2 hp => hr H2 (e.trans e2) _ fun vs H3 e3 hR => q _ H3 (e2.trans e3) (.cons (mono_il _ _ _ e3 hp) hR)
theorem xi_lst {nss : List (List Int)} (h : EaX ta σ H (fun vs H => ILs K H vs nss)) (hz : nss.length ≤ 100000) : EvX (tLst ta) σ H (ILL K nss) := fun H1 e Q q =>
  h H1 e _ fun vs H2 e2 hr => ⟨sz_of (by rw [hr.length]; exact hz), fun p hp => q _ _ (e2.trans (Ex.new hp)) ⟨p, vs, rfl, sq_of upd_same, hr.mono (Ex.new hp)⟩⟩
theorem eqv_lists : ∀ xs ys : List (List Int), PyData.eqvAll (xs.map fun ns => PyData.list (ns.map PyData.int)) (ys.map fun ns => PyData.list (ns.map PyData.int)) = decide (xs = ys)
  | [], [] => rfl
  | [], _ :: _ => by simp [PyData.eqvAll]
  | _ :: _, [] => by simp [PyData.eqvAll]
  | x :: xs, y :: ys => by
    have ih := eqv_lists xs ys
    show (PyData.eqv (.list (x.map PyData.int)) (.list (y.map PyData.int)) && PyData.eqvAll (xs.map fun ns => PyData.list (ns.map PyData.int)) (ys.map fun ns => PyData.list (ns.map PyData.int))) = _
    have e : PyData.eqv (.list (x.map PyData.int)) (.list (y.map PyData.int)) = decide (x = y) := eqv_ints x y
    rw [ih, e]
    by_cases h1 : x = y
    · subst h1
      by_cases h2 : xs = ys
      · subst h2
        simp
      · simp [h2]
    · simp [h1]
theorem shaped_lists (xs : List (List Int)) : SeqAt.shaped (.list (xs.map fun ns => PyData.list (ns.map PyData.int))) = true := by
  have a : ∀ xs : List (List Int), PyData.canLayAll0 (xs.map fun ns => PyData.list (ns.map PyData.int)) = true := by
    intro xs
    induction xs with
    | nil => rfl
    | cons x xs ih =>
      show (PyData.canLayAll0 (x.map PyData.int) && PyData.canLayAll0 (xs.map fun ns => PyData.list (ns.map PyData.int))) = true
      rw [ih, canLay_ints]
      rfl
  have b : ∀ xs : List (List Int), PyData.depthAll (xs.map fun ns => PyData.list (ns.map PyData.int)) ≤ 1 := by
    intro xs
    induction xs with
    | nil => exact Nat.zero_le _
    | cons x xs ih =>
      show max (PyData.depthAll (x.map PyData.int) + 1) (PyData.depthAll (xs.map fun ns => PyData.list (ns.map PyData.int))) ≤ 1
      rw [depth_ints]
      omega
  unfold SeqAt.shaped
  have a' : PyData.canLay0 (.list (xs.map fun ns => PyData.list (ns.map PyData.int))) = true := a xs
  have b' : PyData.depth (.list (xs.map fun ns => PyData.list (ns.map PyData.int))) ≤ 2 := by
    show PyData.depthAll (xs.map fun ns => PyData.list (ns.map PyData.int)) + 1 ≤ 2
    have := b xs
    omega
  rw [a', Bool.true_and]
  exact decide_eq_true (by omega)
theorem ev_eqLL {xs ys : List (List Int)} (ha : EvX te σ H (ILL K xs)) (hb : EvX tb σ H (ILL K ys)) : Ev (tOp (rEqD K) te tb) σ H (.bl (decide (xs = ys))) := ev_opX ha mono_ill hb fun x y H1 _ ⟨a, as, ea, sa, ia⟩ ⟨b, bs, eb, sb, ib⟩ H2 e2 Q k => by
  subst ea eb
  refine ⟨_, _, .lst (ex_l e2 sa) (ia.mono e2).dpa, .lst (ex_l e2 sb) (ib.mono e2).dpa, shaped_lists xs, shaped_lists ys, ?_⟩
  have z : PyData.eqv (.list (xs.map fun ns => PyData.list (ns.map PyData.int))) (.list (ys.map fun ns => PyData.list (ns.map PyData.int))) = decide (xs = ys) := eqv_lists xs ys
  rw [z]
  exact k H2 (Ex.refl H2)
theorem x_ixLL {nss : List (List Int)} {ns : List Int} {j : Nat} {i : Int} (ha : EvX te σ H (ILL K nss)) (hb : Ev tb σ H (.int i)) (hi : i = (j : Int)) (h : nss[j]? = some ns) : EvX (tOp (rIxL K) te tb) σ H (IL K ns) := fun H1 e Q q =>
  ha H1 e _ fun v H2 e2 hv => hb H2 (e.trans e2) _ fun H3 e3 => by
    obtain ⟨a, xs, rfl, hs, hI⟩ := hv
    obtain ⟨x, hx, hn⟩ := hI.at h
    exact ⟨a, xs, i, x, rfl, rfl, ex_l e3 hs, at_of hi hx, q x H3 (e2.trans e3) (mono_il _ _ _ e3 hn)⟩
/-! a display of new lists, written into the ledger -/
def Grow (H H' : Hp) (qs : List (Addr × List V)) : Prop := ∀ H0 ps, Led H0 H ps → Led H0 H' (qs ++ ps)
theorem q_asgD3 {t1 t2 t3 : TE} {i : Nat} {xs1 xs2 xs3 : List V} (h1 : EvL t1 σ H xs1) (h2 : EvL t2 σ H xs2) (h3 : EvL t3 σ H xs3)
    (k : ∀ p1 p2 p3 p H', Grow H H' [(p, [.ref p1, .ref p2, .ref p3]), (p3, xs3), (p2, xs2), (p1, xs1)] → tz D (σ.set i (some (.ref p))) H') : tSeq (tAsg (tLst (tCons t1 (tCons t2 (tCons t3 tNil)))) (gName i)) tz D σ H :=
  h1 H (Ex.refl H) _ fun p1 H1 hp1 e1 hx1 => h2 H1 e1 _ fun p2 H2 hp2 e2 hx2 => h3 H2 (e1.trans e2) _ fun p3 H3 hp3 e3 hx3 =>
    ⟨by show 3 ≤ sizeLine; decide, fun p hp => k p1 p2 p3 p _ fun H0 ps L => (((L.new hp1 e1 hx1).new hp2 e2 hx2).new hp3 e3 hx3).new hp (Ex.new hp) upd_same⟩
theorem Led.ill {H0 : Hp} {ps : List (Addr × List V)} {p : Addr} {xs : List V} {nss : List (List Int)} (L : Led H0 H ps) (i : Nat) (hi : ps[i]? = some (p, xs)) (h : ILs K H xs nss) : ILL K nss (.ref p) H := ⟨p, xs, rfl, sq_of (L.at i hi), h⟩
theorem x_illv {v : V} {nss : List (List Int)} {i : Nat} (h : σ[i]? = some (some v)) (hd : ILL K nss v H) : EvX (tVar i) σ H (ILL K nss) := x_of (ev_var h) mono_ill hd
/-! the ledger in another order, or less of it -/
theorem Led.sub {H0 : Hp} {ps qs : List (Addr × List V)} (L : Led H0 H ps) (h : qs.Sublist ps) : Led H0 H qs := ⟨L.1, fun q hq => L.2.1 q (h.subset hq), (h.map _).nodup L.2.2⟩
theorem Led.perm {H0 : Hp} {ps qs : List (Addr × List V)} (L : Led H0 H ps) (h : qs.Perm ps) : Led H0 H qs := ⟨L.1, fun q hq => L.2.1 q (h.subset hq), (h.map _).nodup_iff.mpr L.2.2⟩
theorem erase_perm {α : Type} : ∀ {l : List α} {i : Nat} {x : α}, l[i]? = some x → (x :: l.eraseIdx i).Perm l
  | [], i, x, h => by simp at h
  | a :: r, 0, x, h => by
    have e : a = x := Option.some.inj h
    rw [e]
    exact List.Perm.refl _
  | a :: r, i + 1, x, h => by
    have ih := erase_perm (l := r) (i := i) (x := x) h
    exact (List.Perm.swap a x _).trans (ih.cons a)
/-- if c: x = [0] * n + x, the list in the ledger either way -/
theorem q_pad {H0 : Hp} {ps : List (Addr × List V)} {t : TT} {b : Bool} {i l : Nat} {p : Addr} {xs : List Int} {n : Int} (L : Led H0 H ps) (hl : ps[l]? = some (p, xs.map V.int)) (h : EvT t σ H b) (hi : σ[i]? = some (some (.ref p))) (hn : Ev tb σ H (.int n)) (hb : 0 ≤ n ∧ n ≤ 300) (hz : xs.length ≤ 1000) (hself : σ.set i (some (.ref p)) = σ)
    (k : ∀ q H1 (m : Nat), m ≤ 300 → Led H0 H1 ((q, (List.replicate m 0 ++ xs).map V.int) :: ps.eraseIdx l) → tz D (σ.set i (some (.ref q))) H1) :
    tSeq (tIfS t (tAsg (tOp rCat (tOp rRep (tLst (tCons (tC (.int 0)) tNil)) tb) (tVar i)) (gName i)) tNext) tz D σ H := by
  refine q_when h (fun _ H1 e1 => ?_) (fun _ H1 e1 => ?_)
  · refine s_asgL (el_catX (x_mlL (el_zeros (hn.mono e1) ⟨by omega, by omega⟩)) (x_ml (ev_var hi) (e1 _ _ (L.at l hl))) (by rw [len_mapI, len_mapI, List.length_replicate]; omega)) fun q H2 hq e2 hy => ?_
    rw [← List.map_append] at hy
    exact k q H2 _ (by omega) (((L.ex e1).new hq e2 hy).sub ((List.eraseIdx_sublist ps l).cons_cons _))
  · have g := k p H1 0 (by omega) ((L.ex e1).perm (erase_perm hl))
    rw [hself] at g
    exact g
end
end Fw

namespace Fw
open PySem PySem.Spec PyProof.Rows L2 Evl
/-! plans -/
def rNotInT (K : PySem.W.Frag) : R2 := fun x y H Q => ∃ d ds, Dp K H x d ∧ Dp K H y (.tuple ds) ∧ SeqAt.shaped d = true ∧ SeqAt.shaped (.tuple ds) = true ∧ Q (.bl (!ds.any fun z => PyData.eqv z d)) H
theorem op_notInT {X : Cx} (hu : X.A.units + 65 < cLine) : OpR X (compareOp .NotIn) (rNotInT X.K) := by
  intro pins s σ H x y v u Q I rx ry h
  obtain ⟨d, ds, hd, he, sd, se, q⟩ := h
  obtain ⟨as, r1⟩ := Dp.reads I d x v hd rx
  obtain ⟨bs, r2⟩ := Dp.reads I (.tuple ds) y u he ry
  exact SeqAt.notIn_tuple_reads r2 r1 (SeqAt.canLay_of_shaped se) (SeqAt.canLay_of_shaped sd) (room_in_shaped sd hu) ⟨.bl _, H, I, rfl, q⟩
theorem room65 {k : Nat} {A : Around} (r : Room k A) : A.units + 65 < cLine := by
  have := r.un
  omega
def WordsIn (K : PySem.W.Frag) (A : Ad) : Prop := ∃ (dW : Option Addr) (t1 t2 t3 : Tok) (n : Nat) (sl : Array (Option Value)), K.lookup A.words = some ⟨.type "tuple", dW, .seq #[.str "double" t1, .str "put" t2, .str "take" t3] n, sl⟩
theorem words_mk {K : PySem.W.Frag} {A : Ad} {dW : Option Addr} {t1 t2 t3 : Tok} {n : Nat} {sl : Array (Option Value)} (h : K.lookup A.words = some ⟨.type "tuple", dW, .seq #[.str "double" t1, .str "put" t2, .str "take" t3] n, sl⟩) : WordsIn K A := ⟨dW, t1, t2, t3, n, sl, h⟩
theorem words_sq {K : PySem.W.Frag} {A : Ad} (W : WordsIn K A) (H : Hp) : SqT K H A.words [.str "double", .str "put", .str "take"] := by
  obtain ⟨dW, t1, t2, t3, n, sl, h⟩ := W
  exact .inr ⟨_, _, n, h, rfl, rfl, by show 3 ≤ sizeLine; decide, .cons ⟨t1, rfl⟩ (.cons ⟨t2, rfl⟩ (.cons ⟨t3, rfl⟩ .nil))⟩
/-! words as values, as data -/
def wS : Wd → Str
  | .dbl => "double"
  | .put => "put"
  | .tak => "take"
def wV (w : Wd) : V := .str (wS w)
def wD (w : Wd) : PyData := .str (wS w)
theorem wS_inj (a b : Wd) : (wS a = wS b) ↔ a = b := by
  cases a <;> cases b <;> first | (simp; done) | (refine ⟨fun h => absurd h (by decide +kernel), fun h => by cases h⟩)
theorem wV_eq (a b : Wd) : decide (wV a = wV b) = decide (a = b) := by
  by_cases h : a = b
  · subst h
    simp
  · rw [decide_eq_false h, decide_eq_false]
    intro z
    exact h ((wS_inj a b).mp (V.str.inj z))
theorem wV_dbl (a : Wd) : decide (wV a = V.str "double") = decide (a = .dbl) := wV_eq a .dbl
theorem wV_put (a : Wd) : decide (wV a = V.str "put") = decide (a = .put) := wV_eq a .put
theorem wV_tak (a : Wd) : decide (wV a = V.str "take") = decide (a = .tak) := wV_eq a .tak
/-- is it a word? -/
def wordD (d : PyData) : Bool := [PyData.str "double", .str "put", .str "take"].any fun z => PyData.eqv z d
theorem word_wD (w : Wd) : wordD (wD w) = true := by cases w <;> decide +kernel
theorem word_is {d : PyData} (h : wordD d = true) : ∃ w, d = wD w := by
  cases d with
  | str x =>
    have h' : (PyData.eqv (.str "double") (.str x) || (PyData.eqv (.str "put") (.str x) || (PyData.eqv (.str "take") (.str x) || false))) = true := h
    simp only [PyData.eqv, Bool.or_eq_true, beq_iff_eq, Bool.or_false] at h'
    rcases h' with z | z | z
    · exact ⟨.dbl, by rw [← z]; rfl⟩
    · exact ⟨.put, by rw [← z]; rfl⟩
    · exact ⟨.tak, by rw [← z]; rfl⟩
  | none => exact absurd h (by simp [wordD, PyData.eqv])
  | bool b => exact absurd h (by simp [wordD, PyData.eqv])
  | int b => exact absurd h (by simp [wordD, PyData.eqv])
  | list b => exact absurd h (by simp [wordD, PyData.eqv])
  | tuple b => exact absurd h (by simp [wordD, PyData.eqv])
  | dict b => exact absurd h (by simp [wordD, PyData.eqv])
def isPlanD : PyData → Bool
  | .list ds => ds.all wordD
  | _ => false
theorem plan_is_all : ∀ ds : List PyData, ds.all wordD = true → ∃ ws : List Wd, ds = ws.map wD
  | [], _ => ⟨[], rfl⟩
  | d :: ds, h => by
    rw [List.all_cons, Bool.and_eq_true] at h
    obtain ⟨w, e⟩ := word_is h.1
    obtain ⟨ws, es⟩ := plan_is_all ds h.2
    exact ⟨w :: ws, by rw [e, es]; rfl⟩
theorem plan_is {d : PyData} (h : isPlanD d = true) : ∃ ws : List Wd, d = .list (ws.map wD) := by
  cases d with
  | list ds =>
    obtain ⟨ws, e⟩ := plan_is_all ds h
    exact ⟨ws, by rw [e]⟩
  | none => exact absurd h Bool.false_ne_true
  | bool b => exact absurd h Bool.false_ne_true
  | int b => exact absurd h Bool.false_ne_true
  | str b => exact absurd h Bool.false_ne_true
  | tuple b => exact absurd h Bool.false_ne_true
  | dict b => exact absurd h Bool.false_ne_true
theorem plan_words (ws : List Wd) : isPlanD (.list (ws.map wD)) = true := by
  show (ws.map wD).all wordD = true
  rw [List.all_map, List.all_eq_true]
  exact fun w _ => word_wD w
theorem wD_inj {a b : Wd} (h : wD a = wD b) : a = b := (wS_inj a b).mp (PyData.str.inj h)
theorem wDs_inj {a b : List Wd} (h : a.map wD = b.map wD) : a = b := by
  induction a generalizing b with
  | nil =>
    cases b with
    | nil => rfl
    | cons _ _ => cases h
  | cons x xs ih =>
    cases b with
    | nil => cases h
    | cons y ys =>
      rw [List.map_cons, List.map_cons] at h
      injection h with h1 h2
      rw [wD_inj h1, ih h2]
theorem shaped_word (w : Wd) : SeqAt.shaped (wD w) = true := by cases w <;> decide +kernel
theorem shaped_wordsT : SeqAt.shaped (.tuple [.str "double", .str "put", .str "take"]) = true := by decide +kernel
section
variable {K : PySem.W.Frag} {A : Ad} {vs : List V} {H H' : Hp} {Q : VK} {E : XK}
/-- a list of words -/
def WL (K : PySem.W.Frag) (ws : List Wd) (v : V) (H : Hp) : Prop := ∃ a, v = .ref a ∧ SqL K H a (ws.map wV)
theorem mono_wl {ws : List Wd} : Mono (WL K ws) := fun _ _ _ e ⟨a, h, s⟩ => ⟨a, h, ex_l e s⟩
theorem dpw {ws : List Wd} : DpAll K H (ws.map wV) (ws.map wD) := by
  induction ws with
  | nil => exact .nil
  | cons w r ih => exact .cons (.str (wS w)) ih
theorem wl_th {ws : List Wd} {v : V} (h : WL K ws v H) : Th K H v (.list (ws.map wD)) := by
  obtain ⟨a, rfl, hs⟩ := h
  exact .of (.lst hs dpw)
theorem dpw_inv {xs : List V} : ∀ {ws : List Wd}, DpAll K H xs (ws.map wD) → xs = ws.map wV := by
  induction xs with
  | nil =>
    intro ws h
    cases ws with
    | nil => rfl
    | cons w r => cases h
  | cons x xs ih =>
    intro ws h
    cases ws with
    | nil => cases h
    | cons w r =>
      cases h with
      | cons h1 h2 =>
        rw [ih h2]
        cases w <;> (cases h1; rfl)
theorem Th.wl {ws : List Wd} {v : V} (h : Th K H v (.list (ws.map wD))) : WL K ws v H := by
  cases h with
  | of h =>
    cases h with
    | lst hs ha =>
      rw [dpw_inv ha] at hs
      exact ⟨_, rfl, hs⟩
/-- every thing of a list can be held beside a word -/
def ShD (d : PyData) : Prop := ∀ ds, d = .list ds → ∀ x ∈ ds, SeqAt.shaped x = true
theorem shd_words (ws : List Wd) : ShD (.list (ws.map wD)) := fun ds e x hx => by
  cases e
  obtain ⟨w, _, rfl⟩ := List.mem_map.mp hx
  exact shaped_word w
/-! ### good_plan -/
def sp_good_plan (K : PySem.W.Frag) (A : Ad) : Sp := fun vs H Q E => ∃ v d, vs = [v] ∧ Th K H v d ∧ ShD d ∧ (isPlanD d = true → RetV v H Q) ∧ (isPlanD d = false → RaiseE E A.plan H)
def t_good_plan (K : PySem.W.Frag) (A : Ad) (E : XK) : TS :=
  (tSeq (tIfS (tNot (tB (tCB (rIsi K) (tCons (tVar 0) (tCons (tC (.ty "list")) tNil))))) (tRaiseC A.plan E) tNext)
    (tSeq (tFor (iList K (tVar 0)) (gName 1) (tIfS (tTest (tOp (rNotInT K) (tVar 1) (tC (.ref A.words)))) (tRaiseC A.plan E) tNext))
    (tRet (tVar 0))))

theorem not_plan {d : PyData} (h : (!(tyD d == "list")) = true) : isPlanD d = false := by
  cases d <;> first | rfl | (exfalso; simp [tyD] at h)
theorem r_good_plan (W : WordsIn K A) (h : sp_good_plan K A vs H Q E) : t_good_plan K A E (D0 Q) (start ["plan", "word"] vs) H := by
  obtain ⟨v, d, rfl, hd, hsh, k1, k2⟩ := h
  refine q_when (et_not (et_B (ev_isList (ev_var rfl) hd))) (fun hb H1 e1 => k2 (not_plan hb) H1 e1) (fun hb H1 e1 => ?_)
  obtain ⟨ds, rfl⟩ := is_list hb
  have hd1 := hd.mono e1
  cases hd1 with
  | of hd1 =>
    cases hd1 with
    | @lst a xs _ hs ha =>
      have hl := dps_len ha
      refine q_forP (x_vl (ev_var rfl) hs) (fun i σ' => ∃ u, σ' = [some (.ref a), u] ∧ (ds.take i).all wordD = true) ⟨none, rfl, rfl⟩ ?_ ?_
      · rintro H2 i x σ' H' e2 e3 hx ⟨u, rfl, hall⟩
        obtain ⟨d, hd, hp⟩ := dps_at ha hx
        have hp' := dp_mono (e2.trans e3) _ _ hp
        have hshd : SeqAt.shaped d = true := hsh ds rfl d (List.mem_of_getElem? hd)
        have t1 : EvT (tTest (tOp (rNotInT K) (tVar 1) (tC (.ref A.words)))) [some (.ref a), some x] H' (!wordD d) :=
          et_test (ev_op (ev_var rfl) ev_c fun H4 e4 Q q => ⟨d, [.str "double", .str "put", .str "take"], dp_mono e4 _ _ hp', .tup (words_sq W H4) (.cons (.str _) (.cons (.str _) (.cons (.str _) .nil))), hshd, shaped_wordsT, q H4 (Ex.refl H4)⟩)
        refine s_when t1 (fun hb H4 e4 => ?_) (fun hb H4 e4 => ?_)
        · have p' : wordD d = false := by simpa using hb
          exact k2 (all_not hd p') H4 (((e1.trans e2).trans e3).trans e4)
        · have p' : wordD d = true := by simpa using hb
          exact ⟨⟨_, rfl, take_all hd hall p'⟩, e3.trans e4⟩
      · rintro σ' H' e2 ⟨u, rfl, hall⟩
        rw [hl, List.take_length] at hall
        exact s_retV (ev_var rfl) ((k1 hall).mono (e1.trans e2))
section
variable {te : TE} {σ : L2.St} {ws : List Wd} {d : PyData}
theorem x_goodplan (h : EvX te σ H (WL K ws)) : EvX (tCall (sp_good_plan K A) [] E (tCons te tNil)) σ H (WL K ws) :=
  x_call1 h fun x H1 e1 hx Q q => ⟨x, _, rfl, wl_th hx, shd_words ws, (fun _ H' e => q x H' e (mono_wl _ _ _ e hx)), fun z => by rw [plan_words] at z; cases z⟩
theorem er_goodplan (h : EvX te σ H (ThP K d)) (hs : ShD d) (hl : isPlanD d = false) (k : RaiseE E A.plan H) : Er (tCall (sp_good_plan K A) [] E (tCons te tNil)) σ H :=
  er_call1 h fun x H1 e1 hx Q => ⟨x, d, rfl, hx, hs, (fun z => by rw [hl] at z; cases z), fun _ => k.mono e1⟩
theorem x_vlW (h : EvX te σ H (WL K ws)) : EvX te σ H (VL K (ws.map wV)) := h
theorem x_wlv {v : V} {i : Nat} (h : σ[i]? = some (some v)) (hd : WL K ws v H) : EvX (tVar i) σ H (WL K ws) := x_of (ev_var h) mono_wl hd
theorem x_wlL (h : EvL te σ H (ws.map wV)) : EvX te σ H (WL K ws) := fun H1 e Q q => h H1 e Q fun p H2 _ e2 hp => q _ H2 e2 ⟨p, rfl, sq_of hp⟩
theorem of_mapW {j : Nat} {v : V} (h : (ws.map wV)[j]? = some v) : ∃ w, ws[j]? = some w ∧ v = wV w := by
  rw [List.getElem?_map] at h
  cases e : ws[j]? with
  | none =>
    rw [e] at h
    cases h
  | some n =>
    rw [e] at h
    exact ⟨n, rfl, (Option.some.inj h).symm⟩
end
/-! ### walked -/
def PlanSp (R : List Wd → Hp → VK → Prop) (d : PyData) (A : Ad) (H : Hp) (Q : VK) (E : XK) : Prop := ShD d ∧ (∀ ws, d = .list (ws.map wD) → R ws H Q) ∧ (isPlanD d = false → RaiseE E A.plan H)
def sp_walked (K : PySem.W.Frag) (A : Ad) : Sp := fun vs H Q E => ∃ v d num, vs = [v, .int num] ∧ Th K H v d ∧ PlanSp (fun ws => RetV (.int (Few.walkOf num ws))) d A H Q E
def t_walked (K : PySem.W.Frag) (A : Ad) (E : XK) : TS :=
  (tSeq (tAsg (tC (.int 0)) (gName 2))
    (tSeq (tFor (iList K (tCall (sp_good_plan K A) [] E (tCons (tVar 0) tNil))) (gName 3) (tIfS (tTest (tOp rEq (tVar 3) (tC (.str "double")))) (tAsg (tOp rMulI (tC (.int 2)) (tVar 2)) (gName 2)) (tIfS (tTest (tOp rEq (tVar 3) (tC (.str "put")))) (tAug 2 (tVar 1) (ipI fun i j => i + j)) (tAug 2 (tVar 1) (ipI fun i j => i - j)))))
    (tRet (tVar 2))))

theorem take_snoc {α : Type} {l : List α} {i : Nat} {x : α} (h : l[i]? = some x) : l.take (i + 1) = l.take i ++ [x] := by
  rw [List.take_add_one, h]
  rfl
theorem r_walked (h : sp_walked K A vs H Q E) : t_walked K A E (D0 Q) (start ["plan", "number", "found", "word"] vs) H := by
  obtain ⟨v, d, num, rfl, hd, hsh, k1, k2⟩ := h
  refine q_asg ev_c fun H1 e1 => ?_
  cases hl : isPlanD d with
  | false => exact er_qfor (er_goodplan (x_th rfl (hd.mono e1)) hsh hl ((k2 hl).mono e1))
  | true =>
    obtain ⟨ws, rfl⟩ := plan_is hl
    have k : RetV (.int (Few.walkOf num ws)) H Q := k1 ws rfl
    refine q_forP (x_vlW (x_goodplan (x_wlv rfl (hd.mono e1).wl))) (fun i σ' => ∃ u, σ' = [some v, some (.int num), some (.int (Few.walkOf num (ws.take i))), u]) ⟨none, rfl⟩ ?_ ?_
    · rintro H2 i x σ' H' e2 e3 hx ⟨u, rfl⟩
      obtain ⟨w, hw, rfl⟩ := of_mapW hx
      have step : Few.walkOf num (ws.take (i + 1)) = Few.wstep num (Few.walkOf num (ws.take i)) w := by rw [take_snoc hw, Few.walk_snoc]
      refine s_if (et_is (et_test (ev_op (ev_var rfl) ev_c (rv_eq rfl))) (wV_dbl w)) (fun hb H4 e4 => ?_) (fun hb H4 e4 => ?_)
      · have z : w = .dbl := of_decide_eq_true hb
        subst z
        refine s_asg (ev_op ev_c (ev_var rfl) (rv_mul (cmul_l ⟨by decide, by decide⟩))) fun H5 e5 => ⟨⟨some (wV .dbl), ?_⟩, (e3.trans e4).trans e5⟩
        rw [step]
        rfl
      · have z : w ≠ .dbl := of_decide_eq_false hb
        refine s_if (et_is (et_test (ev_op (ev_var rfl) ev_c (rv_eq rfl))) (wV_put w)) (fun hb2 H5 e5 => ?_) (fun hb2 H5 e5 => ?_)
        · have z2 : w = .put := of_decide_eq_true hb2
          subst z2
          refine s_aug rfl (ev_var rfl) fun H6 e6 => ⟨⟨some (wV .put), ?_⟩, ((e3.trans e4).trans e5).trans e6⟩
          rw [step]
          rfl
        · have z2 : w ≠ .put := of_decide_eq_false hb2
          have z3 : w = .tak := by cases w <;> first | rfl | exact absurd rfl z | exact absurd rfl z2
          subst z3
          refine s_aug rfl (ev_var rfl) fun H6 e6 => ⟨⟨some (wV .tak), ?_⟩, ((e3.trans e4).trans e5).trans e6⟩
          rw [step]
          rfl
    · rintro σ' H' e2 ⟨u, rfl⟩
      rw [List.length_map, List.take_length]
      exact s_retV (ev_var rfl) (k.mono (e1.trans e2))
section
variable {te tx : TE} {σ : L2.St} {ws : List Wd} {d : PyData} {num : Int}
theorem PlanSp.good {R : List Wd → Hp → VK → Prop} (hr : R ws H Q) : PlanSp R (.list (ws.map wD)) A H Q E := ⟨shd_words ws, (fun ms e => by
    have e' : ws = ms := wDs_inj (PyData.list.inj e)
    rw [← e']
    exact hr), fun z => by rw [plan_words] at z; cases z⟩
theorem PlanSp.bad {R : List Wd → Hp → VK → Prop} (hs : ShD d) (hl : isPlanD d = false) (hr : RaiseE E A.plan H) : PlanSp R d A H Q E := ⟨hs, (fun ws e => by rw [e, plan_words] at hl; cases hl), fun _ => hr⟩
theorem ev_walked (h : EvX te σ H (WL K ws)) (h2 : Ev tx σ H (.int num)) : Ev (tCall (sp_walked K A) [] E (tCons te (tCons tx tNil))) σ H (.int (Few.walkOf num ws)) :=
  ev_call2 h mono_wl (x_v h2) fun x y H1 e1 hx hy Q q => ⟨x, _, num, by rw [show y = V.int num from hy], wl_th hx, .good fun H' e => q H' e⟩
theorem ev_walked1 (h : EvX te σ H (WL K ws)) : Ev (tCall (sp_walked K A) [.int 1] E (tCons te tNil)) σ H (.int (Few.walkOf 1 ws)) := fun H1 e Q q =>
  h H1 e _ fun v H2 e2 hp => ⟨v, _, 1, rfl, wl_th hp, .good fun H' e' => q H' (e2.trans e')⟩
end
/-! ### cost -/
def sp_cost (K : PySem.W.Frag) (A : Ad) : Sp := fun vs H Q E => ∃ v d, vs = [v] ∧ Th K H v d ∧ PlanSp (fun ws => RetV (.int (Few.costOf ws : Nat))) d A H Q E
def t_cost (K : PySem.W.Frag) (A : Ad) (E : XK) : TS :=
  (tSeq (tAsg (tC (.int 0)) (gName 1))
    (tSeq (tFor (iList K (tCall (sp_good_plan K A) [] E (tCons (tVar 0) tNil))) (gName 2) (tIfS (tTest (tOp rNe (tVar 2) (tC (.str "double")))) (tAug 1 (tC (.int 1)) (ipI fun i j => i + j)) tNext))
    (tRet (tVar 1))))

theorem r_cost (h : sp_cost K A vs H Q E) : t_cost K A E (D0 Q) (start ["plan", "many", "word"] vs) H := by
  obtain ⟨v, d, rfl, hd, hsh, k1, k2⟩ := h
  refine q_asg ev_c fun H1 e1 => ?_
  cases hl : isPlanD d with
  | false => exact er_qfor (er_goodplan (x_th rfl (hd.mono e1)) hsh hl ((k2 hl).mono e1))
  | true =>
    obtain ⟨ws, rfl⟩ := plan_is hl
    have k : RetV (.int (Few.costOf ws : Nat)) H Q := k1 ws rfl
    refine q_forP (x_vlW (x_goodplan (x_wlv rfl (hd.mono e1).wl))) (fun i σ' => ∃ u, σ' = [some v, some (.int (Few.costOf (ws.take i) : Nat)), u]) ⟨none, rfl⟩ ?_ ?_
    · rintro H2 i x σ' H' e2 e3 hx ⟨u, rfl⟩
      obtain ⟨w, hw, rfl⟩ := of_mapW hx
      have step : Few.costOf (ws.take (i + 1)) = Few.costOf (ws.take i) + if w = .dbl then 0 else 1 := by rw [take_snoc hw, Few.cost_snoc]
      refine s_when (b := !decide (w = .dbl)) (et_is (et_test (ev_op (ev_var rfl) ev_c (rv_ne rfl))) (by rw [wV_dbl])) (fun hb H4 e4 => ?_) (fun hb H4 e4 => ?_)
      · have z : w ≠ .dbl := by simpa using hb
        rw [if_neg z] at step
        refine s_aug rfl ev_c fun H5 e5 => ⟨⟨some (wV w), ?_⟩, (e3.trans e4).trans e5⟩
        rw [step]
        rfl
      · have z : w = .dbl := by simpa using hb
        rw [if_pos z] at step
        refine ⟨⟨some (wV w), ?_⟩, e3.trans e4⟩
        rw [step]
        rfl
    · rintro σ' H' e2 ⟨u, rfl⟩
      rw [List.length_map, List.take_length]
      exact s_retV (ev_var rfl) (k.mono (e1.trans e2))
theorem ev_cost {te : TE} {σ : L2.St} {ws : List Wd} (h : EvX te σ H (WL K ws)) : Ev (tCall (sp_cost K A) [] E (tCons te tNil)) σ H (.int (Few.costOf ws : Nat)) :=
  ev_call1 h fun x H1 e1 hx Q q => ⟨x, _, rfl, wl_th hx, .good fun H' e => q H' e⟩
/-! ### plan_of -/
def sp_plan_of (K : PySem.W.Frag) (A : Ad) : Sp := LoadSp (fun n H Q => (Few.laid n).length ≤ 20000 ∧ RetL ((Few.planOf n).map wV) H Q) K A
def t_plan_of (K : PySem.W.Frag) (A : Ad) (E : XK) : TS :=
  (tSeq (tAsg (tLst tNil) (gName 1))
    (tSeq (tFor (iRev K (tCons (tCall (sp_laid K A) [] E (tCons (tVar 0) tNil)) tNil)) (gName 2) (tSeq (tIfS (tTest (tOp (rNeD K) (tVar 1) (tLst tNil))) (tDrop (tBM K "list" rAppend (tVar 1) (tCons (tC (.str "double")) tNil))) tNext)
    (tSeq (tIfS (tTest (tOp rEq (tVar 2) (tC (.int 1)))) (tDrop (tBM K "list" rAppend (tVar 1) (tCons (tC (.str "put")) tNil))) tNext)
    (tIfS (tTest (tOp rEq (tVar 2) (tUn rNegI (tC (.int 1))))) (tDrop (tBM K "list" rAppend (tVar 1) (tCons (tC (.str "take")) tNil))) tNext))))
    (tRet (tVar 1))))

theorem shaped_words : ∀ ws : List Wd, SeqAt.shaped (.list (ws.map wD)) = true := by
  have a : ∀ ws : List Wd, PyData.canLayAll0 (ws.map wD) = true := by
    intro ws
    induction ws with
    | nil => rfl
    | cons x xs ih =>
      show (PyData.canLay0 (wD x) && PyData.canLayAll0 (xs.map wD)) = true
      rw [ih, SeqAt.canLay_of_shaped (shaped_word x)]
      rfl
  have b : ∀ ws : List Wd, PyData.depthAll (ws.map wD) = 0 := by
    intro ws
    induction ws with
    | nil => rfl
    | cons x xs ih =>
      show max (PyData.depth (wD x)) (PyData.depthAll (xs.map wD)) = 0
      rw [ih]
      cases x <;> rfl
  intro ws
  unfold SeqAt.shaped
  have a' : PyData.canLay0 (.list (ws.map wD)) = true := a ws
  have b' : PyData.depth (.list (ws.map wD)) = 1 := by
    show PyData.depthAll (ws.map wD) + 1 = 1
    rw [b]
  rw [a', b']
  rfl
theorem eqv_words : ∀ xs ys : List Wd, PyData.eqvAll (xs.map wD) (ys.map wD) = decide (xs = ys)
  | [], [] => rfl
  | [], _ :: _ => by simp [PyData.eqvAll]
  | _ :: _, [] => by simp [PyData.eqvAll]
  | x :: xs, y :: ys => by
    have ih := eqv_words xs ys
    show (PyData.eqv (wD x) (wD y) && PyData.eqvAll (xs.map wD) (ys.map wD)) = _
    have e : PyData.eqv (wD x) (wD y) = decide (x = y) := by
      show (wS x == wS y) = decide (x = y)
      by_cases h : x = y
      · subst h
        simp
      · rw [decide_eq_false h]
        exact beq_eq_false_iff_ne.mpr fun z => h ((wS_inj x y).mp z)
    rw [ih, e]
    by_cases h1 : x = y
    · subst h1
      by_cases h2 : xs = ys
      · subst h2
        simp
      · simp [h2]
    · simp [h1]
section
variable {te tb : TE} {σ : L2.St} {xs ys : List Wd}
theorem ev_eqW (ha : EvX te σ H (WL K xs)) (hb : EvX tb σ H (WL K ys)) : Ev (tOp (rEqD K) te tb) σ H (.bl (decide (xs = ys))) := ev_opX ha mono_wl hb fun x y H1 _ ⟨a, ea, sa⟩ ⟨b, eb, sb⟩ H2 e2 Q k => by
  subst ea eb
  refine ⟨_, _, .lst (ex_l e2 sa) dpw, .lst (ex_l e2 sb) dpw, shaped_words xs, shaped_words ys, ?_⟩
  have z : PyData.eqv (.list (xs.map wD)) (.list (ys.map wD)) = decide (xs = ys) := eqv_words xs ys
  rw [z]
  exact k H2 (Ex.refl H2)
theorem ev_neW (ha : EvX te σ H (WL K xs)) (hb : EvX tb σ H (WL K ys)) : Ev (tOp (rNeD K) te tb) σ H (.bl (!decide (xs = ys))) := ev_opX ha mono_wl hb fun x y H1 _ ⟨a, ea, sa⟩ ⟨b, eb, sb⟩ H2 e2 Q k => by
  subst ea eb
  refine ⟨_, _, .lst (ex_l e2 sa) dpw, .lst (ex_l e2 sb) dpw, shaped_words xs, shaped_words ys, ?_⟩
  have z : PyData.eqv (.list (xs.map wD)) (.list (ys.map wD)) = decide (xs = ys) := eqv_words xs ys
  rw [z]
  exact k H2 (Ex.refl H2)
theorem Led.wl {H0 : Hp} {ps : List (Addr × List V)} {p : Addr} {ws : List Wd} (L : Led H0 H ps) (i : Nat) (hi : ps[i]? = some (p, ws.map wV)) : WL K ws (.ref p) H := ⟨p, rfl, sq_of (L.at i hi)⟩
theorem mapW_snoc (ws : List Wd) (w : Wd) : ws.map wV ++ [wV w] = (ws ++ [w]).map wV := by rw [List.map_append]; rfl
theorem len_mapW (ws : List Wd) : (ws.map wV).length = ws.length := List.length_map ..
/-- a loop over reversed(xs), any word of the turn -/
theorem q_forRvL {D : Ends} {tl : TE} {tu tz : TS} {xs : List V} {j : Nat} (h : EvL tl σ H xs) (Pv : Addr → Nat → L2.St → Hp → Prop) (h0 : ∀ p H1, H p = none → Ex H H1 → H1 p = some (.lst xs) → Pv p 0 σ H1) (hl : ∀ p i σ' H', i ≤ xs.length → Pv p i σ' H' → SqL K H' p xs)
    (hs : ∀ p i x σ' H', i < xs.length → xs[xs.length - 1 - i]? = some x → Pv p i σ' H' → tu { D with nx := Pv p (i + 1), ct := Pv p (i + 1), bk := tz D } (σ'.set j (some x)) H') (hd : ∀ p σ' H', Pv p xs.length σ' H' → tz D σ' H') : tSeq (tFor (iRev K (tCons tl tNil)) (gName j) tu) tz D σ H :=
  h H (Ex.refl H) _ fun p H1 hp e1 hx => ⟨p, xs, rfl, sq_of hx, for_rv (D := { D with nx := tz D }) (Pv p) (h0 p H1 hp e1 hx) (hl p) (hs p) (hd p)⟩
end
theorem plan_drop {ns : List Int} {i : Nat} {n : Int} (hi : i < ns.length) (h : ns[ns.length - 1 - i]? = some n) : Few.planAux (ns.drop (ns.length - (i + 1))).reverse = Few.pstep (Few.planAux (ns.drop (ns.length - i)).reverse) n := by
  have e : ns.length - (i + 1) = ns.length - 1 - i := by omega
  have hlt : ns.length - 1 - i < ns.length := by omega
  rw [e, List.drop_eq_getElem_cons hlt]
  have e2 : ns[ns.length - 1 - i] = n := by
    rw [List.getElem?_eq_getElem hlt] at h
    exact Option.some.inj h
  rw [e2, List.reverse_cons, Few.plan_snoc, show ns.length - 1 - i + 1 = ns.length - i by omega]
theorem r_plan_of (h : sp_plan_of K A vs H Q E) : t_plan_of K A E (D0 Q) (start ["load", "plan", "one"] vs) H := by
  obtain ⟨v, d, rfl, hd, k1, k2⟩ := h
  refine q_asgL (xs := []) (el_lst ea_nil (by decide)) fun p H1 hp e1 hx => ?_
  cases hl : wholeD d with
  | false => exact er_qforRv (er_laid (x_th rfl (hd.mono e1)) hl ((k2 hl).mono e1))
  | true =>
    obtain ⟨n, rfl⟩ := whole_is hl
    obtain ⟨hz, k⟩ := k1 n rfl
    have hv := th_int_is hd
    subst hv
    have L1 := (Led.nil H).new hp e1 hx
    have hlay := Few.lay_laid n
    refine q_forRvL (xs := (Few.laid n).map V.int) (el_laid (ev_var rfl) (by omega))
      (fun a i σ' H' => ∃ u, σ' = [some (.int n), some (.ref p), u] ∧ Led H H' [(a, (Few.laid n).map V.int), (p, (Few.planAux ((Few.laid n).drop ((Few.laid n).length - i)).reverse).map wV)]) ?_ (fun a i σ' H' _ ⟨u, _, L⟩ => sq_of (L.at 0 rfl)) ?_ ?_
    · intro a H2 ha e2 hy
      refine ⟨none, rfl, ?_⟩
      rw [Nat.sub_zero, List.drop_length]
      exact L1.new ha e2 hy
    · rintro a i x σ' H' hi hx' ⟨u, rfl, L⟩
      rw [List.length_map] at hi hx'
      obtain ⟨m, hm, rfl⟩ := of_map hx'
      have pm := hlay m (List.mem_of_getElem? hm)
      have step := plan_drop hi hm
      have plen : (Few.planAux ((Few.laid n).drop ((Few.laid n).length - i)).reverse).length ≤ 40000 := by
        have := (Few.plan_aux 1 (Few.lay_drop hlay ((Few.laid n).length - i))).2.2
        rw [List.length_drop] at this
        omega
      rw [step]
      generalize Few.planAux ((Few.laid n).drop ((Few.laid n).length - i)).reverse = pl at L plen
      -- the doubling
      have dbl : ∀ (D : Ends) (tz : TS), (∀ H4 ws, Led H H4 [(a, (Few.laid n).map V.int), (p, ws.map wV)] → ws = (if pl = [] then pl else pl ++ [.dbl]) → tz D [some (.int n), some (.ref p), some (.int m)] H4) →
          tSeq (tIfS (tTest (tOp (rNeD K) (tVar 1) (tLst tNil))) (tDrop (tBM K "list" rAppend (tVar 1) (tCons (tC (.str "double")) tNil))) tNext) tz D [some (.int n), some (.ref p), some (.int m)] H' := by
        intro D tz hk
        refine q_when (et_test (ev_neW (ys := []) (x_wlv rfl (L.wl 1 rfl)) (x_wlL (el_lst ea_nil (by decide))))) (fun hb H4 e4 => ?_) (fun hb H4 e4 => ?_)
        · have z : pl ≠ [] := by simpa using hb
          refine s_app ((L.ex e4).at 1 rfl) (ev_var rfl) ev_c (by rw [len_mapW]; omega) fun H5 e5 => ?_
          have L5 := ((L.ex e4).ex e5).put 1 ((pl ++ [Wd.dbl]).map wV) rfl
          rw [show pl.map wV ++ [V.str "double"] = List.map wV (pl ++ [Wd.dbl]) from mapW_snoc pl Wd.dbl]
          exact hk _ _ L5 (by rw [if_neg z])
        · have z : pl = [] := by simpa using hb
          exact hk H4 pl (L.ex e4) (by rw [if_pos z])
      refine dbl _ _ fun H4 ws L4 hws => ?_
      have wlen : ws.length ≤ 40001 := by
        rw [hws]
        split
        · omega
        · rw [List.length_append]
          simp
          omega
      have fin : Few.pstep pl m = ws ++ Few.ptail m := by rw [hws]; rfl
      rw [fin]
      rcases pm with z | z | z
      · subst z
        refine q_when (et_is (et_test (ev_op (ev_var rfl) ev_c (rv_eq rfl))) eq_dec) (fun hb H5 e5 => ?_) (fun hb => by cases hb)
        refine s_app ((L4.ex e5).at 1 rfl) (ev_var rfl) ev_c (by rw [len_mapW]; omega) fun H6 e6 => ?_
        have L6 := ((L4.ex e5).ex e6).put 1 ((ws ++ [Wd.put]).map wV) rfl
        rw [show ws.map wV ++ [V.str "put"] = List.map wV (ws ++ [Wd.put]) from mapW_snoc ws Wd.put]
        refine s_when (et_is (et_test (ev_op (ev_var rfl) (ev_un ev_c ru_neg) (rv_eq rfl))) eq_dec) (fun hb => by cases hb) (fun _ H7 e7 => ⟨_, rfl, L6.ex e7⟩)
      · subst z
        refine q_when (et_is (et_test (ev_op (ev_var rfl) ev_c (rv_eq rfl))) eq_dec) (fun hb => by cases hb) (fun hb H5 e5 => ?_)
        refine s_when (et_is (et_test (ev_op (ev_var rfl) (ev_un ev_c ru_neg) (rv_eq rfl))) eq_dec) (fun hb => by cases hb) (fun _ H7 e7 => ⟨_, rfl, ?_⟩)
        rw [Few.ptail_0, List.append_nil]
        exact (L4.ex e5).ex e7
      · subst z
        refine q_when (et_is (et_test (ev_op (ev_var rfl) ev_c (rv_eq rfl))) eq_dec) (fun hb => by cases hb) (fun hb H5 e5 => ?_)
        refine s_when (et_is (et_test (ev_op (ev_var rfl) (ev_un ev_c ru_neg) (rv_eq rfl))) eq_dec) (fun _ H7 e7 => ?_) (fun hb => by cases hb)
        refine s_app (((L4.ex e5).ex e7).at 1 rfl) (ev_var rfl) ev_c (by rw [len_mapW]; omega) fun H8 e8 => ?_
        have L8 := (((L4.ex e5).ex e7).ex e8).put 1 ((ws ++ [Wd.tak]).map wV) rfl
        rw [show ws.map wV ++ [V.str "take"] = List.map wV (ws ++ [Wd.tak]) from mapW_snoc ws Wd.tak]
        exact ⟨_, rfl, L8⟩
    · rintro a σ' H' ⟨u, rfl, L⟩
      rw [List.length_map, Nat.sub_self, List.drop_zero] at L
      exact s_ret (ev_var rfl) fun H5 e5 => k p H5 hp (L.ext.trans e5) (e5 _ _ (L.at 1 rfl))
theorem el_plan_of {te : TE} {σ : L2.St} {n : Int} (h : Ev te σ H (.int n)) (hl : (Few.laid n).length ≤ 20000) : EvL (tCall (sp_plan_of K A) [] E (tCons te tNil)) σ H ((Few.planOf n).map wV) :=
  el_call1 (x_v h) fun x H1 e1 hx Q q => by
    rw [show x = V.int n from hx]
    exact LoadSp.good ⟨hl, fun p H' hp e hx => q p H' hp e hx⟩
end
end Fw

namespace Fw
open PySem PySem.Spec PyProof.Rows L2 Evl
section
variable {K : PySem.W.Frag} {A : Ad} {vs : List V} {H H' : Hp} {Q : VK} {E : XK}
/-! _law_spent -/
def sp_l_spent (K : PySem.W.Frag) (A : Ad) : Sp := fun vs H Q _ => ∃ v ws, vs = [v] ∧ WL K ws v H ∧ ws.length ≤ 40000 ∧ RetV (.int (Few.costOf ws : Nat)) H Q
def t_l_spent (K : PySem.W.Frag) (A : Ad) : TS :=
  (tRet (tCB (Evl.rLenS K) (tCons (tLc (iList K (tVar 0)) (gName 1) (tTest (tOp rNe (tVar 1) (tC (.str "double")))) (tVar 1) [1]) tNil)))
theorem spent_len (ws : List Wd) : (((ws.map wV).filter fun x => !decide (x = V.str "double")).map fun x => x).length = Few.costOf ws := by
  rw [List.length_map, List.filter_map, List.length_map]
  unfold Few.costOf
  congr 1
  apply List.filter_congr
  intro w _
  show (!decide (wV w = V.str "double")) = decide (w ≠ .dbl)
  rw [wV_dbl]
  simp
theorem r_l_spent (h : sp_l_spent K A vs H Q E) : t_l_spent K A (D0 Q) (start ["_law_plan", "_law_word"] vs) H := by
  obtain ⟨v, ws, rfl, hv, hz, k⟩ := h
  refine s_retV (v := .int (Few.costOf ws : Nat)) ?_ k
  refine ev_is (ev_lenV (x_vlL (el_lcV (xs := ws.map wV) (fun x => !decide (x = V.str "double")) (fun x => x) (x_vlW (x_wlv rfl hv)) (by rw [len_mapW]; exact hz) (fun _ => rfl) (fun x H1 _ hx => et_test (ev_op (ev_var rfl) ev_c (rv_ne ?_))) (fun x H1 _ _ _ => ev_var rfl)))) ?_
  · obtain ⟨w, _, rfl⟩ := List.mem_map.mp hx
    rfl
  · rw [spent_len]
theorem ev_spent {te : TE} {σ : L2.St} {ws : List Wd} (h : EvX te σ H (WL K ws)) (hz : ws.length ≤ 40000) : Ev (tCall (sp_l_spent K A) [] E (tCons te tNil)) σ H (.int (Few.costOf ws : Nat)) :=
  ev_call1 h fun x H1 e1 hx Q q => ⟨x, ws, rfl, hx, hz, fun H' e => q H' e⟩
/-! _law_words -/
def sp_l_words (K : PySem.W.Frag) (A : Ad) : Sp := fun vs H Q _ => ∃ v ws, vs = [v] ∧ WL K ws v H ∧ RetV (.bl true) H Q
def t_l_words (K : PySem.W.Frag) (A : Ad) : TS :=
  (tSeq (tIfS (tNot (tB (tCB (rIsi K) (tCons (tVar 0) (tCons (tC (.ty "list")) tNil))))) (tRet (tC (.bl false))) tNext)
    (tSeq (tFor (iList K (tVar 0)) (gName 1) (tIfS (tOr (tNot (tB (tCB (rIsi K) (tCons (tVar 1) (tCons (tC (.ty "str")) tNil))))) (tTest (tOp (rIn K true) (tVar 1) (tTup (tCons (tC (.str "double")) (tCons (tC (.str "put")) (tCons (tC (.str "take")) tNil))))))) (tRet (tC (.bl false))) tNext))
    (tRet (tC (.bl true)))))
theorem word_in (w : Wd) : inV (wV w) [.str "double", .str "put", .str "take"] = true := by cases w <;> decide +kernel
theorem r_l_words (h : sp_l_words K A vs H Q E) : t_l_words K A (D0 Q) (start ["_law_plan", "_law_word"] vs) H := by
  obtain ⟨v, ws, rfl, hv, k⟩ := h
  refine q_skip (et_not (et_B (ev_isList (ev_var rfl) (wl_th hv)))) (by simp [tyD]) fun H1 e1 => ?_
  refine q_forP (x_vlW (x_wlv rfl (mono_wl _ _ _ e1 hv))) (fun i σ' => ∃ u, σ' = [some v, u]) ⟨none, rfl⟩ ?_ ?_
  · rintro H2 i x σ' H' e2 e3 hx ⟨u, rfl⟩
    obtain ⟨w, hw, rfl⟩ := of_mapW hx
    refine s_when (b := false) (et_is (et_or (et_not (et_B (ev_isStr (d := .str (wS w)) (ev_var rfl) (th_str (wS w))))) fun _ => et_test (ev_niU (ev_var rfl) (eu_tup (ea_cons ev_c (ea_cons ev_c (ea_cons ev_c ea_nil))) (by decide)) rfl (by rfl))) ?_) (fun hb => by cases hb) (fun _ H4 e4 => ⟨⟨_, rfl⟩, e3.trans e4⟩)
    rw [word_in]
    simp [tyD]
  · rintro σ' H' e2 ⟨u, rfl⟩
    exact s_retV ev_c (k.mono (e1.trans e2))
theorem ev_words {te : TE} {σ : L2.St} {ws : List Wd} (h : EvX te σ H (WL K ws)) : Ev (tCall (sp_l_words K A) [] E (tCons te tNil)) σ H (.bl true) :=
  ev_call1 h fun x H1 e1 hx Q q => ⟨x, ws, rfl, hx, fun H' e => q H' e⟩
/-! _law_alike of two whole numbers -/
def sp_l_alikeI (K : PySem.W.Frag) (A : Ad) : Sp := fun vs H Q _ => ∃ a b : Int, vs = [.int a, .int b] ∧ RetV (.bl (decide (a = b))) H Q
def t_l_alikeI (K : PySem.W.Frag) (A : Ad) : TS :=
  (tRet (tAndV (tCall (sp_l_whole K A) [] E0 (tCons (tVar 0) tNil)) (tOp rEq (tVar 0) (tVar 1))))
theorem r_l_alikeI (h : sp_l_alikeI K A vs H Q E) : t_l_alikeI K A (D0 Q) (start ["_law_found", "_law_due"] vs) H := by
  obtain ⟨a, b, rfl, k⟩ := h
  exact s_retV (v := .bl (decide (a = b))) (ev_is (ev_andV (ev_l_whole (ev_var rfl)) fun _ => ev_op (ev_var rfl) (ev_var rfl) (rv_eq rfl)) (by rw [eq_dec]; simp)) k
theorem ev_alikeI {te tx : TE} {σ : L2.St} {a b : Int} (h : Ev te σ H (.int a)) (h2 : Ev tx σ H (.int b)) : Ev (tCall (sp_l_alikeI K A) [] E (tCons te (tCons tx tNil))) σ H (.bl (decide (a = b))) :=
  ev_call2 (x_v h) mono_is (x_v h2) fun x y H1 e1 hx hy Q q => ⟨a, b, by rw [show x = V.int a from hx, show y = V.int b from hy], fun H' e => q H' e⟩
/-! drawn words -/
def wdOf (c : Int) : Wd := if c % 3 = 0 then .dbl else if c % 3 = 1 then .put else .tak
section
variable {σ : L2.St} {te tb : TE}
/-- ["double", "put", "take"][c % 3] -/
theorem ev_word {c : Int} (h : Ev te σ H (.int c)) : Ev (tOp (rIxL K) (tLst (tCons (tC (.str "double")) (tCons (tC (.str "put")) (tCons (tC (.str "take")) tNil)))) (tOp rModI te (tC (.int 3)))) σ H (wV (wdOf c)) := by
  obtain ⟨j, hj, hl⟩ := mod_nat c 3 (by decide)
  refine ev_ixV (xs := [.str "double", .str "put", .str "take"]) (j := j) (x_vlL (el_lst (ea_cons ev_c (ea_cons ev_c (ea_cons ev_c ea_nil))) (by decide))) (ev_op h ev_c (rv_mod (by decide))) hj ?_
  have hj' : c % 3 = (j : Int) := hj
  have : j = 0 ∨ j = 1 ∨ j = 2 := by omega
  unfold wdOf
  rw [hj']
  rcases this with z | z | z <;> subst z <;> rfl
theorem el_toV {xs : List V} {n : Nat} {i : Int} (h : EvX te σ H (VL K xs)) (hb : Ev tb σ H (.int i)) (hi : i = (n : Int)) : EvL (tSl (rSlL K) te tNoPart (tPart tb)) σ H (xs.take n) := fun H1 e Q q =>
  h H1 e _ fun v H2 e2 hv => (eo_none (σ := σ) (H := H)) H2 (e.trans e2) _ fun H3 e3 => (eo_some hb) H3 ((e.trans e2).trans e3) _ fun H4 e4 => by
    obtain ⟨a, rfl, hs⟩ := hv
    refine ⟨a, _, rfl, ex_l (e3.trans e4) hs, fun p hp => q p _ (fresh_back ((e2.trans e3).trans e4) hp) (((e2.trans e3).trans e4).trans (Ex.new hp)) ?_⟩
    rw [upd_same, hi, cut_to]
theorem x_revL {ns : List Int} (h : EvX te σ H (IL K ns)) : EvL (tRevL K te) σ H (ns.reverse.map V.int) := fun H1 e Q q => h H1 e _ fun v H2 e2 ⟨a, ev, hs⟩ => ⟨a, _, ev, hs, fun p hp => q p _ (fresh_back e2 hp) (e2.trans (Ex.new hp)) (by rw [upd_same, List.map_reverse])⟩
end
theorem rep_map {α β : Type} (f : α → β) (l : List α) (n : Nat) : (List.replicate n (l.map f)).flatten = ((List.replicate n l).flatten).map f := by
  induction n with
  | zero => rfl
  | succ n ih => rw [List.replicate_succ, List.replicate_succ, List.flatten_cons, List.flatten_cons, ih, List.map_append]
theorem rep_len {α : Type} (l : List α) (n : Nat) : ((List.replicate n l).flatten).length = n * l.length := by
  induction n with
  | zero => simp
  | succ n ih => rw [List.replicate_succ, List.flatten_cons, List.length_append, ih, Nat.succ_mul, Nat.add_comm]
theorem mem_rep {α : Type} {l : List α} {n : Nat} {x : α} (h : x ∈ (List.replicate n l).flatten) : x ∈ l := by
  obtain ⟨m, hm, hx⟩ := List.mem_flatten.mp h
  rw [(List.mem_replicate.mp hm).2] at hx
  exact hx
/-! _law_sum, by a list turned about -/
def sp_l_sum (K : PySem.W.Frag) (A : Ad) : Sp := fun vs H Q _ => ∃ v ns, vs = [v] ∧ IL K ns v H ∧ RetV (.int (Few.loadOf ns)) H Q
def t_l_sum (K : PySem.W.Frag) (A : Ad) : TS :=
  (tSeq (tAsg (tC (.int 0)) (gName 1))
    (tSeq (tFor (iList K (tRevL K (tVar 0))) (gName 2) (tAsg (tOp rAddI (tOp rAddI (tVar 1) (tVar 1)) (tVar 2)) (gName 1)))
    (tRet (tVar 1))))
theorem r_l_sum (h : sp_l_sum K A vs H Q E) : t_l_sum K A (D0 Q) (start ["_law_things", "_law_found", "_law_thing"] vs) H := by
  obtain ⟨v, ns, rfl, hv, k⟩ := h
  refine q_asg ev_c fun H1 e1 => ?_
  refine q_forP (x_vlI (x_ilL (x_revL (x_ilv rfl (mono_il _ _ _ e1 hv))))) (fun i σ' => ∃ u, σ' = [some v, some (.int (Few.loadOf (ns.reverse.take i).reverse)), u]) ⟨none, rfl⟩ ?_ ?_
  · rintro H2 i x σ' H' e2 e3 hx ⟨u, rfl⟩
    obtain ⟨n, hn, rfl⟩ := of_map hx
    have st : Few.loadOf (ns.reverse.take (i + 1)).reverse = Few.loadOf (ns.reverse.take i).reverse + Few.loadOf (ns.reverse.take i).reverse + n := by
      rw [take_snoc hn, List.reverse_append]
      show 2 * Few.loadOf (ns.reverse.take i).reverse + n = _
      omega
    refine s_asg (ev_op (ev_op (ev_var rfl) (ev_var rfl) rv_I0) (ev_var rfl) rv_I0) fun H4 e4 => ⟨⟨some (.int n), ?_⟩, e3.trans e4⟩
    rw [st]
    rfl
  · rintro σ' H' e2 ⟨u, rfl⟩
    rw [List.length_map, List.take_length, List.reverse_reverse]
    exact s_retV (ev_var rfl) (k.mono (e1.trans e2))
theorem ev_sum {te : TE} {σ : L2.St} {ns : List Int} (h : EvX te σ H (IL K ns)) : Ev (tCall (sp_l_sum K A) [] E (tCons te tNil)) σ H (.int (Few.loadOf ns)) :=
  ev_call1 h fun x H1 e1 hx Q q => ⟨x, ns, rfl, hx, fun H' e => q H' e⟩
/-! _law_neat by one loop over the places -/
def sp_l_neatK (K : PySem.W.Frag) (A : Ad) : Sp := fun vs H Q _ => ∃ v ns, vs = [v] ∧ IL K ns v H ∧ Few.Lay ns ∧ ns.length ≤ 100000 ∧ RetV (.bl (Few.neatB ns)) H Q
def t_l_neatK (K : PySem.W.Frag) (A : Ad) : TS :=
  (tSeq (tIfS (tNot (tB (tCB (rIsi K) (tCons (tVar 0) (tCons (tC (.ty "list")) tNil))))) (tRet (tC (.bl false))) tNext)
    (tSeq (tFor (iRng1 (tCons (tCB (Evl.rLenS K) (tCons (tVar 0) tNil)) tNil)) (gName 1) (tSeq (tIfS (tOr (tNot (tB (tCall (sp_l_whole K A) [] E0 (tCons (tOp (rIxL K) (tVar 0) (tVar 1)) tNil)))) (tTest (tOp (rIn K true) (tOp (rIxL K) (tVar 0) (tVar 1)) (tTup (tCons (tC (.int 1)) (tCons (tC (.int 0)) (tCons (tUn rNegI (tC (.int 1))) tNil))))))) (tRet (tC (.bl false))) tNext)
    (tIfS (tAnd (tTest (tOp rGtI (tVar 1) (tC (.int 0)))) (tAnd (tTest (tOp rNe (tOp (rIxL K) (tVar 0) (tOp rSubI (tVar 1) (tC (.int 1)))) (tC (.int 0)))) (tTest (tOp rNe (tOp (rIxL K) (tVar 0) (tVar 1)) (tC (.int 0)))))) (tRet (tC (.bl false))) tNext)))
    (tRet (tOrV (tOp rEq (tCB (Evl.rLenS K) (tCons (tVar 0) tNil)) (tC (.int 0))) (tOp rNe (tOp (rIxL K) (tVar 0) (tUn rNegI (tC (.int 1)))) (tC (.int 0)))))))
theorem pm_in {n : Int} (h : Few.Pm n) : inV (.int n) [.int 1, .int 0, .int (-1)] = true := by
  rcases h with z | z | z <;> subst z <;> decide +kernel
theorem r_l_neatK (h : sp_l_neatK K A vs H Q E) : t_l_neatK K A (D0 Q) (start ["_law_things", "_law_k"] vs) H := by
  obtain ⟨v, ns, rfl, hv, hl, hz, k⟩ := h
  refine q_skip (et_not (et_B (ev_isList (ev_var rfl) (il_th hv)))) (by simp [tyD]) fun H1 e1 => ?_
  have hv1 := mono_il _ _ _ e1 hv
  refine q_forRgP (n := (ns.length : Int)) (ea_cons (ev_lenX (x_ilv rfl hv1)) ea_nil) ⟨by omega, by omega⟩ (fun i σ' => ∃ u, σ' = [some v, u] ∧ Few.apartB (ns.take i) = true) ⟨none, rfl, rfl⟩ ?_ ?_
  · rintro H2 i σ' H' e2 e3 hi ⟨u, rfl, ha⟩
    have hi1 : i < ns.length := by omega
    have g1 : ns[i]? = some ns[i] := List.getElem?_eq_getElem hi1
    have hv2 := mono_il _ _ _ (e2.trans e3) hv1
    have pm := hl ns[i] (List.getElem_mem hi1)
    have at_ : ∀ H4, Ex H' H4 → Ev (tOp (rIxL K) (tVar 0) (tVar 1)) [some v, some (.int (i : Int))] H4 (.int ns[i]) := fun H4 e4 => ev_ix (j := i) (x_ilv rfl (mono_il _ _ _ e4 hv2)) (ev_var rfl) rfl g1
    have at0 := at_ H' (Ex.refl H')
    refine q_skip (et_is (et_or (et_not (et_B (ev_l_whole at0))) fun _ => et_test (ev_niU at0 (eu_tup (ea_cons ev_c (ea_cons ev_c (ea_cons (ev_un ev_c ru_neg) ea_nil))) (by decide)) rfl (by rfl))) (by rw [pm_in pm]; rfl)) rfl fun H4 e4 => ?_
    have st := Few.apart_step g1 ha rfl
    have hv4 := mono_il _ _ _ e4 hv2
    have at4 := at_ H4 e4
    have test : EvT (tAnd (tTest (tOp rGtI (tVar 1) (tC (.int 0)))) (tAnd (tTest (tOp rNe (tOp (rIxL K) (tVar 0) (tOp rSubI (tVar 1) (tC (.int 1)))) (tC (.int 0)))) (tTest (tOp rNe (tOp (rIxL K) (tVar 0) (tVar 1)) (tC (.int 0)))))) [some v, some (.int (i : Int))] H4 (!decide (Few.beforeOf 0 (ns.take i) = 0) && !decide (ns[i] = 0)) := by
      have t0 : EvT (tTest (tOp rGtI (tVar 1) (tC (.int 0)))) [some v, some (.int (i : Int))] H4 (decide (0 < (i : Int))) := et_test (ev_op (ev_var rfl) ev_c rv_I0)
      cases i with
      | zero => exact et_is (et_and (b := false) t0 fun z => by cases z) rfl
      | succ j =>
        have g0 : ns[j]? = some ns[j] := List.getElem?_eq_getElem (by omega)
        rw [before_at (by omega)]
        refine et_is (et_and t0 fun _ => et_and (et_is (et_test (ev_op (ev_ix (j := j) (x_ilv rfl hv4) (ev_op (ev_var rfl) ev_c rv_I0) (by omega) g0) ev_c (rv_ne rfl))) ne_zero) fun _ => et_is (et_test (ev_op at4 ev_c (rv_ne rfl))) ne_zero) ?_
        rw [decide_eq_true (show (0 : Int) < ((j + 1 : Nat) : Int) by omega)]
        rfl
    refine s_when test (fun hb H5 e5 => ?_) (fun hb H5 e5 => ⟨⟨_, rfl, st.1 hb⟩, (e3.trans e4).trans e5⟩)
    have z : Few.neatB ns = false := by
      rw [Few.neat_iff, st.2 hb]
      rfl
    rw [z] at k
    exact s_retV ev_c (k.mono ((((e1.trans e2).trans e3).trans e4).trans e5))
  · rintro σ' H' e2 ⟨u, rfl, ha⟩
    have ha' : Few.apartB ns = true := by
      rw [Int.toNat_natCast, List.take_length] at ha
      exact ha
    rw [Few.neat_by_last ns rfl ha'] at k
    have hv2 := mono_il _ _ _ e2 hv1
    refine s_retV (v := .bl (decide (ns = []) || !decide (Few.beforeOf 0 ns = 0))) ?_ (k.mono (e1.trans e2))
    have first : Ev (tOp rEq (tCB (Evl.rLenS K) (tCons (tVar 0) tNil)) (tC (.int 0))) [some v, u] H' (.bl (decide (ns = []))) := by
      refine ev_is (ev_op (ev_lenX (x_ilv rfl hv2)) ev_c (rv_eq rfl)) ?_
      rw [eq_dec]
      cases ns with
      | nil => rfl
      | cons n r =>
        rw [decide_eq_false (show ¬ (((n :: r).length : Nat) : Int) = 0 by rw [List.length_cons]; omega)]
        simp
    rcases Few.last_cases ns with z | ⟨r, x, z⟩
    · subst z
      exact ev_orV (a := true) first fun z => by cases z
    · subst z
      obtain ⟨a, rfl, hs'⟩ := hv2
      rw [Few.before_snoc]
      exact ev_orV first fun _ => ev_is (ev_op (ev_op (ev_var rfl) (ev_un ev_c ru_neg) (rv_ixL hs' at_last)) ev_c (rv_ne rfl)) (by rw [ne_zero])
theorem ev_neatK {te : TE} {σ : L2.St} {ns : List Int} (h : EvX te σ H (IL K ns)) (hl : Few.Lay ns) (hz : ns.length ≤ 100000) : Ev (tCall (sp_l_neatK K A) [] E (tCons te tNil)) σ H (.bl (Few.neatB ns)) :=
  ev_call1 h fun x H1 e1 hx Q q => ⟨x, ns, rfl, hx, hl, hz, fun H' e => q H' e⟩
end
end Fw

namespace Fw
open PySem PySem.Spec PyProof.Rows L2 Evl
/-! a thing put into a list, things drawn from a list of things -/
section
variable {K : PySem.W.Frag} {A : Ad} {σ : L2.St} {H H' : Hp} {ta : TA} {tb te tx tl : TE} {D : Ends} {tz : TS} {Q : VK} {E : XK}
theorem el_fromV {xs : List V} {n : Nat} {i : Int} (h : EvX te σ H (VL K xs)) (hb : Ev tb σ H (.int i)) (hi : i = (n : Int)) : EvL (tSl (rSlL K) te (tPart tb) tNoPart) σ H (xs.drop n) := fun H1 e Q q =>
  h H1 e _ fun v H2 e2 hv => (eo_some hb) H2 (e.trans e2) _ fun H3 e3 => (eo_none (σ := σ) (H := H)) H3 ((e.trans e2).trans e3) _ fun H4 e4 => by
    obtain ⟨a, rfl, hs⟩ := hv
    refine ⟨a, _, rfl, ex_l (e3.trans e4) hs, fun p hp => q p _ (fresh_back ((e2.trans e3).trans e4) hp) (((e2.trans e3).trans e4).trans (Ex.new hp)) ?_⟩
    rw [upd_same, hi, cut_from]
/-- xs[a:b], some whole numbers of it -/
theorem el_part {ns : List Int} {i j : Int} (h : EvX te σ H (IL K ns)) (ha : Ev tb σ H (.int i)) (hb : Ev tx σ H (.int j)) : ∃ ms : List Int, ms.length ≤ ns.length ∧ EvL (tSl (rSlL K) te (tPart tb) (tPart tx)) σ H (ms.map V.int) := by
  refine ⟨(ns.drop (HT.sIx ns.length 0 (some i))).take (HT.sIx ns.length ns.length (some j) - HT.sIx ns.length 0 (some i)), ?_, fun H1 e Q q => h H1 e _ fun v H2 e2 hv => (eo_some ha) H2 (e.trans e2) _ fun H3 e3 => (eo_some hb) H3 ((e.trans e2).trans e3) _ fun H4 e4 => ?_⟩
  · rw [List.length_take, List.length_drop]
    omega
  · obtain ⟨a', rfl, hs⟩ := hv
    refine ⟨a', _, rfl, ex_l (e3.trans e4) hs, fun p hp => q p _ (fresh_back ((e2.trans e3).trans e4) hp) (((e2.trans e3).trans e4).trans (Ex.new hp)) ?_⟩
    rw [upd_same]
    unfold cutV
    rw [len_mapI, List.map_take, List.map_drop]
/-- xs[:n] + [e] + xs[n:] -/
theorem x_putin {xs : List V} {n : Nat} {i : Int} {P : V → Hp → Prop} (h : EvX te σ H (VL K xs)) (hb : Ev tb σ H (.int i)) (hi : i = (n : Int)) (hx : EvX tx σ H P) (m : Mono P) (hz : xs.length ≤ 30000) :
    EvX (tOp rCat (tOp rCat (tSl (rSlL K) te tNoPart (tPart tb)) (tLst (tCons tx tNil))) (tSl (rSlL K) te (tPart tb) tNoPart)) σ H (fun v H' => ∃ p x, v = .ref p ∧ H p = none ∧ H' p = some (.lst (xs.take n ++ [x] ++ xs.drop n)) ∧ P x H') := fun H1 e Q q =>
  (el_toV h hb hi) H1 e _ fun p1 H2 hp1 e2 hx1 => hx H2 (e.trans e2) _ fun x H3 e3 px => ⟨by show 1 ≤ sizeLine; decide, fun p2 hp2 => by
    have e4 : Ex H3 (upd H3 p2 (.lst [x])) := Ex.new hp2
    have z1 : (xs.take n).length ≤ 30000 := by
      rw [List.length_take]
      omega
    have z2 : (xs.drop n).length ≤ 30000 := by
      rw [List.length_drop]
      omega
    refine ⟨p1, p2, xs.take n, [x], rfl, rfl, e4 _ _ (e3 _ _ hx1), upd_same, sz_of (by show (xs.take n).length + 1 ≤ 100000; omega), fun p3 hp3 => ?_⟩
    have e5 := Ex.new (o := .lst (xs.take n ++ [x])) hp3
    have f5 := (((e.trans e2).trans e3).trans e4).trans e5
    refine (el_fromV h hb hi) _ f5 _ fun p4 H6 hp4 e6 hx4 => ?_
    refine ⟨p3, p4, xs.take n ++ [x], xs.drop n, rfl, rfl, e6 _ _ upd_same, hx4, sz_of (by rw [List.length_append]; show (xs.take n).length + 1 + (xs.drop n).length ≤ 100000; omega), fun p5 hp5 => ?_⟩
    have e7 := Ex.new (o := .lst (xs.take n ++ [x] ++ xs.drop n)) hp5
    exact q _ _ ((((e2.trans e3).trans e4).trans e5).trans (e6.trans e7)) ⟨p5, x, rfl, fresh_back (f5.trans e6) hp5, upd_same, m _ _ _ ((e4.trans e5).trans (e6.trans e7)) px⟩⟩
/-- [a, b, ..][i] of things -/
theorem x_ixTh {ds : List PyData} {d : PyData} {j : Nat} {i : Int} (h : EvX te σ H (ThL K ds)) (hb : Ev tb σ H (.int i)) (hi : i = (j : Int)) (hd : ds[j]? = some d) : EvX (tOp (rIxL K) te tb) σ H (ThP K d) := fun H1 e Q q =>
  h H1 e _ fun v H2 e2 ⟨a, xs, ev, hs, ht⟩ => hb H2 (e.trans e2) _ fun H3 e3 => by
    subst ev
    have hl := ht.length
    have hj : j < xs.length := by
      have := (List.getElem?_eq_some_iff.mp hd).1
      omega
    have hx : xs[j]? = some xs[j] := List.getElem?_eq_getElem hj
    obtain ⟨d', hd', th⟩ := ht.at hx
    rw [hd] at hd'
    cases hd'
    exact ⟨a, xs, i, xs[j], rfl, rfl, ex_l e3 hs, at_of hi hx, q _ H3 (e2.trans e3) (th.mono e3)⟩
theorem dpa_app : ∀ {vs ws : List V} {ds es : List PyData}, DpAll K H vs ds → DpAll K H ws es → DpAll K H (vs ++ ws) (ds ++ es)
  | _, _, _, _, .nil, h => h
  | _, _, _, _, .cons a b, h => .cons a (dpa_app b h)
theorem dpa_mono (e : Ex H H') {vs : List V} {ds : List PyData} (h : DpAll K H vs ds) : DpAll K H' vs ds := dpA_mono e ds vs h
/-- what is told of a thing by an unknown value -/
def RetP (P : V → Hp → Prop) (H : Hp) (Q : VK) : Prop := ∀ v H', Ex H H' → P v H' → Q v H'
theorem RetP.mono {P : V → Hp → Prop} (h : RetP P H Q) (e : Ex H H') : RetP P H' Q := fun v H1 a p => h v H1 (e.trans a) p
theorem s_retP {P : V → Hp → Prop} (h : EvX te σ H P) (k : RetP P H D.rt) : tRet te D σ H := h H (Ex.refl H) _ fun v H1 e p => k v H1 e p
theorem x_weak {P R : V → Hp → Prop} (h : EvX te σ H P) (w : ∀ v H', P v H' → R v H') : EvX te σ H R := fun H1 e Q q => h H1 e Q fun v H2 e2 p => q v H2 e2 (w v H2 p)
/-- a value, whatever it is -/
def AnyV : V → Hp → Prop := fun _ _ => True
theorem any_v {v : V} (h : Ev te σ H v) : EvX te σ H AnyV := fun H1 e Q q => h H1 e Q fun H2 e2 => q v H2 e2 trivial
theorem any_l {xs : List V} (h : EvL te σ H xs) : EvX te σ H AnyV := fun H1 e Q q => h H1 e Q fun p H2 _ e2 _ => q _ H2 e2 trivial
/-! data that can be held beside one another -/
def Flat1 (d : PyData) : Prop := d.canLay0 = true ∧ d.depth ≤ 1
theorem flat_int (i : Int) : Flat1 (.int i) := ⟨rfl, by simp [PyData.depth]⟩
theorem shaped_flat {ds : List PyData} (h : ∀ d ∈ ds, Flat1 d) : SeqAt.shaped (.list ds) = true := by
  have a : ∀ ds : List PyData, (∀ d ∈ ds, Flat1 d) → PyData.canLayAll0 ds = true ∧ PyData.depthAll ds ≤ 1 := by
    intro ds
    induction ds with
    | nil => exact fun _ => ⟨rfl, Nat.zero_le _⟩
    | cons x xs ih =>
      intro h
      obtain ⟨i1, i2⟩ := ih fun y hy => h y (List.mem_cons_of_mem _ hy)
      obtain ⟨x1, x2⟩ := h x List.mem_cons_self
      refine ⟨?_, ?_⟩
      · show (PyData.canLay0 x && PyData.canLayAll0 xs) = true
        rw [i1, x1]
        rfl
      · show max (PyData.depth x) (PyData.depthAll xs) ≤ 1
        omega
  obtain ⟨a1, a2⟩ := a ds h
  have b : PyData.depth (.list ds) ≤ 64 := by
    show PyData.depthAll ds + 1 ≤ 64
    omega
  unfold SeqAt.shaped
  have a' : PyData.canLay0 (.list ds) = true := a1
  rw [a', decide_eq_true b]
  rfl
theorem rv_pow {i j : Int} (h : CPow i j) : RV rPowI (.int i) (.int j) H (.int (i ^ j.toNat)) := rv_I h
theorem rv_mulW {i j : Int} (h : CMulW i j) : RV rMulW (.int i) (.int j) H (.int (i * j)) := rv_I h
theorem ev_ten50 : Ev (tOp rPowI (tC (.int 10)) (tC (.int 50))) σ H (.int (10 ^ 50)) := ev_op ev_c ev_c (rv_pow ⟨by decide, by decide, by decide⟩)
theorem ten50 : ((10 : Int) ^ 50).natAbs < 2 ^ 170 := by decide +kernel
theorem shaped_of {d : PyData} (h : Flat1 d) : SeqAt.shaped d = true := by
  unfold SeqAt.shaped
  rw [h.1, decide_eq_true (Nat.le_trans h.2 (by decide))]
  rfl
end
end Fw

/-! an error that was caught and given another name: it is known behind its except clause -/
namespace Fw
open PySem PySem.Spec PyProof.Rows L2 Evl
/-- at a stands an error of the class cls that was raised and caught -/
def ExK (cls : Value) (a : Addr) : HO := .ext fun h => ∃ (o : Obj) (fs : Array Value), h.get? a = some o ∧ (o.cls = cls ∧ o.dict = none) ∧ o.data = .fields fs
section
variable {X : Cx} {pins : List (Addr × Obj)} {σ : L2.St} {H : Hp} {s sI : Shared} {B : Heap} {a : Addr} {cls : Value}
/-- from now on the heap tells of a thing that nobody knew at the entry -/
theorem Known.track {u : HO} (I : Inv X pins σ H s) (old : X.s_0.heap.get? a = none) (fr : X.env.locals ≠ a) (cl : ∀ x c, X.env.cells.lookup x = some c → c ≠ a) (pn : ∀ p ∈ X.pn ++ pins, p.1 ≠ a) (no : H a = none)
    (ok : ObjOk X.prog X.w (upd H a u) s.heap a u) : Inv X pins σ (upd H a u) s where
  ok := I.ok
  os := I.os
  bare := I.bare
  loc := I.loc
  cell := I.cell
  len := I.len
  free := (upd_ne fr).trans I.free
  freeC := fun x c h => (upd_ne (cl x c h)).trans (I.freeC x c h)
  pin := fun p hp => by
    have ⟨h1, h2, h3⟩ := I.pin p hp
    exact ⟨h1, (upd_ne (pn p hp)).trans h2, h3⟩
  hok := fun b v hv => by
    by_cases h : b = a
    · subst h
      cases upd_same.symm.trans hv
      exact ok
    · exact (I.hok b v ((upd_ne h).symm.trans hv)).stay (fun _ _ _ e => e) (fun c e => (upd_ne (ne_of_none e no)).trans e) (fun c _ e => (upd_ne (ne_of_none e no)).trans e)
  base :=
    { keep := I.base.keep
      slot := I.base.slot
      there := I.base.there
      free := fun b v hv hn hx => (upd_ne (fun z => by rw [z, old] at hv; cases hv)).trans (I.base.free b v hv hn hx)
      tups := fun b xs hv => (upd_ne (ne_of_none (I.base.tups b xs hv) no)).trans (I.base.tups b xs hv)
      frzs := fun b v w hv => (upd_ne (ne_of_none (I.base.frzs b v w hv) no)).trans (I.base.frzs b v w hv)
      tbls := fun b ps hv => (I.base.tbls b ps hv).imp fun m hm => (upd_ne (ne_of_none hm no)).trans hm }
/-- an error in the air over the ground B, sI the state without it -/
structure Fallen (X : Cx) (pins : List (Addr × Obj)) (B : Heap) (sI : Shared) (a : Addr) (σ : L2.St) (H : Hp) (cls : Value) (s : Shared) : Prop where
  inv : Inv X pins σ H sI
  ground : ∀ b o, sI.heap.get? b = some o → b ∉ frs X.stack → B.get? b = some o
  slots : sI.heap.UpToSlots s.heap
  fly : HandSPX.FlyingZ B X.stack a (Zc cls none) s.heap
  none_ : H a = none
  os : s.os = sI.os
  gens : AllBare s.gens
namespace Fallen
variable (F : Fallen X pins B sI a σ H cls s)
include F
theorem here : Inv X pins σ H s := F.inv.landed F.ground F.fly.1 F.slots F.os F.gens
theorem obj : ∃ o, s.heap.get? a = some o ∧ Zc cls none o ∧ ∃ fs, o.data = .fields fs := by
  have ⟨o, fs, h1, h2, h3⟩ := F.fly.there
  exact ⟨o, h1, h2, fs, h3⟩
theorem off : a ∉ frs X.stack := fun m => by
  have ⟨o, h1, _, fs, h3⟩ := F.obj
  have ⟨_, u, hu, no⟩ := F.fly.2.2.1.mem m
  cases h1.symm.trans hu
  exact no fs h3
theorem unmet : sI.heap.get? a = none := by
  rcases h : sI.heap.get? a with _ | o
  · rfl
  · cases F.fly.2.1.symm.trans (F.ground a o h F.off)
theorem old (hx : X.ex = []) : X.s_0.heap.get? a = none := by
  rcases h : X.s_0.heap.get? a with _ | o
  · rfl
  · obtain ⟨u, hu⟩ := F.inv.base.there a o h (by rw [hx]; exact List.not_mem_nil)
    cases F.unmet.symm.trans hu
theorem cells (x : Str) (c : Addr) (h : X.env.cells.lookup x = some c) : c ≠ a := fun z => by
  obtain ⟨v, o, ho, _⟩ := F.inv.cell x c h
  subst z
  cases F.unmet.symm.trans ho
theorem pinned (p : Addr × Obj) (hp : p ∈ X.pn ++ pins) : p.1 ≠ a := fun z => by
  have h := (F.inv.pin p hp).1
  rw [z] at h
  cases F.unmet.symm.trans h
theorem frame (hs : X.stack = X.env :: X.outer) (hf : X.env.frame = some X.env.locals) : X.env.locals ≠ a := fun z => F.off (by
  rw [hs]
  exact List.mem_filterMap.mpr ⟨X.env, List.mem_cons_self, by rw [hf, z]⟩)
theorem outer (hs : X.stack = X.env :: X.outer) : a ∉ X.fs := fun m => F.off (by
  obtain ⟨e, he, q⟩ := List.mem_filterMap.mp m
  rw [hs]
  exact List.mem_filterMap.mpr ⟨e, List.mem_cons_of_mem _ he, q⟩)
/-- it moves on, all else as it was -/
theorem onward {h : Heap} (fl : HandSPX.FlyingZ B X.stack a (Zc cls none) h) (up : s.heap.UpToSlots h) : Fallen X pins B sI a σ H cls { s with heap := h } :=
  ⟨F.inv, F.ground, F.slots.trans up, fl, F.none_, F.os, F.gens⟩
/-- in the except suite it is pinned -/
theorem suite (hs : X.stack = X.env :: X.outer) (hf : X.env.frame = some X.env.locals) : ∃ o, s.heap.get? a = some o ∧ Zc cls none o ∧ (∃ fs, o.data = .fields fs) ∧ Inv (X.suite a ((a, o) :: (X.pn ++ pins))) [] σ H s := by
  have ⟨o, h1, h2, fs, h3⟩ := F.obj
  exact ⟨o, h1, h2, ⟨fs, h3⟩, F.here.suite h1 h3 F.none_ (F.frame hs hf).symm (F.outer hs)⟩
/-- behind the suite it is known -/
theorem behind {o : Obj} {σ2 : L2.St} {H2 : Hp} {s2 : Shared} (hs : X.stack = X.env :: X.outer) (hf : X.env.frame = some X.env.locals) (hx : X.ex = []) (z : Zc cls none o) (d : ∃ fs, o.data = .fields fs) (J : Inv (X.suite a ((a, o) :: (X.pn ++ pins))) [] σ2 H2 s2) :
    H2 a = none ∧ Inv X pins σ2 (upd H2 a (ExK cls a)) s2 := by
  have ⟨g, n, _⟩ := J.pin (a, o) (List.mem_append_left _ List.mem_cons_self)
  obtain ⟨fs, d⟩ := d
  exact ⟨n, Known.track (J.unsuite F.inv.ok) (F.old hx) (F.frame hs hf) F.cells F.pinned n ⟨⟨o, fs, g, z, d⟩, ⟨o, g⟩, fun _ _ ⟨v, gs, h1, h2⟩ k => ⟨v, gs, k v h1, h2⟩⟩⟩
end Fallen
/-- what 'except C as n: suite' wants of an error: it is of the class; the suite runs through to its end -/
def wKeep (K : PySem.W.Frag) (c : Value) (i : Nat) (ts : Addr → TS) (D : Ends) : WX := fun cls d σ H =>
  PySem.W.exmOne K cls c = some true ∧ d = none ∧ ∀ a, H a = none → ts a ⟨fun σ2 H2 => H2 a = none → D.nx (σ2.set i none) (upd H2 a (ExK cls a)), fun _ _ => False, fun _ _ => False, fun _ _ => False⟩ (σ.set i (some (.ref a))) H
theorem ps_try_keep {x n : Str} {c : Value} {i : Nat} {body suite : List Stmt} {b₀ : Stmt} {np pos pos' : Pos} {tb : WX → TS} {ts : Addr → TS} (hs : X.stack = X.env :: X.outer) (hf : X.env.frame = some X.env.locals) (hx : X.ex = []) (hN : X.N.Nodup) (hi : X.N[i]? = some n) (hn : X.env.kindOf n = some .local)
    (hg : Gl X x) (hd : (x == ("__debug__" : Str)) = false) (hm : X.mg x = some c)
    (hb : ∀ W pn xe, Takes (X.tr pn xe) W → PassesOwn (model X.prog X.w) X.A X.env xe → PSs (X.tr pn xe) body (tb W))
    (ht : ∀ (a : Addr) (o : Obj) (pn : List (Addr × Obj)), PSs (X.suite a ((a, o) :: pn)) (b₀ :: suite) (ts a)) :
    PS X (.Try body [.ExceptHandler (some (.Name x np)) (some n) (b₀ :: suite) pos'] [] [] pos) (fun D σ H => tb (wKeep X.K c i ts D) D σ H) := by
  constructor
  intro pins s σ H D I h
  refine wpAny_Try_except (wpAny_mono ((hb (wKeep X.K c i ts D) (X.pn ++ pins) _ (fun u s1 air => ?air) PassesOwn.looking).run [] s σ H D (I.toTry _) h) (fun f s1 r => ?thru) fun _ _ z => z)
  case thru =>
    cases f
    case next => exact wpAny_execs_nil (r.imp fun _ ⟨H1, J, q⟩ => ⟨H1, J.ofTry I.ok, q⟩)
    case brk => exact r.imp fun _ ⟨H1, J, q⟩ => ⟨H1, J.ofTry I.ok, q⟩
    case cont => exact r.imp fun _ ⟨H1, J, q⟩ => ⟨H1, J.ofTry I.ok, q⟩
    case ret => exact r.imp fun _ ⟨σ1, H1, J, q⟩ => ⟨σ1, H1, J.ofTry I.ok, q⟩
  case air =>
    obtain ⟨a, B, sI, _, σ1, H1, cls, _, rfl, J, gr, up, sky, na, os, ag, hit, rfl, go⟩ := air
    have J1 : Inv X pins σ1 H1 sI := J.ofTry I.ok
    change wpAny _ X.A (noteFrame (.ref a) X.env) _ _ _
    refine Sky.land (L := X.env.locals) Zc.steady (I.ok.frames.trans (congrArg some hs)) hf (hs ▸ sky) fun h3 fl3 up3 => ?_
    have F3 : Fallen X pins B sI a σ1 H1 cls { s1 with heap := h3 } := ⟨J1, gr, up.trans up3, by rw [hs]; exact fl3, na, os, ag⟩
    obtain ⟨o3, g3, z3, _, S3⟩ := F3.suite hs hf
    refine wpAny_handleBy_cons (codeAny_handlers_test (ld_glob (X := X.suite a ((a, o3) :: (X.pn ++ pins))) S3 hg hm ?_ hd)) (fun z => nomatch z)
    have ty : PySem.W.Looks (model X.prog X.w) h3 (typeOf (.ref a)) cls := fun _ _ _ _ k q => wpAny_typeOf_ref (k _ _ g3) (by rw [z3.1]; exact q)
    refine (PySem.W.exm_one (M := model X.prog X.w) F3.here.kIn ty hit).here (codeAny_handlers_suite_as (HandSPX.lands_againZ (hs ▸ F3.fly) fun h4 fl4 up4 => ?_))
    have F4 : Fallen X pins B sI a σ1 H1 cls { s1 with heap := h4 } := F3.onward (by rw [hs]; exact fl4) up4
    obtain ⟨o, _, z, dt, S4⟩ := F4.suite hs hf
    refine store_ok (X := X.suite a ((a, o) :: (X.pn ++ pins))) (v := .ref a) S4 hN hi (.inl hn) rfl (fun s5 S5 => ?_) (.inr hn)
    refine wpAny_mono ((ht a o (X.pn ++ pins)).run [] s5 _ H1 _ S5 (go a na)) (fun f s6 r => ?_) (fun _ _ z => z.elim)
    cases f
    case next =>
      obtain ⟨σ6, H6, S6, q⟩ := r
      obtain ⟨n6, J6⟩ := F4.behind hs hf hx z dt S6
      exact gone_ok J6 hN hi hn fun s7 J7 => ⟨_, _, J7, q n6⟩
    case brk => exact r.elim fun _ ⟨_, _, q⟩ => q.elim
    case cont => exact r.elim fun _ ⟨_, _, q⟩ => q.elim
    case ret => exact r.elim fun _ ⟨_, _, _, _, q⟩ => q.elim
end
/-- isinstance(x, c) of an error that is known -/
def rIsK (K : PySem.W.Frag) : List V → Hp → VK → Prop := fun xs H Q => ∃ (a D : Addr) (c : V) (cv : Value) (b : Bool), xs = [.ref a, c] ∧ H a = some (ExK (.ref D) a) ∧ ExcC K D ∧ (∀ u, RelV c u → u = cv) ∧ PySem.W.kitOne K (.ref D) cv = some b ∧ Q (.bl b) H
theorem call_isK {X : Cx} : CallR X (.builtin "isinstance") (rIsK X.K) := fun pins s σ H xs us Q I r h => by
  obtain ⟨a, D, c, cv, b, rfl, ha, C, hc, hk, q⟩ := h
  obtain ⟨⟨o, fs, g, ⟨oc, od⟩, dt⟩, _⟩ := I.hok a _ ha
  match us, r with
  | [u, w], .cons ru (.cons rw_ .nil) =>
    cases ru
    cases hc w rw_
    have at_ : PySem.W.InstAt s.heap a o D none := by
      rcases o with ⟨c1, c2, c3, c4⟩
      cases oc
      cases od
      cases dt
      exact ⟨g, rfl, rfl, trivial⟩
    exact PySem.W.kia_one (PySem.W.handS_kitx_exc C.hg C.hk C.hs C.hd C.ha C.hn C.ht C.hm) I.kIn at_ hk (fun z => nomatch z) fun t => ⟨.bl b, H, I.kept (t' := t) fun _ _ e => e, rfl, q⟩
def tTryK (K : PySem.W.Frag) (S : Addr) (i : Nat) (tb : WX → TS) (ts : Addr → TS) : TS := fun D σ H => tb (wKeep K (.ref S) i ts D) D σ H
section
variable {K : PySem.W.Frag} {A : Ad} {σ : L2.St} {H H' : Hp} {ta : TA} {tb te tx : TE} {D : Ends} {tz : TS}
/-- 'except S as e: x = e', met by an error of the class at C -/
theorem keep_go {C S : Addr} {i j : Nat} {σ : L2.St} (ht : PySem.W.exmOne K (.ref C) (.ref S) = some true) (hi : i < σ.length) (hij : i ≠ j) (k : ∀ a H1, Ex H H1 → H1 a = some (ExK (.ref C) a) → D.nx ((σ.set i none).set j (some (.ref a))) H1) :
    wKeep K (.ref S) i (fun _ => tAsg (tVar i) (gName j)) D (.ref C) none σ H := ⟨ht, rfl, fun a ha => s_asg (v := .ref a) (ev_var (List.getElem?_set_self hi)) fun H1 e1 hn => by
  have e : ((σ.set i (some (V.ref a))).set j (some (V.ref a))).set i none = (σ.set i none).set j (some (V.ref a)) := by
    rw [List.set_comm _ _ (Ne.symm hij), List.set_set]
  rw [e]
  exact k a _ (e1.trans (Ex.new hn)) upd_same⟩
/-- a call in the body of such a try that raises -/
theorem drop_raise {C : Addr} {W : WX} {sp : Sp} {xs : List V} (h : EvA ta σ H xs) (hs : ∀ H1, Ex H H1 → ∀ (Q : VK) (E : XK), RaiseE E C H1 → sp xs H1 Q E) (k : ∀ H1, Ex H H1 → W (.ref C) none σ H1) : tDrop (tCallS sp (WE W) ta) D σ H :=
  h H (Ex.refl H) _ fun H1 e1 => hs H1 e1 _ _ fun H2 e2 => k H2 (e1.trans e2)
theorem drop_raiseD {C : Addr} {W : WX} {sp : Sp} {xs dvs : List V} (h : EvA ta σ H xs) (hs : ∀ H1, Ex H H1 → ∀ (Q : VK) (E : XK), RaiseE E C H1 → sp (xs ++ dvs) H1 Q E) (k : ∀ H1, Ex H H1 → W (.ref C) none σ H1) : tDrop (tCallSD sp dvs (WE W) ta) D σ H :=
  h H (Ex.refl H) _ fun H1 e1 => hs H1 e1 _ _ fun H2 e2 => k H2 (e1.trans e2)
theorem ev_isK {C a : Addr} {i : Nat} {n : String} {b : Bool} (h : σ[i]? = some (some (.ref a))) (ha : H a = some (ExK (.ref C) a)) (xc : ExcC K C) (hk : PySem.W.kitOne K (.ref C) (.type n) = some b) : Ev (tCB (rIsK K) (tCons (tVar i) (tCons (tC (.ty n)) tNil))) σ H (.bl b) :=
  ev_cb (ea_cons (ev_var h) (ea_cons ev_c ea_nil)) fun H1 e Q q => ⟨a, C, .ty n, .type n, b, rfl, e _ _ ha, xc, (fun u r => r), hk, q H1 (Ex.refl H1)⟩
theorem ev_isKC {C a c : Addr} {i : Nat} {b : Bool} (h : σ[i]? = some (some (.ref a))) (ha : H a = some (ExK (.ref C) a)) (xc : ExcC K C) (hk : PySem.W.kitOne K (.ref C) (.ref c) = some b) : Ev (tCB (rIsK K) (tCons (tVar i) (tCons (tC (.ref c)) tNil))) σ H (.bl b) :=
  ev_cb (ea_cons (ev_var h) (ea_cons ev_c ea_nil)) fun H1 e Q q => ⟨a, C, .ref c, .ref c, b, rfl, e _ _ ha, xc, (fun u r => r), hk, q H1 (Ex.refl H1)⟩
end
end Fw

/-! the scale -/
namespace Fw
open PySem PySem.Spec PyProof.Rows L2 Evl
/-- all but what M names stands as it was -/
def But (M : List Addr) (H H' : Hp) : Prop := ∀ a o, a ∉ M → H a = some o → H' a = some o
section
variable {M M' : List Addr} {H H' H1 H2 : Hp} {a : Addr} {o : HO}
theorem But.ex (e : Ex H H') : But M H H' := fun a o _ h => e a o h
theorem But.trans (h : But M H H1) (h2 : But M H1 H2) : But M H H2 := fun a o n e => h2 a o n (h a o n e)
theorem But.sub (h : But M H H') (s : ∀ a ∈ M, a ∈ M') : But M' H H' := fun a o n e => h a o (fun z => n (s a z)) e
theorem But.put (h : But M H H') (m : a ∈ M) : But M H (upd H' a o) := fun b u n e => by
  rw [upd_ne (fun z => n (by rw [z]; exact m))]
  exact h b u n e
theorem But.ext (h : But M H H1) (e : Ex H1 H2) : But M H H2 := fun a o n z => e a o (h a o n z)
theorem But.pre (e : Ex H H1) (h : But M H1 H2) : But M H H2 := fun a o n z => h a o n (e a o z)
theorem But.nil (h : But [] H H') : Ex H H' := fun a o z => h a o (fun q => by cases q) z
/-- what was not there may be changed -/
theorem But.putN (h : But M H H') (m : H a = none) : But M H (upd H' a o) := fun b u n e => by
  rw [upd_ne (ne_of_none e m)]
  exact h b u n e
end
/-- at how many places two layings are unlike -/
def movedTo (n : Nat) (xs ys : List Int) : Nat := ((List.range n).filter fun k => !decide (cellAt xs k = cellAt ys k)).length
def movedOf (xs ys : List Int) : Nat := movedTo (max xs.length ys.length) xs ys
theorem movedTo_succ (n : Nat) (xs ys : List Int) : movedTo (n + 1) xs ys = movedTo n xs ys + if cellAt xs n = cellAt ys n then 0 else 1 := by
  unfold movedTo
  rw [List.range_succ, List.filter_append, List.length_append]
  by_cases h : cellAt xs n = cellAt ys n
  · simp [h]
  · simp [h]
theorem moved_self (xs : List Int) : movedOf xs xs = 0 := by
  unfold movedOf movedTo
  rw [List.length_eq_zero_iff, List.filter_eq_nil_iff]
  intro k _
  simp
theorem max_int (i j : Nat) : (if (j : Int) > (i : Int) then (j : Int) else (i : Int)) = ((max i j : Nat) : Int) := by
  split <;> omega
section
variable {K : PySem.W.Frag} {A : Ad} {vs : List V} {H H' : Hp} {Q : VK} {E : XK}
/-! thing_at, moved -/
def sp_thing_at (K : PySem.W.Frag) (A : Ad) : Sp := sp_l_cell_at K A
def t_thing_at (K : PySem.W.Frag) (A : Ad) : TS :=
  (tSeq (tIfS (tTest (tOp rLtI (tVar 1) (tCB (Evl.rLenS K) (tCons (tVar 0) tNil)))) (tRet (tOp (rIxL K) (tVar 0) (tVar 1))) tNext)
    (tRet (tC (.int 0))))
theorem r_thing_at (h : sp_thing_at K A vs H Q E) : t_thing_at K A (D0 Q) (start ["laying", "place"] vs) H := r_l_cell_at h
theorem ev_thing {te tx : TE} {σ : L2.St} {ns : List Int} {k : Nat} {i : Int} (h : EvX te σ H (IL K ns)) (h2 : Ev tx σ H (.int i)) (hi : i = (k : Int)) : Ev (tCall (sp_thing_at K A) [] E (tCons te (tCons tx tNil))) σ H (.int (cellAt ns k)) := ev_cell h h2 hi
def sp_moved (K : PySem.W.Frag) (A : Ad) : Sp := fun vs H Q _ => ∃ v w xs ys, vs = [v, w] ∧ IL K xs v H ∧ IL K ys w H ∧ xs.length ≤ 50000 ∧ ys.length ≤ 50000 ∧ RetV (.int (movedOf xs ys : Nat)) H Q
def t_moved (K : PySem.W.Frag) (A : Ad) : TS :=
  (tSeq (tAsg (tC (.int 0)) (gName 2))
    (tSeq (tFor (iRng1 (tCons (tCB Evl.rMax2 (tCons (tCB (Evl.rLenS K) (tCons (tVar 0) tNil)) (tCons (tCB (Evl.rLenS K) (tCons (tVar 1) tNil)) tNil))) tNil)) (gName 3) (tIfS (tTest (tOp rNe (tCall (sp_thing_at K A) [] E0 (tCons (tVar 0) (tCons (tVar 3) tNil))) (tCall (sp_thing_at K A) [] E0 (tCons (tVar 1) (tCons (tVar 3) tNil))))) (tAug 2 (tC (.int 1)) (ipI fun i j => i + j)) tNext))
    (tRet (tVar 2))))
theorem r_moved (h : sp_moved K A vs H Q E) : t_moved K A (D0 Q) (start ["one", "other", "many", "place"] vs) H := by
  obtain ⟨v, w, xs, ys, rfl, hv, hw, zx, zy, k⟩ := h
  refine q_asg ev_c fun H1 e1 => ?_
  have hv1 := mono_il _ _ _ e1 hv
  have hw1 := mono_il _ _ _ e1 hw
  refine q_forRgP (n := ((max xs.length ys.length : Nat) : Int)) (ea_cons (ev_is (ev_max2 (ev_lenX (x_ilv rfl hv1)) (ev_lenX (x_ilv rfl hw1))) (by rw [max_int])) ea_nil) ⟨by omega, by omega⟩ (fun i σ' => ∃ u, σ' = [some v, some w, some (.int (movedTo i xs ys : Nat)), u]) ⟨none, rfl⟩ ?_ ?_
  · rintro H2 i σ' H' e2 e3 hi ⟨u, rfl⟩
    have hv2 := mono_il _ _ _ (e2.trans e3) hv1
    have hw2 := mono_il _ _ _ (e2.trans e3) hw1
    have st := movedTo_succ i xs ys
    refine s_when (b := !decide (cellAt xs i = cellAt ys i)) (et_is (et_test (ev_op (ev_thing (k := i) (x_ilv rfl hv2) (ev_var rfl) rfl) (ev_thing (k := i) (x_ilv rfl hw2) (ev_var rfl) rfl) (rv_ne rfl))) (by rw [eq_dec])) (fun hb H4 e4 => ?_) (fun hb H4 e4 => ?_)
    · have z : ¬ cellAt xs i = cellAt ys i := by simpa using hb
      rw [if_neg z] at st
      refine s_aug rfl ev_c fun H5 e5 => ⟨⟨some (.int (i : Int)), ?_⟩, (e3.trans e4).trans e5⟩
      rw [st]
      rfl
    · have z : cellAt xs i = cellAt ys i := by simpa using hb
      rw [if_pos z] at st
      refine ⟨⟨some (.int (i : Int)), ?_⟩, e3.trans e4⟩
      rw [st]
      rfl
  · rintro σ' H' e2 ⟨u, rfl⟩
    rw [Int.toNat_natCast]
    exact s_retV (ev_var rfl) (k.mono (e1.trans e2))
theorem ev_moved {te tx : TE} {σ : L2.St} {xs ys : List Int} (h : EvX te σ H (IL K xs)) (h2 : EvX tx σ H (IL K ys)) (zx : xs.length ≤ 50000) (zy : ys.length ≤ 50000) : Ev (tCall (sp_moved K A) [] E (tCons te (tCons tx tNil))) σ H (.int (movedOf xs ys : Nat)) :=
  ev_call2 h mono_il h2 fun x y H1 e1 hx hy Q q => ⟨x, y, xs, ys, rfl, hx, hy, zx, zy, fun H' e => q H' e⟩
/-! ### methods that may raise, in a try -/
def tMethW (C : Addr) (m : Str) (sp : Sp) (E : L2.St → XK) (ta : TE) (t : TA) : TE := fun σ H Q => ta σ H fun x H1 => ∃ a dx fs, (x = .ref a ∧ H1 a = some (.ins C dx fs) ∧ fs.lookup m = none) ∧ t σ H1 fun us H2 => sp (x :: us) H2 Q (E σ)
section
variable {X : Cx} {CX : CXT} {k : Nat} {f C : Addr} {fd : FuncData} {ps : List Str} {sp : Sp} {F : L2.St → XK} {m : Str} {apos pos : Pos} {e o : Expr} {es : List Expr} {ta : TE} {t : TA} {pl : Sem Bool}
/-- how a call of a method is read by the machine -/
def MethGo (X : Cx) (o : Expr) (m : Str) (pl : Sem Bool) (args : List Expr) (pos : Pos) (c : Expr) : Prop := ∀ {Q : Value → Shared → Prop} {s : Shared}, wpAny (model X.prog X.w) X.A (eval o X.env) (fun v s1 => wpAny (model X.prog X.w) X.A (getMethod v m pl) (fun g s2 => wpAny (model X.prog X.w) X.A (callWith pos g.1 g.2 (backTo pos (starEach args X.env)) (backToKw pos (keywordEach [] X.env))) Q X.xe s2) X.xe s1) X.xe s → wpAny (model X.prog X.w) X.A (eval c X.env) Q X.xe s
theorem pe_methW (ho : PE X o ta) (hc : Cls X.K C) (hm : Meth X.K C m f) (G : FnOk X.prog X.w X.K X.mg X.base CX k f fd ps sp) (rm : Room k X.A) (bd : Binds X.K fd ps []) (pa : ∀ σ, PassesAt CX X σ (F σ)) (args : PA X (e :: es) t) (go : MethGo X o m pl (e :: es) pos (.Call (.Attribute o m apos) (e :: es) [] pos))
    (t1 : starEach (e :: es) X.env = (false, eval e X.env) :: starEach es X.env := by rfl) (t2 : (backTo pos (starEach es X.env)).any (·.1) = false := by rfl) : PE X (.Call (.Attribute o m apos) (e :: es) [] pos) (tMethW C m sp F ta t) :=
  ⟨fun pins s σ H Q I h => go (thn (ho.run pins s σ H _ I h) fun u s1 ⟨x, H1, I1, rx, a, dx, fs, ⟨ex, ea, el⟩, q⟩ => by
    cases ex
    cases rx
    refine getmeth_ok I1 ea hc hm el (PySem.W.callWith_K (first := [.ref a]) (h₀ := X.base) I.ok.mod.kin hm.kp (thn (args.run pos pins s1 σ H1 _ I1 q) fun us s2 ⟨ws, H2, I2, rv, q2⟩ => ⟨I2.kIn, ?_⟩) t1 t2)
    exact run_fnS (us := .ref a :: us) (vs := .ref a :: ws) G rm bd (pa σ) I2 (.cons rfl rv) q2)⟩
theorem pe_methW0 (ho : PE X o ta) (hc : Cls X.K C) (hm : Meth X.K C m f) (G : FnOk X.prog X.w X.K X.mg X.base CX k f fd ps sp) (rm : Room k X.A) (bd : Binds X.K fd ps []) (pa : ∀ σ, PassesAt CX X σ (F σ)) (go : MethGo X o m pl [] pos (.Call (.Attribute o m apos) [] [] pos)) : PE X (.Call (.Attribute o m apos) [] [] pos) (tMethW C m sp F ta tNil) :=
  ⟨fun pins s σ H Q I h => go (thn (ho.run pins s σ H _ I h) fun u s1 ⟨x, H1, I1, rx, a, dx, fs, ⟨ex, ea, el⟩, q⟩ => by
    cases ex
    cases rx
    exact getmeth_ok I1 ea hc hm el (PySem.W.callWith_K0 (first := [.ref a]) I1.kIn hm.kp (run_fnS (us := [.ref a]) (vs := [.ref a]) G rm bd (pa σ) I1 (.cons rfl .nil) q)))⟩
end
/-! ### the class -/
structure ScaleOk (K : PySem.W.Frag) (A : Ad) : Prop where
  cl : Cls K A.scale
  n1 : NoAttr K A.scale "load"
  n2 : NoAttr K A.scale "loads"
def fsOf (L : Int) (l : Addr) : List (Str × V) := [("load", .int L), ("loads", .ref l)]
theorem l_ne : (("loads" : Str) == "load") = false := by decide +kernel
theorem l_ne2 : ¬ (("load" : Str) = "loads") := by decide +kernel
theorem fs_load (L : Int) (l : Addr) : (fsOf L l).lookup ("load" : Str) = some (.int L) := by
  unfold fsOf
  rw [List.lookup_cons_self]
theorem fs_loads (L : Int) (l : Addr) : (fsOf L l).lookup ("loads" : Str) = some (.ref l) := by
  unfold fsOf
  rw [List.lookup_cons, l_ne, List.lookup_cons_self]
theorem fs_none (L : Int) (l : Addr) {m : Str} (h1 : (m == "load") = false) (h2 : (m == "loads") = false) : (fsOf L l).lookup m = none := by
  unfold fsOf
  rw [List.lookup_cons, h1, List.lookup_cons, h2]
  rfl
theorem fs_put (L n : Int) (l : Addr) : putF "load" (.int n) (fsOf L l) = fsOf n l := by
  show (if ("load" : Str) = "load" then _ else _) = _
  rw [if_pos rfl]
  rfl
theorem fs_new (l : Addr) : putF "loads" (.ref l) (putF "load" (.int 0) []) = fsOf 0 l := by
  show (if ("load" : Str) = "loads" then _ else _) = _
  rw [if_neg l_ne2]
  rfl
theorem no_pans : (("pans" : Str) == "load") = false ∧ (("pans" : Str) == "loads") = false := by decide +kernel
theorem no_weighs : (("weighs" : Str) == "load") = false ∧ (("weighs" : Str) == "loads") = false := by decide +kernel
theorem no_lay : (("lay" : Str) == "load") = false ∧ (("lay" : Str) == "loads") = false := by decide +kernel
theorem no_back : (("back" : Str) == "load") = false ∧ (("back" : Str) == "loads") = false := by decide +kernel
theorem no_come : (("come_to" : Str) == "load") = false ∧ (("come_to" : Str) == "loads") = false := by decide +kernel
section
variable {σ : L2.St} {te tx : TE} {s l dx : Addr} {L : Int} {D : Ends} {tz : TS}
theorem ev_load (S : ScaleOk K A) (h : Ev te σ H (.ref s)) (hs : H s = some (.ins A.scale dx (fsOf L l))) : Ev (tFld K te "load") σ H (.int L) := fun H1 e Q q => h H1 e _ fun H2 e2 => ⟨s, A.scale, dx, _, _, rfl, e2 _ _ (e _ _ hs), S.cl, S.n1, fs_load L l, q H2 e2⟩
theorem ev_loads (S : ScaleOk K A) (h : Ev te σ H (.ref s)) (hs : H s = some (.ins A.scale dx (fsOf L l))) : Ev (tFld K te "loads") σ H (.ref l) := fun H1 e Q q => h H1 e _ fun H2 e2 => ⟨s, A.scale, dx, _, _, rfl, e2 _ _ (e _ _ hs), S.cl, S.n2, fs_loads L l, q H2 e2⟩
end
/-- a scale at s, its loads' list at l -/
def ScAt (A : Ad) (s l : Addr) (ls : List Int) (H : Hp) : Prop := (∃ dx, H s = some (.ins A.scale dx (fsOf ls.sum l))) ∧ H l = some (.lst (ls.map V.int))
theorem ScAt.ex {s l : Addr} {ls : List Int} (h : ScAt A s l ls H) (e : Ex H H') : ScAt A s l ls H' := ⟨h.1.imp fun _ z => e _ _ z, e _ _ h.2⟩
theorem ScAt.but {M : List Addr} {s l : Addr} {ls : List Int} (h : ScAt A s l ls H) (e : But M H H') (h1 : s ∉ M) (h2 : l ∉ M) : ScAt A s l ls H' := ⟨h.1.imp fun _ z => e _ _ h1 z, e _ _ h2 h.2⟩
theorem ScAt.ne {s l : Addr} {ls : List Int} (h : ScAt A s l ls H) : s ≠ l := by
  obtain ⟨⟨dx, h1⟩, h2⟩ := h
  exact ne_of h1 h2 (by intro z; cases z)
/-- bounds -/
def Bd (ls : List Int) : Prop := ls.length ≤ 100 ∧ ∀ n ∈ ls, n.natAbs < 2 ^ 330
theorem sum_le : ∀ ls : List Int, (∀ n ∈ ls, n.natAbs < 2 ^ 330) → ls.sum.natAbs ≤ ls.length * 2 ^ 330
  | [], _ => by simp
  | x :: r, h => by
    have ih := sum_le r fun n hn => h n (List.mem_cons_of_mem _ hn)
    have hx := h x List.mem_cons_self
    rw [List.sum_cons, List.length_cons, Nat.succ_mul]
    generalize (2 : Nat) ^ 330 = M at ih hx
    generalize r.length * M = N at ih
    omega
theorem Bd.laid {ls : List Int} (h : Bd ls) : (Few.laid ls.sum).length ≤ 400 := by
  have b := sum_le ls h.2
  have c : ls.length * 2 ^ 330 ≤ 100 * 2 ^ 330 := Nat.mul_le_mul_right _ h.1
  have d : (100 : Nat) * 2 ^ 330 < 2 ^ 337 := by decide +kernel
  have := Few.laid_len 337 ls.sum (by omega)
  omega
theorem Bd.take {ls : List Int} (h : Bd ls) (n : Nat) : Bd (ls.take n) := ⟨by rw [List.length_take]; have := h.1; omega, fun x hx => h.2 x (List.mem_of_mem_take hx)⟩
theorem sum_snoc (ls : List Int) (n : Int) : (ls ++ [n]).sum = ls.sum + n := by
  rw [List.sum_append, List.sum_cons, List.sum_nil, Int.add_zero]
/-! ### its defs -/
def sp_Scale_init (K : PySem.W.Frag) (A : Ad) : Sp := fun vs H Q _ => ∃ s dx : Addr, vs = [.ref s] ∧ H s = some (.ins A.scale dx []) ∧ ∀ l H', H l = none → But [s] H H' → ScAt A s l [] H' → Q .non H'
def t_Scale_init (K : PySem.W.Frag) (A : Ad) : TS :=
  (tSeq (sFld K (tVar 0) (tC (.int 0)) "load")
    (sFld K (tVar 0) (tLst tNil) "loads"))
theorem r_Scale_init (S : ScaleOk K A) (h : sp_Scale_init K A vs H Q E) : t_Scale_init K A (D0 Q) (start ["self"] vs) H := by
  obtain ⟨s, dx, rfl, hs, k⟩ := h
  refine ⟨_, rfl, s, A.scale, dx, [], rfl, hs, S.cl, S.n1, by decide, ?_⟩
  refine ⟨by show 0 ≤ sizeLine; decide, fun l hl => ?_⟩
  have ne : s ≠ l := ne_of_none upd_same hl
  have hl0 : H l = none := by rw [upd_ne (Ne.symm ne)] at hl; exact hl
  refine ⟨_, rfl, s, A.scale, dx, _, rfl, by rw [upd_ne ne]; exact upd_same, S.cl, S.n2, by show 1 < 1000; decide, ?_⟩
  rw [fs_new]
  refine k l _ hl0 ?_ ⟨⟨dx, upd_same⟩, by rw [upd_ne (Ne.symm ne)]; exact upd_same⟩
  exact ((But.put (But.ex (Ex.refl H)) (by simp)).putN hl0).put (by simp)
def sp_Scale_pans (K : PySem.W.Frag) (A : Ad) : Sp := fun vs H Q _ => ∃ (s dx l : Addr) (L : Int), vs = [.ref s] ∧ H s = some (.ins A.scale dx (fsOf L l)) ∧ (Few.laid L).length < 100000 ∧ RetL ((Few.laid L).map V.int) H Q
def t_Scale_pans (K : PySem.W.Frag) (A : Ad) : TS :=
  (tRet (tCall (sp_laid K A) [] E0 (tCons (tFld K (tVar 0) "load") tNil)))
theorem r_Scale_pans (S : ScaleOk K A) (h : sp_Scale_pans K A vs H Q E) : t_Scale_pans K A (D0 Q) (start ["self"] vs) H := by
  obtain ⟨s, dx, l, L, rfl, hs, hz, k⟩ := h
  exact s_retLL (el_laid (ev_load S (ev_var rfl) hs) hz) k
def sp_Scale_weighs (K : PySem.W.Frag) (A : Ad) : Sp := fun vs H Q _ => ∃ (s dx l : Addr) (L : Int), vs = [.ref s] ∧ H s = some (.ins A.scale dx (fsOf L l)) ∧ RetV (.int L) H Q
def t_Scale_weighs (K : PySem.W.Frag) (A : Ad) : TS :=
  (tRet (tFld K (tVar 0) "load"))
theorem r_Scale_weighs (S : ScaleOk K A) (h : sp_Scale_weighs K A vs H Q E) : t_Scale_weighs K A (D0 Q) (start ["self"] vs) H := by
  obtain ⟨s, dx, l, L, rfl, hs, k⟩ := h
  exact s_retV (ev_load S (ev_var rfl) hs) k
section
variable {σ : L2.St} {te : TE} {s l : Addr} {ls : List Int}
theorem el_pans (h : Ev te σ H (.ref s)) (hs : ScAt A s l ls H) (hz : (Few.laid ls.sum).length < 100000) : EvL (tMeth A.scale "pans" (sp_Scale_pans K A) [] E te tNil) σ H ((Few.laid ls.sum).map V.int) := fun H1 e Q q => by
  obtain ⟨⟨dx, h1⟩, _⟩ := hs
  exact h H1 e _ fun H2 e2 => ⟨s, dx, _, rfl, e2 _ _ (e _ _ h1), fs_none _ _ no_pans.1 no_pans.2, s, dx, l, ls.sum, rfl, e2 _ _ (e _ _ h1), hz, fun p H3 hp e3 hx => q p H3 (fresh_back e2 hp) (e2.trans e3) hx⟩
theorem ev_weighs (h : Ev te σ H (.ref s)) (hs : ScAt A s l ls H) : Ev (tMeth A.scale "weighs" (sp_Scale_weighs K A) [] E te tNil) σ H (.int ls.sum) := fun H1 e Q q => by
  obtain ⟨⟨dx, h1⟩, _⟩ := hs
  exact h H1 e _ fun H2 e2 => ⟨s, dx, _, rfl, e2 _ _ (e _ _ h1), fs_none _ _ no_weighs.1 no_weighs.2, s, dx, l, ls.sum, rfl, e2 _ _ (e _ _ h1), fun H3 e3 => q H3 (e2.trans e3)⟩
end
def sp_Scale_come_to (K : PySem.W.Frag) (A : Ad) : Sp := fun vs H Q _ => ∃ (s dx l : Addr) (L n : Int), vs = [.ref s, .int n] ∧ H s = some (.ins A.scale dx (fsOf L l)) ∧ (Few.laid L).length ≤ 50000 ∧ (Few.laid n).length ≤ 50000 ∧
  ∀ H1, Ex H H1 → Q (.int (movedOf (Few.laid L) (Few.laid n) : Nat)) (upd H1 s (.ins A.scale dx (fsOf n l)))
def t_Scale_come_to (K : PySem.W.Frag) (A : Ad) : TS :=
  (tSeq (tAsg (tCall (sp_moved K A) [] E0 (tCons (tCall (sp_laid K A) [] E0 (tCons (tFld K (tVar 0) "load") tNil)) (tCons (tCall (sp_laid K A) [] E0 (tCons (tVar 1) tNil)) tNil))) (gName 2))
    (tSeq (sFld K (tVar 0) (tVar 1) "load")
    (tRet (tVar 2))))
theorem r_Scale_come_to (S : ScaleOk K A) (h : sp_Scale_come_to K A vs H Q E) : t_Scale_come_to K A (D0 Q) (start ["self", "load", "many"] vs) H := by
  obtain ⟨s, dx, l, L, n, rfl, hs, hz, hz2, k⟩ := h
  refine q_asg (ev_moved (x_ilL (el_laid (ev_load S (ev_var rfl) hs) (by omega))) (x_ilL (el_laid (ev_var rfl) (by omega))) hz hz2) fun H1 e1 => ?_
  refine ⟨_, rfl, _, rfl, s, A.scale, dx, _, rfl, e1 _ _ hs, S.cl, S.n1, by show 2 < 1000; decide, ?_⟩
  rw [fs_put]
  exact ⟨_, rfl, k H1 e1⟩
theorem s_retMeth {C : Addr} {m : Str} {sp : Sp} {σ : L2.St} {te tx : TE} {s dx : Addr} {fs : List (Str × V)} {y : V} {D : Ends} (h : Ev te σ H (.ref s)) (hs : H s = some (.ins C dx fs)) (hm : fs.lookup m = none) (h2 : Ev tx σ H y) (k : ∀ H1, Ex H H1 → sp [.ref s, y] H1 D.rt E) :
    tRet (tMeth C m sp [] E te (tCons tx tNil)) D σ H := h H (Ex.refl H) _ fun H1 e1 => ⟨s, dx, fs, rfl, e1 _ _ hs, hm, h2 H1 e1 _ fun H2 e2 => k H2 (e1.trans e2)⟩
def sp_Scale_lay (K : PySem.W.Frag) (A : Ad) : Sp := fun vs H Q E => ∃ (s l : Addr) (ls : List Int) (v : V) (d : PyData), vs = [.ref s, v] ∧ ScAt A s l ls H ∧ Th K H v d ∧ Bd ls ∧
  (∀ n, d = .int n → Bd (ls ++ [n]) ∧ ∀ H', But [s, l] H H' → ScAt A s l (ls ++ [n]) H' → Q (.int (movedOf (Few.laid ls.sum) (Few.laid (ls ++ [n]).sum) : Nat)) H') ∧ (wholeD d = false → RaiseE E A.load H)
def t_Scale_lay (K : PySem.W.Frag) (A : Ad) (E : XK) : TS :=
  (tSeq (tAsg (tCall (sp_good_load K A) [] E (tCons (tVar 1) tNil)) (gName 2))
    (tSeq (tDrop (tBM K "list" rAppend (tFld K (tVar 0) "loads") (tCons (tVar 2) tNil)))
    (tRet (tMeth A.scale "come_to" (sp_Scale_come_to K A) [] E0 (tVar 0) (tCons (tOp rAddI (tFld K (tVar 0) "load") (tVar 2)) tNil)))))
theorem r_Scale_lay (S : ScaleOk K A) (h : sp_Scale_lay K A vs H Q E) : t_Scale_lay K A E (D0 Q) (start ["self", "load", "more"] vs) H := by
  obtain ⟨s, l, ls, v, d, rfl, hs, hd, hb, k1, k2⟩ := h
  cases hl : wholeD d with
  | false => exact er_q (er_goodload (x_th rfl hd) hl (k2 hl))
  | true =>
    obtain ⟨n, rfl⟩ := whole_is hl
    obtain ⟨hb2, k⟩ := k1 n rfl
    have hv := th_int_is hd
    subst hv
    refine q_asg (ev_goodload (ev_var rfl)) fun H1 e1 => ?_
    obtain ⟨⟨dx, h1⟩, h2⟩ := hs.ex e1
    have ne := (hs.ex e1).ne
    refine q_app h2 (ev_loads S (ev_var rfl) h1) (ev_var rfl) (by rw [len_mapI]; have := hb.1; omega) fun H2 e2 => ?_
    have h1' : (upd H2 l (.lst (ls.map V.int ++ [V.int n]))) s = some (.ins A.scale dx (fsOf ls.sum l)) := by
      rw [upd_ne ne]
      exact e2 _ _ h1
    refine s_retMeth (y := .int (ls.sum + n)) (ev_var rfl) h1' (fs_none _ _ no_come.1 no_come.2) (ev_op (ev_load S (ev_var rfl) h1') (ev_var rfl) rv_I0) fun H3 e3 => ?_
    have z1 := hb.laid
    have z2 := hb2.laid
    rw [sum_snoc] at z2 k
    refine ⟨s, dx, l, ls.sum, ls.sum + n, rfl, e3 _ _ h1', by omega, by omega, fun H4 e4 => k _ ?_ ⟨⟨dx, ?_⟩, ?_⟩⟩
    · exact ((((But.ex (e1.trans e2)).put (by simp)).ext (e3.trans e4))).put (by simp)
    · rw [sum_snoc]
      exact upd_same
    · rw [upd_ne (Ne.symm ne), (e4 _ _ (e3 _ _ upd_same) : H4 l = _), List.map_append]
      rfl
theorem q_popA {σ : L2.St} {te : TE} {D : Ends} {tz : TS} {l : Addr} {xs : List V} {y : V} {i : Nat} (hl : H l = some (.lst xs)) (ha : Ev te σ H (.ref l)) (hy : xs[xs.length - 1]? = some y) (k : ∀ H1, Ex H H1 → tz D (σ.set i (some y)) (upd H1 l (.lst xs.dropLast))) : tSeq (tAsg (tBM0 K "list" rPop te) (gName i)) tz D σ H :=
  ha H (Ex.refl H) _ fun H1 e1 => ⟨.inl ⟨rfl, xs, sq_of (e1 l _ hl)⟩, l, xs, y, rfl, rfl, e1 l _ hl, hy, k H1 e1⟩
def sp_Scale_back (K : PySem.W.Frag) (A : Ad) : Sp := fun vs H Q E => ∃ (s l : Addr) (ls : List Int), vs = [.ref s] ∧ ScAt A s l ls H ∧ Bd ls ∧
  (∀ r x, ls = r ++ [x] → ∀ H', But [s, l] H H' → ScAt A s l r H' → Q (.int (movedOf (Few.laid ls.sum) (Few.laid r.sum) : Nat)) H') ∧ (ls = [] → RaiseE E A.deed H)
def t_Scale_back (K : PySem.W.Frag) (A : Ad) (E : XK) : TS :=
  (tSeq (tIfS (tTest (tOp (rEqD K) (tFld K (tVar 0) "loads") (tLst tNil))) (tRaiseC A.deed E) tNext)
    (tSeq (tAsg (tBM0 K "list" rPop (tFld K (tVar 0) "loads")) (gName 1))
    (tRet (tMeth A.scale "come_to" (sp_Scale_come_to K A) [] E0 (tVar 0) (tCons (tOp rSubI (tFld K (tVar 0) "load") (tVar 1)) tNil)))))
theorem r_Scale_back (S : ScaleOk K A) (h : sp_Scale_back K A vs H Q E) : t_Scale_back K A E (D0 Q) (start ["self", "last"] vs) H := by
  obtain ⟨s, l, ls, rfl, hs, hb, k1, k2⟩ := h
  obtain ⟨⟨dx, h1⟩, h2⟩ := id hs
  have t1 : EvT (tTest (tOp (rEqD K) (tFld K (tVar 0) "loads") (tLst tNil))) (start ["self", "last"] [.ref s]) H (decide (ls = [])) := et_test (ev_eqI (ys := []) (x_of (ev_loads S (ev_var rfl) h1) mono_il ⟨l, rfl, sq_of h2⟩) (x_ilL (el_lst ea_nil (by decide))))
  refine q_when t1 (fun hb H1 e1 => k2 (of_decide_eq_true hb) H1 e1) (fun hb2 H1 e1 => ?_)
  have nn : ls ≠ [] := of_decide_eq_false hb2
  rcases Few.last_cases ls with z | ⟨r, x, z⟩
  · exact absurd z nn
  subst z
  have k := k1 r x rfl
  have ne := hs.ne
  have lst : ((r ++ [x]).map V.int)[((r ++ [x]).map V.int).length - 1]? = some (V.int x) := by
    rw [len_mapI, List.map_append]
    simp
  -- self.loads.pop()
  refine q_popA (e1 _ _ h2) (ev_loads S (ev_var rfl) (e1 _ _ h1)) lst fun H2 e2 => ?_
  rw [dropLast_ints]
  have h1' : (upd H2 l (.lst (r.map V.int))) s = some (.ins A.scale dx (fsOf (r ++ [x]).sum l)) := by
    rw [upd_ne ne]
    exact e2 _ _ (e1 _ _ h1)
  have e0 : (r ++ [x]).sum - x = r.sum := by
    rw [sum_snoc]
    omega
  refine s_retMeth (y := .int r.sum) (ev_var rfl) h1' (fs_none _ _ no_come.1 no_come.2) (ev_is (ev_op (ev_load S (ev_var rfl) h1') (ev_var rfl) rv_I0) (by rw [e0])) fun H3 e3 => ?_
  have z1 := hb.laid
  have z2 := (hb.take r.length).laid
  rw [List.take_left' rfl] at z2
  refine ⟨s, dx, l, _, r.sum, rfl, e3 _ _ h1', by omega, by omega, fun H4 e4 => k _ ?_ ⟨⟨dx, upd_same⟩, ?_⟩⟩
  · exact ((((But.ex (e1.trans e2)).put (by simp)).ext (e3.trans e4))).put (by simp)
  · rw [upd_ne (Ne.symm ne), (e4 _ _ (e3 _ _ upd_same) : H4 l = _)]
end
end Fw

namespace Fw
open PySem PySem.Spec PyProof.Rows L2 Evl
/-! what is new since H0 -/
def news (H0 H : Hp) : Hp := fun a => if (H0 a).isSome then none else H a
section
variable {K : PySem.W.Frag} {A : Ad} {vs : List V} {H H' H0 H1 : Hp} {Q : VK} {E : XK} {σ : L2.St} {ta tr : TA} {te tb tx : TE} {D : Ends} {tz : TS}
theorem news_ex (e : Ex H H') : Ex (news H0 H) (news H0 H') := fun a o h => by
  unfold news at h ⊢
  split at h
  · cases h
  · rename_i n
    rw [if_neg n]
    exact e a o h
theorem news_le : Ex (news H0 H) H := fun a o h => by
  unfold news at h
  split at h
  · cases h
  · exact h
theorem news_at {a : Addr} {o : HO} (h : H0 a = none) (e : H a = some o) : news H0 H a = some o := by
  unfold news
  rw [h]
  exact e
theorem news_but {M : List Addr} (b : But M H H') (hm : ∀ m ∈ M, H0 m ≠ none) : Ex (news H0 H) H' := fun a o h => by
  unfold news at h
  split at h
  · cases h
  · rename_i n
    exact b a o (fun z => hm a z (by cases q : H0 a with | none => rfl | some o => rw [q] at n; simp at n)) h
abbrev ThN (K : PySem.W.Frag) (H0 : Hp) (d : PyData) : V → Hp → Prop := fun v H => Th K (news H0 H) v d
theorem mono_thn {d : PyData} : Mono (ThN K H0 d) := fun _ _ _ e h => h.mono (news_ex e)
def ThLN (K : PySem.W.Frag) (H0 : Hp) (ds : List PyData) : V → Hp → Prop := fun v H => ∃ a xs, v = .ref a ∧ SqL K H a xs ∧ ThAll K (news H0 H) xs ds
theorem xn_c {v : V} {d : PyData} (h : ∀ H, Th K H v d) : EvX (tC v) σ H (ThN K H0 d) := x_of ev_c mono_thn (h _)
theorem xn_nil : EaX tNil σ H (fun vs H => ThAll K (news H0 H) vs []) := fun H1 _ _ q => q _ H1 (Ex.refl H1) .nil
theorem xn_cons {d : PyData} {ds : List PyData} (h : EvX te σ H (ThN K H0 d)) (hr : EaX tr σ H (fun vs H => ThAll K (news H0 H) vs ds)) : EaX (tCons te tr) σ H (fun vs H => ThAll K (news H0 H) vs (d :: ds)) := fun H1 e Q q =>
  h H1 e _ fun v H2 e2 hp => hr H2 (e.trans e2) _ fun vs H3 e3 hR => q _ H3 (e2.trans e3) (.cons (hp.mono (news_ex e3)) hR)
theorem xn_lst {ds : List PyData} (h : EaX ta σ H (fun vs H => ThAll K (news H0 H) vs ds)) (hz : ds.length ≤ 100000) : EvX (tLst ta) σ H (ThLN K H0 ds) := fun H1 e Q q =>
  h H1 e _ fun vs H2 e2 hr => ⟨sz_of (by rw [hr.length]; exact hz), fun p hp => q _ _ (e2.trans (Ex.new hp)) ⟨p, vs, rfl, sq_of upd_same, hr.mono (news_ex (Ex.new hp))⟩⟩
theorem xn_lst1 {i : Int} (e0 : Ex H0 H) : EvX (tLst (tCons (tC (.int i)) tNil)) σ H (ThN K H0 (.list [.int i])) := fun H1 e Q q =>
  ⟨by show 1 ≤ sizeLine; decide, fun p hp => q _ _ (Ex.new hp) (.of (.lst (sq_of (news_at (fresh_back (e0.trans e) hp) upd_same)) (.cons (.int i) .nil)))⟩
theorem xn_tup1 {i : Int} (e0 : Ex H0 H) : EvX (tTup (tCons (tC (.int i)) tNil)) σ H (ThN K H0 (.tuple [.int i])) := fun H1 e Q q =>
  ⟨by show 1 ≤ sizeLine; decide, fun p hp => q _ _ (Ex.new hp) (.of (.tup (st_of (news_at (fresh_back (e0.trans e) hp) upd_same)) (.cons (.int i) .nil)))⟩
theorem xn_dict (e0 : Ex H0 H) : EvX tDictN σ H (ThN K H0 (.dict [])) := fun H1 e Q q p hp => q _ _ (Ex.new hp) (.dict (news_at (fresh_back (e0.trans e) hp) upd_same))
theorem xn_ix {ds : List PyData} {d : PyData} {j : Nat} {i : Int} (h : EvX te σ H (ThLN K H0 ds)) (hb : Ev tb σ H (.int i)) (hi : i = (j : Int)) (hd : ds[j]? = some d) : EvX (tOp (rIxL K) te tb) σ H (ThN K H0 d) := fun H1 e Q q =>
  h H1 e _ fun v H2 e2 ⟨a, xs, ev, hs, ht⟩ => hb H2 (e.trans e2) _ fun H3 e3 => by
    subst ev
    have hl := ht.length
    have hj : j < xs.length := by
      have := (List.getElem?_eq_some_iff.mp hd).1
      omega
    have hx : xs[j]? = some xs[j] := List.getElem?_eq_getElem hj
    obtain ⟨d', hd', th⟩ := ht.at hx
    rw [hd] at hd'
    cases hd'
    exact ⟨a, xs, i, xs[j], rfl, rfl, ex_l e3 hs, at_of hi hx, q _ H3 (e2.trans e3) (th.mono (news_ex e3))⟩
/-! ### _law_load_by -/
def Near (n : Int) : Prop := n.natAbs < 2 ^ 330
def sp_l_load_by (K : PySem.W.Frag) (A : Ad) : Sp := fun vs H Q _ => ∃ c w m : Int, vs = [.int c, .int w, .int m] ∧ 0 ≤ m ∧ m ≤ 10 ^ 97 ∧ ∀ n H', Ex H H' → Near n → Q (.int n) H'
def t_l_load_by (K : PySem.W.Frag) (A : Ad) : TS :=
  (tSeq (tIfS (tTest (tOp rEq (tVar 1) (tC (.int 0)))) (tRet (tOp rSubI (tOp rModI (tVar 0) (tOp rAddI (tOp rMulI (tC (.int 2)) (tVar 2)) (tC (.int 1)))) (tVar 2))) tNext)
    (tSeq (tIfS (tTest (tOp rLtI (tVar 1) (tC (.int 3)))) (tRet (tOp rSubI (tOp rModI (tVar 0) (tOp rAddI (tOp rMulI (tC (.int 2)) (tOp rPowI (tC (.int 10)) (tC (.int 18)))) (tC (.int 1)))) (tOp rPowI (tC (.int 10)) (tC (.int 18))))) tNext)
    (tSeq (tIfS (tTest (tOp rEq (tVar 1) (tC (.int 3)))) (tRet (tOp rSubI (tOp rModI (tVar 0) (tC (.int 9))) (tC (.int 4)))) tNext)
    (tSeq (tAsg (tOp rSubI (tOp rAddI (tOp rDivI (tCall (sp_l_power K A) [] E0 (tCons (tOp rModI (tVar 0) (tC (.int 60))) tNil)) (tOp (rIxL K) (tLst (tCons (tC (.int 1)) (tCons (tC (.int 3)) tNil))) (tOp rModI (tOp rDivI (tVar 0) (tC (.int 60))) (tC (.int 2))))) (tOp rModI (tOp rDivI (tVar 0) (tC (.int 120))) (tC (.int 3)))) (tC (.int 1))) (gName 3))
    (tSeq (tIfS (tTest (tOp rEq (tOp rModI (tOp rDivI (tVar 0) (tC (.int 360))) (tC (.int 2))) (tC (.int 1)))) (tRet (tOp rSubI (tC (.int 0)) (tVar 3))) tNext)
    (tRet (tVar 3)))))))
theorem near_mod (c m : Int) (h0 : 0 ≤ m) (h1 : m ≤ 10 ^ 97) : Near (c % (2 * m + 1) - m) := by
  have t : (10 : Int) ^ 97 < ((2 ^ 330 : Nat) : Int) := by decide +kernel
  have b1 := Int.emod_nonneg c (show 2 * m + 1 ≠ 0 by omega)
  have b2 := Int.emod_lt_of_pos c (show 0 < 2 * m + 1 by omega)
  unfold Near
  generalize (2 : Nat) ^ 330 = M at t
  generalize (10 : Int) ^ 97 = T at t h1
  omega
theorem pow60 (j : Nat) (h : j < 60) : (0 : Int) < 2 ^ j ∧ (2 : Int) ^ j ≤ 2 ^ 60 := by
  refine ⟨Int.pow_pos (by decide), ?_⟩
  have h2 := Int.ofNat_le.mpr (Nat.pow_le_pow_right (n := 2) (by decide) (show j ≤ 60 by omega))
  rw [Int.natCast_pow, Int.natCast_pow] at h2
  exact h2
theorem r_l_load_by (h : sp_l_load_by K A vs H Q E) : t_l_load_by K A (D0 Q) (start ["_law_cell", "_law_way", "_law_most", "_law_found"] vs) H := by
  obtain ⟨c, w, m, rfl, h0, h1, k⟩ := h
  have big : (1000 + (2 : Int) ^ 60) < ((2 ^ 330 : Nat) : Int) := by decide +kernel
  refine q_when (et_test (ev_op (ev_var rfl) ev_c (rv_eq rfl))) (fun _ H1 e1 => ?_) (fun _ H1 e1 => ?_)
  · exact s_ret (ev_op (ev_op (ev_var rfl) (ev_op (ev_op ev_c (ev_var rfl) (rv_mul (cmul_l ⟨by decide, by decide⟩))) ev_c rv_I0) (rv_mod (by omega))) (ev_var rfl) rv_I0) fun H2 e2 => k _ _ (e1.trans e2) (near_mod c m h0 h1)
  refine q_when (et_test (ev_op (ev_var rfl) ev_c rv_I0)) (fun _ H2 e2 => ?_) (fun _ H2 e2 => ?_)
  · have t18 : ∀ {σ : L2.St} {H : Hp}, Ev (tOp rPowI (tC (.int 10)) (tC (.int 18))) σ H (.int 1000000000000000000) := ev_op ev_c ev_c (rv_pow ⟨by decide, by decide, by decide⟩)
    exact s_ret (ev_op (ev_op (ev_var rfl) (ev_op (ev_op ev_c t18 (rv_mul (cmul_l ⟨by decide, by decide⟩))) ev_c rv_I0) (rv_mod (by decide))) t18 rv_I0) fun H3 e3 => k _ _ ((e1.trans e2).trans e3) (near_mod c 1000000000000000000 (by decide) (by decide +kernel))
  refine q_when (et_test (ev_op (ev_var rfl) ev_c (rv_eq rfl))) (fun _ H3 e3 => ?_) (fun _ H3 e3 => ?_)
  · refine s_ret (ev_op (ev_op (ev_var rfl) ev_c (rv_mod (by decide))) ev_c rv_I0) fun H4 e4 => k _ _ (((e1.trans e2).trans e3).trans e4) ?_
    unfold Near
    have : (100 : Nat) < 2 ^ 330 := by decide +kernel
    generalize (2 : Nat) ^ 330 = M at this
    omega
  obtain ⟨j, hj, hjl⟩ := mod_nat c 60 (by decide)
  obtain ⟨i, hi, hil⟩ := mod_nat (c / 60) 2 (by decide)
  have pj := pow60 j hjl
  obtain ⟨q, hq, q1, q2⟩ : ∃ q : Int, ([1, 3] : List Int)[i]? = some q ∧ 0 < q ∧ q ≤ 3 := by
    have : i = 0 ∨ i = 1 := by omega
    rcases this with z | z <;> subst z <;> exact ⟨_, rfl, by decide, by decide⟩
  refine q_asg (ev_op (ev_op (ev_op (ev_power (k := j) (ev_op (ev_var rfl) ev_c (rv_mod (by decide))) hj (by omega)) (ev_ix (ns := [1, 3]) (j := i) (x_ilL (el_lst (ea_cons ev_c (ea_cons ev_c ea_nil)) (by decide))) (ev_op (ev_op (ev_var rfl) ev_c (rv_div ⟨by decide, by decide⟩)) ev_c (rv_mod (by decide))) hi hq) (rv_div ⟨q1, by omega⟩)) (ev_op (ev_op (ev_var rfl) ev_c (rv_div ⟨by decide, by decide⟩)) ev_c (rv_mod (by decide))) rv_I0) ev_c rv_I0) fun H4 e4 => ?_
  have d0 : 0 ≤ (2 : Int) ^ j / q := Int.ediv_nonneg (by omega) (by omega)
  have d1 : (2 : Int) ^ j / q ≤ 2 ^ j := Int.ediv_le_self _ (by omega)
  have r0 : 0 ≤ c / 120 % 3 ∧ c / 120 % 3 < 3 := by omega
  have sm : ∀ n : Int, n = 2 ^ j / q + c / 120 % 3 - 1 ∨ n = 0 - (2 ^ j / q + c / 120 % 3 - 1) → Near n := fun n hn => by
    unfold Near
    generalize (2 : Int) ^ j / q = a at d0 d1 hn
    generalize c / 120 % 3 = b at r0 hn
    generalize (2 : Int) ^ j = y at d1 pj
    generalize (2 : Int) ^ 60 = N at big pj
    generalize (2 : Nat) ^ 330 = M at big
    omega
  refine q_when (et_test (ev_op (ev_op (ev_op (ev_var rfl) ev_c (rv_div ⟨by decide, by decide⟩)) ev_c (rv_mod (by decide))) ev_c (rv_eq rfl))) (fun _ H5 e5 => ?_) (fun _ H5 e5 => ?_)
  · exact s_ret (ev_op ev_c (ev_var rfl) rv_I0) fun H6 e6 => k _ _ (((((e1.trans e2).trans e3).trans e4).trans e5).trans e6) (sm _ (.inr rfl))
  · exact s_ret (ev_var rfl) fun H6 e6 => k _ _ (((((e1.trans e2).trans e3).trans e4).trans e5).trans e6) (sm _ (.inl rfl))
/-! ### _law_apart -/
def sp_l_apart (K : PySem.W.Frag) (A : Ad) : Sp := fun vs H Q _ => ∃ (v w : V) (xs ys : List Int), vs = [v, w] ∧ ML (xs.map V.int) v H ∧ ML (ys.map V.int) w H ∧ xs.length ≤ 10000 ∧ ys.length ≤ 10000 ∧ RetV (.int (movedOf xs ys : Nat)) H Q
def t_l_apart (K : PySem.W.Frag) (A : Ad) : TS :=
  (tSeq (tAsg (tCB Evl.rMax2 (tCons (tCB (Evl.rLenS K) (tCons (tVar 0) tNil)) (tCons (tCB (Evl.rLenS K) (tCons (tVar 1) tNil)) tNil))) (gName 2))
    (tSeq (tAsg (tOp rCat (tVar 0) (tOp rRep (tLst (tCons (tC (.int 0)) tNil)) (tOp rSubI (tVar 2) (tCB (Evl.rLenS K) (tCons (tVar 0) tNil))))) (gName 3))
    (tSeq (tAsg (tOp rCat (tVar 1) (tOp rRep (tLst (tCons (tC (.int 0)) tNil)) (tOp rSubI (tVar 2) (tCB (Evl.rLenS K) (tCons (tVar 1) tNil))))) (gName 4))
    (tRet (tCB (Evl.rLenS K) (tCons (tLc (iRng1 (tCons (tVar 2) tNil)) (gName 5) (tTest (tOp rNe (tOp (rIxL K) (tVar 3) (tVar 5)) (tOp (rIxL K) (tVar 4) (tVar 5)))) (tVar 5) [5]) tNil))))))
theorem ml_il {xs : List Int} {v : V} (h : ML (xs.map V.int) v H) : IL K xs v H := by
  obtain ⟨a, rfl, h⟩ := h
  exact ⟨a, rfl, sq_of h⟩
theorem cell_pad (xs : List Int) (n k : Nat) (h : k < xs.length + n) : (xs ++ List.replicate n 0)[k]? = some (cellAt xs k) := by
  unfold cellAt
  rw [List.getD_eq_getElem?_getD]
  by_cases c : k < xs.length
  · rw [List.getElem?_append_left c, List.getElem?_eq_getElem c]
    rfl
  · rw [List.getElem?_append_right (by omega), List.getElem?_replicate, if_pos (by omega), List.getElem?_eq_none (by omega)]
    rfl
theorem r_l_apart (h : sp_l_apart K A vs H Q E) : t_l_apart K A (D0 Q) (start ["_law_one", "_law_other", "_law_most", "_law_left", "_law_right", "_law_k"] vs) H := by
  obtain ⟨v, w, xs, ys, rfl, hv, hw, zx, zy, k⟩ := h
  refine q_asg (v := .int ((max xs.length ys.length : Nat) : Int)) (ev_is (ev_max2 (ev_lenX (x_ilv rfl (ml_il hv))) (ev_lenX (x_ilv rfl (ml_il hw)))) (by rw [max_int])) fun H1 e1 => ?_
  have hv1 := mono_ml _ _ _ e1 hv
  have hw1 := mono_ml _ _ _ e1 hw
  have n1 : (((max xs.length ys.length : Nat) : Int) - (xs.length : Int)).toNat = max xs.length ys.length - xs.length := by omega
  have n2 : (((max xs.length ys.length : Nat) : Int) - (ys.length : Int)).toNat = max xs.length ys.length - ys.length := by omega
  refine q_asgL (xs := (xs ++ List.replicate (max xs.length ys.length - xs.length) 0).map V.int) (by
    rw [List.map_append, ← n1]
    exact el_catX (x_of (ev_var rfl) mono_ml hv1) (x_mlL (el_zeros (ev_op (ev_var rfl) (ev_lenX (x_ilv rfl (ml_il hv1))) rv_I0) ⟨by omega, by omega⟩)) (by rw [len_mapI, len_mapI, List.length_replicate]; omega)) fun p H2 hp e2 hx => ?_
  have hw2 := mono_ml _ _ _ e2 hw1
  refine q_asgL (xs := (ys ++ List.replicate (max xs.length ys.length - ys.length) 0).map V.int) (by
    rw [List.map_append, ← n2]
    exact el_catX (x_of (ev_var rfl) mono_ml hw2) (x_mlL (el_zeros (ev_op (ev_var rfl) (ev_lenX (x_ilv rfl (ml_il hw2))) rv_I0) ⟨by omega, by omega⟩)) (by rw [len_mapI, len_mapI, List.length_replicate]; omega)) fun q H3 hq e3 hy => ?_
  have hx3 := e3 _ _ hx
  refine s_retV (v := .int (movedOf xs ys : Nat)) (ev_is (ev_lenV (x_vlL (el_lcR1 (n := ((max xs.length ys.length : Nat) : Int)) (fun k => !decide (cellAt xs k = cellAt ys k)) (fun k => .int (k : Int)) (ea_cons (ev_var rfl) ea_nil) ⟨by omega, by omega⟩ (fun _ => rfl) (fun i H4 e4 hi => ?_) (fun i H4 e4 hi _ => ev_var rfl)))) ?_) (k.mono ((e1.trans e2).trans e3))
  · have a1 := cell_pad xs (max xs.length ys.length - xs.length) i (by omega)
    have a2 := cell_pad ys (max xs.length ys.length - ys.length) i (by omega)
    refine et_is (et_test (ev_op (ev_ix (j := i) (x_ilv rfl ⟨p, rfl, sq_of (e4 _ _ hx3)⟩) (ev_var rfl) rfl a1) (ev_ix (j := i) (x_ilv rfl ⟨q, rfl, sq_of (e4 _ _ hy)⟩) (ev_var rfl) rfl a2) (rv_ne rfl))) (by rw [eq_dec])
  · unfold given movedOf movedTo
    rw [List.length_map, Int.toNat_natCast]
theorem ev_l_apart {xs ys : List Int} (h : EvX te σ H (ML (xs.map V.int))) (h2 : EvX tx σ H (ML (ys.map V.int))) (zx : xs.length ≤ 10000) (zy : ys.length ≤ 10000) : Ev (tCall (sp_l_apart K A) [] E (tCons te (tCons tx tNil))) σ H (.int (movedOf xs ys : Nat)) :=
  ev_call2 h mono_ml h2 fun x y H1 e1 hx hy Q q => ⟨x, y, xs, ys, rfl, hx, hy, zx, zy, fun H' e => q H' e⟩
/-! ### rows -/
def Pair (xs : List Int) : V → Hp → Prop := fun v H => ∃ q a b, v = .ref q ∧ H q = some (.lst [.ref a, .ref b]) ∧ H a = some (.lst (xs.map V.int)) ∧ H b = some (.lst (xs.map V.int))
/-- .. made since H0 -/
def PairF (H0 : Hp) (xs : List Int) : V → Hp → Prop := fun v H => ∃ q a b, v = .ref q ∧ (H0 q = none ∧ H0 a = none ∧ H0 b = none) ∧ H q = some (.lst [.ref a, .ref b]) ∧ H a = some (.lst (xs.map V.int)) ∧ H b = some (.lst (xs.map V.int))
/-- .. beside M -/
def PairM (M : List Addr) (xs : List Int) : V → Hp → Prop := fun v H => ∃ q a b, v = .ref q ∧ (q ∉ M ∧ a ∉ M ∧ b ∉ M) ∧ H q = some (.lst [.ref a, .ref b]) ∧ H a = some (.lst (xs.map V.int)) ∧ H b = some (.lst (xs.map V.int))
theorem Pair.ex {xs : List Int} {v : V} (h : Pair xs v H) (e : Ex H H') : Pair xs v H' := by
  obtain ⟨q, a, b, h0, h1, h2, h3⟩ := h
  exact ⟨q, a, b, h0, e _ _ h1, e _ _ h2, e _ _ h3⟩
theorem PairF.pair {xs : List Int} {v : V} (h : PairF H0 xs v H) : Pair xs v H := by
  obtain ⟨q, a, b, h0, _, h1, h2, h3⟩ := h
  exact ⟨q, a, b, h0, h1, h2, h3⟩
theorem PairM.pair {M : List Addr} {xs : List Int} {v : V} (h : PairM M xs v H) : Pair xs v H := by
  obtain ⟨q, a, b, h0, _, h1, h2, h3⟩ := h
  exact ⟨q, a, b, h0, h1, h2, h3⟩
theorem ne_mem {M : List Addr} {a : Addr} (h : H0 a = none) (hm : ∀ m ∈ M, H0 m ≠ none) : a ∉ M := fun z => hm a z h
theorem PairF.toM {M : List Addr} {xs : List Int} {v : V} (h : PairF H0 xs v H) (hm : ∀ m ∈ M, H0 m ≠ none) : PairM M xs v H := by
  obtain ⟨q, a, b, h0, ⟨n1, n2, n3⟩, h⟩ := h
  exact ⟨q, a, b, h0, ⟨ne_mem n1 hm, ne_mem n2 hm, ne_mem n3 hm⟩, h⟩
theorem PairF.but {M : List Addr} {xs : List Int} {v : V} (h : PairF H0 xs v H) (b : But M H H') (hm : ∀ m ∈ M, H0 m ≠ none) : PairF H0 xs v H' := by
  obtain ⟨q, a, c, h0, ⟨n1, n2, n3⟩, h1, h2, h3⟩ := h
  exact ⟨q, a, c, h0, ⟨n1, n2, n3⟩, b _ _ (ne_mem n1 hm) h1, b _ _ (ne_mem n2 hm) h2, b _ _ (ne_mem n3 hm) h3⟩
theorem PairM.but {M M' : List Addr} {xs : List Int} {v : V} (h : PairM M xs v H) (b : But M' H H') (s : ∀ a ∈ M', a ∈ M) : PairM M xs v H' := by
  obtain ⟨q, a, c, h0, ⟨n1, n2, n3⟩, h1, h2, h3⟩ := h
  exact ⟨q, a, c, h0, ⟨n1, n2, n3⟩, b _ _ (fun z => n1 (s _ z)) h1, b _ _ (fun z => n2 (s _ z)) h2, b _ _ (fun z => n3 (s _ z)) h3⟩
theorem PairF.back {xs : List Int} {v : V} (h : PairF H1 xs v H) (e : Ex H0 H1) : PairF H0 xs v H := by
  obtain ⟨q, a, b, h0, ⟨n1, n2, n3⟩, h⟩ := h
  exact ⟨q, a, b, h0, ⟨fresh_back e n1, fresh_back e n2, fresh_back e n3⟩, h⟩
/-! ### _law_looked -/
/-- behind 'if not f(..): return r' -/
def NotK (r : V) (D : Ends) (tz : TS) (σ : L2.St) : VK := fun v H2 => ∃ b, v = .bl b ∧ (if (!b) = true then (tRet (tC r)) { D with nx := tz D } σ H2 else tNext { D with nx := tz D } σ H2)
theorem notK {r : V} (h : tz D σ H) : NotK r D tz σ (.bl true) H := ⟨true, rfl, by
  rw [if_neg (by decide)]
  exact h⟩
theorem q_notC {r : V} {sp : Sp} {vs : List V} (h : EvA ta σ H vs) (k : ∀ H1, Ex H H1 → sp (vs ++ []) H1 (NotK r D tz σ) E) : tSeq (tIfS (tNot (tB (tCall sp [] E ta))) (tRet (tC r)) tNext) tz D σ H := h H (Ex.refl H) _ fun H1 e1 => k H1 e1
theorem q_asgC {sp : Sp} {vs : List V} {i : Nat} (h : EvA ta σ H vs) (k : ∀ H1, Ex H H1 → sp (vs ++ []) H1 (fun v H2 => tz D (σ.set i (some v)) H2) E) : tSeq (tAsg (tCall sp [] E ta) (gName i)) tz D σ H := h H (Ex.refl H) _ fun H1 e1 => k H1 e1
structure Loc (A : Ad) (s l L r : Addr) (ls : List Int) (its : List V) (v : V) (H : Hp) : Prop where
  sc : ScAt A s l ls H
  ld : H L = some (.lst (ls.map V.int))
  rw_ : H r = some (.lst (its ++ [v]))
  pr : Pair (Few.laid ls.sum) v H
def sp_l_looked (K : PySem.W.Frag) (A : Ad) : Sp := fun vs H Q _ => ∃ (s l La r : Addr) (ls xs : List Int) (its : List V) (v : V), vs = [.ref s, .ref La, .ref r, .int (movedOf xs (Few.laid ls.sum) : Nat)] ∧ ScAt A s l ls H ∧ H La = some (.lst (ls.map V.int)) ∧ H r = some (.lst (its ++ [v])) ∧ Pair xs v H ∧ Bd ls ∧ xs.length ≤ 10000 ∧ its.length ≤ 10000 ∧
  ∀ H1 u, Ex H H1 → PairF H (Few.laid ls.sum) u H1 → Q (.bl true) (upd H1 r (.lst (its ++ [v] ++ [u])))
def t_l_looked (K : PySem.W.Frag) (A : Ad) : TS :=
  (tSeq (tAsg (tMeth A.scale "pans" (sp_Scale_pans K A) [] E0 (tVar 0) tNil) (gName 4))
    (tSeq (tAsg (tMeth A.scale "weighs" (sp_Scale_weighs K A) [] E0 (tVar 0) tNil) (gName 5))
    (tSeq (tIfS (tOr (tNot (tB (tCall (sp_l_whole K A) [] E0 (tCons (tVar 5) tNil)))) (tOr (tTest (tOp rNe (tVar 5) (tCB (rSum K) (tCons (tVar 1) tNil)))) (tOr (tNot (tB (tCall (sp_l_neatK K A) [] E0 (tCons (tVar 4) tNil)))) (tTest (tOp rNe (tCall (sp_l_sum K A) [] E0 (tCons (tVar 4) tNil)) (tVar 5)))))) (tRet (tC (.bl false))) tNext)
    (tSeq (tIfS (tOr (tNot (tB (tCall (sp_l_whole K A) [] E0 (tCons (tVar 3) tNil)))) (tTest (tOp rNe (tVar 3) (tCall (sp_l_apart K A) [] E0 (tCons (tOp (rIxL K) (tOp (rIxL K) (tVar 2) (tUn rNegI (tC (.int 1)))) (tC (.int 1))) (tCons (tVar 4) tNil)))))) (tRet (tC (.bl false))) tNext)
    (tSeq (tDrop (tBM K "list" rAppend (tVar 2) (tCons (tLst (tCons (tVar 4) (tCons (tCB (Evl.rListS K) (tCons (tVar 4) tNil)) tNil))) tNil)))
    (tRet (tC (.bl true))))))))
theorem q_appPair {r p : Addr} {xs ys : List V} {ta : TE} {i : Nat} (hr : H r = some (.lst xs)) (hp : H p = some (.lst ys)) (ha : Ev ta σ H (.ref r)) (hi : σ[i]? = some (some (.ref p))) (hz : xs.length < 100000) (k : ∀ H1 q b, Ex H H1 → H q = none → H b = none → H1 q = some (.lst [.ref p, .ref b]) → H1 b = some (.lst ys) → tz D σ (upd H1 r (.lst (xs ++ [.ref q])))) :
    tSeq (tDrop (tBM K "list" rAppend ta (tCons (tLst (tCons (tVar i) (tCons (tCB (Evl.rListS K) (tCons (tVar i) tNil)) tNil))) tNil))) tz D σ H := ha H (Ex.refl H) _ fun H1 e1 => ⟨.inl ⟨rfl, xs, sq_of (e1 _ _ hr)⟩, ⟨_, hi, ⟨_, hi, ⟨p, ys, rfl, .inl (sq_of (e1 _ _ hp)), fun b hb => ⟨by show 2 ≤ sizeLine; decide, fun q hq => by
  have e2 := Ex.new (o := .lst ys) hb
  have e3 := Ex.new (o := .lst [.ref p, .ref b]) hq
  exact ⟨r, xs, .ref q, rfl, rfl, e3 _ _ (e2 _ _ (e1 _ _ hr)), sz_lt hz, k _ q b (e1.trans (e2.trans e3)) (fresh_back (e1.trans e2) hq) (fresh_back e1 hb) upd_same (e3 _ _ upd_same)⟩⟩⟩⟩⟩⟩
theorem ev_sumL {ns : List Int} (h : EvX te σ H (IL K ns)) : Ev (tCB (rSum K) (tCons te tNil)) σ H (.int ns.sum) := ev_cbX1 h fun x H1 _ ⟨a, e, s⟩ H2 e2 Q q => ⟨a, ns, by rw [e], ex_l e2 s, q H2 (Ex.refl H2)⟩
theorem x_last {r : Addr} {its : List V} {v : V} {P : V → Hp → Prop} {i : Nat} (hi : σ[i]? = some (some (.ref r))) (hr : H r = some (.lst (its ++ [v]))) : Ev (tOp (rIxL K) (tVar i) (tUn rNegI (tC (.int 1)))) σ H v := ev_op (ev_var hi) (ev_un ev_c ru_neg) (rv_ixL (sq_of hr) (atI_last _ _))
/-- row[-1][1] -/
theorem x_row {r : Addr} {its : List V} {v : V} {xs : List Int} {i : Nat} (hi : σ[i]? = some (some (.ref r))) (hr : H r = some (.lst (its ++ [v]))) (hp : Pair xs v H) : EvX (tOp (rIxL K) (tOp (rIxL K) (tVar i) (tUn rNegI (tC (.int 1)))) (tC (.int 1))) σ H (ML (xs.map V.int)) := by
  obtain ⟨q, a, b, rfl, h1, h2, h3⟩ := hp
  exact x_ml (ev_op (x_last (P := fun _ _ => True) hi hr) ev_c (rv_ixL (sq_of h1) (atI_nat (j := 1) rfl))) h3
theorem r_l_looked (h : sp_l_looked K A vs H Q E) : t_l_looked K A (D0 Q) (start ["_law_scale", "_law_loads", "_law_row", "_law_many", "_law_now", "_law_whole_here"] vs) H := by
  obtain ⟨s, l, La, r, ls, xs, its, v, rfl, hs, hL, hr, hp, hb, zx, zi, k⟩ := h
  have zl := hb.laid
  refine q_asgL (el_pans (ev_var rfl) hs (by omega)) fun p H1 hp1 e1 hx1 => ?_
  refine q_asg (ev_weighs (ev_var rfl) (hs.ex e1)) fun H2 e2 => ?_
  have e12 := e1.trans e2
  have il : IL K (Few.laid ls.sum) (.ref p) H2 := ⟨p, rfl, sq_of (e2 _ _ hx1)⟩
  refine q_skip (et_or (et_not (et_B (ev_l_whole (ev_var rfl)))) fun _ => et_or (et_test (ev_op (ev_var rfl) (ev_sumL (x_ilv rfl ⟨La, rfl, sq_of (e12 _ _ hL)⟩)) (rv_ne rfl))) fun _ => et_or (et_not (et_B (ev_neatK (x_ilv rfl il) (Few.lay_laid _) (by omega)))) fun _ => et_test (ev_op (ev_sum (x_ilv rfl il)) (ev_var rfl) (rv_ne rfl))) (by rw [Few.neat_laid, Few.load_laid]; simp) fun H3 e3 => ?_
  have e13 := e12.trans e3
  refine q_skip (et_or (et_not (et_B (ev_l_whole (ev_var rfl)))) fun _ => et_test (ev_op (ev_var rfl) (ev_l_apart (x_row rfl (e13 _ _ hr) (hp.ex e13)) (x_ml (ev_var rfl) (e3 _ _ (e2 _ _ hx1))) zx (by omega)) (rv_ne rfl))) (by simp) fun H4 e4 => ?_
  have e14 := e13.trans e4
  refine q_appPair (e14 _ _ hr) (e4 _ _ (e3 _ _ (e2 _ _ hx1))) (ev_var rfl) rfl (by rw [List.length_append]; show its.length + 1 < 100000; omega) fun H5 q b e5 hq hb' hq5 hb5 => ?_
  have c5 : H5 p = some (.lst ((Few.laid ls.sum).map V.int)) := e5 _ _ (e4 _ _ (e3 _ _ (e2 _ _ hx1)))
  exact k H5 (.ref q) (e14.trans e5) ⟨q, p, b, rfl, ⟨fresh_back e14 hq, hp1, fresh_back e14 hb'⟩, hq5, c5, hb5⟩
/-! ### _law_refused -/
def sp_l_refused (K : PySem.W.Frag) (A : Ad) : Sp := fun vs H Q _ => ∃ (a C : Addr) (lo : Bool), vs = [.ref a, .str (if lo = true then "lay" else "back")] ∧ H a = some (ExK (.ref C) a) ∧ ExcC K C ∧ Caught K A C false lo false false (!lo) ∧ RetV (.bl true) H Q
def t_l_refused (K : PySem.W.Frag) (A : Ad) : TS :=
  (tSeq (tIfS (tOr (tB (tCB (rIsK K) (tCons (tVar 0) (tCons (tC (.ref A.laying)) tNil)))) (tOr (tB (tCB (rIsK K) (tCons (tVar 0) (tCons (tC (.ref A.plan)) tNil)))) (tB (tCB (rIsK K) (tCons (tVar 0) (tCons (tC (.ref A.text)) tNil)))))) (tRet (tC (.bl false))) tNext)
    (tSeq (tIfS (tNot (tB (tCB (rIsK K) (tCons (tVar 0) (tCons (tC (.ty "ValueError")) tNil))))) (tRet (tC (.bl false))) tNext)
    (tSeq (tIfS (tTest (tOp rEq (tVar 1) (tC (.str "lay")))) (tRet (tAndV (tCB (rIsK K) (tCons (tVar 0) (tCons (tC (.ref A.load)) tNil))) (tNotV (tCB (rIsK K) (tCons (tVar 0) (tCons (tC (.ref A.deed)) tNil)))))) tNext)
    (tRet (tAndV (tCB (rIsK K) (tCons (tVar 0) (tCons (tC (.ref A.deed)) tNil))) (tNotV (tCB (rIsK K) (tCons (tVar 0) (tCons (tC (.ref A.load)) tNil)))))))))
theorem lay_back : decide (V.str "back" = V.str "lay") = false := by decide +kernel
theorem r_l_refused (h : sp_l_refused K A vs H Q E) : t_l_refused K A (D0 Q) (start ["_law_caught", "_law_word"] vs) H := by
  obtain ⟨a, C, lo, rfl, ha, xc, ct, k⟩ := h
  refine q_skip (b := false) (et_or (a := false) (et_B (ev_isKC rfl ha xc ct.ly)) fun _ => et_or (a := false) (b := false) (et_B (ev_isKC rfl ha xc ct.pl)) fun _ => et_B (ev_isKC rfl ha xc ct.tx)) rfl fun H1 e1 => ?_
  have ha1 := e1 _ _ ha
  refine q_skip (b := false) (et_not (a := true) (et_B (ev_isK rfl ha1 xc ct.ve))) rfl fun H2 e2 => ?_
  have ha2 := e2 _ _ ha1
  cases lo with
  | true =>
    refine q_when (b := true) (et_is (et_test (ev_op (ev_var rfl) ev_c (rv_eq rfl))) (by simp)) (fun _ H3 e3 => ?_) (fun hb => by cases hb)
    have ha3 := e3 _ _ ha2
    exact s_retV (v := .bl true) (ev_andV (a := true) (b := true) (ev_isKC rfl ha3 xc ct.lo) fun _ => ev_notV (a := false) (ev_isKC rfl ha3 xc ct.de)) (k.mono ((e1.trans e2).trans e3))
  | false =>
    refine q_when (b := false) (et_is (et_test (ev_op (ev_var rfl) ev_c (rv_eq rfl))) lay_back) (fun hb => by cases hb) (fun _ H3 e3 => ?_)
    have ha3 := e3 _ _ ha2
    exact s_retV (v := .bl true) (ev_andV (a := true) (b := true) (ev_isKC rfl ha3 xc ct.de) fun _ => ev_notV (a := false) (ev_isKC rfl ha3 xc ct.lo)) (k.mono ((e1.trans e2).trans e3))
/-! ### deeds -/
inductive Dd where
  | bad (d : PyData)
  | lay (n : Int)
  | back
def Dd.run : Dd → List Int → List Int
  | .bad _, ls => ls
  | .lay n, ls => ls ++ [n]
  | .back, ls => ls.dropLast
def Dd.word : Dd → Str
  | .back => "back"
  | _ => "lay"
def Dd.ok (ls : List Int) : Dd → Bool
  | .bad _ => false
  | .lay _ => true
  | .back => !decide (ls = [])
def Dd.Thing (K : PySem.W.Frag) (x : V) (H : Hp) : Dd → Prop
  | .bad d => Th K H x d ∧ wholeD d = false
  | .lay n => x = .int n ∧ Near n
  | .back => x = .non
theorem Dd.Thing.ex {δ : Dd} {x : V} (h : δ.Thing K x H) (e : Ex H H') : δ.Thing K x H' := by
  cases δ with
  | bad d => exact ⟨h.1.mono e, h.2⟩
  | lay n => exact h
  | back => exact h
theorem Dd.run_len (δ : Dd) (ls : List Int) : (δ.run ls).length ≤ ls.length + 1 := by
  cases δ with
  | bad d => exact Nat.le_succ _
  | lay n =>
    show (ls ++ [n]).length ≤ _
    rw [List.length_append]
    exact Nat.le_refl _
  | back =>
    show ls.dropLast.length ≤ _
    rw [List.length_dropLast]
    omega
theorem Dd.run_bd {δ : Dd} {ls : List Int} {x : V} (h : Bd ls) (hl : ls.length ≤ 99) (t : δ.Thing K x H) : Bd (δ.run ls) := by
  refine ⟨by have := δ.run_len ls; omega, ?_⟩
  cases δ with
  | bad d => exact h.2
  | lay n =>
    intro m hm
    rcases List.mem_append.mp hm with z | z
    · exact h.2 m z
    · rw [List.mem_singleton.mp z]
      exact t.2
  | back => exact fun m hm => h.2 m (List.dropLast_subset ls hm)
def DeedAt (K : PySem.W.Frag) (ls : List Int) (δ : Dd) : V → Hp → Prop := fun v H => ∃ t x, v = .ref t ∧ H t = some (.tup [.str δ.word, x, .bl (δ.ok ls)]) ∧ δ.Thing K x H
def DeedN (K : PySem.W.Frag) (H0 : Hp) (ls : List Int) (δ : Dd) : V → Hp → Prop := fun v H => ∃ t x, v = .ref t ∧ H0 t = none ∧ H t = some (.tup [.str δ.word, x, .bl (δ.ok ls)]) ∧ δ.Thing K x (news H0 H)
theorem DeedN.at {ls : List Int} {δ : Dd} {v : V} (h : DeedN K H0 ls δ v H) : DeedAt K ls δ v H := by
  obtain ⟨t, x, e, _, h1, h2⟩ := h
  exact ⟨t, x, e, h1, h2.ex news_le⟩
theorem DeedN.but {M : List Addr} {ls : List Int} {δ : Dd} {v : V} (h : DeedN K H0 ls δ v H) (b : But M H H') (hm : ∀ m ∈ M, H0 m ≠ none) : DeedAt K ls δ v H' := by
  obtain ⟨t, x, e, h0, h1, h2⟩ := h
  exact ⟨t, x, e, b _ _ (ne_mem h0 hm) h1, h2.ex (news_but b hm)⟩
theorem DeedAt.ex {ls : List Int} {δ : Dd} {v : V} (h : DeedAt K ls δ v H) (e : Ex H H') : DeedAt K ls δ v H' := by
  obtain ⟨t, x, h0, h1, h2⟩ := h
  exact ⟨t, x, h0, e _ _ h1, h2.ex e⟩
def sp_l_deed_by (K : PySem.W.Frag) (A : Ad) : Sp := fun vs H Q _ => ∃ (c m : Int) (v : V) (ls : List Int), vs = [.int c, v, .int m] ∧ IL K ls v H ∧ 0 ≤ m ∧ m ≤ 10 ^ 97 ∧ ∀ v' δ H', Ex H H' → DeedN K H ls δ v' H' → Q v' H'
def t_l_deed_by (K : PySem.W.Frag) (A : Ad) : TS :=
  (tSeq (tAsg (tOp rModI (tVar 0) (tC (.int 8))) (gName 3))
    (tSeq (tIfS (tTest (tOp rEq (tVar 3) (tC (.int 7)))) (tRet (tTup (tCons (tC (.str "lay")) (tCons (tOp (rIxL K) (tLst (tCons (tC .non) (tCons (tC (.bl true)) (tCons (tC (.bl false)) (tCons (tC (.str "7")) (tCons (tC (.str "")) (tCons (tLst (tCons (tC (.int 3)) tNil)) (tCons (tTup (tCons (tC (.int 3)) tNil)) (tCons tDictN tNil))))))))) (tOp rModI (tOp rDivI (tVar 0) (tC (.int 8))) (tC (.int 8)))) (tCons (tC (.bl false)) tNil))))) tNext)
    (tSeq (tIfS (tTest (tOp rGtI (tVar 3) (tC (.int 4)))) (tRet (tTup (tCons (tC (.str "back")) (tCons (tC .non) (tCons (tOp (rNeD K) (tVar 1) (tLst tNil)) tNil))))) tNext)
    (tRet (tTup (tCons (tC (.str "lay")) (tCons (tCall (sp_l_load_by K A) [] E0 (tCons (tOp rDivI (tVar 0) (tC (.int 8))) (tCons (tVar 3) (tCons (tVar 2) tNil)))) (tCons (tC (.bl true)) tNil))))))))
def badL : List PyData := [.none, .bool true, .bool false, .str "7", .str "", .list [.int 3], .tuple [.int 3], .dict []]
theorem badL_all : ∀ d ∈ badL, wholeD d = false := by
  intro d hd
  simp only [badL, List.mem_cons, List.not_mem_nil, or_false] at hd
  rcases hd with rfl | rfl | rfl | rfl | rfl | rfl | rfl | rfl <;> rfl
/-- a new tuple of three, told -/
theorem s_retT3 {w : Str} {b : Bool} {t1 t2 t3 : TE} {P : V → Hp → Prop} {D : Ends} (e0 : Ex H0 H) (h1 : Ev t1 σ H (.str w)) (h2 : EvX t2 σ H P) (m : Mono P) (h3 : Ev t3 σ H (.bl b)) (k : ∀ t x H', Ex H H' → H0 t = none → H' t = some (.tup [.str w, x, .bl b]) → P x H' → D.rt (.ref t) H') :
    tRet (tTup (tCons t1 (tCons t2 (tCons t3 tNil)))) D σ H := h1 H (Ex.refl H) _ fun H1 e1 => h2 H1 e1 _ fun x H2 e2 px => h3 H2 (e1.trans e2) _ fun H3 e3 => ⟨by show 3 ≤ sizeLine; decide, fun t ht => by
  have e4 := Ex.new (o := .tup [.str w, x, .bl b]) ht
  have e13 := (e1.trans e2).trans e3
  exact k t x _ (e13.trans e4) (fresh_back (e0.trans e13) ht) upd_same (m _ _ _ (e3.trans e4) px)⟩
theorem x_load_by {tw tm : TE} {c w m : Int} (h : EvA (tCons te (tCons tw (tCons tm tNil))) σ H [.int c, .int w, .int m]) (h0 : 0 ≤ m) (h1 : m ≤ 10 ^ 97) : EvX (tCall (sp_l_load_by K A) [] E (tCons te (tCons tw (tCons tm tNil)))) σ H (fun v _ => ∃ n, v = .int n ∧ Near n) := fun H1 e Q q =>
  h H1 e _ fun H2 e2 => ⟨c, w, m, rfl, h0, h1, fun n H3 e3 hn => q _ H3 (e2.trans e3) ⟨n, rfl, hn⟩⟩
theorem r_l_deed_by (h : sp_l_deed_by K A vs H Q E) : t_l_deed_by K A (D0 Q) (start ["_law_cell", "_law_loads", "_law_most", "_law_way"] vs) H := by
  obtain ⟨c, m, v, ls, rfl, hv, h0, h1, k⟩ := h
  refine q_asg (ev_op (ev_var rfl) ev_c (rv_mod (by decide))) fun H1 e1 => ?_
  refine q_when (et_test (ev_op (ev_var rfl) ev_c (rv_eq rfl))) (fun _ H2 e2 => ?_) (fun _ H2 e2 => ?_)
  · have e0 := e1.trans e2
    obtain ⟨j, hj, hjl⟩ := mod_nat (c / 8) 8 (by decide)
    have lt : j < badL.length := hjl
    have gd : badL[j]? = some badL[j] := List.getElem?_eq_getElem lt
    have b1 := badL_all _ (List.getElem_mem lt)
    exact s_retT3 (H0 := H) e0 ev_c (xn_ix (K := K) (H0 := H) (ds := badL) (j := j) (xn_lst (xn_cons (xn_c fun _ => th_non) (xn_cons (xn_c fun _ => th_bl _) (xn_cons (xn_c fun _ => th_bl _) (xn_cons (xn_c fun _ => th_str _) (xn_cons (xn_c fun _ => th_str _) (xn_cons (xn_lst1 e0) (xn_cons (xn_tup1 e0) (xn_cons (xn_dict e0) xn_nil)))))))) (by decide)) (ev_op (ev_op (ev_var rfl) ev_c (rv_div ⟨by decide, by decide⟩)) ev_c (rv_mod (by decide))) hj gd) mono_thn ev_c fun t x H' e' n0 ht p => k _ (.bad badL[j]) H' (e0.trans e') ⟨t, x, rfl, n0, ht, p, b1⟩
  refine q_when (et_test (ev_op (ev_var rfl) ev_c rv_I0)) (fun _ H3 e3 => ?_) (fun _ H3 e3 => ?_)
  · have e0 := (e1.trans e2).trans e3
    exact s_retT3 (H0 := H) e0 ev_c (x_v (ev_c (v := .non))) mono_is (ev_neI (ys := []) (x_ilv rfl (mono_il _ _ _ e0 hv)) (x_ilL (el_lst ea_nil (by decide)))) fun t x H' e' n0 ht p => k _ .back H' (e0.trans e') ⟨t, x, rfl, n0, ht, p⟩
  · have e0 := (e1.trans e2).trans e3
    exact s_retT3 (H0 := H) e0 ev_c (x_load_by (ea_cons (ev_op (ev_var rfl) ev_c (rv_div ⟨by decide, by decide⟩)) (ea_cons (ev_var rfl) (ea_cons (ev_var rfl) ea_nil))) h0 h1) (fun _ _ _ _ p => p) ev_c fun t x H' e' n0 ht ⟨n, en, hn⟩ => k _ (.lay n) H' (e0.trans e') ⟨t, x, rfl, n0, ht, en, hn⟩
/-! ### _law_done -/
section
variable {s l dx C : Addr} {fs : List (Str × V)} {m : Str} {sp : Sp} {W : WX} {i : Nat} {y : V}
theorem asgW (h : Ev te σ H (.ref s)) (hs : H s = some (.ins C dx fs)) (hm : fs.lookup m = none) (h2 : Ev tx σ H y) (k : ∀ H1, Ex H H1 → sp [.ref s, y] H1 (fun v H2 => D.nx (σ.set i (some v)) H2) (WE W σ)) : tAsg (tMethW C m sp (WE W) te (tCons tx tNil)) (gName i) D σ H :=
  h H (Ex.refl H) _ fun H1 e1 => ⟨s, dx, fs, ⟨rfl, e1 _ _ hs, hm⟩, h2 H1 e1 _ fun H2 e2 => k H2 (e1.trans e2)⟩
theorem asgW0 (h : Ev te σ H (.ref s)) (hs : H s = some (.ins C dx fs)) (hm : fs.lookup m = none) (k : ∀ H1, Ex H H1 → sp [.ref s] H1 (fun v H2 => D.nx (σ.set i (some v)) H2) (WE W σ)) : tAsg (tMethW C m sp (WE W) te tNil) (gName i) D σ H :=
  h H (Ex.refl H) _ fun H1 e1 => ⟨s, dx, fs, ⟨rfl, e1 _ _ hs, hm⟩, k H1 e1⟩
end
def sp_l_done (K : PySem.W.Frag) (A : Ad) : Sp := fun vs H Q _ => ∃ (s l : Addr) (ls : List Int) (dv : V) (δ : Dd), vs = [.ref s, dv] ∧ ScAt A s l ls H ∧ DeedAt K ls δ dv H ∧ Bd ls ∧ ls.length ≤ 99 ∧
  ∀ H', But [s, l] H H' → ScAt A s l (δ.run ls) H' → Q (.int (movedOf (Few.laid ls.sum) (Few.laid (δ.run ls).sum) : Nat)) H'
def t_l_done (K : PySem.W.Frag) (A : Ad) : TS :=
  (tSeq (tAsg (tC .non) (gName 2))
    (tSeq (tAsg (tC (.int 0)) (gName 3))
    (tSeq (tTryK K A.stone 4 (fun W => (tIfS (tTest (tOp rEq (tOp (rIxT K) (tVar 1) (tC (.int 0))) (tC (.str "lay")))) (tAsg (tMethW A.scale "lay" (sp_Scale_lay K A) (WE W) (tVar 0) (tCons (tOp (rIxT K) (tVar 1) (tC (.int 1))) tNil)) (gName 3)) (tAsg (tMethW A.scale "back" (sp_Scale_back K A) (WE W) (tVar 0) tNil) (gName 3)))) (fun a => (tAsg (tVar 4) (gName 2))))
    (tSeq (tIfS (tOr (tAnd (tB (tOp (rIxT K) (tVar 1) (tC (.int 2)))) (tTest (tOp rIsNn (tVar 2) (tC .non)))) (tAnd (tNot (tB (tOp (rIxT K) (tVar 1) (tC (.int 2))))) (tB (tCall (sp_l_refused K A) [] E0 (tCons (tVar 2) (tCons (tOp (rIxT K) (tVar 1) (tC (.int 0))) tNil)))))) (tRet (tVar 3)) tNext)
    (tRet (tC .non))))))
theorem r_l_done (S : ScaleOk K A) (xl : ExcC K A.load) (cl : Caught K A A.load false true false false false) (xd : ExcC K A.deed) (cd : Caught K A A.deed false false false false true) (h : sp_l_done K A vs H Q E) : t_l_done K A (D0 Q) (start ["_law_scale", "_law_deed", "_law_caught", "_law_many", "e"] vs) H := by
  obtain ⟨s, l, ls, dv, δ, rfl, hs, ⟨t, x, rfl, ht, hx⟩, hb, hz, k⟩ := h
  refine q_asg ev_c fun H1 e1 => ?_
  refine q_asg ev_c fun H2 e2 => ?_
  have e12 := e1.trans e2
  obtain ⟨⟨dx, h1⟩, h2⟩ := hs.ex e12
  have hx2 := hx.ex e12
  have ix : ∀ {σ : L2.St} {H' : Hp} {y : V} {j : Nat} {z : Int}, σ[1]? = some (some (.ref t)) → H' t = some (.tup [.str δ.word, x, .bl (δ.ok ls)]) → z = (j : Int) → ([.str δ.word, x, .bl (δ.ok ls)] : List V)[j]? = some y → Ev (tOp (rIxT K) (tVar 1) (tC (.int z))) σ H' y := fun hi hH hz hy => ev_op (ev_var hi) ev_c (rv_ixT (st_of hH) (at_of hz hy))
  -- behind the try: nothing was raised
  have good : ∀ (H3 : Hp) (n : Nat), H3 t = some (.tup [.str δ.word, x, .bl (δ.ok ls)]) → δ.ok ls = true → RetV (.int (n : Int)) H3 Q → (tSeq (tIfS (tOr (tAnd (tB (tOp (rIxT K) (tVar 1) (tC (.int 2)))) (tTest (tOp rIsNn (tVar 2) (tC .non)))) (tAnd (tNot (tB (tOp (rIxT K) (tVar 1) (tC (.int 2))))) (tB (tCall (sp_l_refused K A) [] E0 (tCons (tVar 2) (tCons (tOp (rIxT K) (tVar 1) (tC (.int 0))) tNil)))))) (tRet (tVar 3)) tNext)
    (tRet (tC .non))) (D0 Q) [some (.ref s), some (.ref t), some .non, some (.int (n : Int)), none] H3 := fun H3 n h3 ok k3 => by
    have d2 : Ev (tOp (rIxT K) (tVar 1) (tC (.int 2))) [some (.ref s), some (.ref t), some .non, some (.int (n : Int)), none] H3 (.bl true) := ix rfl h3 rfl (by rw [ok]; rfl)
    refine q_when (b := true) (et_is (et_or (a := true) (b := false) (et_is (et_and (et_B d2) fun _ => et_test (ev_op (ev_var rfl) ev_c rv_isN)) rfl) fun z => by cases z) rfl) (fun _ H4 e4 => ?_) (fun z => by cases z)
    exact s_retV (ev_var rfl) (k3.mono e4)
  -- .. or refused
  have bad : ∀ (C a : Addr) (lo : Bool) (H3 : Hp), δ.word = (if lo = true then ("lay" : Str) else ("back" : Str)) → H3 t = some (.tup [.str δ.word, x, .bl (δ.ok ls)]) → δ.ok ls = false → H3 a = some (ExK (.ref C) a) → ExcC K C → Caught K A C false lo false false (!lo) → RetV (.int 0) H3 Q → (tSeq (tIfS (tOr (tAnd (tB (tOp (rIxT K) (tVar 1) (tC (.int 2)))) (tTest (tOp rIsNn (tVar 2) (tC .non)))) (tAnd (tNot (tB (tOp (rIxT K) (tVar 1) (tC (.int 2))))) (tB (tCall (sp_l_refused K A) [] E0 (tCons (tVar 2) (tCons (tOp (rIxT K) (tVar 1) (tC (.int 0))) tNil)))))) (tRet (tVar 3)) tNext)
    (tRet (tC .non))) (D0 Q) [some (.ref s), some (.ref t), some (.ref a), some (.int 0), none] H3 := fun C a lo H3 hw h3 ok ha xc ct k3 => by
    have d2 : Ev (tOp (rIxT K) (tVar 1) (tC (.int 2))) [some (.ref s), some (.ref t), some (.ref a), some (.int 0), none] H3 (.bl false) := ix rfl h3 rfl (by rw [ok]; rfl)
    have d0 : Ev (tOp (rIxT K) (tVar 1) (tC (.int 0))) [some (.ref s), some (.ref t), some (.ref a), some (.int 0), none] H3 (.str (if lo = true then "lay" else "back")) := ix rfl h3 rfl (by rw [hw]; rfl)
    have rf : Ev (tCall (sp_l_refused K A) [] E0 (tCons (tVar 2) (tCons (tOp (rIxT K) (tVar 1) (tC (.int 0))) tNil))) [some (.ref s), some (.ref t), some (.ref a), some (.int 0), none] H3 (.bl true) := fun H4 e4 Q q =>
      (ea_cons (ev_var (v := .ref a) rfl) (ea_cons d0 ea_nil)) H4 e4 _ fun H5 e5 => ⟨a, C, lo, rfl, (e4.trans e5) _ _ ha, xc, ct, fun H6 e6 => q H6 (e5.trans e6)⟩
    refine q_when (b := true) (et_is (et_or (a := false) (et_is (et_and (a := false) (b := true) (et_B d2) fun z => by cases z) rfl) fun _ => et_and (a := true) (b := true) (et_not (a := false) (et_B d2)) fun _ => et_B rf) rfl) (fun _ H4 e4 => ?_) (fun z => by cases z)
    exact s_retV (ev_var rfl) (k3.mono e4)
  have ht2 := e12 _ _ ht
  have w0 : Ev (tOp rEq (tOp (rIxT K) (tVar 1) (tC (.int 0))) (tC (.str "lay"))) [some (.ref s), some (.ref t), some .non, some (.int 0), none] H2 (.bl (decide (V.str δ.word = V.str "lay"))) := ev_op (ix rfl ht2 rfl rfl) ev_c (rv_eq rfl)
  have stay : ∀ H', Ex H2 H' → δ.run ls = ls → RetV (.int 0) H' Q := fun H' e hr H'' e' => by
    have g := k H'' (But.ex ((e12.trans e).trans e')) (by rw [hr]; exact hs.ex ((e12.trans e).trans e'))
    rw [hr, moved_self] at g
    exact g
  cases δ with
  | bad d =>
    obtain ⟨hd, hw⟩ := hx2
    refine s_if (b := true) (et_is (et_test w0) (by simp [Dd.word])) (fun _ H3 e3 => ?_) (fun z => by cases z)
    refine asgW (ev_var rfl) (e3 _ _ h1) (fs_none _ _ no_lay.1 no_lay.2) (ix rfl (e3 _ _ ht2) rfl rfl) fun H4 e4 => ?_
    refine ⟨s, l, ls, x, d, rfl, hs.ex ((e12.trans e3).trans e4), hd.mono (e3.trans e4), hb, (fun n e => by rw [e] at hw; cases hw), fun _ H5 e5 => ?_⟩
    refine keep_go cl.te (by show 4 < 5; decide) (by decide) fun a H6 e6 ha => ?_
    have e26 := ((e3.trans e4).trans e5).trans e6
    exact bad A.load a true H6 rfl (e26 _ _ ht2) rfl ha xl cl (stay H6 e26 rfl)
  | lay n =>
    obtain ⟨rfl, hn⟩ := hx2
    refine s_if (b := true) (et_is (et_test w0) (by simp [Dd.word])) (fun _ H3 e3 => ?_) (fun z => by cases z)
    refine asgW (ev_var rfl) (e3 _ _ h1) (fs_none _ _ no_lay.1 no_lay.2) (ix rfl (e3 _ _ ht2) rfl rfl) fun H4 e4 => ?_
    refine ⟨s, l, ls, .int n, .int n, rfl, hs.ex ((e12.trans e3).trans e4), th_int n, hb, (fun n' e => ?_), fun z => by cases z⟩
    cases e
    refine ⟨Dd.run_bd (K := K) (H := H) (δ := .lay n) (x := .int n) hb hz ⟨rfl, hn⟩, fun H5 b5 s5 => ?_⟩
    have b := But.pre ((e12.trans e3).trans e4) b5
    have nt : ∀ m ∈ [s, l], t ≠ m := fun m hm z => by
      rcases List.mem_cons.mp hm with q | q
      · rw [z, q, hs.1.choose_spec] at ht
        cases ht
      · rw [z, List.mem_singleton.mp q, hs.2] at ht
        cases ht
    exact good H5 _ (b _ _ (fun z => nt _ z rfl) ht) rfl fun H6 e6 => k H6 (b.ext e6) (s5.ex e6)
  | back =>
    refine s_if (b := false) (et_is (et_test w0) lay_back) (fun z => by cases z) (fun _ H3 e3 => ?_)
    refine asgW0 (ev_var rfl) (e3 _ _ h1) (fs_none _ _ no_back.1 no_back.2) fun H4 e4 => ?_
    have e04 := (e12.trans e3).trans e4
    refine ⟨s, l, ls, rfl, hs.ex e04, hb, (fun r y er H5 b5 s5 => ?_), fun z H5 e5 => ?_⟩
    · have b := But.pre e04 b5
      have nt : ∀ m ∈ [s, l], t ≠ m := fun m hm z => by
        rcases List.mem_cons.mp hm with q | q
        · rw [z, q, hs.1.choose_spec] at ht
          cases ht
        · rw [z, List.mem_singleton.mp q, hs.2] at ht
          cases ht
      have er' : Dd.back.run ls = r := by
        show ls.dropLast = r
        rw [er]
        exact List.dropLast_concat
      have ok : Dd.back.ok ls = true := by
        show (!decide (ls = [])) = true
        rw [er]
        simp
      rw [er'] at k
      exact good H5 _ (b _ _ (fun z => nt _ z rfl) ht) ok fun H6 e6 => k H6 (b.ext e6) (s5.ex e6)
    · refine keep_go cd.te (by show 4 < 5; decide) (by decide) fun a H6 e6 ha => ?_
      have e26 := ((e3.trans e4).trans e5).trans e6
      exact bad A.deed a false H6 rfl (e26 _ _ ht2) (by show (!decide (ls = [])) = false; rw [z]; rfl) ha xd cd (stay H6 e26 (by rw [z]; rfl))
/-! ### _law_step -/
theorem op_call {r : R2} {sp : Sp} {us : List V} {E : XK} (h : EvA ta σ H us) (k : ∀ H1, Ex H H1 → sp (us ++ []) H1 (fun x H2 => te σ H2 fun y H3 => r x y H3 Q) E) : tOp r (tCall sp [] E ta) te σ H Q := h H (Ex.refl H) _ fun H1 e1 => k H1 e1
theorem s_retOr1 (h : Ev te σ H (.bl true)) (k : ∀ H1, Ex H H1 → D.rt (.bl true) H1) : tRet (tOrV te tx) D σ H := h H (Ex.refl H) _ fun H1 e1 => ⟨true, rfl, k H1 e1⟩
theorem s_retOr0 (h : Ev te σ H (.bl false)) (k : ∀ H1, Ex H H1 → tx σ H1 D.rt) : tRet (tOrV te tx) D σ H := h H (Ex.refl H) _ fun H1 e1 => ⟨false, rfl, k H1 e1⟩
structure StepPre (A : Ad) (pr sq lo ro s l L r lq : Addr) (prs los ros : List V) (k : Nat) (ls : List Int) (its : List V) (v : V) (H : Hp) : Prop where
  hpr : H pr = some (.lst prs)
  ps : prs[k]? = some (.ref s)
  npr : pr ∉ [s, l, L, r]
  hlo : H lo = some (.lst los)
  ll : los[k]? = some (.ref L)
  nlo : lo ∉ [s, l, L, r]
  hro : H ro = some (.lst ros)
  rr : ros[k]? = some (.ref r)
  nro : ro ∉ [s, l, L, r]
  loc : Loc A s l L r ls its v H
  nd : [s, l, L, r].Nodup
  q : k = 0 → ScAt A sq lq ls H ∧ sq ∉ [s, l, L, r] ∧ lq ∉ [s, l, L, r]
  pm : PairM [s, l, L, r] (Few.laid ls.sum) v H
  bd : Bd ls
  len : ls.length ≤ 90
  ilen : its.length ≤ 5000
theorem But.fresh {M : List Addr} {p : Addr} (b : But M H H') (hm : ∀ m ∈ M, H' m ≠ none) (hp : H' p = none) : H p = none := by
  cases q : H p with
  | none => rfl
  | some o =>
    have n : p ∉ M := fun z => hm p z hp
    rw [b p o n q] at hp
    cases hp
theorem PairF.backB {M : List Addr} {xs : List Int} {v : V} (h : PairF H1 xs v H') (b : But M H H1) (hm : ∀ m ∈ M, H1 m ≠ none) : PairF H xs v H' := by
  obtain ⟨q, a, c, h0, ⟨n1, n2, n3⟩, h⟩ := h
  exact ⟨q, a, c, h0, ⟨b.fresh hm n1, b.fresh hm n2, b.fresh hm n3⟩, h⟩
theorem PairF.ex {xs : List Int} {v : V} (h : PairF H0 xs v H) (e : Ex H H') : PairF H0 xs v H' := by
  obtain ⟨q, a, b, h0, n, h1, h2, h3⟩ := h
  exact ⟨q, a, b, h0, n, e _ _ h1, e _ _ h2, e _ _ h3⟩
theorem live4 {s l L r : Addr} {ls ks : List Int} {xs : List V} (h : ScAt A s l ls H) (h2 : H L = some (.lst (ks.map V.int))) (h3 : H r = some (.lst xs)) : ∀ m ∈ [s, l, L, r], H m ≠ none := fun m hm z => by
  simp only [List.mem_cons, List.not_mem_nil, or_false] at hm
  rcases hm with q | q | q | q
  · rw [q, h.1.choose_spec] at z
    cases z
  · rw [q, h.2] at z
    cases z
  · rw [q, h2] at z
    cases z
  · rw [q, h3] at z
    cases z
def sp_l_step (K : PySem.W.Frag) (A : Ad) : Sp := fun vs H Q _ => ∃ (pr sq lo ro s l L r lq : Addr) (prs los ros : List V) (k : Nat) (ls : List Int) (its : List V) (v : V) (c m : Int), vs = [.ref pr, .ref sq, .ref lo, .ref ro, .int c, .int m] ∧ c % 2 = (k : Int) ∧ 0 ≤ m ∧ m ≤ 10 ^ 97 ∧ StepPre A pr sq lo ro s l L r lq prs los ros k ls its v H ∧
  ∀ ls' H' u, ls'.length ≤ ls.length + 1 → Bd ls' → (k ≠ 0 → But [s, l, L, r] H H') → (k = 0 → But [s, l, L, r, sq, lq] H H' ∧ ScAt A sq lq ls' H') → Loc A s l L r ls' (its ++ [v]) u H' → PairF H (Few.laid ls'.sum) u H' → Q (.bl true) H'
def t_l_step (K : PySem.W.Frag) (A : Ad) : TS :=
  (tSeq (tAsg (tOp rModI (tVar 4) (tC (.int 2))) (gName 6))
    (tSeq (tAsg (tCall (sp_l_deed_by K A) [] E0 (tCons (tOp rDivI (tVar 4) (tC (.int 2))) (tCons (tOp (rIxL K) (tVar 2) (tVar 6)) (tCons (tVar 5) tNil)))) (gName 7))
    (tSeq (tAsg (tCall (sp_l_done K A) [] E0 (tCons (tOp (rIxL K) (tVar 0) (tVar 6)) (tCons (tVar 7) tNil))) (gName 8))
    (tSeq (tIfS (tAnd (tB (tOp (rIxT K) (tVar 7) (tC (.int 2)))) (tTest (tOp rEq (tOp (rIxT K) (tVar 7) (tC (.int 0))) (tC (.str "lay"))))) (tDrop (tBM K "list" rAppend (tOp (rIxL K) (tVar 2) (tVar 6)) (tCons (tOp (rIxT K) (tVar 7) (tC (.int 1))) tNil))) (tIfS (tB (tOp (rIxT K) (tVar 7) (tC (.int 2)))) (tDrop (tBM0 K "list" rPop (tOp (rIxL K) (tVar 2) (tVar 6)))) tNext))
    (tSeq (tIfS (tNot (tB (tCall (sp_l_looked K A) [] E0 (tCons (tOp (rIxL K) (tVar 0) (tVar 6)) (tCons (tOp (rIxL K) (tVar 2) (tVar 6)) (tCons (tOp (rIxL K) (tVar 3) (tVar 6)) (tCons (tVar 8) tNil))))))) (tRet (tC (.bl false))) tNext)
    (tSeq (tAsg (tMeth A.scale "pans" (sp_Scale_pans K A) [] E0 (tOp (rIxL K) (tVar 0) (tVar 6)) tNil) (gName 9))
    (tSeq (tDrop (tBM K "list" rAppend (tVar 9) (tCons (tOp rModI (tVar 4) (tC (.int 5))) tNil)))
    (tRet (tOrV (tOp rEq (tVar 6) (tC (.int 1))) (tOp rEq (tCall (sp_l_done K A) [] E0 (tCons (tVar 1) (tCons (tVar 7) tNil))) (tVar 8)))))))))))
theorem four {s l L r : Addr} (h : [s, l, L, r].Nodup) : s ≠ l ∧ s ≠ L ∧ s ≠ r ∧ l ≠ L ∧ l ≠ r ∧ L ≠ r := by
  simp only [List.nodup_cons, List.mem_cons, List.not_mem_nil, or_false, not_or, List.nodup_nil, and_true, not_false_eq_true] at h
  exact ⟨h.1.1, h.1.2.1, h.1.2.2, h.2.1.1, h.2.1.2, h.2.2⟩
theorem r_l_step (h : sp_l_step K A vs H Q E) : t_l_step K A (D0 Q) (start ["_law_pair", "_law_quiet_here", "_law_loads", "_law_rows", "_law_cell", "_law_most", "_law_k", "_law_deed", "_law_many", "_law_told"] vs) H := by
  obtain ⟨pr, sq, lo, ro, s, l, L, r, lq, prs, los, ros, k, ls, its, v, c, m, rfl, hk, h0, h1, P, fin⟩ := h
  obtain ⟨n1, n2, n3, n4, n5, n6⟩ := four P.nd
  have s_in : s ∈ [s, l, L, r] := by simp
  have l_in : l ∈ [s, l, L, r] := by simp
  have L_in : L ∈ [s, l, L, r] := by simp
  have r_in : r ∈ [s, l, L, r] := by simp
  refine q_asg (v := .int (k : Int)) (ev_is (ev_op (ev_var rfl) ev_c (rv_mod (by decide))) (congrArg V.int hk)) fun H1 e1 => ?_
  have loadsL : ∀ {σ : L2.St} {H' : Hp}, σ[2]? = some (some (.ref lo)) → σ[6]? = some (some (.int (k : Int))) → H' lo = some (.lst los) → Ev (tOp (rIxL K) (tVar 2) (tVar 6)) σ H' (.ref L) := fun a b h => ev_op (ev_var a) (ev_var b) (rv_ixL (sq_of h) (at_of rfl P.ll))
  have pairS : ∀ {σ : L2.St} {H' : Hp}, σ[0]? = some (some (.ref pr)) → σ[6]? = some (some (.int (k : Int))) → H' pr = some (.lst prs) → Ev (tOp (rIxL K) (tVar 0) (tVar 6)) σ H' (.ref s) := fun a b h => ev_op (ev_var a) (ev_var b) (rv_ixL (sq_of h) (at_of rfl P.ps))
  have rowsR : ∀ {σ : L2.St} {H' : Hp}, σ[3]? = some (some (.ref ro)) → σ[6]? = some (some (.int (k : Int))) → H' ro = some (.lst ros) → Ev (tOp (rIxL K) (tVar 3) (tVar 6)) σ H' (.ref r) := fun a b h => ev_op (ev_var a) (ev_var b) (rv_ixL (sq_of h) (at_of rfl P.rr))
  refine q_asgC (ea_cons (ev_op (ev_var rfl) ev_c (rv_div ⟨by decide, by decide⟩)) (ea_cons (loadsL rfl rfl (e1 _ _ P.hlo)) (ea_cons (ev_var rfl) ea_nil))) fun H2 e2 => ?_
  have e02 := e1.trans e2
  refine ⟨c / 2, m, .ref L, ls, rfl, ⟨L, rfl, sq_of (e02 _ _ P.loc.ld)⟩, h0, h1, fun dv δ H3 e3 hd => ?_⟩
  have e03 := e02.trans e3
  refine q_asgC (ea_cons (pairS rfl rfl (e03 _ _ P.hpr)) (ea_cons (ev_var rfl) ea_nil)) fun H4 e4 => ?_
  have e04 := e03.trans e4
  have hd4 : DeedAt K ls δ dv H4 := hd.at.ex e4
  refine ⟨s, l, ls, dv, δ, rfl, P.loc.sc.ex e04, hd4, P.bd, by have := P.len; omega, fun H5 b5 s5 => ?_⟩
  have live : ∀ m ∈ [s, l, L, r], H2 m ≠ none := fun m hm z => by
    simp only [List.mem_cons, List.not_mem_nil, or_false] at hm
    rcases hm with q | q | q | q
    · rw [q, e02 _ _ P.loc.sc.1.choose_spec] at z
      cases z
    · rw [q, e02 _ _ P.loc.sc.2] at z
      cases z
    · rw [q, e02 _ _ P.loc.ld] at z
      cases z
    · rw [q, e02 _ _ P.loc.rw_] at z
      cases z
  have b05 : But [s, l] H H5 := But.pre e04 b5
  have sub2 : ∀ a ∈ [s, l], a ∈ [s, l, L, r] := fun a ha => by
    simp only [List.mem_cons, List.not_mem_nil, or_false] at ha ⊢
    rcases ha with z | z
    · exact .inl z
    · exact .inr (.inl z)
  have hd5 : DeedAt K ls δ dv H5 := hd.but (b5.pre e4) fun m hm => live m (sub2 m hm)
  have L_ni : L ∉ [s, l] := fun z => by
    simp only [List.mem_cons, List.not_mem_nil, or_false] at z
    rcases z with z | z
    · exact n2 z.symm
    · exact n4 z.symm
  have r_ni : r ∉ [s, l] := fun z => by
    simp only [List.mem_cons, List.not_mem_nil, or_false] at z
    rcases z with z | z
    · exact n3 z.symm
    · exact n5 z.symm
  have hL5 := b05 _ _ L_ni P.loc.ld
  have hr5 := b05 _ _ r_ni P.loc.rw_
  have w5 : But [s, l, L, r] H H5 := b05.sub sub2
  have bd' : Bd (δ.run ls) := by
    obtain ⟨t, x, _, _, hx⟩ := hd5
    exact Dd.run_bd P.bd (by have := P.len; omega) hx
  have ln' := δ.run_len ls
  -- the rest, from where the law's own list goes along
  have rest : ∀ (D : Ends) (tz : TS), (∀ H7, But [s, l, L, r] H H7 → ScAt A s l (δ.run ls) H7 → H7 L = some (.lst ((δ.run ls).map V.int)) → H7 r = some (.lst (its ++ [v])) → But [L] H5 H7 → tz D [some (.ref pr), some (.ref sq), some (.ref lo), some (.ref ro), some (.int c), some (.int m), some (.int (k : Int)), some dv, some (.int (movedOf (Few.laid ls.sum) (Few.laid (δ.run ls).sum) : Nat)), none] H7) →
      tSeq (tIfS (tAnd (tB (tOp (rIxT K) (tVar 7) (tC (.int 2)))) (tTest (tOp rEq (tOp (rIxT K) (tVar 7) (tC (.int 0))) (tC (.str "lay"))))) (tDrop (tBM K "list" rAppend (tOp (rIxL K) (tVar 2) (tVar 6)) (tCons (tOp (rIxT K) (tVar 7) (tC (.int 1))) tNil))) (tIfS (tB (tOp (rIxT K) (tVar 7) (tC (.int 2)))) (tDrop (tBM0 K "list" rPop (tOp (rIxL K) (tVar 2) (tVar 6)))) tNext)) tz D [some (.ref pr), some (.ref sq), some (.ref lo), some (.ref ro), some (.int c), some (.int m), some (.int (k : Int)), some dv, some (.int (movedOf (Few.laid ls.sum) (Few.laid (δ.run ls).sum) : Nat)), none] H5 := by
    intro D tz go
    obtain ⟨t, x, rfl, ht, hx⟩ := hd5
    have hlo5 := w5 _ _ P.nlo P.hlo
    have ix : ∀ {H' : Hp} {y : V} {j : Nat} {z : Int}, Ex H5 H' → z = (j : Int) → ([.str δ.word, x, .bl (δ.ok ls)] : List V)[j]? = some y → Ev (tOp (rIxT K) (tVar 7) (tC (.int z))) [some (.ref pr), some (.ref sq), some (.ref lo), some (.ref ro), some (.int c), some (.int m), some (.int (k : Int)), some (.ref t), some (.int (movedOf (Few.laid ls.sum) (Few.laid (δ.run ls).sum) : Nat)), none] H' y := fun e hz hy => ev_op (ev_var rfl) ev_c (rv_ixT (st_of (e _ _ ht)) (at_of hz hy))
    have upL : ∀ (H6 : Hp) (xs : List Int), Ex H5 H6 → xs = δ.run ls → tz D [some (.ref pr), some (.ref sq), some (.ref lo), some (.ref ro), some (.int c), some (.int m), some (.int (k : Int)), some (.ref t), some (.int (movedOf (Few.laid ls.sum) (Few.laid (δ.run ls).sum) : Nat)), none] (upd H6 L (.lst (xs.map V.int))) := fun H6 xs e6 hxs => by
      subst hxs
      refine go _ ((w5.ext e6).put L_in) ?_ upd_same ?_ ((But.ex e6).put (by simp))
      · exact (s5.ex e6).but (M := [L]) (But.put (But.ex (Ex.refl _)) (by simp)) (by simpa using n2) (by simpa using n4)
      · rw [upd_ne (Ne.symm n6)]
        exact e6 _ _ hr5
    cases δ with
    | bad d =>
      refine q_if (b := false) (et_is (et_and (a := false) (b := true) (et_B (ix (Ex.refl _) (j := 2) rfl rfl)) fun z => by cases z) rfl) (fun z => by cases z) (fun _ H6 e6 => ?_)
      refine s_when (b := false) (et_B (ix e6 (j := 2) rfl rfl)) (fun z => by cases z) (fun _ H7 e7 => ?_)
      exact go _ (w5.ext (e6.trans e7)) (s5.ex (e6.trans e7)) ((e6.trans e7) _ _ hL5) ((e6.trans e7) _ _ hr5) (But.ex (e6.trans e7))
    | lay n =>
      obtain ⟨rfl, hn⟩ := hx
      refine q_if (b := true) (et_is (et_and (a := true) (b := true) (et_B (ix (Ex.refl _) (j := 2) rfl rfl)) fun _ => et_is (et_test (ev_op (ix (Ex.refl _) (j := 0) rfl rfl) ev_c (rv_eq rfl))) (by simp [Dd.word])) rfl) (fun _ H6 e6 => ?_) (fun z => by cases z)
      refine s_app (xs := ls.map V.int) (e6 _ _ hL5) (loadsL rfl rfl (e6 _ _ hlo5)) (ix e6 (j := 1) rfl rfl) (by rw [len_mapI]; have := P.len; omega) fun H7 e7 => ?_
      rw [map_snoc]
      exact upL H7 _ (e6.trans e7) rfl
    | back =>
      refine q_if (b := false) (et_is (et_and (b := false) (et_B (ix (Ex.refl _) (j := 2) rfl rfl)) fun _ => et_is (et_test (ev_op (ix (Ex.refl _) (j := 0) rfl rfl) ev_c (rv_eq rfl))) lay_back) (by rw [Bool.and_false])) (fun z => by cases z) (fun _ H6 e6 => ?_)
      refine s_when (et_B (ix e6 (j := 2) rfl rfl)) (fun hb H7 e7 => ?_) (fun hb H7 e7 => ?_)
      · have nn : ls ≠ [] := by simpa [Dd.ok] using hb
        rcases Few.last_cases ls with z | ⟨r0, x0, z⟩
        · exact absurd z nn
        have lst : (ls.map V.int)[(ls.map V.int).length - 1]? = some (V.int x0) := by
          rw [z, len_mapI, List.map_append]
          simp
        refine s_popS ((e6.trans e7) _ _ hL5) (loadsL rfl rfl ((e6.trans e7) _ _ hlo5)) lst fun H8 e8 => ?_
        have e : (ls.map V.int).dropLast = ls.dropLast.map V.int := by
          rw [z, dropLast_ints, List.dropLast_concat]
        rw [e]
        exact upL H8 _ ((e6.trans e7).trans e8) rfl
      · have nn : ls = [] := by simpa [Dd.ok] using hb
        have er : Dd.back.run ls = ls := by
          rw [nn]
          rfl
        refine go _ (w5.ext (e6.trans e7)) (s5.ex (e6.trans e7)) ?_ ((e6.trans e7) _ _ hr5) (But.ex (e6.trans e7))
        rw [er]
        exact (e6.trans e7) _ _ hL5
  refine rest _ _ fun H7 w7 s7 hL7 hr7 b57 => ?_
  have zl := P.bd.laid
  have b37 : But [s, l, L, r] H3 H7 := ((b5.pre e4).sub sub2).trans (b57.sub fun a ha => by rw [List.mem_singleton.mp ha]; exact L_in)
  -- looked
  refine q_notC (ea_cons (pairS rfl rfl (w7 _ _ P.npr P.hpr)) (ea_cons (loadsL rfl rfl (w7 _ _ P.nlo P.hlo)) (ea_cons (rowsR rfl rfl (w7 _ _ P.nro P.hro)) (ea_cons (ev_var rfl) ea_nil)))) fun H8 e8 => ?_
  have s8 := s7.ex e8
  have hr8 := e8 _ _ hr7
  have w8 := w7.ext e8
  refine ⟨s, l, L, r, δ.run ls, Few.laid ls.sum, its, v, rfl, s8, e8 _ _ hL7, hr8, (P.pm.but w8 fun _ h => h).pair, bd', by omega, by have := P.ilen; omega, fun H9 u e9 hu => notK ?_⟩
  have bR : But [r] H9 (upd H9 r (.lst (its ++ [v] ++ [u]))) := (But.ex (Ex.refl _)).put (by simp)
  have w10 := (w8.ext e9).put (o := .lst (its ++ [v] ++ [u])) r_in
  have b310 := ((b37.ext (e8.trans e9)).put (o := .lst (its ++ [v] ++ [u])) r_in)
  have s10 := (s8.ex e9).but bR (by simpa using n3) (by simpa using n5)
  have L10 : (upd H9 r (.lst (its ++ [v] ++ [u]))) L = some (.lst ((δ.run ls).map V.int)) := by
    rw [upd_ne n6]
    exact e9 _ _ (e8 _ _ hL7)
  have r10 : (upd H9 r (.lst (its ++ [v] ++ [u]))) r = some (.lst (its ++ [v] ++ [u])) := upd_same
  have u10 : PairF H (Few.laid (δ.run ls).sum) u (upd H9 r (.lst (its ++ [v] ++ [u]))) := (hu.but bR (fun m hm z => by rw [List.mem_singleton.mp hm, hr8] at z; cases z)).backB w8 (live4 s8 (e8 _ _ hL7) hr8)
  generalize upd H9 r (.lst (its ++ [v] ++ [u])) = H10 at w10 b310 s10 L10 r10 u10
  have zl' := bd'.laid
  refine q_asgL (el_pans (pairS rfl rfl (w10 _ _ P.npr P.hpr)) s10 (by omega)) fun p H11 hp e11 hx => ?_
  refine q_app hx (ev_var rfl) (ev_op (ev_var rfl) ev_c (rv_mod (by decide))) (by rw [len_mapI]; omega) fun H12 e12 => ?_
  have e13 : Ex H10 (upd H12 p (.lst ((Few.laid (δ.run ls).sum).map V.int ++ [V.int (c % 5)]))) := Ex.mut (e11.trans e12) hp
  generalize upd H12 p (.lst ((Few.laid (δ.run ls).sum).map V.int ++ [V.int (c % 5)])) = H13 at e13
  have k01 : k = 0 ∨ k = 1 := by omega
  rcases k01 with z | z
  · subst z
    obtain ⟨qs, qn, ln⟩ := P.q rfl
    refine s_retOr0 (ev_is (ev_op (ev_var rfl) ev_c (rv_eq rfl)) (by rw [eq_dec]; rfl)) fun H14 e14 => ?_
    have e1014 := e13.trans e14
    have w14 := w10.ext e1014
    have args : EvA (tCons (tVar 1) (tCons (tVar 7) tNil)) [some (.ref pr), some (.ref sq), some (.ref lo), some (.ref ro), some (.int c), some (.int m), some (.int ((0 : Nat) : Int)), some dv, some (.int (movedOf (Few.laid ls.sum) (Few.laid (δ.run ls).sum) : Nat)), some (.ref p)] H14 [.ref sq, dv] := ea_cons (ev_var rfl) (ea_cons (ev_var rfl) ea_nil)
    refine op_call args fun H15 e15 => ?_
    have e1015 := e1014.trans e15
    have w15 := w10.ext e1015
    refine ⟨sq, lq, ls, dv, δ, rfl, qs.but w15 qn ln, hd.but (b310.ext e1015) live, P.bd, by have := P.len; omega, fun H16 b16 s16 => ⟨_, rfl, rfl, ?_⟩⟩
    rw [show decide (V.int (movedOf (Few.laid ls.sum) (Few.laid (δ.run ls).sum) : Nat) = V.int (movedOf (Few.laid ls.sum) (Few.laid (δ.run ls).sum) : Nat)) = true from decide_eq_true rfl]
    have ni : ∀ m ∈ [s, l, L, r], m ∉ [sq, lq] := fun m hm z => by
      simp only [List.mem_cons, List.not_mem_nil, or_false] at z
      rcases z with z | z
      · exact qn (z ▸ hm)
      · exact ln (z ▸ hm)
    have s15 := s10.ex e1015
    refine fin _ H16 u ln' bd' (fun z => absurd rfl z) (fun _ => ⟨(w15.sub ?_).trans (b16.sub ?_), s16⟩) ⟨s15.but b16 (ni _ s_in) (ni _ l_in), b16 _ _ (ni _ L_in) (e1015 _ _ L10), b16 _ _ (ni _ r_in) (e1015 _ _ r10), ?_⟩ ?_
    · intro a ha
      simp only [List.mem_cons, List.not_mem_nil, or_false] at ha ⊢
      rcases ha with z | z | z | z <;> simp [z]
    · intro a ha
      simp only [List.mem_cons, List.not_mem_nil, or_false] at ha ⊢
      rcases ha with z | z <;> simp [z]
    · refine ((u10.ex e1015).but b16 fun m hm z => ?_).pair
      simp only [List.mem_cons, List.not_mem_nil, or_false] at hm
      rcases hm with q | q
      · rw [q, qs.1.choose_spec] at z
        cases z
      · rw [q, qs.2] at z
        cases z
    · refine (u10.ex e1015).but b16 fun m hm z => ?_
      simp only [List.mem_cons, List.not_mem_nil, or_false] at hm
      rcases hm with q | q
      · rw [q, qs.1.choose_spec] at z
        cases z
      · rw [q, qs.2] at z
        cases z
  · subst z
    refine s_retOr1 (ev_is (ev_op (ev_var rfl) ev_c (rv_eq rfl)) (by rw [eq_dec]; rfl)) fun H14 e14 => ?_
    have e1014 := e13.trans e14
    exact fin _ H14 u ln' bd' (fun _ => w10.ext e1014) (fun z => by cases z) ⟨s10.ex e1014, e1014 _ _ L10, e1014 _ _ r10, (u10.ex e1014).pair⟩ (u10.ex e1014)
/-! ### _law_all_back -/
def backAt (ls : List Int) (i : Nat) : Int := (movedOf (Few.laid (ls.take (ls.length - i)).sum) (Few.laid (ls.take (ls.length - (i + 1))).sum) : Nat)
def backs (ls : List Int) : List Int := (List.range ls.length).map (backAt ls)
theorem backs_len (ls : List Int) : (backs ls).length = ls.length := by
  unfold backs
  rw [List.length_map, List.length_range]
theorem backs_at {ls : List Int} {i : Nat} (h : i < ls.length) : (backs ls)[i]? = some (backAt ls i) := by
  unfold backs
  rw [List.getElem?_map, List.getElem?_range h]
  rfl
theorem take_last {ls : List Int} {i : Nat} (h : i < ls.length) : ∃ x, ls.take (ls.length - i) = ls.take (ls.length - (i + 1)) ++ [x] := by
  have hj : ls.length - (i + 1) < ls.length := by omega
  refine ⟨ls[ls.length - (i + 1)], ?_⟩
  have z := take_snoc (List.getElem?_eq_getElem hj)
  rw [← z]
  congr 1
  omega
def NewOr (H0 : Hp) (old : List V) (rows : List V) (H : Hp) : Prop := ∀ w ∈ rows, w ∈ old ∨ ∃ xs, PairF H0 xs w H
theorem q_asgM0 {C s dx : Addr} {fs : List (Str × V)} {m : Str} {sp : Sp} {i : Nat} {E : XK} (h : Ev te σ H (.ref s)) (hs : H s = some (.ins C dx fs)) (hm : fs.lookup m = none) (k : ∀ H1, Ex H H1 → sp [.ref s] H1 (fun v H2 => tz D (σ.set i (some v)) H2) E) : tSeq (tAsg (tMeth C m sp [] E te tNil) (gName i)) tz D σ H :=
  h H (Ex.refl H) _ fun H1 e1 => ⟨s, dx, fs, rfl, e1 _ _ hs, hm, k H1 e1⟩
theorem not_call {sp : Sp} {us : List V} {E : XK} {Qb : Bool → Hp → Prop} (h : EvA ta σ H us) (k : ∀ H1, Ex H H1 → sp (us ++ []) H1 (fun v H2 => ∃ b, v = .bl b ∧ Qb (!b) H2) E) : tNot (tB (tCall sp [] E ta)) σ H Qb := h H (Ex.refl H) _ fun H1 e1 => k H1 e1
theorem call_done {t1 : TE} {s l : Addr} {ls : List Int} {δ : Dd} {E : XK} {ta : TE} (h : Ev t1 σ H (.ref s)) (hs : ScAt A s l ls H) (hb : Bd ls) (hz : ls.length ≤ 99) (htup : ∀ H1, Ex H H1 → ∀ Q : VK, (∀ v H2, Ex H1 H2 → DeedAt K ls δ v H2 → Q v H2) → ta σ H1 Q)
    (k : ∀ H2, But [s, l] H H2 → ScAt A s l (δ.run ls) H2 → Q (.int (movedOf (Few.laid ls.sum) (Few.laid (δ.run ls).sum) : Nat)) H2) : tCall (sp_l_done K A) [] E (tCons t1 (tCons ta tNil)) σ H Q :=
  h H (Ex.refl H) _ fun H1 e1 => htup H1 e1 _ fun v H2 e2 hd => ⟨s, l, ls, v, δ, rfl, hs.ex (e1.trans e2), hd, hb, hz, fun H3 b3 s3 => k H3 (But.pre (e1.trans e2) b3) s3⟩
/-- ("back", None, b) -/
theorem tup_back {ls : List Int} {b : Bool} (hb : b = Dd.back.ok ls) : ∀ H1, Ex H H1 → ∀ Q : VK, (∀ v H2, Ex H1 H2 → DeedAt K ls .back v H2 → Q v H2) → (tTup (tCons (tC (.str "back")) (tCons (tC .non) (tCons (tC (.bl b)) tNil)))) σ H1 Q := fun H1 _ Q q =>
  ⟨by show 3 ≤ sizeLine; decide, fun t ht => q _ _ (Ex.new ht) ⟨t, .non, rfl, by rw [hb]; exact upd_same, rfl⟩⟩
def sp_l_all_back (K : PySem.W.Frag) (A : Ad) : Sp := fun vs H Q _ => ∃ (s l L r : Addr) (ls : List Int) (its : List V) (v : V), vs = [.ref s, .ref L, .ref r] ∧ Loc A s l L r ls its v H ∧ PairM [s, l, L, r] (Few.laid ls.sum) v H ∧ [s, l, L, r].Nodup ∧ Bd ls ∧ ls.length ≤ 90 ∧ its.length ≤ 5000 ∧
  ∀ p H' its' u, But [s, l, L, r] H H' → H p = none → H' p = some (.lst ((backs ls).map V.int)) → Loc A s l L r [] its' u H' → its'.length ≤ its.length + ls.length + 1 → NewOr H (its ++ [v]) (its' ++ [u]) H' → Q (.ref p) H'
def t_l_all_back (K : PySem.W.Frag) (A : Ad) : TS :=
  (tSeq (tAsg (tLst tNil) (gName 3))
    (tSeq (tWhile (tTest (tOp (rNeD K) (tVar 1) (tLst tNil))) (tSeq (tAsg (tMeth A.scale "back" (sp_Scale_back K A) [] E0 (tVar 0) tNil) (gName 4))
    (tSeq (tDrop (tBM0 K "list" rPop (tVar 1)))
    (tSeq (tIfS (tNot (tB (tCall (sp_l_looked K A) [] E0 (tCons (tVar 0) (tCons (tVar 1) (tCons (tVar 2) (tCons (tVar 4) tNil))))))) (tRet (tC .non)) tNext)
    (tDrop (tBM K "list" rAppend (tVar 3) (tCons (tVar 4) tNil)))))))
    (tSeq (tIfS (tOr (tTest (tOp rNe (tCall (sp_l_done K A) [] E0 (tCons (tVar 0) (tCons (tTup (tCons (tC (.str "back")) (tCons (tC .non) (tCons (tC (.bl false)) tNil)))) tNil))) (tC (.int 0)))) (tNot (tB (tCall (sp_l_looked K A) [] E0 (tCons (tVar 0) (tCons (tVar 1) (tCons (tVar 2) (tCons (tC (.int 0)) tNil)))))))) (tRet (tC .non)) tNext)
    (tRet (tVar 3)))))
theorem r_l_all_back (h : sp_l_all_back K A vs H Q E) : t_l_all_back K A (D0 Q) (start ["_law_scale", "_law_loads", "_law_row", "_law_found", "_law_many"] vs) H := by
  obtain ⟨s, l, L, r, ls, its, v, rfl, lc, pm, nd, hb, hz, iz, fin⟩ := h
  obtain ⟨n1, n2, n3, n4, n5, n6⟩ := four nd
  refine q_asgL (xs := []) (el_lst ea_nil (by decide)) fun p H1 hp e1 hx => ?_
  have p_ni : p ∉ [s, l, L, r] := ne_mem hp (live4 lc.sc lc.ld lc.rw_)
  have pn : p ≠ s ∧ p ≠ l ∧ p ≠ L ∧ p ≠ r := by
    simp only [List.mem_cons, List.not_mem_nil, or_false, not_or] at p_ni
    exact p_ni
  have live1 : ∀ m ∈ p :: [s, l, L, r], H1 m ≠ none := fun m hm => by
    rcases List.mem_cons.mp hm with z | z
    · rw [z, hx]
      intro q
      cases q
    · exact live4 (lc.sc.ex e1) (e1 _ _ lc.ld) (e1 _ _ lc.rw_) m z
  have in_s : s ∈ p :: [s, l, L, r] := by simp
  have in_l : l ∈ p :: [s, l, L, r] := by simp
  have in_L : L ∈ p :: [s, l, L, r] := by simp
  have in_r : r ∈ p :: [s, l, L, r] := by simp
  have in_p : p ∈ p :: [s, l, L, r] := by simp
  have sub2 : ∀ a ∈ [s, l], a ∈ p :: [s, l, L, r] := fun a ha => by
    simp only [List.mem_cons, List.not_mem_nil, or_false] at ha
    rcases ha with z | z <;> rw [z] <;> assumption
  have ni2 : ∀ a, a = L ∨ a = r ∨ a = p → a ∉ [s, l] := fun a ha z => by
    simp only [List.mem_cons, List.not_mem_nil, or_false] at z
    rcases ha with q | q | q <;> subst q <;> rcases z with w | w
    · exact n2 w.symm
    · exact n4 w.symm
    · exact n3 w.symm
    · exact n5 w.symm
    · exact pn.1 w
    · exact pn.2.1 w
  -- the looks
  have look : ∀ (D : Ends) (tz : TS) (ks xs : List Int) (is : List V) (w : V) (o : V) (H2 : Hp) (te : TE), Ev te [some (.ref s), some (.ref L), some (.ref r), some (.ref p), some o] H2 (.int (movedOf xs (Few.laid ks.sum) : Nat)) → ScAt A s l ks H2 → H2 L = some (.lst (ks.map V.int)) → H2 r = some (.lst (is ++ [w])) → Pair xs w H2 → Bd ks → xs.length ≤ 10000 → is.length ≤ 10000 → (∀ H3 u, Ex H2 H3 → PairF H2 (Few.laid ks.sum) u H3 → tz D [some (.ref s), some (.ref L), some (.ref r), some (.ref p), some o] (upd H3 r (.lst (is ++ [w] ++ [u])))) →
      tSeq (tIfS (tNot (tB (tCall (sp_l_looked K A) [] E0 (tCons (tVar 0) (tCons (tVar 1) (tCons (tVar 2) (tCons te tNil))))))) (tRet (tC .non)) tNext) tz D [some (.ref s), some (.ref L), some (.ref r), some (.ref p), some o] H2 := fun D tz ks xs is w o H2 te hte hs hl hr hp hb hx hi go =>
    q_notC (ea_cons (ev_var rfl) (ea_cons (ev_var rfl) (ea_cons (ev_var rfl) (ea_cons hte ea_nil)))) fun H3 e3 => ⟨s, l, L, r, ks, xs, is, w, rfl, hs.ex e3, e3 _ _ hl, e3 _ _ hr, hp.ex e3, hb, hx, hi, fun H4 u e4 hu => notK (go H4 u (e3.trans e4) (hu.back e3))⟩
  refine q_while (fun m σ' H' => ∃ i is u o, m = ls.length - i ∧ i ≤ ls.length ∧ σ' = [some (.ref s), some (.ref L), some (.ref r), some (.ref p), o] ∧ But (p :: [s, l, L, r]) H1 H' ∧ Loc A s l L r (ls.take (ls.length - i)) is u H' ∧ PairM (p :: [s, l, L, r]) (Few.laid (ls.take (ls.length - i)).sum) u H' ∧ H' p = some (.lst (((backs ls).take i).map V.int)) ∧ is.length ≤ its.length + i ∧ NewOr H1 (its ++ [v]) (is ++ [u]) H') ls.length
    ⟨0, its, v, none, by omega, Nat.zero_le _, rfl, But.ex (Ex.refl _), ?_, ?_, hx, by omega, fun w hw => .inl hw⟩ ?_
  · rw [Nat.sub_zero, List.take_length]
    exact ⟨lc.sc.ex e1, e1 _ _ lc.ld, e1 _ _ lc.rw_, lc.pr.ex e1⟩
  · rw [Nat.sub_zero, List.take_length]
    obtain ⟨q, a, b, e0, ⟨m1, m2, m3⟩, g1, g2, g3⟩ := pm
    refine ⟨q, a, b, e0, ⟨?_, ?_, ?_⟩, e1 _ _ g1, e1 _ _ g2, e1 _ _ g3⟩
    · rintro z
      rcases List.mem_cons.mp z with z | z
      · rw [z, hp] at g1
        cases g1
      · exact m1 z
    · rintro z
      rcases List.mem_cons.mp z with z | z
      · rw [z, hp] at g2
        cases g2
      · exact m2 z
    · rintro z
      rcases List.mem_cons.mp z with z | z
      · rw [z, hp] at g3
        cases g3
      · exact m3 z
  rintro m σ' H' ⟨i, is, u, o, rfl, hi, rfl, bt, lc', pm', hp', iz', nw⟩
  refine ⟨!decide (ls.take (ls.length - i) = []), et_test (ev_neI (ys := []) (x_ilv rfl ⟨L, rfl, sq_of lc'.ld⟩) (x_ilL (el_lst ea_nil (by decide)))), fun hb1 H2 e2 => ?_, fun hb0 H2 e2 => ?_⟩
  · have nn : ls.take (ls.length - i) ≠ [] := by simpa using hb1
    have lt : i < ls.length := by
      rcases Nat.lt_or_ge i ls.length with z | z
      · exact z
      · exact absurd (by rw [show ls.length - i = 0 by omega, List.take_zero]) nn
    obtain ⟨x, ex⟩ := take_last lt
    have hbk := hb.take (ls.length - i)
    have hbk' := hb.take (ls.length - (i + 1))
    refine ⟨fun σ2 H3 => ∃ is u o, σ2 = [some (.ref s), some (.ref L), some (.ref r), some (.ref p), o] ∧ But (p :: [s, l, L, r]) H1 H3 ∧ Loc A s l L r (ls.take (ls.length - (i + 1))) is u H3 ∧ PairM (p :: [s, l, L, r]) (Few.laid (ls.take (ls.length - (i + 1))).sum) u H3 ∧ H3 p = some (.lst (((backs ls).take (i + 1)).map V.int)) ∧ is.length ≤ its.length + (i + 1) ∧ NewOr H1 (its ++ [v]) (is ++ [u]) H3,
      fun σ2 H3 ⟨is, u, o, q1, q2, q3, q4, q5, q6, q7⟩ => ⟨ls.length - (i + 1), by omega, i + 1, is, u, o, rfl, lt, q1, q2, q3, q4, q5, q6, q7⟩, ?_⟩
    obtain ⟨⟨dx, hs2⟩, hl2⟩ := lc'.sc.ex e2
    refine q_asgM0 (ev_var rfl) hs2 (fs_none _ _ no_back.1 no_back.2) fun H3 e3 => ?_
    refine ⟨s, l, _, rfl, lc'.sc.ex (e2.trans e3), hbk, fun r0 y er H4 b4 s4 => ?_, fun z => absurd z nn⟩
    have er0 : r0 = ls.take (ls.length - (i + 1)) := by
      rw [ex] at er
      exact (List.append_inj' er rfl).1.symm
    subst er0
    have hv : (movedOf (Few.laid (ls.take (ls.length - i)).sum) (Few.laid (ls.take (ls.length - (i + 1))).sum) : Nat) = backAt ls i := rfl
    have b34 := But.pre (e2.trans e3) b4
    have hL4 : H4 L = some (.lst ((ls.take (ls.length - i)).map V.int)) := b34 _ _ (ni2 L (.inl rfl)) lc'.ld
    have hr4 : H4 r = some (.lst (is ++ [u])) := b34 _ _ (ni2 r (.inr (.inl rfl))) lc'.rw_
    have hp4 : H4 p = some (.lst (((backs ls).take i).map V.int)) := b34 _ _ (ni2 p (.inr (.inr rfl))) hp'
    have w4 := bt.trans (b34.sub sub2)
    have pm4 := pm'.but b34 sub2
    have lst : ((ls.take (ls.length - i)).map V.int)[((ls.take (ls.length - i)).map V.int).length - 1]? = some (V.int x) := by
      rw [ex, len_mapI, List.map_append]
      simp
    have edl : ((ls.take (ls.length - i)).map V.int).dropLast = (ls.take (ls.length - (i + 1))).map V.int := by rw [ex, dropLast_ints]
    refine q_popS hL4 (ev_var rfl) lst fun H5 e5 => ?_
    rw [edl]
    have bL : But [L] H5 (upd H5 L (.lst ((ls.take (ls.length - (i + 1))).map V.int))) := (But.ex (Ex.refl _)).put (by simp)
    have s6 := (s4.ex e5).but bL (by simpa using n2) (by simpa using n4)
    have hL6 : (upd H5 L (.lst ((ls.take (ls.length - (i + 1))).map V.int))) L = some (.lst ((ls.take (ls.length - (i + 1))).map V.int)) := upd_same
    have hr6 := bL _ _ (by simpa using Ne.symm n6) (e5 _ _ hr4)
    have hp6 := bL _ _ (by simpa using pn.2.2.1) (e5 _ _ hp4)
    have w6 := (w4.ext e5).put (o := .lst ((ls.take (ls.length - (i + 1))).map V.int)) in_L
    have pm6 := (pm4.but (But.ex e5) (M' := []) (fun _ z => by cases z)).but bL fun a ha => by rw [List.mem_singleton.mp ha]; exact in_L
    have b46 : But [L] H4 (upd H5 L (.lst ((ls.take (ls.length - (i + 1))).map V.int))) := (But.ex e5).trans bL
    generalize upd H5 L (.lst ((ls.take (ls.length - (i + 1))).map V.int)) = H6 at s6 hL6 hr6 hp6 w6 pm6 b46
    have zl := hbk.laid
    refine look _ _ (ls.take (ls.length - (i + 1))) (Few.laid (ls.take (ls.length - i)).sum) is u _ H6 (tVar 4) (ev_var rfl) s6 hL6 hr6 pm6.pair hbk' (by omega) (by omega) fun H7 u' e7 hu => ?_
    have bR : But [r] H7 (upd H7 r (.lst (is ++ [u] ++ [u']))) := (But.ex (Ex.refl _)).put (by simp)
    have live6 : ∀ m ∈ p :: [s, l, L, r], H6 m ≠ none := fun m hm => by
      rcases List.mem_cons.mp hm with z | z
      · rw [z, hp6]
        intro q
        cases q
      · exact live4 s6 hL6 hr6 m z
    have hu8 := hu.but (bR) (fun m hm => by rw [List.mem_singleton.mp hm, hr6]; intro q; cases q)
    have s8 := (s6.ex e7).but bR (by simpa using n3) (by simpa using n5)
    have hL8 := bR _ _ (by simpa using n6) (e7 _ _ hL6)
    have hr8 : (upd H7 r (.lst (is ++ [u] ++ [u']))) r = some (.lst (is ++ [u] ++ [u'])) := upd_same
    have hp8 := bR _ _ (by simpa using pn.2.2.2) (e7 _ _ hp6)
    have w8 := (w6.ext e7).put (o := .lst (is ++ [u] ++ [u'])) in_r
    have b48 : But [L, r] H4 (upd H7 r (.lst (is ++ [u] ++ [u']))) := ((b46.sub (by simp)).trans (But.ex e7)).trans (bR.sub (by simp))
    generalize upd H7 r (.lst (is ++ [u] ++ [u'])) = H8 at hu8 s8 hL8 hr8 hp8 w8 b48
    refine s_app hp8 (ev_var rfl) (ev_var rfl) (by rw [len_mapI, List.length_take, backs_len]; omega) fun H9 e9 => ?_
    have e_step : ((backs ls).take i).map V.int ++ [V.int (movedOf (Few.laid (ls.take (ls.length - i)).sum) (Few.laid (ls.take (ls.length - (i + 1))).sum) : Nat)] = ((backs ls).take (i + 1)).map V.int := by
      rw [take_snoc (backs_at lt), List.map_append]
      rfl
    rw [e_step]
    have bP : But [p] H9 (upd H9 p (.lst (((backs ls).take (i + 1)).map V.int))) := (But.ex (Ex.refl _)).put (by simp)
    have hu10 := (hu8.ex e9).but bP (fun m hm => by rw [List.mem_singleton.mp hm, hp6]; intro q; cases q)
    have w10 := (w8.ext e9).put (o := .lst (((backs ls).take (i + 1)).map V.int)) in_p
    have b410 : But (p :: [s, l, L, r]) H' (upd H9 p (.lst (((backs ls).take (i + 1)).map V.int))) := (b34.sub sub2).trans ((((b48.sub (fun a ha => by
      simp only [List.mem_cons, List.not_mem_nil, or_false] at ha
      rcases ha with z | z <;> rw [z] <;> assumption)).ext e9)).put in_p)
    refine ⟨is ++ [u], u', _, rfl, w10, ⟨(s8.ex e9).but bP (by simpa using Ne.symm pn.1) (by simpa using Ne.symm pn.2.1), bP _ _ (by simpa using Ne.symm pn.2.2.1) (e9 _ _ hL8), bP _ _ (by simpa using Ne.symm pn.2.2.2) (e9 _ _ hr8), hu10.pair⟩, hu10.toM live6, upd_same, by rw [List.length_append]; show is.length + 1 ≤ _; omega, fun w hw => ?_⟩
    rcases List.mem_append.mp hw with z | z
    · rcases nw w z with q | ⟨xs, q⟩
      · exact .inl q
      · exact .inr ⟨xs, q.but b410 live1⟩
    · rw [List.mem_singleton.mp z]
      exact .inr ⟨_, hu10.backB w6 live6⟩
  · have nn : ls.take (ls.length - i) = [] := by
      cases z : decide (ls.take (ls.length - i) = []) with
      | true => exact of_decide_eq_true z
      | false =>
        rw [z] at hb0
        cases hb0
    have ii : i = ls.length := by
      rcases Nat.lt_or_ge i ls.length with z | z
      · obtain ⟨x, ex⟩ := take_last z
        rw [nn] at ex
        simp at ex
      · omega
    subst ii
    rw [Nat.sub_self, List.take_zero] at lc' pm'
    rw [show (backs ls).take ls.length = backs ls by rw [← backs_len ls, List.take_length]] at hp'
    have b0 : Bd [] := ⟨Nat.zero_le _, fun n hn => by cases hn⟩
    have z0 := b0.laid
    -- one more back is refused, one more look
    refine call_done (K := K) (A := A) (l := l) (ls := []) (δ := .back) (ev_var rfl) (lc'.sc.ex e2) b0 (Nat.zero_le _) (tup_back rfl) fun H3 b3 s3 => ?_
    have b23 := But.pre e2 b3
    have hL3 : H3 L = some (.lst (([] : List Int).map V.int)) := b23 _ _ (ni2 L (.inl rfl)) lc'.ld
    have hr3 : H3 r = some (.lst (is ++ [u])) := b23 _ _ (ni2 r (.inr (.inl rfl))) lc'.rw_
    have hp3 := b23 _ _ (ni2 p (.inr (.inr rfl))) hp'
    have w3 := bt.trans (b23.sub sub2)
    have pm3 := pm'.but b23 sub2
    have s3' : ScAt A s l [] H3 := s3
    refine ⟨rfl, _, rfl, ?_⟩
    have args : EvA (tCons (tVar 0) (tCons (tVar 1) (tCons (tVar 2) (tCons (tC (.int 0)) tNil)))) [some (.ref s), some (.ref L), some (.ref r), some (.ref p), o] H3 [.ref s, .ref L, .ref r, .int 0] := ea_cons (ev_var rfl) (ea_cons (ev_var rfl) (ea_cons (ev_var rfl) (ea_cons ev_c ea_nil)))
    show (if (!decide (V.int (movedOf (Few.laid ([] : List Int).sum) (Few.laid ([] : List Int).sum) : Nat) = V.int 0)) = true then _ else _)
    rw [moved_self, if_neg (by decide)]
    refine not_call args fun H4 e4 => ?_
    refine ⟨s, l, L, r, [], Few.laid ([] : List Int).sum, is, u, by rw [moved_self]; rfl, s3'.ex e4, e4 _ _ hL3, e4 _ _ hr3, pm3.pair.ex e4, b0, by omega, by omega, fun H5 u' e5 hu => ⟨true, rfl, ?_⟩⟩
    have bR : But [r] H5 (upd H5 r (.lst (is ++ [u] ++ [u']))) := (But.ex (Ex.refl _)).put (by simp)
    have e35 := e4.trans e5
    have hu6 := (hu.but bR (fun m hm => by rw [List.mem_singleton.mp hm, e4 _ _ hr3]; intro q; cases q)).back e4
    have s6 := (s3'.ex e35).but bR (by simpa using n3) (by simpa using n5)
    have hL6 := bR _ _ (by simpa using n6) (e35 _ _ hL3)
    have hr6 : (upd H5 r (.lst (is ++ [u] ++ [u']))) r = some (.lst (is ++ [u] ++ [u'])) := upd_same
    have hp6 := bR _ _ (by simpa using pn.2.2.2) (e35 _ _ hp3)
    have w6 := (w3.ext e35).put (o := .lst (is ++ [u] ++ [u'])) in_r
    have b36 : But (p :: [s, l, L, r]) H' (upd H5 r (.lst (is ++ [u] ++ [u']))) := ((b23.sub sub2).ext e35).put in_r
    have live3 : ∀ m ∈ p :: [s, l, L, r], H3 m ≠ none := fun m hm => by
      rcases List.mem_cons.mp hm with z | z
      · rw [z, hp3]
        intro q
        cases q
      · exact live4 s3' hL3 hr3 m z
    generalize upd H5 r (.lst (is ++ [u] ++ [u'])) = H6 at hu6 s6 hL6 hr6 hp6 w6 b36
    refine s_ret (ev_var rfl) fun H7 e7 => ?_
    have w7 : But [s, l, L, r] H H7 := fun a o' n e => by
      have np : a ≠ p := ne_of_none e hp
      exact e7 _ _ (w6 a o' (fun z => by
        rcases List.mem_cons.mp z with q | q
        · exact np q
        · exact n q) (e1 _ _ e))
    have hu7 : PairF H1 (Few.laid ([] : List Int).sum) u' H7 := (hu6.backB w3 live3).ex e7
    refine fin p H7 (is ++ [u]) u' w7 hp (e7 _ _ hp6) ⟨s6.ex e7, e7 _ _ hL6, e7 _ _ hr6, hu7.pair⟩ (by rw [List.length_append]; show is.length + 1 ≤ _; omega) fun w hw => ?_
    rcases List.mem_append.mp hw with z | z
    · rcases nw w z with q | ⟨xs, q⟩
      · exact .inl q
      · exact .inr ⟨xs, ((q.but b36 live1).ex e7).back e1⟩
    · rw [List.mem_singleton.mp z]
      exact .inr ⟨_, hu7.back e1⟩
/-! ### _law_quiet -/
def sp_l_quiet (K : PySem.W.Frag) (A : Ad) : Sp := fun vs H Q _ => ∃ (sq lq L r : Addr) (ls : List Int) (its : List V) (v : V), vs = [.ref sq, .ref L, .ref r] ∧ ScAt A sq lq ls H ∧ H L = some (.lst (ls.map V.int)) ∧ H r = some (.lst (its ++ [v])) ∧ Pair (Few.laid ls.sum) v H ∧ Bd ls ∧ RetV (.bl true) H Q
def t_l_quiet (K : PySem.W.Frag) (A : Ad) : TS :=
  (tSeq (tAsg (tMeth A.scale "weighs" (sp_Scale_weighs K A) [] E0 (tVar 0) tNil) (gName 3))
    (tSeq (tAsg (tMeth A.scale "pans" (sp_Scale_pans K A) [] E0 (tVar 0) tNil) (gName 4))
    (tRet (tAndV (tCall (sp_l_whole K A) [] E0 (tCons (tVar 3) tNil)) (tAndV (tOp rEq (tVar 3) (tCB (rSum K) (tCons (tVar 1) tNil))) (tAndV (tCall (sp_l_neatK K A) [] E0 (tCons (tVar 4) tNil)) (tOp (rEqD K) (tVar 4) (tOp (rIxL K) (tOp (rIxL K) (tVar 2) (tUn rNegI (tC (.int 1)))) (tC (.int 1))))))))))
theorem r_l_quiet (h : sp_l_quiet K A vs H Q E) : t_l_quiet K A (D0 Q) (start ["_law_quiet_here", "_law_loads", "_law_row", "_law_whole_here", "_law_now"] vs) H := by
  obtain ⟨sq, lq, L, r, ls, its, v, rfl, hs, hL, hr, hp, hb, k⟩ := h
  have zl := hb.laid
  refine q_asg (ev_weighs (ev_var rfl) hs) fun H1 e1 => ?_
  refine q_asgL (el_pans (ev_var rfl) (hs.ex e1) (by omega)) fun p H2 hp2 e2 hx => ?_
  have e12 := e1.trans e2
  have il : IL K (Few.laid ls.sum) (.ref p) H2 := ⟨p, rfl, sq_of hx⟩
  refine s_retV (v := .bl true) (ev_is (ev_andV (ev_l_whole (ev_var rfl)) fun _ => ev_andV (ev_op (ev_var rfl) (ev_sumL (x_ilv rfl ⟨L, rfl, sq_of (e12 _ _ hL)⟩)) (rv_eq rfl)) fun _ => ev_andV (ev_neatK (x_ilv rfl il) (Few.lay_laid _) (by omega)) fun _ => ev_eqI (x_ilv rfl il) (x_weak (x_row rfl (e12 _ _ hr) (hp.ex e12)) fun _ _ z => ml_il z)) ?_) (k.mono e12)
  rw [Few.neat_laid]
  simp
theorem ev_quiet {t1 t2 t3 : TE} {sq lq L r : Addr} {ls : List Int} {its : List V} {v : V} {E : XK} (h1 : Ev t1 σ H (.ref sq)) (h2 : Ev t2 σ H (.ref L)) (h3 : Ev t3 σ H (.ref r)) (hs : ScAt A sq lq ls H) (hL : H L = some (.lst (ls.map V.int))) (hr : H r = some (.lst (its ++ [v]))) (hp : Pair (Few.laid ls.sum) v H) (hb : Bd ls) :
    Ev (tCall (sp_l_quiet K A) [] E (tCons t1 (tCons t2 (tCons t3 tNil)))) σ H (.bl true) := fun H1 e Q q =>
  (ea_cons h1 (ea_cons h2 (ea_cons h3 ea_nil))) H1 e _ fun H2 e2 => ⟨sq, lq, L, r, ls, its, v, rfl, hs.ex (e.trans e2), (e.trans e2) _ _ hL, (e.trans e2) _ _ hr, hp.ex (e.trans e2), hb, fun H3 e3 => q H3 (e2.trans e3)⟩
/-! ### the state of the law -/
theorem M_four (s l L r : Bool → Addr) (sq lq : Addr) (nd : [r true, r false, L true, L false, lq, sq, l true, s true, l false, s false].Nodup) (j : Bool): [s j, l j, L j, r j].Nodup ∧ sq ∉ [s j, l j, L j, r j] ∧ lq ∉ [s j, l j, L j, r j] ∧ (∀ a, (a = s (!j) ∨ a = l (!j) ∨ a = L (!j) ∨ a = r (!j)) → a ∉ [s j, l j, L j, r j, sq, lq]) := by
  simp only [List.nodup_cons, List.mem_cons, List.not_mem_nil, or_false, not_or, List.nodup_nil, and_true, not_false_eq_true] at nd ⊢
  obtain ⟨⟨a1, a2, a3, a4, a5, a6, a7, a8, a9⟩, ⟨b1, b2, b3, b4, b5, b6, b7, b8⟩, ⟨c1, c2, c3, c4, c5, c6, c7⟩, ⟨d1, d2, d3, d4, d5, d6⟩, ⟨e1, e2, e3, e4, e5⟩, ⟨f1, f2, f3, f4⟩, ⟨g1, g2, g3⟩, ⟨h1, h2⟩, i1⟩ := nd
  cases j
  · refine ⟨⟨⟨?_, ?_, ?_⟩, ⟨?_, ?_⟩, ?_⟩, ⟨?_, ?_, ?_, ?_⟩, ⟨?_, ?_, ?_, ?_⟩, ?_⟩
    all_goals first | assumption | exact fun z => absurd z.symm (by assumption) | skip
    intro a ha
    simp only [Bool.not_false] at ha
    rcases ha with z | z | z | z <;> subst z <;> refine ⟨?_, ?_, ?_, ?_, ?_, ?_⟩ <;> first | assumption | exact fun z => absurd z.symm (by assumption)
  · refine ⟨⟨⟨?_, ?_, ?_⟩, ⟨?_, ?_⟩, ?_⟩, ⟨?_, ?_, ?_, ?_⟩, ⟨?_, ?_, ?_, ?_⟩, ?_⟩
    all_goals first | assumption | exact fun z => absurd z.symm (by assumption) | skip
    intro a ha
    simp only [Bool.not_true] at ha
    rcases ha with z | z | z | z <;> subst z <;> refine ⟨?_, ?_, ?_, ?_, ?_, ?_⟩ <;> first | assumption | exact fun z => absurd z.symm (by assumption)

abbrev Ms (s l L r : Bool → Addr) (sq lq : Addr) : List Addr := [r true, r false, L true, L false, lq, sq, l true, s true, l false, s false]
theorem PairM.of_pair {M : List Addr} {xs ys : List Int} {v : V} (h : PairM M xs v H) (p : Pair ys v H) : PairM M ys v H := by
  obtain ⟨q, a, b, e, n, h1, h2, h3⟩ := h
  obtain ⟨q', a', b', e', g1, g2, g3⟩ := p
  rw [e] at e'
  cases e'
  rw [h1] at g1
  cases g1
  exact ⟨q, a, b, e, n, h1, g2, g3⟩
structure LS (A : Ad) (pr sq lq lo ro : Addr) (s l L r : Bool → Addr) (ls : Bool → List Int) (qs : List Int) (n : Nat) (H : Hp) : Prop where
  nd : (Ms s l L r sq lq).Nodup
  hpr : H pr = some (.lst [.ref (s false), .ref (s true)])
  npr : pr ∉ Ms s l L r sq lq
  hlo : H lo = some (.lst [.ref (L false), .ref (L true)])
  nlo : lo ∉ Ms s l L r sq lq
  hro : H ro = some (.lst [.ref (r false), .ref (r true)])
  nro : ro ∉ Ms s l L r sq lq
  q : ScAt A sq lq qs H
  loc : ∀ j, ∃ its v, Loc A (s j) (l j) (L j) (r j) (ls j) its v H ∧ its.length ≤ n ∧ PairM (Ms s l L r sq lq) (Few.laid (ls j).sum) v H ∧ ∀ u ∈ its ++ [v], ∃ xs, PairM (Ms s l L r sq lq) xs u H
  bd : ∀ j, Bd (ls j) ∧ (ls j).length ≤ n
section
variable {pr sq lq lo ro : Addr} {s l L r : Bool → Addr} {ls : Bool → List Int} {qs : List Int} {n : Nat}
theorem LS.live (S : LS A pr sq lq lo ro s l L r ls qs n H) : ∀ m ∈ Ms s l L r sq lq, H m ≠ none := fun m hm => by
  obtain ⟨i0, v0, l0, _⟩ := S.loc false
  obtain ⟨i1, v1, l1, _⟩ := S.loc true
  have q0 := live4 l0.sc l0.ld l0.rw_
  have q1 := live4 l1.sc l1.ld l1.rw_
  simp only [List.mem_cons, List.not_mem_nil, or_false] at hm
  rcases hm with z | z | z | z | z | z | z | z | z | z <;> rw [z]
  · exact q1 _ (by simp)
  · exact q0 _ (by simp)
  · exact q1 _ (by simp)
  · exact q0 _ (by simp)
  · rw [S.q.2]
    intro w
    cases w
  · rw [S.q.1.choose_spec]
    intro w
    cases w
  · exact q1 _ (by simp)
  · exact q1 _ (by simp)
  · exact q0 _ (by simp)
  · exact q0 _ (by simp)
theorem sub_Ms (j : Bool) : ∀ a ∈ [s j, l j, L j, r j, sq, lq], a ∈ Ms s l L r sq lq := fun a ha => by
  simp only [List.mem_cons, List.not_mem_nil, or_false] at ha ⊢
  cases j <;> (rcases ha with z | z | z | z | z | z <;> simp [z])
theorem LS.ex (S : LS A pr sq lq lo ro s l L r ls qs n H) (e : Ex H H') : LS A pr sq lq lo ro s l L r ls qs n H' :=
  ⟨S.nd, e _ _ S.hpr, S.npr, e _ _ S.hlo, S.nlo, e _ _ S.hro, S.nro, S.q.ex e, fun j => by
    obtain ⟨its, v, lc, z, pm, al⟩ := S.loc j
    exact ⟨its, v, ⟨lc.sc.ex e, e _ _ lc.ld, e _ _ lc.rw_, lc.pr.ex e⟩, z, pm.but (But.ex e) (M' := []) (fun _ w => by cases w), fun u hu => (al u hu).imp fun _ p => p.but (But.ex e) (M' := []) (fun _ w => by cases w)⟩, S.bd⟩
/-- one side moves on, the other stays -/
theorem LS.move (S : LS A pr sq lq lo ro s l L r ls qs n H) (j : Bool) {Mk : List Addr} (hM : ∀ a ∈ Mk, a ∈ [s j, l j, L j, r j, sq, lq]) (b : But Mk H H') {ks qs' : List Int} {its its' : List V} {v v' : V} {n' : Nat} (hn : n ≤ n') (lc : Loc A (s j) (l j) (L j) (r j) ks its' v' H') (hz : its'.length ≤ n') (old : ∀ u ∈ its ++ [v], ∃ xs, PairM (Ms s l L r sq lq) xs u H)
    (new : NewOr H (its ++ [v]) (its' ++ [v']) H') (hq : ScAt A sq lq qs' H') (hb : Bd ks) (hk : ks.length ≤ n') : LS A pr sq lq lo ro s l L r (fun i => if i = j then ks else ls i) qs' n' H' := by
  have sub : ∀ a ∈ Mk, a ∈ Ms s l L r sq lq := fun a ha => sub_Ms j a (hM a ha)
  have all : ∀ u ∈ its' ++ [v'], ∃ xs, PairM (Ms s l L r sq lq) xs u H' := fun u hu => by
    rcases new u hu with z | ⟨xs, z⟩
    · exact (old u z).imp fun _ p => p.but b sub
    · exact ⟨xs, z.toM S.live⟩
  refine ⟨S.nd, b _ _ (fun z => S.npr (sub _ z)) S.hpr, S.npr, b _ _ (fun z => S.nlo (sub _ z)) S.hlo, S.nlo, b _ _ (fun z => S.nro (sub _ z)) S.hro, S.nro, hq, fun i => ?_, fun i => ?_⟩
  · by_cases e : i = j
    · subst e
      rw [if_pos rfl]
      obtain ⟨xs, p⟩ := all v' (by simp)
      exact ⟨its', v', lc, hz, p.of_pair lc.pr, all⟩
    · rw [if_neg e]
      have ei : i = !j := by cases i <;> cases j <;> first | rfl | exact absurd rfl e
      obtain ⟨its0, v0, lc0, z0, pm0, al0⟩ := S.loc i
      obtain ⟨_, _, _, far⟩ := M_four s l L r sq lq S.nd j
      have ni : ∀ a, a = s i ∨ a = l i ∨ a = L i ∨ a = r i → a ∉ Mk := fun a ha z => far a (by rw [← ei]; exact ha) (hM a z)
      have pm1 := pm0.but b sub
      exact ⟨its0, v0, ⟨lc0.sc.but b (ni _ (.inl rfl)) (ni _ (.inr (.inl rfl))), b _ _ (ni _ (.inr (.inr (.inl rfl)))) lc0.ld, b _ _ (ni _ (.inr (.inr (.inr rfl)))) lc0.rw_, pm1.pair⟩, by omega, pm1, fun u hu => (al0 u hu).imp fun _ p => p.but b sub⟩
  · by_cases e : i = j
    · rw [if_pos e]
      exact ⟨hb, hk⟩
    · rw [if_neg e]
      exact ⟨(S.bd i).1, by have := (S.bd i).2; omega⟩
def bN (j : Bool) : Nat := if j = true then 1 else 0
theorem LS.pre (S : LS A pr sq lq lo ro s l L r ls qs n H) (j : Bool) (hq : j = false → qs = ls false) (hn : n ≤ 90) : ∃ its v, StepPre A pr sq lo ro (s j) (l j) (L j) (r j) lq [.ref (s false), .ref (s true)] [.ref (L false), .ref (L true)] [.ref (r false), .ref (r true)] (bN j) (ls j) its v H ∧ its.length ≤ n ∧ ∀ u ∈ its ++ [v], ∃ xs, PairM (Ms s l L r sq lq) xs u H := by
  obtain ⟨its, v, lc, z, pm, al⟩ := S.loc j
  obtain ⟨nd, nq, nl, _⟩ := M_four s l L r sq lq S.nd j
  have sub4 : ∀ a ∈ [s j, l j, L j, r j], a ∈ Ms s l L r sq lq := fun a ha => sub_Ms j a (by
    simp only [List.mem_cons, List.not_mem_nil, or_false] at ha ⊢
    rcases ha with z | z | z | z <;> simp [z])
  have pm4 : PairM [s j, l j, L j, r j] (Few.laid (ls j).sum) v H := by
    obtain ⟨q, a, b, e, ⟨m1, m2, m3⟩, h⟩ := pm
    exact ⟨q, a, b, e, ⟨fun z => m1 (sub4 _ z), fun z => m2 (sub4 _ z), fun z => m3 (sub4 _ z)⟩, h⟩
  refine ⟨its, v, ⟨S.hpr, by cases j <;> rfl, fun z => S.npr (sub4 _ z), S.hlo, by cases j <;> rfl, fun z => S.nlo (sub4 _ z), S.hro, by cases j <;> rfl, fun z => S.nro (sub4 _ z), lc, nd, fun hk => ?_, pm4, (S.bd j).1, by have := (S.bd j).2; omega, by omega⟩, z, al⟩
  cases j with
  | true => cases hk
  | false =>
    rw [← hq rfl]
    exact ⟨S.q, nq, nl⟩
end
/-! ### the things that the law makes first -/
def Mem (M : List Addr) (H : Hp) : Prop := M.Nodup ∧ ∀ m ∈ M, H m ≠ none
theorem Mem.ex {M : List Addr} (h : Mem M H) (e : Ex H H') : Mem M H' := ⟨h.1, fun m hm z => h.2 m hm (fresh_back e z)⟩
theorem Mem.cons {M : List Addr} {p : Addr} (h : Mem M H) (hp : H p = none) (e : Ex H H') (hp' : H' p ≠ none) : Mem (p :: M) H' :=
  ⟨List.nodup_cons.mpr ⟨ne_mem hp h.2, h.1⟩, fun m hm => by
    rcases List.mem_cons.mp hm with z | z
    · rw [z]
      exact hp'
    · exact (h.ex e).2 m z⟩
theorem Mem.cons2 {M : List Addr} {p q : Addr} (h : Mem M H) (hp : H p = none) (hq : H q = none) (ne : p ≠ q) (e : Ex H H') (hp' : H' p ≠ none) (hq' : H' q ≠ none) : Mem (q :: p :: M) H' :=
  ⟨List.nodup_cons.mpr ⟨fun z => by
    rcases List.mem_cons.mp z with w | w
    · exact ne w.symm
    · exact ne_mem hq h.2 w, (h.cons hp e hp').1⟩, fun m hm => by
    rcases List.mem_cons.mp hm with z | z
    · rw [z]
      exact hq'
    · exact (h.cons hp e hp').2 m z⟩
theorem out_cons {M : List Addr} {a p : Addr} {o : HO} (h : a ∉ M) (ha : H a = some o) (hp : H p = none) : a ∉ p :: M := fun z => by
  rcases List.mem_cons.mp z with w | w
  · exact ne_of_none ha hp w
  · exact h w
theorem PairM.cons {M : List Addr} {p : Addr} {xs : List Int} {v : V} (h : PairM M xs v H) (hp : H p = none) : PairM (p :: M) xs v H := by
  obtain ⟨q, a, b, e, ⟨n1, n2, n3⟩, h1, h2, h3⟩ := h
  exact ⟨q, a, b, e, ⟨out_cons n1 h1 hp, out_cons n2 h2 hp, out_cons n3 h3 hp⟩, h1, h2, h3⟩
theorem PairM.exs {M : List Addr} {xs : List Int} {v : V} (h : PairM M xs v H) (e : Ex H H') : PairM M xs v H' := h.but (But.ex e) (M' := []) fun _ z => by cases z
/-- Scale() -/
theorem mk_scale {E : XK} (k : ∀ s l H', Ex H H' → H s = none → H l = none → s ≠ l → ScAt A s l [] H' → Q (.ref s) H') : (tMake A.scale (sp_Scale_init K A) [] E tNil) σ H Q := fun x dx hx hd ne => ⟨x, dx, rfl, upd_same, fun l H' hl b sc => ⟨rfl, by
  have nlx : l ≠ x := fun z => by
    rw [z, upd_same] at hl
    cases hl
  have hl1 : (upd H dx (.own x)) l = none := by
    rw [upd_ne nlx] at hl
    exact hl
  have nld : l ≠ dx := fun z => by
    rw [z, upd_same] at hl1
    cases hl1
  have hl0 : H l = none := by
    rw [upd_ne nld] at hl1
    exact hl1
  refine k x l H' (fun a o h => ?_) hx hl0 (Ne.symm nlx) sc
  have n1 : a ≠ x := ne_of_none h hx
  have n2 : a ≠ dx := ne_of_none h hd
  refine b a o (by simpa using n1) ?_
  rw [upd_ne n1, upd_ne n2]
  exact h⟩⟩
/-- [] -/
theorem mk_nil (k : ∀ p H', Ex H H' → H p = none → H' p = some (.lst []) → Q (.ref p) H') : (tLst tNil) σ H Q := ⟨Nat.zero_le _, fun p hp => k p _ (Ex.new hp) hp upd_same⟩
theorem lst1 {t1 : TE} (k : t1 σ H fun x H1 => [x].length ≤ sizeLine ∧ ∀ p, H1 p = none → Q (.ref p) (upd H1 p (.lst [x]))) : tLst (tCons t1 tNil) σ H Q := k
theorem lst2 {t1 t2 : TE} (k : t1 σ H fun x H1 => t2 σ H1 fun y H2 => [x, y].length ≤ sizeLine ∧ ∀ p, H2 p = none → Q (.ref p) (upd H2 p (.lst [x, y]))) : tLst (tCons t1 (tCons t2 tNil)) σ H Q := k
/-- [[], []], a pair -/
theorem mk_pair (k : ∀ u H', Ex H H' → PairF H [] u H' → Q u H') : (tLst (tCons (tLst tNil) (tCons (tLst tNil) tNil))) σ H Q := lst2 <| mk_nil fun a H1 e1 ha ha1 => mk_nil fun b H2 e2 hb hb2 => ⟨by show 2 ≤ sizeLine; decide, fun q hq => by
  have e3 := Ex.new (o := .lst [.ref a, .ref b]) hq
  exact k _ _ ((e1.trans e2).trans e3) ⟨q, a, b, rfl, ⟨fresh_back (e1.trans e2) hq, ha, fresh_back e1 hb⟩, upd_same, e3 _ _ (e2 _ _ ha1), e3 _ _ hb2⟩⟩
/-- [[[], []]], a row -/
theorem mk_row {M : List Addr} (hm : Mem M H) (k : ∀ r u H', Ex H H' → H r = none → H' r = some (.lst [u]) → PairM (r :: M) [] u H' → Q (.ref r) H') : (tLst (tCons (tLst (tCons (tLst tNil) (tCons (tLst tNil) tNil))) tNil)) σ H Q := lst1 <| mk_pair fun u H1 e1 hu => ⟨by show 1 ≤ sizeLine; decide, fun r hr => by
  have e2 := Ex.new (o := .lst [u]) hr
  exact k r u _ (e1.trans e2) (fresh_back e1 hr) upd_same (((hu.toM hm.2).cons hr).exs e2)⟩
theorem q_done_loop {j : Bool} : True := trivial
theorem q_orC {t : TT} {sp : Sp} {us : List V} {E : XK} {r : V} (h : EvT t σ H false) (h2 : ∀ H1, Ex H H1 → EvA ta σ H1 us) (k : ∀ H1, Ex H H1 → sp (us ++ []) H1 (NotK r D tz σ) E) : tSeq (tIfS (tOr t (tNot (tB (tCall sp [] E ta)))) (tRet (tC r)) tNext) tz D σ H := h H (Ex.refl H) _ fun H1 e1 => h2 H1 e1 H1 (Ex.refl H1) _ fun H2 e2 => k H2 (e1.trans e2)
/-! ### law -/
def sp_law (K : PySem.W.Frag) (A : Ad) : Sp := fun vs H Q _ => ∃ v ns, vs = [v] ∧ IL K ns v H ∧ ns.length ≤ 63 ∧ RetV (.bl true) H Q
def t_law (K : PySem.W.Frag) (A : Ad) : TS :=
  (tSeq (tAsg (tLst (tCons (tMake A.scale (sp_Scale_init K A) [] E0 tNil) (tCons (tMake A.scale (sp_Scale_init K A) [] E0 tNil) tNil))) (gName 1))
    (tSeq (tAsg (tMake A.scale (sp_Scale_init K A) [] E0 tNil) (gName 2))
    (tSeq (tAsg (tLst (tCons (tLst tNil) (tCons (tLst tNil) tNil))) (gName 3))
    (tSeq (tAsg (tLst (tCons (tLst (tCons (tLst (tCons (tLst tNil) (tCons (tLst tNil) tNil))) tNil)) (tCons (tLst (tCons (tLst (tCons (tLst tNil) (tCons (tLst tNil) tNil))) tNil)) tNil))) (gName 4))
    (tSeq (tAsg (tOp rPowI (tC (.int 10)) (tC (.int 18))) (gName 5))
    (tSeq (tAsg (tC (.int 40)) (gName 6))
    (tSeq (tIfS (tTest (tOp rEq (tOp rModI (tOp rDivI (tCall (sp_l_cell_at K A) [] E0 (tCons (tVar 0) (tCons (tC (.int 0)) tNil))) (tC (.int 16))) (tC (.int 8))) (tC (.int 5)))) (tSeq (tAsg (tOp rMulW (tOp rPowI (tC (.int 10)) (tC (.int 50))) (tOp rPowI (tC (.int 10)) (tC (.int 47)))) (gName 5))
    (tAsg (tC (.int 20)) (gName 6))) tNext)
    (tSeq (tIfS (tOr (tTest (tOp (rNeD K) (tMeth A.scale "pans" (sp_Scale_pans K A) [] E0 (tOp (rIxL K) (tVar 1) (tC (.int 0))) tNil) (tLst tNil))) (tTest (tOp rNe (tMeth A.scale "weighs" (sp_Scale_weighs K A) [] E0 (tOp (rIxL K) (tVar 1) (tC (.int 1))) tNil) (tC (.int 0))))) (tRet (tC (.bl false))) tNext)
    (tSeq (tFor (iList K (tSl (rSlL K) (tVar 0) tNoPart (tPart (tVar 6)))) (gName 7) (tIfS (tNot (tB (tCall (sp_l_step K A) [] E0 (tCons (tVar 1) (tCons (tVar 2) (tCons (tVar 3) (tCons (tVar 4) (tCons (tVar 7) (tCons (tVar 5) tNil))))))))) (tRet (tC (.bl false))) tNext))
    (tSeq (tAsg (tOp rModI (tCB (Evl.rLenS K) (tCons (tVar 0) tNil)) (tC (.int 2))) (gName 8))
    (tSeq (tAsg (tCall (sp_l_all_back K A) [] E0 (tCons (tOp (rIxL K) (tVar 1) (tVar 8)) (tCons (tOp (rIxL K) (tVar 3) (tVar 8)) (tCons (tOp (rIxL K) (tVar 4) (tVar 8)) tNil)))) (gName 9))
    (tSeq (tIfS (tOr (tTest (tOp rIsNn (tVar 9) (tC .non))) (tNot (tB (tCall (sp_l_looked K A) [] E0 (tCons (tOp (rIxL K) (tVar 1) (tOp rSubI (tC (.int 1)) (tVar 8))) (tCons (tOp (rIxL K) (tVar 3) (tOp rSubI (tC (.int 1)) (tVar 8))) (tCons (tOp (rIxL K) (tVar 4) (tOp rSubI (tC (.int 1)) (tVar 8))) (tCons (tC (.int 0)) tNil)))))))) (tRet (tC (.bl false))) tNext)
    (tSeq (tIfS (tTest (tOp rEq (tVar 8) (tC (.int 0)))) (tFor (iList K (tVar 9)) (gName 10) (tIfS (tTest (tOp rNe (tCall (sp_l_done K A) [] E0 (tCons (tVar 2) (tCons (tTup (tCons (tC (.str "back")) (tCons (tC .non) (tCons (tC (.bl true)) tNil)))) tNil))) (tVar 10))) (tRet (tC (.bl false))) tNext)) tNext)
    (tSeq (tIfS (tNot (tB (tCall (sp_l_quiet K A) [] E0 (tCons (tVar 2) (tCons (tOp (rIxL K) (tVar 3) (tC (.int 0))) (tCons (tOp (rIxL K) (tVar 4) (tC (.int 0))) tNil)))))) (tRet (tC (.bl false))) tNext)
    (tSeq (tFor (iList K (tOp rCat (tOp (rIxL K) (tVar 4) (tC (.int 0))) (tOp (rIxL K) (tVar 4) (tC (.int 1))))) (gLst K 2 (gCons (gName 11) (gCons (gName 12) gNil))) (tIfS (tTest (tOp (rNeD K) (tVar 11) (tVar 12))) (tRet (tC (.bl false))) tNext))
    (tRet (tC (.bl true))))))))))))))))))
theorem x_at {i k : Nat} {p : Addr} {xs : List V} {y : V} {z : Int} (hi : σ[i]? = some (some (.ref p))) (hp : H p = some (.lst xs)) (hb : Ev tb σ H (.int z)) (hz : z = (k : Int)) (hy : xs[k]? = some y) : Ev (tOp (rIxL K) (tVar i) tb) σ H y := ev_op (ev_var hi) hb (rv_ixL (sq_of hp) (at_of hz hy))
theorem two_at (f : Bool → Addr) (j : Bool) : ([.ref (f false), .ref (f true)] : List V)[bN j]? = some (.ref (f j)) := by cases j <;> rfl
theorem q_mid {t : TS} {Mid : L2.St → Hp → Prop} (use : (∀ σ' H', Mid σ' H' → tz D σ' H') → tSeq t tz D σ H) (rest : ∀ σ' H', Mid σ' H' → tz D σ' H') : tSeq t tz D σ H := use rest
theorem ex_but {M : List Addr} (b : But M H1 H') (e : Ex H H1) (hm : ∀ m ∈ M, H m = none) : Ex H H' := fun a o h => b a o (fun z => by rw [hm a z] at h; cases h) (e a o h)
def NotS (r : V) (D : Ends) (σ : L2.St) : VK := fun v H2 => ∃ b, v = .bl b ∧ (if (!b) = true then (tRet (tC r)) D σ H2 else tNext D σ H2)
theorem notS {r : V} (h : D.nx σ H) : NotS r D σ (.bl true) H := ⟨true, rfl, by
  rw [if_neg (by decide)]
  exact h⟩
theorem s_notC {r : V} {sp : Sp} {us : List V} {E : XK} (h : EvA ta σ H us) (k : ∀ H1, Ex H H1 → sp (us ++ []) H1 (NotS r D σ) E) : tIfS (tNot (tB (tCall sp [] E ta))) (tRet (tC r)) tNext D σ H := h H (Ex.refl H) _ fun H1 e1 => k H1 e1
theorem LS.setq {pr sq lq lo ro : Addr} {s l L r : Bool → Addr} {ls : Bool → List Int} {qs qs' : List Int} {n : Nat} (S : LS A pr sq lq lo ro s l L r ls qs n H) (b : But [sq, lq] H H') (hq : ScAt A sq lq qs' H') : LS A pr sq lq lo ro s l L r ls qs' n H' := by
  have sub : ∀ a ∈ [sq, lq], a ∈ Ms s l L r sq lq := fun a ha => sub_Ms true a (by
    simp only [List.mem_cons, List.not_mem_nil, or_false] at ha ⊢
    rcases ha with z | z <;> simp [z])
  refine ⟨S.nd, b _ _ (fun z => S.npr (sub _ z)) S.hpr, S.npr, b _ _ (fun z => S.nlo (sub _ z)) S.hlo, S.nlo, b _ _ (fun z => S.nro (sub _ z)) S.hro, S.nro, hq, fun j => ?_, S.bd⟩
  obtain ⟨its, v, lc, z, pm, al⟩ := S.loc j
  obtain ⟨_, nq, nl, _⟩ := M_four s l L r sq lq S.nd j
  have ni : ∀ a ∈ [s j, l j, L j, r j], a ∉ [sq, lq] := fun a ha z => by
    simp only [List.mem_cons, List.not_mem_nil, or_false] at z
    rcases z with w | w
    · exact nq (w ▸ ha)
    · exact nl (w ▸ ha)
  have pm1 := pm.but b sub
  exact ⟨its, v, ⟨lc.sc.but b (ni _ (by simp)) (ni _ (by simp)), b _ _ (ni _ (by simp)) lc.ld, b _ _ (ni _ (by simp)) lc.rw_, pm1.pair⟩, z, pm1, fun u hu => (al u hu).imp fun _ p => p.but b sub⟩
theorem q_mk {te : TE} {i : Nat} (k : te σ H fun v H1 => tz D (σ.set i (some v)) H1) : tSeq (tAsg te (gName i)) tz D σ H := k
theorem r_law (h : sp_law K A vs H Q E) : t_law K A (D0 Q) (start ["_law_script", "_law_pair", "_law_quiet_here", "_law_loads", "_law_rows", "_law_most", "_law_size", "_law_cell", "_law_k", "_law_numbers", "_law_many", "_law_told", "_law_kept"] vs) H := by
  obtain ⟨v, ns, rfl, hv, hns, k⟩ := h
  -- the things
  refine q_mk (lst2 (mk_scale fun s0 l0 H1 e1 hs0 hl0 ne0 sc0 => mk_scale fun s1 l1 H2 e2 hs1 hl1 ne1 sc1 => ⟨by show 2 ≤ sizeLine; decide, fun pr hpr => ?_⟩))
  have m1 : Mem [l0, s0] H1 := Mem.cons2 (M := []) ⟨List.nodup_nil, fun m z => by cases z⟩ hs0 hl0 ne0 e1 (by rw [sc0.1.choose_spec]; intro z; cases z) (by rw [sc0.2]; intro z; cases z)
  have m2 : Mem [l1, s1, l0, s0] H2 := m1.cons2 hs1 hl1 ne1 e2 (by rw [sc1.1.choose_spec]; intro z; cases z) (by rw [sc1.2]; intro z; cases z)
  have e3 := Ex.new (o := .lst [V.ref s0, V.ref s1]) hpr
  have npr := ne_mem hpr m2.2
  have pr3 : (upd H2 pr (.lst [V.ref s0, V.ref s1])) pr = some (.lst [.ref s0, .ref s1]) := upd_same
  have sc0 := (sc0.ex e2).ex e3
  have sc1 := sc1.ex e3
  have m3 := m2.ex e3
  have e03 := (e1.trans e2).trans e3
  generalize upd H2 pr (.lst [V.ref s0, V.ref s1]) = H3 at e3 pr3 sc0 sc1 m3 e03
  refine q_mk (mk_scale fun sq lq H4 e4 hsq hlq neq scq => ?_)
  have m4 : Mem [lq, sq, l1, s1, l0, s0] H4 := m3.cons2 hsq hlq neq e4 (by rw [scq.1.choose_spec]; intro z; cases z) (by rw [scq.2]; intro z; cases z)
  have npr4 : pr ∉ [lq, sq, l1, s1, l0, s0] := out_cons (out_cons npr pr3 hsq) pr3 hlq
  have pr4 := e4 _ _ pr3
  have sc0 := sc0.ex e4
  have sc1 := sc1.ex e4
  refine q_mk (lst2 (mk_nil fun L0 H5 e5 hL0 h5 => mk_nil fun L1 H6 e6 hL1 h6 => ⟨by show 2 ≤ sizeLine; decide, fun lo hlo => ?_⟩))
  have m6 : Mem [L1, L0, lq, sq, l1, s1, l0, s0] H6 := (m4.cons hL0 e5 (by rw [h5]; intro z; cases z)).cons hL1 e6 (by rw [h6]; intro z; cases z)
  have npr6 : pr ∉ [L1, L0, lq, sq, l1, s1, l0, s0] := out_cons (out_cons npr4 pr4 hL0) (e5 _ _ pr4) hL1
  have e7 := Ex.new (o := .lst [V.ref L0, V.ref L1]) hlo
  have nlo := ne_mem hlo m6.2
  have lo7 : (upd H6 lo (.lst [V.ref L0, V.ref L1])) lo = some (.lst [.ref L0, .ref L1]) := upd_same
  have e47 := (e5.trans e6).trans e7
  have pr7 := e47 _ _ pr4
  have sc0 := sc0.ex e47
  have sc1 := sc1.ex e47
  have scq := scq.ex e47
  have L07 := (e6.trans e7) _ _ h5
  have L17 := e7 _ _ h6
  have m7 := m6.ex e7
  have e07 := (e03.trans e4).trans e47
  generalize upd H6 lo (.lst [V.ref L0, V.ref L1]) = H7 at e7 lo7 pr7 sc0 sc1 scq L07 L17 m7 e07 e47
  refine q_mk (lst2 (mk_row m7 fun r0 u0 H8 e8 hr0 h8 pm0 => mk_row (m7.cons hr0 e8 (by rw [h8]; intro z; cases z)) fun r1 u1 H9 e9 hr1 h9 pm1 => ⟨by show 2 ≤ sizeLine; decide, fun ro hro => ?_⟩))
  have m9 : Mem [r1, r0, L1, L0, lq, sq, l1, s1, l0, s0] H9 := (m7.cons hr0 e8 (by rw [h8]; intro z; cases z)).cons hr1 e9 (by rw [h9]; intro z; cases z)
  have e10 := Ex.new (o := .lst [V.ref r0, V.ref r1]) hro
  have e710 := (e8.trans e9).trans e10
  have S0 : LS A pr sq lq lo ro (fun b => bif b then s1 else s0) (fun b => bif b then l1 else l0) (fun b => bif b then L1 else L0) (fun b => bif b then r1 else r0) (fun _ => []) [] 0 (upd H9 ro (.lst [V.ref r0, V.ref r1])) := by
    refine ⟨m9.1, e710 _ _ pr7, out_cons (out_cons npr6 pr7 hr0) (e8 _ _ pr7) hr1, e710 _ _ lo7, out_cons (out_cons nlo lo7 hr0) (e8 _ _ lo7) hr1, upd_same, ne_mem hro m9.2, scq.ex e710, fun j => ?_, fun j => ⟨⟨Nat.zero_le _, fun n z => by cases z⟩, Nat.le_refl _⟩⟩
    have z0 : Few.laid ([] : List Int).sum = [] := Few.laid_zero
    cases j with
    | false =>
      have pm := (pm0.cons hr1).exs (e9.trans e10)
      exact ⟨[], u0, ⟨sc0.ex e710, e710 _ _ L07, (e9.trans e10) _ _ h8, by rw [z0]; exact pm.pair⟩, Nat.le_refl _, by rw [z0]; exact pm, fun u hu => ⟨[], by rw [List.mem_singleton.mp hu]; exact pm⟩⟩
    | true =>
      have pm := pm1.exs e10
      exact ⟨[], u1, ⟨sc1.ex e710, e710 _ _ L17, e10 _ _ h9, by rw [z0]; exact pm.pair⟩, Nat.le_refl _, by rw [z0]; exact pm, fun u hu => ⟨[], by rw [List.mem_singleton.mp hu]; exact pm⟩⟩
  have e010 := e07.trans e710
  have fr : ∀ m ∈ Ms (fun b => bif b then s1 else s0) (fun b => bif b then l1 else l0) (fun b => bif b then L1 else L0) (fun b => bif b then r1 else r0) sq lq, H m = none := fun m hm => by
    have e04 := e03.trans e4
    simp only [List.mem_cons, List.not_mem_nil, or_false, cond_true, cond_false] at hm
    rcases hm with z | z | z | z | z | z | z | z | z | z <;> rw [z]
    · exact fresh_back (e07.trans e8) hr1
    · exact fresh_back e07 hr0
    · exact fresh_back (e04.trans e5) hL1
    · exact fresh_back e04 hL0
    · exact fresh_back e03 hlq
    · exact fresh_back e03 hsq
    · exact fresh_back e1 hl1
    · exact fresh_back e1 hs1
    · exact hl0
    · exact hs0
  generalize upd H9 ro (.lst [V.ref r0, V.ref r1]) = H10 at S0 e010
  generalize (fun b => bif b then s1 else s0) = s at S0 fr
  generalize (fun b => bif b then l1 else l0) = l at S0 fr
  generalize (fun b => bif b then L1 else L0) = L at S0 fr
  generalize (fun b => bif b then r1 else r0) = r at S0 fr
  clear m9 m7 m6 m4 m3 m2 m1
  refine q_asg (v := .int 1000000000000000000) (ev_op ev_c ev_c (rv_pow ⟨by decide, by decide, by decide⟩)) fun H11 e11 => ?_
  refine q_asg ev_c fun H12 e12 => ?_
  have e012 := (e010.trans e11).trans e12
  have S12 := (S0.ex e11).ex e12
  have hv12 := mono_il _ _ _ e012 hv
  refine q_mid (Mid := fun σ' H' => ∃ m sz : Int, 0 ≤ m ∧ m ≤ 10 ^ 97 ∧ 0 ≤ sz ∧ sz ≤ 40 ∧ Ex H12 H' ∧ σ' = [some v, some (.ref pr), some (.ref sq), some (.ref lo), some (.ref ro), some (.int m), some (.int sz), none, none, none, none, none, none]) (fun rest => ?_) ?_
  · refine q_when (et_test (ev_op (ev_op (ev_op (ev_cell (k := 0) (x_ilv rfl hv12) ev_c rfl) ev_c (rv_div ⟨by decide, by decide⟩)) ev_c (rv_mod (by decide))) ev_c (rv_eq rfl))) (fun _ H13 e13 => ?_) (fun _ H13 e13 => ?_)
    · refine q_asg (ev_op ev_ten50 (ev_op ev_c ev_c (rv_pow ⟨by decide, by decide, by decide⟩)) (rv_mulW (wide_mul ten50 (b := 170) (by decide +kernel) (by decide) (by decide) (by decide)))) fun H14 e14 => ?_
      refine s_asg ev_c fun H15 e15 => rest _ _ ⟨_, 20, by decide +kernel, by decide +kernel, by decide, by decide, (e13.trans e14).trans e15, rfl⟩
    · exact rest _ _ ⟨_, 40, by decide, by decide +kernel, by decide, by decide, e13, rfl⟩
  rintro σ' H13 ⟨m, sz, hm0, hm1, hz0, hz1, e13, rfl⟩
  have S13 := S12.ex e13
  have e013 := e012.trans e13
  obtain ⟨_, _, lc0, _⟩ := S13.loc false
  obtain ⟨_, _, lc1, _⟩ := S13.loc true
  have z0 : Few.laid ([] : List Int).sum = [] := Few.laid_zero
  refine q_skip (et_or (et_test (ev_neI (ys := []) (x_ilL (el_pans (x_at (k := 0) rfl S13.hpr ev_c rfl rfl) lc0.sc (by rw [z0]; decide))) (x_ilL (el_lst ea_nil (by decide))))) fun _ => et_test (ev_op (ev_weighs (x_at (k := 1) rfl S13.hpr ev_c rfl rfl) lc1.sc) ev_c (rv_ne rfl))) (by rw [z0]; rfl) fun H14 e14 => ?_
  have S14 := S13.ex e14
  have e014 := e013.trans e14
  have hv14 := mono_il _ _ _ e014 hv
  -- the deeds
  refine q_forNLn (xs := (ns.take sz.toNat).map V.int) (el_to (n := sz.toNat) (x_ilv rfl hv14) (ev_var rfl) (by omega)) (fun p i σ' H' => ∃ ls u, σ' = [some v, some (.ref pr), some (.ref sq), some (.ref lo), some (.ref ro), some (.int m), some (.int sz), u, none, none, none, none, none] ∧ H' p = some (.lst ((ns.take sz.toNat).map V.int)) ∧ p ∉ Ms s l L r sq lq ∧ LS A pr sq lq lo ro s l L r ls (ls false) i H' ∧ Ex H H')
    (fun p H15 hp e15 hx => ⟨fun _ => [], none, rfl, hx, ne_mem hp S14.live, S14.ex e15, e014.trans e15⟩) (fun p i σ' H' _ ⟨_, _, _, hp, _⟩ => sq_of hp) ?_ ?_
  · rintro p i x σ' H' hx ⟨ls, u, rfl, hp, np, S, eH⟩
    obtain ⟨c, hc, rfl⟩ := of_map hx
    have hi : i < 40 := by
      have := (List.getElem?_eq_some_iff.mp hc).1
      rw [List.length_take] at this
      omega
    refine s_notC (ea_cons (ev_var rfl) (ea_cons (ev_var rfl) (ea_cons (ev_var rfl) (ea_cons (ev_var rfl) (ea_cons (ev_var rfl) (ea_cons (ev_var rfl) ea_nil)))))) fun H1 e1 => ?_
    have S1 := S.ex e1
    obtain ⟨j, hj⟩ : ∃ j : Bool, c % 2 = (bN j : Int) := by
      have : c % 2 = 0 ∨ c % 2 = 1 := by omega
      rcases this with z | z
      · exact ⟨false, z⟩
      · exact ⟨true, z⟩
    obtain ⟨its, w, P, hlen, old⟩ := S1.pre j (fun _ => rfl) (by omega)
    refine ⟨pr, sq, lo, ro, s j, l j, L j, r j, lq, _, _, _, bN j, ls j, its, w, c, m, rfl, hj, hm0, hm1, P, fun ks H2 u' hks bks b1 b0 lc pf => notS ?_⟩
    have nw : NewOr H1 (its ++ [w]) (its ++ [w] ++ [u']) H2 := fun y hy => by
      rcases List.mem_append.mp hy with z | z
      · exact .inl z
      · rw [List.mem_singleton.mp z]
        exact .inr ⟨_, pf⟩
    have lz : (its ++ [w]).length ≤ i + 1 := by
      rw [List.length_append]
      show its.length + 1 ≤ i + 1
      omega
    have kz : ks.length ≤ i + 1 := by
      have := (S1.bd j).2
      omega
    have fin : ∀ Mk : List Addr, (∀ a ∈ Mk, a ∈ [s j, l j, L j, r j, sq, lq]) → But Mk H1 H2 → ScAt A sq lq ((fun i => if i = j then ks else ls i) false) H2 → ∃ ls u, [some v, some (.ref pr), some (.ref sq), some (.ref lo), some (.ref ro), some (.int m), some (.int sz), some (.int c), none, none, none, none, none] = [some v, some (.ref pr), some (.ref sq), some (.ref lo), some (.ref ro), some (.int m), some (.int sz), u, none, none, none, none, none] ∧ H2 p = some (.lst ((ns.take sz.toNat).map V.int)) ∧ p ∉ Ms s l L r sq lq ∧ LS A pr sq lq lo ro s l L r ls (ls false) (i + 1) H2 ∧ Ex H H2 := fun Mk hM b hq =>
      ⟨fun i => if i = j then ks else ls i, _, rfl, b _ _ (fun z => np (sub_Ms j _ (hM _ z))) (e1 _ _ hp), np, S1.move j hM b (Nat.le_succ i) lc lz old nw hq bks kz, ex_but b (eH.trans e1) fun y hy => fr y (sub_Ms j _ (hM _ hy))⟩
    cases j with
    | false =>
      obtain ⟨b, hq⟩ := b0 rfl
      exact fin _ (fun _ h => h) b hq
    | true =>
      have b := b1 (by decide)
      obtain ⟨_, nq, nl, _⟩ := M_four s l L r sq lq S1.nd true
      refine fin _ (fun a ha => ?_) b (S1.q.but b nq nl)
      simp only [List.mem_cons, List.not_mem_nil, or_false] at ha ⊢
      rcases ha with z | z | z | z <;> simp [z]
  rintro p σ' H15 ⟨ls, u, rfl, hp, np, S, eH⟩
  have hturn : ((ns.take sz.toNat).map V.int).length ≤ 40 := by
    rw [len_mapI, List.length_take]
    omega
  generalize ((ns.take sz.toNat).map V.int).length = turns at S hturn
  clear hp np S14 S13 S12 S0
  obtain ⟨j, hj⟩ : ∃ j : Bool, (ns.length : Int) % 2 = (bN j : Int) := by
    have : (ns.length : Int) % 2 = 0 ∨ (ns.length : Int) % 2 = 1 := by omega
    rcases this with z | z
    · exact ⟨false, z⟩
    · exact ⟨true, z⟩
  refine q_asg (v := .int (bN j : Int)) (ev_is (ev_op (ev_lenX (x_ilv rfl (mono_il _ _ _ eH hv))) ev_c (rv_mod (by decide))) (congrArg V.int hj)) fun H16 e16 => ?_
  have S16 := S.ex e16
  refine q_asgC (ea_cons (x_at rfl S16.hpr (ev_var rfl) rfl (two_at s j)) (ea_cons (x_at rfl S16.hlo (ev_var rfl) rfl (two_at L j)) (ea_cons (x_at rfl S16.hro (ev_var rfl) rfl (two_at r j)) ea_nil))) fun H17 e17 => ?_
  have S17 := S16.ex e17
  obtain ⟨its, w, P, hlen, old⟩ := S17.pre j (fun _ => rfl) (by omega)
  have bdj := S17.bd j
  refine ⟨s j, l j, L j, r j, ls j, its, w, rfl, P.loc, P.pm, P.nd, P.bd, P.len, P.ilen, fun np H18 its' u' b hnp hnp' lc' hz' nw => ?_⟩
  have sub4 : ∀ a ∈ [s j, l j, L j, r j], a ∈ [s j, l j, L j, r j, sq, lq] := fun a ha => by
    simp only [List.mem_cons, List.not_mem_nil, or_false] at ha ⊢
    rcases ha with z | z | z | z <;> simp [z]
  obtain ⟨_, nq, nl, _⟩ := M_four s l L r sq lq S17.nd j
  have S18 := S17.move j sub4 b (n' := 85) (by omega) lc' (by omega) old nw (S17.q.but b nq nl) ⟨Nat.zero_le _, fun n z => by cases z⟩ (Nat.zero_le _)
  have npM : np ∉ Ms s l L r sq lq := ne_mem hnp S17.live
  have eH18 : Ex H H18 := ex_but b ((eH.trans e16).trans e17) fun y hy => fr y (sub_Ms j _ (sub4 _ hy))
  clear S S16 S17
  -- the other one is looked at
  have ij : ∀ i : Bool, (!i) ≠ i := fun i => by cases i <;> decide
  generalize hg : (fun i => if i = j then ([] : List Int) else ls i) = gs at S18
  obtain ⟨o_its, o_w, o_lc, o_z, o_pm, o_al⟩ := S18.loc (!j)
  have o_bd := S18.bd (!j)
  have gF : gs false = if false = j then [] else ls false := by rw [← hg]
  have one : (1 : Int) - (bN j : Int) = (bN (!j) : Int) := by cases j <;> rfl
  have dif : decide (V.ref np = V.non) = false := decide_eq_false fun z => by cases z
  refine q_orC (et_is (et_test (ev_op (ev_var rfl) ev_c rv_isN)) dif) (fun H19 e19 => ea_cons (x_at rfl (e19 _ _ S18.hpr) (ev_op ev_c (ev_var rfl) rv_I0) one (two_at s (!j))) (ea_cons (x_at rfl (e19 _ _ S18.hlo) (ev_op ev_c (ev_var rfl) rv_I0) one (two_at L (!j))) (ea_cons (x_at rfl (e19 _ _ S18.hro) (ev_op ev_c (ev_var rfl) rv_I0) one (two_at r (!j))) (ea_cons ev_c ea_nil)))) fun H19 e19 => ?_
  have S19 := S18.ex e19
  have zo := o_bd.1.laid
  refine ⟨s (!j), l (!j), L (!j), r (!j), gs (!j), Few.laid (gs (!j)).sum, o_its, o_w, by rw [moved_self]; rfl, o_lc.sc.ex e19, e19 _ _ o_lc.ld, e19 _ _ o_lc.rw_, o_lc.pr.ex e19, o_bd.1, by omega, by omega, fun H20 u20 e20 hu20 => notK ?_⟩
  have bR : But [r (!j)] H19 (upd H20 (r (!j)) (.lst (o_its ++ [o_w] ++ [u20]))) := ((But.ex e20).put (List.mem_singleton.mpr rfl))
  obtain ⟨ndo, onq, onl, _⟩ := M_four s l L r sq lq S18.nd (!j)
  obtain ⟨f1, f2, f3, f4, f5, f6⟩ := four ndo
  have rin : r (!j) ∈ [s (!j), l (!j), L (!j), r (!j), sq, lq] := by simp
  have S20 : LS A pr sq lq lo ro s l L r (fun i => if i = !j then gs (!j) else gs i) (ls false) 86 (upd H20 (r (!j)) (.lst (o_its ++ [o_w] ++ [u20]))) := by
    have pf : PairF H19 (Few.laid (gs (!j)).sum) u20 (upd H20 (r (!j)) (.lst (o_its ++ [o_w] ++ [u20]))) := hu20.but ((But.ex (Ex.refl _)).put (List.mem_singleton.mpr rfl)) fun m hm => by
      rw [List.mem_singleton.mp hm, e19 _ _ o_lc.rw_]
      intro z
      cases z
    refine S19.move (!j) (Mk := [r (!j)]) (fun a ha => by rw [List.mem_singleton.mp ha]; exact rin) bR (its := o_its) (v := o_w) (by omega) ⟨(o_lc.sc.ex e19).but bR (by simpa using f3) (by simpa using f5), bR _ _ (by simpa using f6) (e19 _ _ o_lc.ld), upd_same, pf.pair⟩ (by rw [List.length_append]; show o_its.length + 1 ≤ 86; omega) (fun u hu => (o_al u hu).imp fun _ p => p.exs e19) (fun y hy => ?_) (S19.q.but bR ?_ ?_) o_bd.1 (by omega)
    · rcases List.mem_append.mp hy with z | z
      · exact .inl z
      · rw [List.mem_singleton.mp z]
        exact .inr ⟨_, pf⟩
    · intro z
      rw [List.mem_singleton.mp z] at onq
      simp at onq
    · intro z
      rw [List.mem_singleton.mp z] at onl
      simp at onl
  have gg : (fun i => if i = !j then gs (!j) else gs i) = gs := by
    funext i
    by_cases e : i = !j
    · rw [if_pos e, e]
    · rw [if_neg e]
  rw [gg] at S20
  have eH20 : Ex H (upd H20 (r (!j)) (.lst (o_its ++ [o_w] ++ [u20]))) := ex_but bR (eH18.trans e19) fun y hy => fr y (by
    rw [List.mem_singleton.mp hy]
    exact sub_Ms (!j) _ rin)
  have np20 : (upd H20 (r (!j)) (.lst (o_its ++ [o_w] ++ [u20]))) np = some (.lst ((backs (ls j)).map V.int)) := bR _ _ (fun z => npM (by rw [List.mem_singleton.mp z]; exact sub_Ms (!j) _ rin)) (e19 _ _ hnp')
  generalize upd H20 (r (!j)) (.lst (o_its ++ [o_w] ++ [u20])) = H21 at S20 eH20 np20
  clear bR S19 S18
  -- the quiet one is taken back, too
  refine q_mid (Mid := fun σ' H' => ∃ o, σ' = [some v, some (.ref pr), some (.ref sq), some (.ref lo), some (.ref ro), some (.int m), some (.int sz), u, some (.int (bN j : Int)), some (.ref np), o, none, none] ∧ Ex H H' ∧ LS A pr sq lq lo ro s l L r gs (gs false) 86 H') (fun rest => ?_) ?_
  · cases j with
    | true =>
      have g1 : gs false = ls false := by rw [gF, if_neg (by decide)]
      refine q_when (b := false) (et_is (et_test (ev_op (ev_var rfl) ev_c (rv_eq rfl))) (by rw [eq_dec]; rfl)) (fun z => by cases z) (fun _ H22 e22 => ?_)
      exact rest _ _ ⟨_, rfl, eH20.trans e22, by rw [g1]; exact S20.ex e22⟩
    | false =>
      have g1 : gs false = [] := by rw [gF, if_pos rfl]
      have bl := bdj.1
      have ll := bdj.2
      refine q_when (b := true) (et_is (et_test (ev_op (ev_var rfl) ev_c (rv_eq rfl))) (by rw [eq_dec]; rfl)) (fun _ H22 e22 => ?_) (fun z => by cases z)
      refine s_forLn (K := K) (a := np) (xs := (backs (ls false)).map V.int) (ev_var rfl) (sq_of (e22 _ _ np20)) (fun i σ' H' => ∃ o, σ' = [some v, some (.ref pr), some (.ref sq), some (.ref lo), some (.ref ro), some (.int m), some (.int sz), u, some (.int (bN false : Int)), some (.ref np), o, none, none] ∧ Ex H H' ∧ LS A pr sq lq lo ro s l L r gs ((ls false).take ((ls false).length - i)) 86 H' ∧ H' np = some (.lst ((backs (ls false)).map V.int))) (fun H23 e23 => ⟨none, rfl, eH20.trans (e22.trans e23), by rw [Nat.sub_zero, List.take_length]; exact S20.ex (e22.trans e23), (e22.trans e23) _ _ np20⟩) (fun i σ' H' _ ⟨_, _, _, _, h⟩ => sq_of h) ?_ ?_
      · rintro i x σ' H' hx ⟨o, rfl, eH, S, hp⟩
        have hi : i < (ls false).length := by
          have := (List.getElem?_eq_some_iff.mp hx).1
          rw [len_mapI, backs_len] at this
          exact this
        rw [map_at (backs_at hi)] at hx
        cases hx
        obtain ⟨y, ey⟩ := take_last hi
        have nn : (ls false).take ((ls false).length - i) ≠ [] := by
          rw [ey]
          simp
        have ok : true = Dd.back.ok ((ls false).take ((ls false).length - i)) := by
          show true = !decide _
          rw [decide_eq_false nn]
          rfl
        have rn : Dd.back.run ((ls false).take ((ls false).length - i)) = (ls false).take ((ls false).length - (i + 1)) := by
          show List.dropLast _ = _
          rw [ey, List.dropLast_concat]
        refine call_done (K := K) (A := A) (l := lq) (ls := (ls false).take ((ls false).length - i)) (δ := .back) (ev_var rfl) S.q (bl.take _) (by rw [List.length_take]; omega) (tup_back ok) fun H23 b23 s23 => ?_
        rw [rn] at s23 ⊢
        refine ⟨_, rfl, rfl, _, rfl, ?_⟩
        show (if (!decide (V.int (backAt (ls false) i) = V.int (backAt (ls false) i))) = true then _ else _)
        rw [show (!decide (V.int (backAt (ls false) i) = V.int (backAt (ls false) i))) = false by simp, if_neg (by decide)]
        have subq : ∀ a ∈ [sq, lq], a ∈ Ms s l L r sq lq := fun a ha => sub_Ms true a (by
          simp only [List.mem_cons, List.not_mem_nil, or_false] at ha ⊢
          rcases ha with z | z <;> simp [z])
        exact ⟨_, rfl, ex_but b23 eH fun y hy => fr y (subq _ hy), S.setq b23 s23, b23 _ _ (fun z => npM (subq _ z)) hp⟩
      · rintro σ' H' ⟨o, rfl, eH, S, hp⟩
        rw [len_mapI, backs_len, Nat.sub_self, List.take_zero] at S
        exact rest _ _ ⟨o, rfl, eH, by rw [g1]; exact S⟩
  rintro σ' H22 ⟨o, rfl, eH22, S⟩
  obtain ⟨i0, v0, lcA, zA, _, alA⟩ := S.loc false
  obtain ⟨i1, v1, lcB, zB, _, alB⟩ := S.loc true
  refine q_skip (et_not (et_B (ev_quiet (ev_var rfl) (x_at (k := 0) rfl S.hlo ev_c rfl rfl) (x_at (k := 0) rfl S.hro ev_c rfl rfl) S.q lcA.ld lcA.rw_ lcA.pr (S.bd false).1))) rfl fun H23 e23 => ?_
  -- what was told ahead stayed
  refine q_forNL (xs := (i0 ++ [v0]) ++ (i1 ++ [v1])) (el_catX (x_ml (x_at (k := 0) rfl (e23 _ _ S.hro) ev_c rfl rfl) (e23 _ _ lcA.rw_)) (x_ml (x_at (k := 1) rfl (e23 _ _ S.hro) ev_c rfl rfl) (e23 _ _ lcB.rw_)) (by rw [List.length_append, List.length_append]; show i0.length + 1 + (i1.length + 1) ≤ 100000; omega)) (fun p i σ' H' => ∃ a b, σ' = [some v, some (.ref pr), some (.ref sq), some (.ref lo), some (.ref ro), some (.int m), some (.int sz), u, some (.int (bN j : Int)), some (.ref np), o, a, b] ∧ Ex H23 H' ∧ H' p = some (.lst ((i0 ++ [v0]) ++ (i1 ++ [v1])))) (fun p H24 _ e24 hx => ⟨none, none, rfl, e24, hx⟩) (fun p i σ' H' _ ⟨_, _, _, _, h⟩ => sq_of h) ?_ ?_
  · rintro p i x σ' H' hx ⟨a, b, rfl, eX, hp⟩
    have al : ∃ xs, Pair xs x H22 := by
      rcases List.mem_append.mp (List.mem_of_getElem? hx) with z | z
      · exact (alA x z).imp fun _ p => p.pair
      · exact (alB x z).imp fun _ p => p.pair
    obtain ⟨xs, pa⟩ := al
    obtain ⟨q, a', b', rfl, g1, g2, g3⟩ := pa.ex (e23.trans eX)
    refine ⟨q, _, rfl, sq_of g1, rfl, .ref a', _, rfl, .ref b', _, rfl, rfl, ?_⟩
    refine s_when (b := false) (et_is (et_test (ev_neI (xs := xs) (ys := xs) (x_ilv rfl ⟨a', rfl, sq_of g2⟩) (x_ilv rfl ⟨b', rfl, sq_of g3⟩))) (by simp)) (fun z => by cases z) (fun _ H24 e24 => ⟨_, _, rfl, eX.trans e24, e24 _ _ hp⟩)
  · rintro p σ' H' ⟨a, b, rfl, eX, _⟩
    exact s_retV ev_c (k.mono ((eH22.trans e23).trans eX))
end
end Fw

namespace Law
open PySem PySem.Spec PyProof.Rows L2 Evl Fw
def topS (i : Nat) : Stmt := PySem.Challenge.pw_fewstones_k09_whole_scale.main.body.getD i (.Pass ⟨0, 0, 0, 0⟩)
abbrev s_is_whole : Stmt := topS 8
abbrev n_is_whole : List Str := ["thing"]
theorem sc_is_whole : FnScope n_is_whole ["thing"] (defScope s_is_whole) := ⟨rfl, rfl, rfl, by decide +kernel, rfl, by decide +kernel, by decide +kernel⟩
abbrev s_good_load : Stmt := topS 9
abbrev n_good_load : List Str := ["load"]
theorem sc_good_load : FnScope n_good_load ["load"] (defScope s_good_load) := ⟨rfl, rfl, rfl, by decide +kernel, rfl, by decide +kernel, by decide +kernel⟩
abbrev s_laid : Stmt := topS 10
abbrev n_laid : List Str := ["load", "rest", "found", "one"]
theorem sc_laid : FnScope n_laid ["load"] (defScope s_laid) := ⟨rfl, rfl, rfl, by decide +kernel, rfl, by decide +kernel, by decide +kernel⟩
abbrev s_thing_at : Stmt := topS 12
abbrev n_thing_at : List Str := ["laying", "place"]
theorem sc_thing_at : FnScope n_thing_at ["laying", "place"] (defScope s_thing_at) := ⟨rfl, rfl, rfl, by decide +kernel, rfl, by decide +kernel, by decide +kernel⟩
abbrev s_moved : Stmt := topS 13
abbrev n_moved : List Str := ["one", "other", "many", "place"]
theorem sc_moved : FnScope n_moved ["one", "other"] (defScope s_moved) := ⟨rfl, rfl, rfl, by decide +kernel, rfl, by decide +kernel, by decide +kernel⟩
abbrev s_Scale_init : Stmt := inClass (topS 14) 0
abbrev n_Scale_init : List Str := ["self"]
theorem sc_Scale_init : FnScope n_Scale_init ["self"] (defScope s_Scale_init) := ⟨rfl, rfl, rfl, by decide +kernel, rfl, by decide +kernel, by decide +kernel⟩
abbrev s_Scale_come_to : Stmt := inClass (topS 14) 1
abbrev n_Scale_come_to : List Str := ["self", "load", "many"]
theorem sc_Scale_come_to : FnScope n_Scale_come_to ["self", "load"] (defScope s_Scale_come_to) := ⟨rfl, rfl, rfl, by decide +kernel, rfl, by decide +kernel, by decide +kernel⟩
abbrev s_Scale_lay : Stmt := inClass (topS 14) 2
abbrev n_Scale_lay : List Str := ["self", "load", "more"]
theorem sc_Scale_lay : FnScope n_Scale_lay ["self", "load"] (defScope s_Scale_lay) := ⟨rfl, rfl, rfl, by decide +kernel, rfl, by decide +kernel, by decide +kernel⟩
abbrev s_Scale_back : Stmt := inClass (topS 14) 3
abbrev n_Scale_back : List Str := ["self", "last"]
theorem sc_Scale_back : FnScope n_Scale_back ["self"] (defScope s_Scale_back) := ⟨rfl, rfl, rfl, by decide +kernel, rfl, by decide +kernel, by decide +kernel⟩
abbrev s_Scale_pans : Stmt := inClass (topS 14) 4
abbrev n_Scale_pans : List Str := ["self"]
theorem sc_Scale_pans : FnScope n_Scale_pans ["self"] (defScope s_Scale_pans) := ⟨rfl, rfl, rfl, by decide +kernel, rfl, by decide +kernel, by decide +kernel⟩
abbrev s_Scale_weighs : Stmt := inClass (topS 14) 5
abbrev n_Scale_weighs : List Str := ["self"]
theorem sc_Scale_weighs : FnScope n_Scale_weighs ["self"] (defScope s_Scale_weighs) := ⟨rfl, rfl, rfl, by decide +kernel, rfl, by decide +kernel, by decide +kernel⟩
abbrev s_l_cell_at : Stmt := topS 16
abbrev n_l_cell_at : List Str := ["_law_script", "_law_k"]
theorem sc_l_cell_at : FnScope n_l_cell_at ["_law_script", "_law_k"] (defScope s_l_cell_at) := ⟨rfl, rfl, rfl, by decide +kernel, rfl, by decide +kernel, by decide +kernel⟩
abbrev s_l_whole : Stmt := topS 17
abbrev n_l_whole : List Str := ["_law_found"]
theorem sc_l_whole : FnScope n_l_whole ["_law_found"] (defScope s_l_whole) := ⟨rfl, rfl, rfl, by decide +kernel, rfl, by decide +kernel, by decide +kernel⟩
abbrev s_l_power : Stmt := topS 18
abbrev n_l_power : List Str := ["_law_many", "_law_found", "_law_k"]
theorem sc_l_power : FnScope n_l_power ["_law_many"] (defScope s_l_power) := ⟨rfl, rfl, rfl, by decide +kernel, rfl, by decide +kernel, by decide +kernel⟩
abbrev s_l_load_by : Stmt := topS 19
abbrev n_l_load_by : List Str := ["_law_cell", "_law_way", "_law_most", "_law_found"]
theorem sc_l_load_by : FnScope n_l_load_by ["_law_cell", "_law_way", "_law_most"] (defScope s_l_load_by) := ⟨rfl, rfl, rfl, by decide +kernel, rfl, by decide +kernel, by decide +kernel⟩
abbrev s_l_sum : Stmt := topS 20
abbrev n_l_sum : List Str := ["_law_things", "_law_found", "_law_thing"]
theorem sc_l_sum : FnScope n_l_sum ["_law_things"] (defScope s_l_sum) := ⟨rfl, rfl, rfl, by decide +kernel, rfl, by decide +kernel, by decide +kernel⟩
abbrev s_l_neatK : Stmt := topS 21
abbrev n_l_neatK : List Str := ["_law_things", "_law_k"]
theorem sc_l_neatK : FnScope n_l_neatK ["_law_things"] (defScope s_l_neatK) := ⟨rfl, rfl, rfl, by decide +kernel, rfl, by decide +kernel, by decide +kernel⟩
abbrev s_l_apart : Stmt := topS 22
abbrev n_l_apart : List Str := ["_law_one", "_law_other", "_law_most", "_law_left", "_law_right", "_law_k"]
theorem sc_l_apart : FnScope n_l_apart ["_law_one", "_law_other"] (defScope s_l_apart) := ⟨rfl, rfl, rfl, by decide +kernel, rfl, by decide +kernel, by decide +kernel⟩
abbrev s_l_looked : Stmt := topS 23
abbrev n_l_looked : List Str := ["_law_scale", "_law_loads", "_law_row", "_law_many", "_law_now", "_law_whole_here"]
theorem sc_l_looked : FnScope n_l_looked ["_law_scale", "_law_loads", "_law_row", "_law_many"] (defScope s_l_looked) := ⟨rfl, rfl, rfl, by decide +kernel, rfl, by decide +kernel, by decide +kernel⟩
abbrev s_l_refused : Stmt := topS 24
abbrev n_l_refused : List Str := ["_law_caught", "_law_word"]
theorem sc_l_refused : FnScope n_l_refused ["_law_caught", "_law_word"] (defScope s_l_refused) := ⟨rfl, rfl, rfl, by decide +kernel, rfl, by decide +kernel, by decide +kernel⟩
abbrev s_l_deed_by : Stmt := topS 25
abbrev n_l_deed_by : List Str := ["_law_cell", "_law_loads", "_law_most", "_law_way"]
theorem sc_l_deed_by : FnScope n_l_deed_by ["_law_cell", "_law_loads", "_law_most"] (defScope s_l_deed_by) := ⟨rfl, rfl, rfl, by decide +kernel, rfl, by decide +kernel, by decide +kernel⟩
abbrev s_l_done : Stmt := topS 26
abbrev n_l_done : List Str := ["_law_scale", "_law_deed", "_law_caught", "_law_many", "e"]
theorem sc_l_done : FnScope n_l_done ["_law_scale", "_law_deed"] (defScope s_l_done) := ⟨rfl, rfl, rfl, by decide +kernel, rfl, by decide +kernel, by decide +kernel⟩
abbrev s_l_step : Stmt := topS 27
abbrev n_l_step : List Str := ["_law_pair", "_law_quiet_here", "_law_loads", "_law_rows", "_law_cell", "_law_most", "_law_k", "_law_deed", "_law_many", "_law_told"]
theorem sc_l_step : FnScope n_l_step ["_law_pair", "_law_quiet_here", "_law_loads", "_law_rows", "_law_cell", "_law_most"] (defScope s_l_step) := ⟨rfl, rfl, rfl, by decide +kernel, rfl, by decide +kernel, by decide +kernel⟩
abbrev s_l_all_back : Stmt := topS 28
abbrev n_l_all_back : List Str := ["_law_scale", "_law_loads", "_law_row", "_law_found", "_law_many"]
theorem sc_l_all_back : FnScope n_l_all_back ["_law_scale", "_law_loads", "_law_row"] (defScope s_l_all_back) := ⟨rfl, rfl, rfl, by decide +kernel, rfl, by decide +kernel, by decide +kernel⟩
abbrev s_l_quiet : Stmt := topS 29
abbrev n_l_quiet : List Str := ["_law_quiet_here", "_law_loads", "_law_row", "_law_whole_here", "_law_now"]
theorem sc_l_quiet : FnScope n_l_quiet ["_law_quiet_here", "_law_loads", "_law_row"] (defScope s_l_quiet) := ⟨rfl, rfl, rfl, by decide +kernel, rfl, by decide +kernel, by decide +kernel⟩
abbrev s_law : Stmt := topS 30
abbrev n_law : List Str := ["_law_script", "_law_pair", "_law_quiet_here", "_law_loads", "_law_rows", "_law_most", "_law_size", "_law_cell", "_law_k", "_law_numbers", "_law_many", "_law_told", "_law_kept"]
theorem sc_law : FnScope n_law ["_law_script"] (defScope s_law) := ⟨rfl, rfl, rfl, by decide +kernel, rfl, by decide +kernel, by decide +kernel⟩
structure Fs where
  a_is_whole : Addr
  d_is_whole : FuncData
  a_good_load : Addr
  d_good_load : FuncData
  a_laid : Addr
  d_laid : FuncData
  a_thing_at : Addr
  d_thing_at : FuncData
  a_moved : Addr
  d_moved : FuncData
  a_Scale_init : Addr
  d_Scale_init : FuncData
  a_Scale_come_to : Addr
  d_Scale_come_to : FuncData
  a_Scale_lay : Addr
  d_Scale_lay : FuncData
  a_Scale_back : Addr
  d_Scale_back : FuncData
  a_Scale_pans : Addr
  d_Scale_pans : FuncData
  a_Scale_weighs : Addr
  d_Scale_weighs : FuncData
  a_l_cell_at : Addr
  d_l_cell_at : FuncData
  a_l_whole : Addr
  d_l_whole : FuncData
  a_l_power : Addr
  d_l_power : FuncData
  a_l_load_by : Addr
  d_l_load_by : FuncData
  a_l_sum : Addr
  d_l_sum : FuncData
  a_l_neatK : Addr
  d_l_neatK : FuncData
  a_l_apart : Addr
  d_l_apart : FuncData
  a_l_looked : Addr
  d_l_looked : FuncData
  a_l_refused : Addr
  d_l_refused : FuncData
  a_l_deed_by : Addr
  d_l_deed_by : FuncData
  a_l_done : Addr
  d_l_done : FuncData
  a_l_step : Addr
  d_l_step : FuncData
  a_l_all_back : Addr
  d_l_all_back : FuncData
  a_l_quiet : Addr
  d_l_quiet : FuncData
  a_law : Addr
  d_law : FuncData
structure Txt (K : PySem.W.Frag) (mg : Str → Option Value) (A : Ad) (F : Fs) : Prop where
  f_is_whole : Fun K "is_whole" "is_whole" s_is_whole F.a_is_whole F.d_is_whole
  b_is_whole : Binds K F.d_is_whole ["thing"] []
  g_is_whole : mg "is_whole" = some (.ref F.a_is_whole)
  f_good_load : Fun K "good_load" "good_load" s_good_load F.a_good_load F.d_good_load
  b_good_load : Binds K F.d_good_load ["load"] []
  g_good_load : mg "good_load" = some (.ref F.a_good_load)
  f_laid : Fun K "laid" "laid" s_laid F.a_laid F.d_laid
  b_laid : Binds K F.d_laid ["load"] []
  g_laid : mg "laid" = some (.ref F.a_laid)
  f_thing_at : Fun K "thing_at" "thing_at" s_thing_at F.a_thing_at F.d_thing_at
  b_thing_at : Binds K F.d_thing_at ["laying", "place"] []
  g_thing_at : mg "thing_at" = some (.ref F.a_thing_at)
  f_moved : Fun K "moved" "moved" s_moved F.a_moved F.d_moved
  b_moved : Binds K F.d_moved ["one", "other"] []
  g_moved : mg "moved" = some (.ref F.a_moved)
  f_Scale_init : Fun K "__init__" "Scale.__init__" s_Scale_init F.a_Scale_init F.d_Scale_init
  b_Scale_init : Binds K F.d_Scale_init ["self"] []
  f_Scale_come_to : Fun K "come_to" "Scale.come_to" s_Scale_come_to F.a_Scale_come_to F.d_Scale_come_to
  b_Scale_come_to : Binds K F.d_Scale_come_to ["self", "load"] []
  f_Scale_lay : Fun K "lay" "Scale.lay" s_Scale_lay F.a_Scale_lay F.d_Scale_lay
  b_Scale_lay : Binds K F.d_Scale_lay ["self", "load"] []
  f_Scale_back : Fun K "back" "Scale.back" s_Scale_back F.a_Scale_back F.d_Scale_back
  b_Scale_back : Binds K F.d_Scale_back ["self"] []
  f_Scale_pans : Fun K "pans" "Scale.pans" s_Scale_pans F.a_Scale_pans F.d_Scale_pans
  b_Scale_pans : Binds K F.d_Scale_pans ["self"] []
  f_Scale_weighs : Fun K "weighs" "Scale.weighs" s_Scale_weighs F.a_Scale_weighs F.d_Scale_weighs
  b_Scale_weighs : Binds K F.d_Scale_weighs ["self"] []
  f_l_cell_at : Fun K "_law_cell_at" "_law_cell_at" s_l_cell_at F.a_l_cell_at F.d_l_cell_at
  b_l_cell_at : Binds K F.d_l_cell_at ["_law_script", "_law_k"] []
  g_l_cell_at : mg "_law_cell_at" = some (.ref F.a_l_cell_at)
  f_l_whole : Fun K "_law_whole" "_law_whole" s_l_whole F.a_l_whole F.d_l_whole
  b_l_whole : Binds K F.d_l_whole ["_law_found"] []
  g_l_whole : mg "_law_whole" = some (.ref F.a_l_whole)
  f_l_power : Fun K "_law_weight" "_law_weight" s_l_power F.a_l_power F.d_l_power
  b_l_power : Binds K F.d_l_power ["_law_many"] []
  g_l_power : mg "_law_weight" = some (.ref F.a_l_power)
  f_l_load_by : Fun K "_law_load_by" "_law_load_by" s_l_load_by F.a_l_load_by F.d_l_load_by
  b_l_load_by : Binds K F.d_l_load_by ["_law_cell", "_law_way", "_law_most"] []
  g_l_load_by : mg "_law_load_by" = some (.ref F.a_l_load_by)
  f_l_sum : Fun K "_law_sum" "_law_sum" s_l_sum F.a_l_sum F.d_l_sum
  b_l_sum : Binds K F.d_l_sum ["_law_things"] []
  g_l_sum : mg "_law_sum" = some (.ref F.a_l_sum)
  f_l_neatK : Fun K "_law_neat" "_law_neat" s_l_neatK F.a_l_neatK F.d_l_neatK
  b_l_neatK : Binds K F.d_l_neatK ["_law_things"] []
  g_l_neatK : mg "_law_neat" = some (.ref F.a_l_neatK)
  f_l_apart : Fun K "_law_apart" "_law_apart" s_l_apart F.a_l_apart F.d_l_apart
  b_l_apart : Binds K F.d_l_apart ["_law_one", "_law_other"] []
  g_l_apart : mg "_law_apart" = some (.ref F.a_l_apart)
  f_l_looked : Fun K "_law_looked" "_law_looked" s_l_looked F.a_l_looked F.d_l_looked
  b_l_looked : Binds K F.d_l_looked ["_law_scale", "_law_loads", "_law_row", "_law_many"] []
  g_l_looked : mg "_law_looked" = some (.ref F.a_l_looked)
  f_l_refused : Fun K "_law_refused" "_law_refused" s_l_refused F.a_l_refused F.d_l_refused
  b_l_refused : Binds K F.d_l_refused ["_law_caught", "_law_word"] []
  g_l_refused : mg "_law_refused" = some (.ref F.a_l_refused)
  f_l_deed_by : Fun K "_law_deed_by" "_law_deed_by" s_l_deed_by F.a_l_deed_by F.d_l_deed_by
  b_l_deed_by : Binds K F.d_l_deed_by ["_law_cell", "_law_loads", "_law_most"] []
  g_l_deed_by : mg "_law_deed_by" = some (.ref F.a_l_deed_by)
  f_l_done : Fun K "_law_done" "_law_done" s_l_done F.a_l_done F.d_l_done
  b_l_done : Binds K F.d_l_done ["_law_scale", "_law_deed"] []
  g_l_done : mg "_law_done" = some (.ref F.a_l_done)
  f_l_step : Fun K "_law_step" "_law_step" s_l_step F.a_l_step F.d_l_step
  b_l_step : Binds K F.d_l_step ["_law_pair", "_law_quiet_here", "_law_loads", "_law_rows", "_law_cell", "_law_most"] []
  g_l_step : mg "_law_step" = some (.ref F.a_l_step)
  f_l_all_back : Fun K "_law_all_back" "_law_all_back" s_l_all_back F.a_l_all_back F.d_l_all_back
  b_l_all_back : Binds K F.d_l_all_back ["_law_scale", "_law_loads", "_law_row"] []
  g_l_all_back : mg "_law_all_back" = some (.ref F.a_l_all_back)
  f_l_quiet : Fun K "_law_quiet" "_law_quiet" s_l_quiet F.a_l_quiet F.d_l_quiet
  b_l_quiet : Binds K F.d_l_quiet ["_law_quiet_here", "_law_loads", "_law_row"] []
  g_l_quiet : mg "_law_quiet" = some (.ref F.a_l_quiet)
  f_law : Fun K "law" "law" s_law F.a_law F.d_law
  b_law : Binds K F.d_law ["_law_script"] []
  g_law : mg "law" = some (.ref F.a_law)
  n_ValueError : mg "ValueError" = none
  n_bool : mg "bool" = none
  n_int : mg "int" = none
  n_isinstance : mg "isinstance" = none
  n_len : mg "len" = none
  n_list : mg "list" = none
  n_max : mg "max" = none
  n_range : mg "range" = none
  n_sum : mg "sum" = none
  sc_Scale : ScaleOk K A
  mk_Scale : Mk K A.scale F.a_Scale_init
  g_Scale : mg "Scale" = some (.ref A.scale)
  m_Scale_come_to : Meth K A.scale "come_to" F.a_Scale_come_to
  m_Scale_lay : Meth K A.scale "lay" F.a_Scale_lay
  m_Scale_back : Meth K A.scale "back" F.a_Scale_back
  m_Scale_pans : Meth K A.scale "pans" F.a_Scale_pans
  m_Scale_weighs : Meth K A.scale "weighs" F.a_Scale_weighs
  g_NoDeed : mg "NoDeed" = some (.ref A.deed)
  x_NoDeed : PySem.W.excIn K A.deed [.type "ValueError", .type "Exception", .type "BaseException", .type "object"] "ValueError.__new__" = true
  k_NoDeed : PySem.W.keepIn K (.ref A.deed) = true
  s_NoDeed : PySem.W.subIn K (.ref A.deed) (.type "BaseException") = some true
  t_NoDeed : PySem.W.typeIn K (.ref A.deed) = some (.type "type")
  g_NoLaying : mg "NoLaying" = some (.ref A.laying)
  x_NoLaying : PySem.W.excIn K A.laying [.type "ValueError", .type "Exception", .type "BaseException", .type "object"] "ValueError.__new__" = true
  k_NoLaying : PySem.W.keepIn K (.ref A.laying) = true
  s_NoLaying : PySem.W.subIn K (.ref A.laying) (.type "BaseException") = some true
  t_NoLaying : PySem.W.typeIn K (.ref A.laying) = some (.type "type")
  g_NoLoad : mg "NoLoad" = some (.ref A.load)
  x_NoLoad : PySem.W.excIn K A.load [.type "ValueError", .type "Exception", .type "BaseException", .type "object"] "ValueError.__new__" = true
  k_NoLoad : PySem.W.keepIn K (.ref A.load) = true
  s_NoLoad : PySem.W.subIn K (.ref A.load) (.type "BaseException") = some true
  t_NoLoad : PySem.W.typeIn K (.ref A.load) = some (.type "type")
  g_NoPlan : mg "NoPlan" = some (.ref A.plan)
  x_NoPlan : PySem.W.excIn K A.plan [.type "ValueError", .type "Exception", .type "BaseException", .type "object"] "ValueError.__new__" = true
  k_NoPlan : PySem.W.keepIn K (.ref A.plan) = true
  s_NoPlan : PySem.W.subIn K (.ref A.plan) (.type "BaseException") = some true
  t_NoPlan : PySem.W.typeIn K (.ref A.plan) = some (.type "type")
  g_NoText : mg "NoText" = some (.ref A.text)
  x_NoText : PySem.W.excIn K A.text [.type "ValueError", .type "Exception", .type "BaseException", .type "object"] "ValueError.__new__" = true
  k_NoText : PySem.W.keepIn K (.ref A.text) = true
  s_NoText : PySem.W.subIn K (.ref A.text) (.type "BaseException") = some true
  t_NoText : PySem.W.typeIn K (.ref A.text) = some (.type "type")
  g_StoneError : mg "StoneError" = some (.ref A.stone)
  x_StoneError : PySem.W.excIn K A.stone [.type "ValueError", .type "Exception", .type "BaseException", .type "object"] "ValueError.__new__" = true
  k_StoneError : PySem.W.keepIn K (.ref A.stone) = true
  s_StoneError : PySem.W.subIn K (.ref A.stone) (.type "BaseException") = some true
  t_StoneError : PySem.W.typeIn K (.ref A.stone) = some (.type "type")
  xc_deed : ExcC K A.deed
  ct_deed : Caught K A A.deed false false false false true
  xc_load : ExcC K A.load
  ct_load : Caught K A A.load false true false false false
section
variable {P : Program} {w : World} {K : PySem.W.Frag} {mg : Str → Option Value} {base : Heap} {A : Ad} {F : Fs}
theorem ok_is_whole (T : Txt K mg A F) : FnOk P w K mg base CX0 1 F.a_is_whole F.d_is_whole ["thing"] (sp_is_whole K A) := by
  refine T.f_is_whole.ok sc_is_whole (fun vs H Q E h => ?_) (fun cdv Ar outer s H vs Q E hr h => ⟨t_is_whole K A, ?_, r_is_whole h⟩)
  · first | (obtain ⟨_, rfl, _⟩ := h; rfl) | (obtain ⟨_, _, rfl, _⟩ := h; rfl) | (obtain ⟨_, _, _, rfl, _⟩ := h; rfl) | (obtain ⟨_, _, _, _, rfl, _⟩ := h; rfl) | (obtain ⟨_, _, _, _, _, rfl, _⟩ := h; rfl) | (obtain ⟨_, _, _, _, _, _, rfl, _⟩ := h; rfl) | (obtain ⟨_, _, _, _, _, _, _, rfl, _⟩ := h; rfl) | (obtain ⟨_, _, _, _, _, _, _, _, rfl, _⟩ := h; rfl) | (obtain ⟨_, _, _, _, _, _, _, _, _, _, _, _, _, _, _, _, _, _, rfl, _⟩ := h; rfl) | (obtain ⟨_, _, _, _, _, _, _, _, _, rfl, _⟩ := h; rfl) | (obtain ⟨_, _, _, _, _, _, _, _, _, _, rfl, _⟩ := h; rfl) | (obtain ⟨_, _, _, _, _, _, _, _, _, _, _, rfl, _⟩ := h; rfl) | (obtain ⟨_, _, _, _, _, _, _, _, _, _, _, _, rfl, _⟩ := h; rfl) | (obtain ⟨_, _, _, _, _, _, _, _, _, _, _, _, _, rfl, _⟩ := h; rfl) | (obtain ⟨_, _, _, _, _, _, _, _, _, _, _, _, _, _, rfl, _⟩ := h; rfl) | (obtain ⟨_, _, _, _, _, _, _, _, _, _, _, _, _, _, _, rfl, _⟩ := h; rfl) | (obtain ⟨_, _, _, _, _, _, _, _, _, _, _, _, _, _, _, _, rfl, _⟩ := h; rfl) | (obtain ⟨_, _, _, _, _, _, _, _, _, _, _, _, _, _, _, _, _, rfl, _⟩ := h; rfl)
  · exact (pss_one (ps_ret (pe_and (pe_callB call_isi (by rfl) T.n_isinstance (by decide +kernel) (pa_cons (pv 0) (pa_cons (pe_bltn (by rfl) T.n_int (by decide +kernel) rfl) pa_nil))) (pe_one (pe_not (pe_callB call_isi (by rfl) T.n_isinstance (by decide +kernel) (pa_cons (pv 0) (pa_cons (pe_bltn (by rfl) T.n_bool (by decide +kernel) rfl) pa_nil))))))))
theorem ok_good_load (T : Txt K mg A F) : FnOk P w K mg base (L2.CX P w) 2 F.a_good_load F.d_good_load ["load"] (sp_good_load K A) := by
  refine T.f_good_load.okX sc_good_load (fun vs H Q E h => ?_) (fun cdv Ar outer s H vs Q E hr h => ⟨t_good_load K A E, ?_, r_good_load h⟩)
  · first | (obtain ⟨_, rfl, _⟩ := h; rfl) | (obtain ⟨_, _, rfl, _⟩ := h; rfl) | (obtain ⟨_, _, _, rfl, _⟩ := h; rfl) | (obtain ⟨_, _, _, _, rfl, _⟩ := h; rfl) | (obtain ⟨_, _, _, _, _, rfl, _⟩ := h; rfl) | (obtain ⟨_, _, _, _, _, _, rfl, _⟩ := h; rfl) | (obtain ⟨_, _, _, _, _, _, _, rfl, _⟩ := h; rfl) | (obtain ⟨_, _, _, _, _, _, _, _, rfl, _⟩ := h; rfl) | (obtain ⟨_, _, _, _, _, _, _, _, _, _, _, _, _, _, _, _, _, _, rfl, _⟩ := h; rfl) | (obtain ⟨_, _, _, _, _, _, _, _, _, rfl, _⟩ := h; rfl) | (obtain ⟨_, _, _, _, _, _, _, _, _, _, rfl, _⟩ := h; rfl) | (obtain ⟨_, _, _, _, _, _, _, _, _, _, _, rfl, _⟩ := h; rfl) | (obtain ⟨_, _, _, _, _, _, _, _, _, _, _, _, rfl, _⟩ := h; rfl) | (obtain ⟨_, _, _, _, _, _, _, _, _, _, _, _, _, rfl, _⟩ := h; rfl) | (obtain ⟨_, _, _, _, _, _, _, _, _, _, _, _, _, _, rfl, _⟩ := h; rfl) | (obtain ⟨_, _, _, _, _, _, _, _, _, _, _, _, _, _, _, rfl, _⟩ := h; rfl) | (obtain ⟨_, _, _, _, _, _, _, _, _, _, _, _, _, _, _, _, rfl, _⟩ := h; rfl) | (obtain ⟨_, _, _, _, _, _, _, _, _, _, _, _, _, _, _, _, _, rfl, _⟩ := h; rfl)
  · exact (pss_cons (ps_if (pt_not (pt_val (pe_call (ok_is_whole T) (hr.mono (by decide)) rfl T.g_is_whole T.f_is_whole.kp T.b_is_whole .nil pass0 (pa_cons (pv 0) pa_nil)))) (pss_one (ps_raise rfl (takes_of rfl rfl rfl rfl) (pmk_own PySem.F.excBase_ValueError T.x_NoLoad T.g_NoLoad T.k_NoLoad (raises_own T.s_NoLoad T.t_NoLoad) (by rfl)))) pss_nil)
    (pss_one (ps_ret (pv 0))))
theorem ok_laid (T : Txt K mg A F) : FnOk P w K mg base (L2.CX P w) 3 F.a_laid F.d_laid ["load"] (sp_laid K A) := by
  refine T.f_laid.okX sc_laid (fun vs H Q E h => ?_) (fun cdv Ar outer s H vs Q E hr h => ⟨t_laid K A E, ?_, r_laid h⟩)
  · first | (obtain ⟨_, rfl, _⟩ := h; rfl) | (obtain ⟨_, _, rfl, _⟩ := h; rfl) | (obtain ⟨_, _, _, rfl, _⟩ := h; rfl) | (obtain ⟨_, _, _, _, rfl, _⟩ := h; rfl) | (obtain ⟨_, _, _, _, _, rfl, _⟩ := h; rfl) | (obtain ⟨_, _, _, _, _, _, rfl, _⟩ := h; rfl) | (obtain ⟨_, _, _, _, _, _, _, rfl, _⟩ := h; rfl) | (obtain ⟨_, _, _, _, _, _, _, _, rfl, _⟩ := h; rfl) | (obtain ⟨_, _, _, _, _, _, _, _, _, _, _, _, _, _, _, _, _, _, rfl, _⟩ := h; rfl) | (obtain ⟨_, _, _, _, _, _, _, _, _, rfl, _⟩ := h; rfl) | (obtain ⟨_, _, _, _, _, _, _, _, _, _, rfl, _⟩ := h; rfl) | (obtain ⟨_, _, _, _, _, _, _, _, _, _, _, rfl, _⟩ := h; rfl) | (obtain ⟨_, _, _, _, _, _, _, _, _, _, _, _, rfl, _⟩ := h; rfl) | (obtain ⟨_, _, _, _, _, _, _, _, _, _, _, _, _, rfl, _⟩ := h; rfl) | (obtain ⟨_, _, _, _, _, _, _, _, _, _, _, _, _, _, rfl, _⟩ := h; rfl) | (obtain ⟨_, _, _, _, _, _, _, _, _, _, _, _, _, _, _, rfl, _⟩ := h; rfl) | (obtain ⟨_, _, _, _, _, _, _, _, _, _, _, _, _, _, _, _, rfl, _⟩ := h; rfl) | (obtain ⟨_, _, _, _, _, _, _, _, _, _, _, _, _, _, _, _, _, rfl, _⟩ := h; rfl)
  · exact (pss_cons (ps_set (i := 1) sc_laid.nd rfl (Or.inl rfl) (pe_call (ok_good_load T) (hr.mono (by decide)) rfl T.g_good_load T.f_good_load.kp T.b_good_load .nil (passes_call (takes_of rfl rfl rfl rfl) (fun _ _ _ _ h => h)) (pa_cons (pv 0) pa_nil)))
    (pss_cons (ps_set (i := 2) sc_laid.nd rfl (Or.inl rfl) (pe_lst pa_nil))
    (pss_cons (ps_while (passes_of rfl) (pt_cmpR op_ne (pv 1) pe_int (nomark _)) (pss_cons (ps_set (i := 3) sc_laid.nd rfl (Or.inl rfl) pe_int)
    (pss_cons (ps_if (pt_cmpR op_eq (pe_op op_mod (pv 1) pe_int) pe_int (nomark _)) (pss_one (ps_set (i := 3) sc_laid.nd rfl (Or.inl rfl) (pe_op op_sub pe_int (pe_op op_mod (pv 1) pe_int)))) pss_nil)
    (pss_cons (ps_expr (pe_bm PySem.F.plainAttrs_list PySem.F.slot_list_append PySem.F.type_list_append mt_append (pv 2) (pa_cons (pv 3) pa_nil)))
    (pss_one (ps_set (i := 1) sc_laid.nd rfl (Or.inl rfl) (pe_op op_fdiv (pe_op op_sub (pv 1) (pv 3)) pe_int)))))))
    (pss_one (ps_ret (pv 2))))))
theorem ok_thing_at (T : Txt K mg A F) : FnOk P w K mg base CX0 1 F.a_thing_at F.d_thing_at ["laying", "place"] (sp_thing_at K A) := by
  refine T.f_thing_at.ok sc_thing_at (fun vs H Q E h => ?_) (fun cdv Ar outer s H vs Q E hr h => ⟨t_thing_at K A, ?_, r_thing_at h⟩)
  · first | (obtain ⟨_, rfl, _⟩ := h; rfl) | (obtain ⟨_, _, rfl, _⟩ := h; rfl) | (obtain ⟨_, _, _, rfl, _⟩ := h; rfl) | (obtain ⟨_, _, _, _, rfl, _⟩ := h; rfl) | (obtain ⟨_, _, _, _, _, rfl, _⟩ := h; rfl) | (obtain ⟨_, _, _, _, _, _, rfl, _⟩ := h; rfl) | (obtain ⟨_, _, _, _, _, _, _, rfl, _⟩ := h; rfl) | (obtain ⟨_, _, _, _, _, _, _, _, rfl, _⟩ := h; rfl) | (obtain ⟨_, _, _, _, _, _, _, _, _, _, _, _, _, _, _, _, _, _, rfl, _⟩ := h; rfl) | (obtain ⟨_, _, _, _, _, _, _, _, _, rfl, _⟩ := h; rfl) | (obtain ⟨_, _, _, _, _, _, _, _, _, _, rfl, _⟩ := h; rfl) | (obtain ⟨_, _, _, _, _, _, _, _, _, _, _, rfl, _⟩ := h; rfl) | (obtain ⟨_, _, _, _, _, _, _, _, _, _, _, _, rfl, _⟩ := h; rfl) | (obtain ⟨_, _, _, _, _, _, _, _, _, _, _, _, _, rfl, _⟩ := h; rfl) | (obtain ⟨_, _, _, _, _, _, _, _, _, _, _, _, _, _, rfl, _⟩ := h; rfl) | (obtain ⟨_, _, _, _, _, _, _, _, _, _, _, _, _, _, _, rfl, _⟩ := h; rfl) | (obtain ⟨_, _, _, _, _, _, _, _, _, _, _, _, _, _, _, _, rfl, _⟩ := h; rfl) | (obtain ⟨_, _, _, _, _, _, _, _, _, _, _, _, _, _, _, _, _, rfl, _⟩ := h; rfl)
  · exact (pss_cons (ps_if (pt_cmpR op_lt (pv 1) (pe_callB call_len_seq (by rfl) T.n_len (by decide +kernel) (pa_cons (pv 0) pa_nil)) (nomark _)) (pss_one (ps_ret (pe_ix ix_list (pv 0) (pv 1) (fun _ _ => rfl)))) pss_nil)
    (pss_one (ps_ret pe_int)))
theorem ok_moved (T : Txt K mg A F) : FnOk P w K mg base CX0 2 F.a_moved F.d_moved ["one", "other"] (sp_moved K A) := by
  refine T.f_moved.ok sc_moved (fun vs H Q E h => ?_) (fun cdv Ar outer s H vs Q E hr h => ⟨t_moved K A, ?_, r_moved h⟩)
  · first | (obtain ⟨_, rfl, _⟩ := h; rfl) | (obtain ⟨_, _, rfl, _⟩ := h; rfl) | (obtain ⟨_, _, _, rfl, _⟩ := h; rfl) | (obtain ⟨_, _, _, _, rfl, _⟩ := h; rfl) | (obtain ⟨_, _, _, _, _, rfl, _⟩ := h; rfl) | (obtain ⟨_, _, _, _, _, _, rfl, _⟩ := h; rfl) | (obtain ⟨_, _, _, _, _, _, _, rfl, _⟩ := h; rfl) | (obtain ⟨_, _, _, _, _, _, _, _, rfl, _⟩ := h; rfl) | (obtain ⟨_, _, _, _, _, _, _, _, _, _, _, _, _, _, _, _, _, _, rfl, _⟩ := h; rfl) | (obtain ⟨_, _, _, _, _, _, _, _, _, rfl, _⟩ := h; rfl) | (obtain ⟨_, _, _, _, _, _, _, _, _, _, rfl, _⟩ := h; rfl) | (obtain ⟨_, _, _, _, _, _, _, _, _, _, _, rfl, _⟩ := h; rfl) | (obtain ⟨_, _, _, _, _, _, _, _, _, _, _, _, rfl, _⟩ := h; rfl) | (obtain ⟨_, _, _, _, _, _, _, _, _, _, _, _, _, rfl, _⟩ := h; rfl) | (obtain ⟨_, _, _, _, _, _, _, _, _, _, _, _, _, _, rfl, _⟩ := h; rfl) | (obtain ⟨_, _, _, _, _, _, _, _, _, _, _, _, _, _, _, rfl, _⟩ := h; rfl) | (obtain ⟨_, _, _, _, _, _, _, _, _, _, _, _, _, _, _, _, rfl, _⟩ := h; rfl) | (obtain ⟨_, _, _, _, _, _, _, _, _, _, _, _, _, _, _, _, _, rfl, _⟩ := h; rfl)
  · exact (pss_cons (ps_set (i := 2) sc_moved.nd rfl (Or.inl rfl) pe_int)
    (pss_cons (ps_for PassesOwn.never rfl (pi_range1 (by rfl) T.n_range (pa_cons (pe_callB (call_max2 rfl) (by rfl) T.n_max (by decide +kernel) (pa_cons (pe_callB call_len_seq (by rfl) T.n_len (by decide +kernel) (pa_cons (pv 0) pa_nil)) (pa_cons (pe_callB call_len_seq (by rfl) T.n_len (by decide +kernel) (pa_cons (pv 1) pa_nil)) pa_nil))) pa_nil)) (pg_name (i := 3) sc_moved.nd rfl (Or.inl rfl)) (pss_one (ps_if (pt_cmpR op_ne (pe_call (ok_thing_at T) (hr.mono (by decide)) rfl T.g_thing_at T.f_thing_at.kp T.b_thing_at .nil pass0 (pa_cons (pv 0) (pa_cons (pv 3) pa_nil))) (pe_call (ok_thing_at T) (hr.mono (by decide)) rfl T.g_thing_at T.f_thing_at.kp T.b_thing_at .nil pass0 (pa_cons (pv 1) (pa_cons (pv 3) pa_nil))) (nomark _)) (pss_one (ps_aug (i := 2) sc_moved.nd rfl (Or.inl rfl) pe_int ip_add)) pss_nil)))
    (pss_one (ps_ret (pv 2)))))
theorem ok_Scale_init (T : Txt K mg A F) : FnOk P w K mg base CX0 1 F.a_Scale_init F.d_Scale_init ["self"] (sp_Scale_init K A) := by
  refine T.f_Scale_init.ok sc_Scale_init (fun vs H Q E h => ?_) (fun cdv Ar outer s H vs Q E hr h => ⟨t_Scale_init K A, ?_, r_Scale_init T.sc_Scale h⟩)
  · first | (obtain ⟨_, rfl, _⟩ := h; rfl) | (obtain ⟨_, _, rfl, _⟩ := h; rfl) | (obtain ⟨_, _, _, rfl, _⟩ := h; rfl) | (obtain ⟨_, _, _, _, rfl, _⟩ := h; rfl) | (obtain ⟨_, _, _, _, _, rfl, _⟩ := h; rfl) | (obtain ⟨_, _, _, _, _, _, rfl, _⟩ := h; rfl) | (obtain ⟨_, _, _, _, _, _, _, rfl, _⟩ := h; rfl) | (obtain ⟨_, _, _, _, _, _, _, _, rfl, _⟩ := h; rfl) | (obtain ⟨_, _, _, _, _, _, _, _, _, _, _, _, _, _, _, _, _, _, rfl, _⟩ := h; rfl) | (obtain ⟨_, _, _, _, _, _, _, _, _, rfl, _⟩ := h; rfl) | (obtain ⟨_, _, _, _, _, _, _, _, _, _, rfl, _⟩ := h; rfl) | (obtain ⟨_, _, _, _, _, _, _, _, _, _, _, rfl, _⟩ := h; rfl) | (obtain ⟨_, _, _, _, _, _, _, _, _, _, _, _, rfl, _⟩ := h; rfl) | (obtain ⟨_, _, _, _, _, _, _, _, _, _, _, _, _, rfl, _⟩ := h; rfl) | (obtain ⟨_, _, _, _, _, _, _, _, _, _, _, _, _, _, rfl, _⟩ := h; rfl) | (obtain ⟨_, _, _, _, _, _, _, _, _, _, _, _, _, _, _, rfl, _⟩ := h; rfl) | (obtain ⟨_, _, _, _, _, _, _, _, _, _, _, _, _, _, _, _, rfl, _⟩ := h; rfl) | (obtain ⟨_, _, _, _, _, _, _, _, _, _, _, _, _, _, _, _, _, rfl, _⟩ := h; rfl)
  · exact (pss_cons (ps_fld (pv 0) pe_int rfl)
    (pss_one (ps_fld (pv 0) (pe_lst pa_nil) rfl)))
theorem ok_Scale_come_to (T : Txt K mg A F) : FnOk P w K mg base CX0 4 F.a_Scale_come_to F.d_Scale_come_to ["self", "load"] (sp_Scale_come_to K A) := by
  refine T.f_Scale_come_to.ok sc_Scale_come_to (fun vs H Q E h => ?_) (fun cdv Ar outer s H vs Q E hr h => ⟨t_Scale_come_to K A, ?_, r_Scale_come_to T.sc_Scale h⟩)
  · first | (obtain ⟨_, rfl, _⟩ := h; rfl) | (obtain ⟨_, _, rfl, _⟩ := h; rfl) | (obtain ⟨_, _, _, rfl, _⟩ := h; rfl) | (obtain ⟨_, _, _, _, rfl, _⟩ := h; rfl) | (obtain ⟨_, _, _, _, _, rfl, _⟩ := h; rfl) | (obtain ⟨_, _, _, _, _, _, rfl, _⟩ := h; rfl) | (obtain ⟨_, _, _, _, _, _, _, rfl, _⟩ := h; rfl) | (obtain ⟨_, _, _, _, _, _, _, _, rfl, _⟩ := h; rfl) | (obtain ⟨_, _, _, _, _, _, _, _, _, _, _, _, _, _, _, _, _, _, rfl, _⟩ := h; rfl) | (obtain ⟨_, _, _, _, _, _, _, _, _, rfl, _⟩ := h; rfl) | (obtain ⟨_, _, _, _, _, _, _, _, _, _, rfl, _⟩ := h; rfl) | (obtain ⟨_, _, _, _, _, _, _, _, _, _, _, rfl, _⟩ := h; rfl) | (obtain ⟨_, _, _, _, _, _, _, _, _, _, _, _, rfl, _⟩ := h; rfl) | (obtain ⟨_, _, _, _, _, _, _, _, _, _, _, _, _, rfl, _⟩ := h; rfl) | (obtain ⟨_, _, _, _, _, _, _, _, _, _, _, _, _, _, rfl, _⟩ := h; rfl) | (obtain ⟨_, _, _, _, _, _, _, _, _, _, _, _, _, _, _, rfl, _⟩ := h; rfl) | (obtain ⟨_, _, _, _, _, _, _, _, _, _, _, _, _, _, _, _, rfl, _⟩ := h; rfl) | (obtain ⟨_, _, _, _, _, _, _, _, _, _, _, _, _, _, _, _, _, rfl, _⟩ := h; rfl)
  · exact (pss_cons (ps_set (i := 2) sc_Scale_come_to.nd rfl (Or.inl rfl) (pe_call (ok_moved T) (hr.mono (by decide)) rfl T.g_moved T.f_moved.kp T.b_moved .nil pass0 (pa_cons (pe_call (ok_laid T) (hr.mono (by decide)) rfl T.g_laid T.f_laid.kp T.b_laid .nil passL (pa_cons (pe_fld (pv 0) rfl) pa_nil)) (pa_cons (pe_call (ok_laid T) (hr.mono (by decide)) rfl T.g_laid T.f_laid.kp T.b_laid .nil passL (pa_cons (pv 1) pa_nil)) pa_nil))))
    (pss_cons (ps_fld (pv 0) (pv 1) rfl)
    (pss_one (ps_ret (pv 2)))))
theorem ok_Scale_lay (T : Txt K mg A F) : FnOk P w K mg base (L2.CX P w) 5 F.a_Scale_lay F.d_Scale_lay ["self", "load"] (sp_Scale_lay K A) := by
  refine T.f_Scale_lay.okX sc_Scale_lay (fun vs H Q E h => ?_) (fun cdv Ar outer s H vs Q E hr h => ⟨t_Scale_lay K A E, ?_, r_Scale_lay T.sc_Scale h⟩)
  · first | (obtain ⟨_, rfl, _⟩ := h; rfl) | (obtain ⟨_, _, rfl, _⟩ := h; rfl) | (obtain ⟨_, _, _, rfl, _⟩ := h; rfl) | (obtain ⟨_, _, _, _, rfl, _⟩ := h; rfl) | (obtain ⟨_, _, _, _, _, rfl, _⟩ := h; rfl) | (obtain ⟨_, _, _, _, _, _, rfl, _⟩ := h; rfl) | (obtain ⟨_, _, _, _, _, _, _, rfl, _⟩ := h; rfl) | (obtain ⟨_, _, _, _, _, _, _, _, rfl, _⟩ := h; rfl) | (obtain ⟨_, _, _, _, _, _, _, _, _, _, _, _, _, _, _, _, _, _, rfl, _⟩ := h; rfl) | (obtain ⟨_, _, _, _, _, _, _, _, _, rfl, _⟩ := h; rfl) | (obtain ⟨_, _, _, _, _, _, _, _, _, _, rfl, _⟩ := h; rfl) | (obtain ⟨_, _, _, _, _, _, _, _, _, _, _, rfl, _⟩ := h; rfl) | (obtain ⟨_, _, _, _, _, _, _, _, _, _, _, _, rfl, _⟩ := h; rfl) | (obtain ⟨_, _, _, _, _, _, _, _, _, _, _, _, _, rfl, _⟩ := h; rfl) | (obtain ⟨_, _, _, _, _, _, _, _, _, _, _, _, _, _, rfl, _⟩ := h; rfl) | (obtain ⟨_, _, _, _, _, _, _, _, _, _, _, _, _, _, _, rfl, _⟩ := h; rfl) | (obtain ⟨_, _, _, _, _, _, _, _, _, _, _, _, _, _, _, _, rfl, _⟩ := h; rfl) | (obtain ⟨_, _, _, _, _, _, _, _, _, _, _, _, _, _, _, _, _, rfl, _⟩ := h; rfl)
  · exact (pss_cons (ps_set (i := 2) sc_Scale_lay.nd rfl (Or.inl rfl) (pe_call (ok_good_load T) (hr.mono (by decide)) rfl T.g_good_load T.f_good_load.kp T.b_good_load .nil (passes_call (takes_of rfl rfl rfl rfl) (fun _ _ _ _ h => h)) (pa_cons (pv 1) pa_nil)))
    (pss_cons (ps_expr (pe_bm PySem.F.plainAttrs_list PySem.F.slot_list_append PySem.F.type_list_append mt_append (pe_fld (pv 0) rfl) (pa_cons (pv 2) pa_nil)))
    (pss_one (ps_ret (pe_meth (pv 0) T.sc_Scale.cl T.m_Scale_come_to (ok_Scale_come_to T) (hr.mono (by decide)) T.b_Scale_come_to .nil pass0 (pa_cons (pe_op op_add (pe_fld (pv 0) rfl) (pv 2)) pa_nil))))))
theorem ok_Scale_back (T : Txt K mg A F) : FnOk P w K mg base (L2.CX P w) 5 F.a_Scale_back F.d_Scale_back ["self"] (sp_Scale_back K A) := by
  refine T.f_Scale_back.okX sc_Scale_back (fun vs H Q E h => ?_) (fun cdv Ar outer s H vs Q E hr h => ⟨t_Scale_back K A E, ?_, r_Scale_back T.sc_Scale h⟩)
  · first | (obtain ⟨_, rfl, _⟩ := h; rfl) | (obtain ⟨_, _, rfl, _⟩ := h; rfl) | (obtain ⟨_, _, _, rfl, _⟩ := h; rfl) | (obtain ⟨_, _, _, _, rfl, _⟩ := h; rfl) | (obtain ⟨_, _, _, _, _, rfl, _⟩ := h; rfl) | (obtain ⟨_, _, _, _, _, _, rfl, _⟩ := h; rfl) | (obtain ⟨_, _, _, _, _, _, _, rfl, _⟩ := h; rfl) | (obtain ⟨_, _, _, _, _, _, _, _, rfl, _⟩ := h; rfl) | (obtain ⟨_, _, _, _, _, _, _, _, _, _, _, _, _, _, _, _, _, _, rfl, _⟩ := h; rfl) | (obtain ⟨_, _, _, _, _, _, _, _, _, rfl, _⟩ := h; rfl) | (obtain ⟨_, _, _, _, _, _, _, _, _, _, rfl, _⟩ := h; rfl) | (obtain ⟨_, _, _, _, _, _, _, _, _, _, _, rfl, _⟩ := h; rfl) | (obtain ⟨_, _, _, _, _, _, _, _, _, _, _, _, rfl, _⟩ := h; rfl) | (obtain ⟨_, _, _, _, _, _, _, _, _, _, _, _, _, rfl, _⟩ := h; rfl) | (obtain ⟨_, _, _, _, _, _, _, _, _, _, _, _, _, _, rfl, _⟩ := h; rfl) | (obtain ⟨_, _, _, _, _, _, _, _, _, _, _, _, _, _, _, rfl, _⟩ := h; rfl) | (obtain ⟨_, _, _, _, _, _, _, _, _, _, _, _, _, _, _, _, rfl, _⟩ := h; rfl) | (obtain ⟨_, _, _, _, _, _, _, _, _, _, _, _, _, _, _, _, _, rfl, _⟩ := h; rfl)
  · exact (pss_cons (ps_if (pt_cmpR (op_eqD hr.units) (pe_fld (pv 0) rfl) (pe_lst pa_nil) (nomark _)) (pss_one (ps_raise rfl (takes_of rfl rfl rfl rfl) (pmk_own PySem.F.excBase_ValueError T.x_NoDeed T.g_NoDeed T.k_NoDeed (raises_own T.s_NoDeed T.t_NoDeed) (by rfl)))) pss_nil)
    (pss_cons (ps_set (i := 1) sc_Scale_back.nd rfl (Or.inl rfl) (pe_bm0 PySem.F.plainAttrs_list PySem.F.slot_list_pop PySem.F.type_list_pop mt_pop (pe_fld (pv 0) rfl)))
    (pss_one (ps_ret (pe_meth (pv 0) T.sc_Scale.cl T.m_Scale_come_to (ok_Scale_come_to T) (hr.mono (by decide)) T.b_Scale_come_to .nil pass0 (pa_cons (pe_op op_sub (pe_fld (pv 0) rfl) (pv 1)) pa_nil))))))
theorem ok_Scale_pans (T : Txt K mg A F) : FnOk P w K mg base CX0 4 F.a_Scale_pans F.d_Scale_pans ["self"] (sp_Scale_pans K A) := by
  refine T.f_Scale_pans.ok sc_Scale_pans (fun vs H Q E h => ?_) (fun cdv Ar outer s H vs Q E hr h => ⟨t_Scale_pans K A, ?_, r_Scale_pans T.sc_Scale h⟩)
  · first | (obtain ⟨_, rfl, _⟩ := h; rfl) | (obtain ⟨_, _, rfl, _⟩ := h; rfl) | (obtain ⟨_, _, _, rfl, _⟩ := h; rfl) | (obtain ⟨_, _, _, _, rfl, _⟩ := h; rfl) | (obtain ⟨_, _, _, _, _, rfl, _⟩ := h; rfl) | (obtain ⟨_, _, _, _, _, _, rfl, _⟩ := h; rfl) | (obtain ⟨_, _, _, _, _, _, _, rfl, _⟩ := h; rfl) | (obtain ⟨_, _, _, _, _, _, _, _, rfl, _⟩ := h; rfl) | (obtain ⟨_, _, _, _, _, _, _, _, _, _, _, _, _, _, _, _, _, _, rfl, _⟩ := h; rfl) | (obtain ⟨_, _, _, _, _, _, _, _, _, rfl, _⟩ := h; rfl) | (obtain ⟨_, _, _, _, _, _, _, _, _, _, rfl, _⟩ := h; rfl) | (obtain ⟨_, _, _, _, _, _, _, _, _, _, _, rfl, _⟩ := h; rfl) | (obtain ⟨_, _, _, _, _, _, _, _, _, _, _, _, rfl, _⟩ := h; rfl) | (obtain ⟨_, _, _, _, _, _, _, _, _, _, _, _, _, rfl, _⟩ := h; rfl) | (obtain ⟨_, _, _, _, _, _, _, _, _, _, _, _, _, _, rfl, _⟩ := h; rfl) | (obtain ⟨_, _, _, _, _, _, _, _, _, _, _, _, _, _, _, rfl, _⟩ := h; rfl) | (obtain ⟨_, _, _, _, _, _, _, _, _, _, _, _, _, _, _, _, rfl, _⟩ := h; rfl) | (obtain ⟨_, _, _, _, _, _, _, _, _, _, _, _, _, _, _, _, _, rfl, _⟩ := h; rfl)
  · exact (pss_one (ps_ret (pe_call (ok_laid T) (hr.mono (by decide)) rfl T.g_laid T.f_laid.kp T.b_laid .nil passL (pa_cons (pe_fld (pv 0) rfl) pa_nil))))
theorem ok_Scale_weighs (T : Txt K mg A F) : FnOk P w K mg base CX0 1 F.a_Scale_weighs F.d_Scale_weighs ["self"] (sp_Scale_weighs K A) := by
  refine T.f_Scale_weighs.ok sc_Scale_weighs (fun vs H Q E h => ?_) (fun cdv Ar outer s H vs Q E hr h => ⟨t_Scale_weighs K A, ?_, r_Scale_weighs T.sc_Scale h⟩)
  · first | (obtain ⟨_, rfl, _⟩ := h; rfl) | (obtain ⟨_, _, rfl, _⟩ := h; rfl) | (obtain ⟨_, _, _, rfl, _⟩ := h; rfl) | (obtain ⟨_, _, _, _, rfl, _⟩ := h; rfl) | (obtain ⟨_, _, _, _, _, rfl, _⟩ := h; rfl) | (obtain ⟨_, _, _, _, _, _, rfl, _⟩ := h; rfl) | (obtain ⟨_, _, _, _, _, _, _, rfl, _⟩ := h; rfl) | (obtain ⟨_, _, _, _, _, _, _, _, rfl, _⟩ := h; rfl) | (obtain ⟨_, _, _, _, _, _, _, _, _, _, _, _, _, _, _, _, _, _, rfl, _⟩ := h; rfl) | (obtain ⟨_, _, _, _, _, _, _, _, _, rfl, _⟩ := h; rfl) | (obtain ⟨_, _, _, _, _, _, _, _, _, _, rfl, _⟩ := h; rfl) | (obtain ⟨_, _, _, _, _, _, _, _, _, _, _, rfl, _⟩ := h; rfl) | (obtain ⟨_, _, _, _, _, _, _, _, _, _, _, _, rfl, _⟩ := h; rfl) | (obtain ⟨_, _, _, _, _, _, _, _, _, _, _, _, _, rfl, _⟩ := h; rfl) | (obtain ⟨_, _, _, _, _, _, _, _, _, _, _, _, _, _, rfl, _⟩ := h; rfl) | (obtain ⟨_, _, _, _, _, _, _, _, _, _, _, _, _, _, _, rfl, _⟩ := h; rfl) | (obtain ⟨_, _, _, _, _, _, _, _, _, _, _, _, _, _, _, _, rfl, _⟩ := h; rfl) | (obtain ⟨_, _, _, _, _, _, _, _, _, _, _, _, _, _, _, _, _, rfl, _⟩ := h; rfl)
  · exact (pss_one (ps_ret (pe_fld (pv 0) rfl)))
theorem ok_l_cell_at (T : Txt K mg A F) : FnOk P w K mg base CX0 1 F.a_l_cell_at F.d_l_cell_at ["_law_script", "_law_k"] (sp_l_cell_at K A) := by
  refine T.f_l_cell_at.ok sc_l_cell_at (fun vs H Q E h => ?_) (fun cdv Ar outer s H vs Q E hr h => ⟨t_l_cell_at K A, ?_, r_l_cell_at h⟩)
  · first | (obtain ⟨_, rfl, _⟩ := h; rfl) | (obtain ⟨_, _, rfl, _⟩ := h; rfl) | (obtain ⟨_, _, _, rfl, _⟩ := h; rfl) | (obtain ⟨_, _, _, _, rfl, _⟩ := h; rfl) | (obtain ⟨_, _, _, _, _, rfl, _⟩ := h; rfl) | (obtain ⟨_, _, _, _, _, _, rfl, _⟩ := h; rfl) | (obtain ⟨_, _, _, _, _, _, _, rfl, _⟩ := h; rfl) | (obtain ⟨_, _, _, _, _, _, _, _, rfl, _⟩ := h; rfl) | (obtain ⟨_, _, _, _, _, _, _, _, _, _, _, _, _, _, _, _, _, _, rfl, _⟩ := h; rfl) | (obtain ⟨_, _, _, _, _, _, _, _, _, rfl, _⟩ := h; rfl) | (obtain ⟨_, _, _, _, _, _, _, _, _, _, rfl, _⟩ := h; rfl) | (obtain ⟨_, _, _, _, _, _, _, _, _, _, _, rfl, _⟩ := h; rfl) | (obtain ⟨_, _, _, _, _, _, _, _, _, _, _, _, rfl, _⟩ := h; rfl) | (obtain ⟨_, _, _, _, _, _, _, _, _, _, _, _, _, rfl, _⟩ := h; rfl) | (obtain ⟨_, _, _, _, _, _, _, _, _, _, _, _, _, _, rfl, _⟩ := h; rfl) | (obtain ⟨_, _, _, _, _, _, _, _, _, _, _, _, _, _, _, rfl, _⟩ := h; rfl) | (obtain ⟨_, _, _, _, _, _, _, _, _, _, _, _, _, _, _, _, rfl, _⟩ := h; rfl) | (obtain ⟨_, _, _, _, _, _, _, _, _, _, _, _, _, _, _, _, _, rfl, _⟩ := h; rfl)
  · exact (pss_cons (ps_if (pt_cmpR op_lt (pv 1) (pe_callB call_len_seq (by rfl) T.n_len (by decide +kernel) (pa_cons (pv 0) pa_nil)) (nomark _)) (pss_one (ps_ret (pe_ix ix_list (pv 0) (pv 1) (fun _ _ => rfl)))) pss_nil)
    (pss_one (ps_ret pe_int)))
theorem ok_l_whole (T : Txt K mg A F) : FnOk P w K mg base CX0 1 F.a_l_whole F.d_l_whole ["_law_found"] (sp_l_whole K A) := by
  refine T.f_l_whole.ok sc_l_whole (fun vs H Q E h => ?_) (fun cdv Ar outer s H vs Q E hr h => ⟨t_l_whole K A, ?_, r_l_whole h⟩)
  · first | (obtain ⟨_, rfl, _⟩ := h; rfl) | (obtain ⟨_, _, rfl, _⟩ := h; rfl) | (obtain ⟨_, _, _, rfl, _⟩ := h; rfl) | (obtain ⟨_, _, _, _, rfl, _⟩ := h; rfl) | (obtain ⟨_, _, _, _, _, rfl, _⟩ := h; rfl) | (obtain ⟨_, _, _, _, _, _, rfl, _⟩ := h; rfl) | (obtain ⟨_, _, _, _, _, _, _, rfl, _⟩ := h; rfl) | (obtain ⟨_, _, _, _, _, _, _, _, rfl, _⟩ := h; rfl) | (obtain ⟨_, _, _, _, _, _, _, _, _, _, _, _, _, _, _, _, _, _, rfl, _⟩ := h; rfl) | (obtain ⟨_, _, _, _, _, _, _, _, _, rfl, _⟩ := h; rfl) | (obtain ⟨_, _, _, _, _, _, _, _, _, _, rfl, _⟩ := h; rfl) | (obtain ⟨_, _, _, _, _, _, _, _, _, _, _, rfl, _⟩ := h; rfl) | (obtain ⟨_, _, _, _, _, _, _, _, _, _, _, _, rfl, _⟩ := h; rfl) | (obtain ⟨_, _, _, _, _, _, _, _, _, _, _, _, _, rfl, _⟩ := h; rfl) | (obtain ⟨_, _, _, _, _, _, _, _, _, _, _, _, _, _, rfl, _⟩ := h; rfl) | (obtain ⟨_, _, _, _, _, _, _, _, _, _, _, _, _, _, _, rfl, _⟩ := h; rfl) | (obtain ⟨_, _, _, _, _, _, _, _, _, _, _, _, _, _, _, _, rfl, _⟩ := h; rfl) | (obtain ⟨_, _, _, _, _, _, _, _, _, _, _, _, _, _, _, _, _, rfl, _⟩ := h; rfl)
  · exact (pss_one (ps_ret (pe_and (pe_callB call_isi (by rfl) T.n_isinstance (by decide +kernel) (pa_cons (pv 0) (pa_cons (pe_bltn (by rfl) T.n_int (by decide +kernel) rfl) pa_nil))) (pe_one (pe_not (pe_callB call_isi (by rfl) T.n_isinstance (by decide +kernel) (pa_cons (pv 0) (pa_cons (pe_bltn (by rfl) T.n_bool (by decide +kernel) rfl) pa_nil))))))))
theorem ok_l_power (T : Txt K mg A F) : FnOk P w K mg base CX0 1 F.a_l_power F.d_l_power ["_law_many"] (sp_l_power K A) := by
  refine T.f_l_power.ok sc_l_power (fun vs H Q E h => ?_) (fun cdv Ar outer s H vs Q E hr h => ⟨t_l_power K A, ?_, r_l_power h⟩)
  · first | (obtain ⟨_, rfl, _⟩ := h; rfl) | (obtain ⟨_, _, rfl, _⟩ := h; rfl) | (obtain ⟨_, _, _, rfl, _⟩ := h; rfl) | (obtain ⟨_, _, _, _, rfl, _⟩ := h; rfl) | (obtain ⟨_, _, _, _, _, rfl, _⟩ := h; rfl) | (obtain ⟨_, _, _, _, _, _, rfl, _⟩ := h; rfl) | (obtain ⟨_, _, _, _, _, _, _, rfl, _⟩ := h; rfl) | (obtain ⟨_, _, _, _, _, _, _, _, rfl, _⟩ := h; rfl) | (obtain ⟨_, _, _, _, _, _, _, _, _, _, _, _, _, _, _, _, _, _, rfl, _⟩ := h; rfl) | (obtain ⟨_, _, _, _, _, _, _, _, _, rfl, _⟩ := h; rfl) | (obtain ⟨_, _, _, _, _, _, _, _, _, _, rfl, _⟩ := h; rfl) | (obtain ⟨_, _, _, _, _, _, _, _, _, _, _, rfl, _⟩ := h; rfl) | (obtain ⟨_, _, _, _, _, _, _, _, _, _, _, _, rfl, _⟩ := h; rfl) | (obtain ⟨_, _, _, _, _, _, _, _, _, _, _, _, _, rfl, _⟩ := h; rfl) | (obtain ⟨_, _, _, _, _, _, _, _, _, _, _, _, _, _, rfl, _⟩ := h; rfl) | (obtain ⟨_, _, _, _, _, _, _, _, _, _, _, _, _, _, _, rfl, _⟩ := h; rfl) | (obtain ⟨_, _, _, _, _, _, _, _, _, _, _, _, _, _, _, _, rfl, _⟩ := h; rfl) | (obtain ⟨_, _, _, _, _, _, _, _, _, _, _, _, _, _, _, _, _, rfl, _⟩ := h; rfl)
  · exact (pss_cons (ps_set (i := 1) sc_l_power.nd rfl (Or.inl rfl) pe_int)
    (pss_cons (ps_for PassesOwn.never rfl (pi_range1 (by rfl) T.n_range (pa_cons (pv 0) pa_nil)) (pg_name (i := 2) sc_l_power.nd rfl (Or.inl rfl)) (pss_one (ps_set (i := 1) sc_l_power.nd rfl (Or.inl rfl) (pe_op op_add (pv 1) (pv 1)))))
    (pss_one (ps_ret (pv 1)))))
theorem ok_l_load_by (T : Txt K mg A F) : FnOk P w K mg base CX0 2 F.a_l_load_by F.d_l_load_by ["_law_cell", "_law_way", "_law_most"] (sp_l_load_by K A) := by
  refine T.f_l_load_by.ok sc_l_load_by (fun vs H Q E h => ?_) (fun cdv Ar outer s H vs Q E hr h => ⟨t_l_load_by K A, ?_, r_l_load_by h⟩)
  · first | (obtain ⟨_, rfl, _⟩ := h; rfl) | (obtain ⟨_, _, rfl, _⟩ := h; rfl) | (obtain ⟨_, _, _, rfl, _⟩ := h; rfl) | (obtain ⟨_, _, _, _, rfl, _⟩ := h; rfl) | (obtain ⟨_, _, _, _, _, rfl, _⟩ := h; rfl) | (obtain ⟨_, _, _, _, _, _, rfl, _⟩ := h; rfl) | (obtain ⟨_, _, _, _, _, _, _, rfl, _⟩ := h; rfl) | (obtain ⟨_, _, _, _, _, _, _, _, rfl, _⟩ := h; rfl) | (obtain ⟨_, _, _, _, _, _, _, _, _, _, _, _, _, _, _, _, _, _, rfl, _⟩ := h; rfl) | (obtain ⟨_, _, _, _, _, _, _, _, _, rfl, _⟩ := h; rfl) | (obtain ⟨_, _, _, _, _, _, _, _, _, _, rfl, _⟩ := h; rfl) | (obtain ⟨_, _, _, _, _, _, _, _, _, _, _, rfl, _⟩ := h; rfl) | (obtain ⟨_, _, _, _, _, _, _, _, _, _, _, _, rfl, _⟩ := h; rfl) | (obtain ⟨_, _, _, _, _, _, _, _, _, _, _, _, _, rfl, _⟩ := h; rfl) | (obtain ⟨_, _, _, _, _, _, _, _, _, _, _, _, _, _, rfl, _⟩ := h; rfl) | (obtain ⟨_, _, _, _, _, _, _, _, _, _, _, _, _, _, _, rfl, _⟩ := h; rfl) | (obtain ⟨_, _, _, _, _, _, _, _, _, _, _, _, _, _, _, _, rfl, _⟩ := h; rfl) | (obtain ⟨_, _, _, _, _, _, _, _, _, _, _, _, _, _, _, _, _, rfl, _⟩ := h; rfl)
  · exact (pss_cons (ps_if (pt_cmpR op_eq (pv 1) pe_int (nomark _)) (pss_one (ps_ret (pe_op op_sub (pe_op op_mod (pv 0) (pe_op op_add (pe_op op_mul pe_int (pv 2)) pe_int)) (pv 2)))) pss_nil)
    (pss_cons (ps_if (pt_cmpR op_lt (pv 1) pe_int (nomark _)) (pss_one (ps_ret (pe_op op_sub (pe_op op_mod (pv 0) (pe_op op_add (pe_op op_mul pe_int (pe_op op_pow pe_int pe_int)) pe_int)) (pe_op op_pow pe_int pe_int)))) pss_nil)
    (pss_cons (ps_if (pt_cmpR op_eq (pv 1) pe_int (nomark _)) (pss_one (ps_ret (pe_op op_sub (pe_op op_mod (pv 0) pe_int) pe_int))) pss_nil)
    (pss_cons (ps_set (i := 3) sc_l_load_by.nd rfl (Or.inl rfl) (pe_op op_sub (pe_op op_add (pe_op op_fdiv (pe_call (ok_l_power T) (hr.mono (by decide)) rfl T.g_l_power T.f_l_power.kp T.b_l_power .nil pass0 (pa_cons (pe_op op_mod (pv 0) pe_int) pa_nil)) (pe_ix ix_list (pe_lst (pa_cons pe_int (pa_cons pe_int pa_nil))) (pe_op op_mod (pe_op op_fdiv (pv 0) pe_int) pe_int) (fun _ _ => rfl))) (pe_op op_mod (pe_op op_fdiv (pv 0) pe_int) pe_int)) pe_int))
    (pss_cons (ps_if (pt_cmpR op_eq (pe_op op_mod (pe_op op_fdiv (pv 0) pe_int) pe_int) pe_int (nomark _)) (pss_one (ps_ret (pe_op op_sub pe_int (pv 3)))) pss_nil)
    (pss_one (ps_ret (pv 3))))))))
theorem ok_l_sum (T : Txt K mg A F) : FnOk P w K mg base CX0 1 F.a_l_sum F.d_l_sum ["_law_things"] (sp_l_sum K A) := by
  refine T.f_l_sum.ok sc_l_sum (fun vs H Q E h => ?_) (fun cdv Ar outer s H vs Q E hr h => ⟨t_l_sum K A, ?_, r_l_sum h⟩)
  · first | (obtain ⟨_, rfl, _⟩ := h; rfl) | (obtain ⟨_, _, rfl, _⟩ := h; rfl) | (obtain ⟨_, _, _, rfl, _⟩ := h; rfl) | (obtain ⟨_, _, _, _, rfl, _⟩ := h; rfl) | (obtain ⟨_, _, _, _, _, rfl, _⟩ := h; rfl) | (obtain ⟨_, _, _, _, _, _, rfl, _⟩ := h; rfl) | (obtain ⟨_, _, _, _, _, _, _, rfl, _⟩ := h; rfl) | (obtain ⟨_, _, _, _, _, _, _, _, rfl, _⟩ := h; rfl) | (obtain ⟨_, _, _, _, _, _, _, _, _, _, _, _, _, _, _, _, _, _, rfl, _⟩ := h; rfl) | (obtain ⟨_, _, _, _, _, _, _, _, _, rfl, _⟩ := h; rfl) | (obtain ⟨_, _, _, _, _, _, _, _, _, _, rfl, _⟩ := h; rfl) | (obtain ⟨_, _, _, _, _, _, _, _, _, _, _, rfl, _⟩ := h; rfl) | (obtain ⟨_, _, _, _, _, _, _, _, _, _, _, _, rfl, _⟩ := h; rfl) | (obtain ⟨_, _, _, _, _, _, _, _, _, _, _, _, _, rfl, _⟩ := h; rfl) | (obtain ⟨_, _, _, _, _, _, _, _, _, _, _, _, _, _, rfl, _⟩ := h; rfl) | (obtain ⟨_, _, _, _, _, _, _, _, _, _, _, _, _, _, _, rfl, _⟩ := h; rfl) | (obtain ⟨_, _, _, _, _, _, _, _, _, _, _, _, _, _, _, _, rfl, _⟩ := h; rfl) | (obtain ⟨_, _, _, _, _, _, _, _, _, _, _, _, _, _, _, _, _, rfl, _⟩ := h; rfl)
  · exact (pss_cons (ps_set (i := 1) sc_l_sum.nd rfl (Or.inl rfl) pe_int)
    (pss_cons (ps_for PassesOwn.never rfl (pi_list (pe_revL (pv 0))) (pg_name (i := 2) sc_l_sum.nd rfl (Or.inl rfl)) (pss_one (ps_set (i := 1) sc_l_sum.nd rfl (Or.inl rfl) (pe_op op_add (pe_op op_add (pv 1) (pv 1)) (pv 2)))))
    (pss_one (ps_ret (pv 1)))))
theorem ok_l_neatK (T : Txt K mg A F) : FnOk P w K mg base CX0 2 F.a_l_neatK F.d_l_neatK ["_law_things"] (sp_l_neatK K A) := by
  refine T.f_l_neatK.ok sc_l_neatK (fun vs H Q E h => ?_) (fun cdv Ar outer s H vs Q E hr h => ⟨t_l_neatK K A, ?_, r_l_neatK h⟩)
  · first | (obtain ⟨_, rfl, _⟩ := h; rfl) | (obtain ⟨_, _, rfl, _⟩ := h; rfl) | (obtain ⟨_, _, _, rfl, _⟩ := h; rfl) | (obtain ⟨_, _, _, _, rfl, _⟩ := h; rfl) | (obtain ⟨_, _, _, _, _, rfl, _⟩ := h; rfl) | (obtain ⟨_, _, _, _, _, _, rfl, _⟩ := h; rfl) | (obtain ⟨_, _, _, _, _, _, _, rfl, _⟩ := h; rfl) | (obtain ⟨_, _, _, _, _, _, _, _, rfl, _⟩ := h; rfl) | (obtain ⟨_, _, _, _, _, _, _, _, _, _, _, _, _, _, _, _, _, _, rfl, _⟩ := h; rfl) | (obtain ⟨_, _, _, _, _, _, _, _, _, rfl, _⟩ := h; rfl) | (obtain ⟨_, _, _, _, _, _, _, _, _, _, rfl, _⟩ := h; rfl) | (obtain ⟨_, _, _, _, _, _, _, _, _, _, _, rfl, _⟩ := h; rfl) | (obtain ⟨_, _, _, _, _, _, _, _, _, _, _, _, rfl, _⟩ := h; rfl) | (obtain ⟨_, _, _, _, _, _, _, _, _, _, _, _, _, rfl, _⟩ := h; rfl) | (obtain ⟨_, _, _, _, _, _, _, _, _, _, _, _, _, _, rfl, _⟩ := h; rfl) | (obtain ⟨_, _, _, _, _, _, _, _, _, _, _, _, _, _, _, rfl, _⟩ := h; rfl) | (obtain ⟨_, _, _, _, _, _, _, _, _, _, _, _, _, _, _, _, rfl, _⟩ := h; rfl) | (obtain ⟨_, _, _, _, _, _, _, _, _, _, _, _, _, _, _, _, _, rfl, _⟩ := h; rfl)
  · exact (pss_cons (ps_if (pt_not (pt_val (pe_callB call_isi (by rfl) T.n_isinstance (by decide +kernel) (pa_cons (pv 0) (pa_cons (pe_bltn (by rfl) T.n_list (by decide +kernel) rfl) pa_nil))))) (pss_one (ps_ret pe_bl)) pss_nil)
    (pss_cons (ps_for PassesOwn.never rfl (pi_range1 (by rfl) T.n_range (pa_cons (pe_callB call_len_seq (by rfl) T.n_len (by decide +kernel) (pa_cons (pv 0) pa_nil)) pa_nil)) (pg_name (i := 1) sc_l_neatK.nd rfl (Or.inl rfl)) (pss_cons (ps_if (PW.pt (pw_or (pt_not (pt_val (pe_call (ok_l_whole T) (hr.mono (by decide)) rfl T.g_l_whole T.f_l_whole.kp T.b_l_whole .nil pass0 (pa_cons (pe_ix ix_list (pv 0) (pv 1) (fun _ _ => rfl)) pa_nil)))) (pw_or1 (pt_cmpR op_notIn_seq (pe_ix ix_list (pv 0) (pv 1) (fun _ _ => rfl)) (pe_tup (pa_cons pe_int (pa_cons pe_int (pa_cons (pe_un un_neg pe_int) pa_nil)))) (by rfl))))) (pss_one (ps_ret pe_bl)) pss_nil)
    (pss_one (ps_if (PW.pt (pw_and (pt_cmpR op_gt (pv 1) pe_int (nomark _)) (pw_and (pt_cmpR op_ne (pe_ix ix_list (pv 0) (pe_op op_sub (pv 1) pe_int) (fun _ _ => rfl)) pe_int (nomark _)) (pw_and1 (pt_cmpR op_ne (pe_ix ix_list (pv 0) (pv 1) (fun _ _ => rfl)) pe_int (nomark _)))))) (pss_one (ps_ret pe_bl)) pss_nil))))
    (pss_one (ps_ret (pe_or (pe_cmpR op_eq (pe_callB call_len_seq (by rfl) T.n_len (by decide +kernel) (pa_cons (pv 0) pa_nil)) pe_int (nomark _)) (pe_one (pe_cmpR op_ne (pe_ix ix_list (pv 0) (pe_un un_neg pe_int) (fun _ _ => rfl)) pe_int (nomark _))))))))
theorem ok_l_apart (T : Txt K mg A F) : FnOk P w K mg base CX0 1 F.a_l_apart F.d_l_apart ["_law_one", "_law_other"] (sp_l_apart K A) := by
  refine T.f_l_apart.ok sc_l_apart (fun vs H Q E h => ?_) (fun cdv Ar outer s H vs Q E hr h => ⟨t_l_apart K A, ?_, r_l_apart h⟩)
  · first | (obtain ⟨_, rfl, _⟩ := h; rfl) | (obtain ⟨_, _, rfl, _⟩ := h; rfl) | (obtain ⟨_, _, _, rfl, _⟩ := h; rfl) | (obtain ⟨_, _, _, _, rfl, _⟩ := h; rfl) | (obtain ⟨_, _, _, _, _, rfl, _⟩ := h; rfl) | (obtain ⟨_, _, _, _, _, _, rfl, _⟩ := h; rfl) | (obtain ⟨_, _, _, _, _, _, _, rfl, _⟩ := h; rfl) | (obtain ⟨_, _, _, _, _, _, _, _, rfl, _⟩ := h; rfl) | (obtain ⟨_, _, _, _, _, _, _, _, _, _, _, _, _, _, _, _, _, _, rfl, _⟩ := h; rfl) | (obtain ⟨_, _, _, _, _, _, _, _, _, rfl, _⟩ := h; rfl) | (obtain ⟨_, _, _, _, _, _, _, _, _, _, rfl, _⟩ := h; rfl) | (obtain ⟨_, _, _, _, _, _, _, _, _, _, _, rfl, _⟩ := h; rfl) | (obtain ⟨_, _, _, _, _, _, _, _, _, _, _, _, rfl, _⟩ := h; rfl) | (obtain ⟨_, _, _, _, _, _, _, _, _, _, _, _, _, rfl, _⟩ := h; rfl) | (obtain ⟨_, _, _, _, _, _, _, _, _, _, _, _, _, _, rfl, _⟩ := h; rfl) | (obtain ⟨_, _, _, _, _, _, _, _, _, _, _, _, _, _, _, rfl, _⟩ := h; rfl) | (obtain ⟨_, _, _, _, _, _, _, _, _, _, _, _, _, _, _, _, rfl, _⟩ := h; rfl) | (obtain ⟨_, _, _, _, _, _, _, _, _, _, _, _, _, _, _, _, _, rfl, _⟩ := h; rfl)
  · exact (pss_cons (ps_set (i := 2) sc_l_apart.nd rfl (Or.inl rfl) (pe_callB (call_max2 rfl) (by rfl) T.n_max (by decide +kernel) (pa_cons (pe_callB call_len_seq (by rfl) T.n_len (by decide +kernel) (pa_cons (pv 0) pa_nil)) (pa_cons (pe_callB call_len_seq (by rfl) T.n_len (by decide +kernel) (pa_cons (pv 1) pa_nil)) pa_nil))))
    (pss_cons (ps_set (i := 3) sc_l_apart.nd rfl (Or.inr rfl) (pe_op op_cat (pv 0) (pe_op op_rep (pe_lst (pa_cons pe_int pa_nil)) (pe_op op_sub (pv 2) (pe_callB call_len_seq (by rfl) T.n_len (by decide +kernel) (pa_cons (pv 0) pa_nil))))))
    (pss_cons (ps_set (i := 4) sc_l_apart.nd rfl (Or.inr rfl) (pe_op op_cat (pv 1) (pe_op op_rep (pe_lst (pa_cons pe_int pa_nil)) (pe_op op_sub (pv 2) (pe_callB call_len_seq (by rfl) T.n_len (by decide +kernel) (pa_cons (pv 1) pa_nil))))))
    (pss_one (ps_ret (pe_callB call_len_seq (by rfl) T.n_len (by decide +kernel) (pa_cons (pe_lc (own := [("_law_k", 5)]) (g := gName 5) (tt := (tTest (tOp rNe (tOp (rIxL K) (tVar 3) (tVar 5)) (tOp (rIxL K) (tVar 4) (tVar 5))))) (by rfl) sc_l_apart.nd (pi_range1 (by rfl) T.n_range (pa_cons (pv 2) pa_nil)) (blkOk_by (own := [("_law_k", 5)]) (N := n_l_apart) (sc := defScope s_l_apart) (by decide +kernel)) (fun _ _ _ _ _ => pg_name (i := 5) sc_l_apart.nd rfl (Or.inl rfl)) (fun _ _ _ _ _ => (pts_one (pt_cmpR op_ne (pe_ix ix_list (pv 3) (pv 5) (fun _ _ => rfl)) (pe_ix ix_list (pv 4) (pv 5) (fun _ _ => rfl)) (nomark _)))) (fun _ _ _ _ _ => (pv 5))) pa_nil)))))))
theorem ok_l_looked (T : Txt K mg A F) : FnOk P w K mg base CX0 5 F.a_l_looked F.d_l_looked ["_law_scale", "_law_loads", "_law_row", "_law_many"] (sp_l_looked K A) := by
  refine T.f_l_looked.ok sc_l_looked (fun vs H Q E h => ?_) (fun cdv Ar outer s H vs Q E hr h => ⟨t_l_looked K A, ?_, r_l_looked h⟩)
  · first | (obtain ⟨_, rfl, _⟩ := h; rfl) | (obtain ⟨_, _, rfl, _⟩ := h; rfl) | (obtain ⟨_, _, _, rfl, _⟩ := h; rfl) | (obtain ⟨_, _, _, _, rfl, _⟩ := h; rfl) | (obtain ⟨_, _, _, _, _, rfl, _⟩ := h; rfl) | (obtain ⟨_, _, _, _, _, _, rfl, _⟩ := h; rfl) | (obtain ⟨_, _, _, _, _, _, _, rfl, _⟩ := h; rfl) | (obtain ⟨_, _, _, _, _, _, _, _, rfl, _⟩ := h; rfl) | (obtain ⟨_, _, _, _, _, _, _, _, _, _, _, _, _, _, _, _, _, _, rfl, _⟩ := h; rfl) | (obtain ⟨_, _, _, _, _, _, _, _, _, rfl, _⟩ := h; rfl) | (obtain ⟨_, _, _, _, _, _, _, _, _, _, rfl, _⟩ := h; rfl) | (obtain ⟨_, _, _, _, _, _, _, _, _, _, _, rfl, _⟩ := h; rfl) | (obtain ⟨_, _, _, _, _, _, _, _, _, _, _, _, rfl, _⟩ := h; rfl) | (obtain ⟨_, _, _, _, _, _, _, _, _, _, _, _, _, rfl, _⟩ := h; rfl) | (obtain ⟨_, _, _, _, _, _, _, _, _, _, _, _, _, _, rfl, _⟩ := h; rfl) | (obtain ⟨_, _, _, _, _, _, _, _, _, _, _, _, _, _, _, rfl, _⟩ := h; rfl) | (obtain ⟨_, _, _, _, _, _, _, _, _, _, _, _, _, _, _, _, rfl, _⟩ := h; rfl) | (obtain ⟨_, _, _, _, _, _, _, _, _, _, _, _, _, _, _, _, _, rfl, _⟩ := h; rfl)
  · exact (pss_cons (ps_set (i := 4) sc_l_looked.nd rfl (Or.inl rfl) (pe_meth0 (pv 0) T.sc_Scale.cl T.m_Scale_pans (ok_Scale_pans T) (hr.mono (by decide)) T.b_Scale_pans .nil pass0))
    (pss_cons (ps_set (i := 5) sc_l_looked.nd rfl (Or.inl rfl) (pe_meth0 (pv 0) T.sc_Scale.cl T.m_Scale_weighs (ok_Scale_weighs T) (hr.mono (by decide)) T.b_Scale_weighs .nil pass0))
    (pss_cons (ps_if (PW.pt (pw_or (pt_not (pt_val (pe_call (ok_l_whole T) (hr.mono (by decide)) rfl T.g_l_whole T.f_l_whole.kp T.b_l_whole .nil pass0 (pa_cons (pv 5) pa_nil)))) (pw_or (pt_cmpR op_ne (pv 5) (pe_callB (cr_sum rfl) (by rfl) T.n_sum (by decide +kernel) (pa_cons (pv 1) pa_nil)) (nomark _)) (pw_or (pt_not (pt_val (pe_call (ok_l_neatK T) (hr.mono (by decide)) rfl T.g_l_neatK T.f_l_neatK.kp T.b_l_neatK .nil pass0 (pa_cons (pv 4) pa_nil)))) (pw_or1 (pt_cmpR op_ne (pe_call (ok_l_sum T) (hr.mono (by decide)) rfl T.g_l_sum T.f_l_sum.kp T.b_l_sum .nil pass0 (pa_cons (pv 4) pa_nil)) (pv 5) (nomark _))))))) (pss_one (ps_ret pe_bl)) pss_nil)
    (pss_cons (ps_if (PW.pt (pw_or (pt_not (pt_val (pe_call (ok_l_whole T) (hr.mono (by decide)) rfl T.g_l_whole T.f_l_whole.kp T.b_l_whole .nil pass0 (pa_cons (pv 3) pa_nil)))) (pw_or1 (pt_cmpR op_ne (pv 3) (pe_call (ok_l_apart T) (hr.mono (by decide)) rfl T.g_l_apart T.f_l_apart.kp T.b_l_apart .nil pass0 (pa_cons (pe_ix ix_list (pe_ix ix_list (pv 2) (pe_un un_neg pe_int) (fun _ _ => rfl)) pe_int (fun _ _ => rfl)) (pa_cons (pv 4) pa_nil))) (nomark _))))) (pss_one (ps_ret pe_bl)) pss_nil)
    (pss_cons (ps_expr (pe_bm PySem.F.plainAttrs_list PySem.F.slot_list_append PySem.F.type_list_append mt_append (pv 2) (pa_cons (pe_lst (pa_cons (pv 4) (pa_cons (pe_callTy call_list_of (by rfl) T.n_list (by decide +kernel) (pa_cons (pv 4) pa_nil)) pa_nil))) pa_nil)))
    (pss_one (ps_ret pe_bl)))))))
theorem ok_l_refused (T : Txt K mg A F) : FnOk P w K mg base CX0 1 F.a_l_refused F.d_l_refused ["_law_caught", "_law_word"] (sp_l_refused K A) := by
  refine T.f_l_refused.ok sc_l_refused (fun vs H Q E h => ?_) (fun cdv Ar outer s H vs Q E hr h => ⟨t_l_refused K A, ?_, r_l_refused h⟩)
  · first | (obtain ⟨_, rfl, _⟩ := h; rfl) | (obtain ⟨_, _, rfl, _⟩ := h; rfl) | (obtain ⟨_, _, _, rfl, _⟩ := h; rfl) | (obtain ⟨_, _, _, _, rfl, _⟩ := h; rfl) | (obtain ⟨_, _, _, _, _, rfl, _⟩ := h; rfl) | (obtain ⟨_, _, _, _, _, _, rfl, _⟩ := h; rfl) | (obtain ⟨_, _, _, _, _, _, _, rfl, _⟩ := h; rfl) | (obtain ⟨_, _, _, _, _, _, _, _, rfl, _⟩ := h; rfl) | (obtain ⟨_, _, _, _, _, _, _, _, _, _, _, _, _, _, _, _, _, _, rfl, _⟩ := h; rfl) | (obtain ⟨_, _, _, _, _, _, _, _, _, rfl, _⟩ := h; rfl) | (obtain ⟨_, _, _, _, _, _, _, _, _, _, rfl, _⟩ := h; rfl) | (obtain ⟨_, _, _, _, _, _, _, _, _, _, _, rfl, _⟩ := h; rfl) | (obtain ⟨_, _, _, _, _, _, _, _, _, _, _, _, rfl, _⟩ := h; rfl) | (obtain ⟨_, _, _, _, _, _, _, _, _, _, _, _, _, rfl, _⟩ := h; rfl) | (obtain ⟨_, _, _, _, _, _, _, _, _, _, _, _, _, _, rfl, _⟩ := h; rfl) | (obtain ⟨_, _, _, _, _, _, _, _, _, _, _, _, _, _, _, rfl, _⟩ := h; rfl) | (obtain ⟨_, _, _, _, _, _, _, _, _, _, _, _, _, _, _, _, rfl, _⟩ := h; rfl) | (obtain ⟨_, _, _, _, _, _, _, _, _, _, _, _, _, _, _, _, _, rfl, _⟩ := h; rfl)
  · exact (pss_cons (ps_if (PW.pt (pw_or (pt_val (pe_callB call_isK (by rfl) T.n_isinstance (by decide +kernel) (pa_cons (pv 0) (pa_cons (pe_glob rfl T.g_NoLaying rfl) pa_nil)))) (pw_or (pt_val (pe_callB call_isK (by rfl) T.n_isinstance (by decide +kernel) (pa_cons (pv 0) (pa_cons (pe_glob rfl T.g_NoPlan rfl) pa_nil)))) (pw_or1 (pt_val (pe_callB call_isK (by rfl) T.n_isinstance (by decide +kernel) (pa_cons (pv 0) (pa_cons (pe_glob rfl T.g_NoText rfl) pa_nil)))))))) (pss_one (ps_ret pe_bl)) pss_nil)
    (pss_cons (ps_if (pt_not (pt_val (pe_callB call_isK (by rfl) T.n_isinstance (by decide +kernel) (pa_cons (pv 0) (pa_cons (pe_bltn (by rfl) T.n_ValueError (by decide +kernel) rfl) pa_nil))))) (pss_one (ps_ret pe_bl)) pss_nil)
    (pss_cons (ps_if (pt_cmpR op_eq (pv 1) pe_str (nomark _)) (pss_one (ps_ret (pe_and (pe_callB call_isK (by rfl) T.n_isinstance (by decide +kernel) (pa_cons (pv 0) (pa_cons (pe_glob rfl T.g_NoLoad rfl) pa_nil))) (pe_one (pe_not (pe_callB call_isK (by rfl) T.n_isinstance (by decide +kernel) (pa_cons (pv 0) (pa_cons (pe_glob rfl T.g_NoDeed rfl) pa_nil)))))))) pss_nil)
    (pss_one (ps_ret (pe_and (pe_callB call_isK (by rfl) T.n_isinstance (by decide +kernel) (pa_cons (pv 0) (pa_cons (pe_glob rfl T.g_NoDeed rfl) pa_nil))) (pe_one (pe_not (pe_callB call_isK (by rfl) T.n_isinstance (by decide +kernel) (pa_cons (pv 0) (pa_cons (pe_glob rfl T.g_NoLoad rfl) pa_nil)))))))))))
theorem ok_l_deed_by (T : Txt K mg A F) : FnOk P w K mg base CX0 3 F.a_l_deed_by F.d_l_deed_by ["_law_cell", "_law_loads", "_law_most"] (sp_l_deed_by K A) := by
  refine T.f_l_deed_by.ok sc_l_deed_by (fun vs H Q E h => ?_) (fun cdv Ar outer s H vs Q E hr h => ⟨t_l_deed_by K A, ?_, r_l_deed_by h⟩)
  · first | (obtain ⟨_, rfl, _⟩ := h; rfl) | (obtain ⟨_, _, rfl, _⟩ := h; rfl) | (obtain ⟨_, _, _, rfl, _⟩ := h; rfl) | (obtain ⟨_, _, _, _, rfl, _⟩ := h; rfl) | (obtain ⟨_, _, _, _, _, rfl, _⟩ := h; rfl) | (obtain ⟨_, _, _, _, _, _, rfl, _⟩ := h; rfl) | (obtain ⟨_, _, _, _, _, _, _, rfl, _⟩ := h; rfl) | (obtain ⟨_, _, _, _, _, _, _, _, rfl, _⟩ := h; rfl) | (obtain ⟨_, _, _, _, _, _, _, _, _, _, _, _, _, _, _, _, _, _, rfl, _⟩ := h; rfl) | (obtain ⟨_, _, _, _, _, _, _, _, _, rfl, _⟩ := h; rfl) | (obtain ⟨_, _, _, _, _, _, _, _, _, _, rfl, _⟩ := h; rfl) | (obtain ⟨_, _, _, _, _, _, _, _, _, _, _, rfl, _⟩ := h; rfl) | (obtain ⟨_, _, _, _, _, _, _, _, _, _, _, _, rfl, _⟩ := h; rfl) | (obtain ⟨_, _, _, _, _, _, _, _, _, _, _, _, _, rfl, _⟩ := h; rfl) | (obtain ⟨_, _, _, _, _, _, _, _, _, _, _, _, _, _, rfl, _⟩ := h; rfl) | (obtain ⟨_, _, _, _, _, _, _, _, _, _, _, _, _, _, _, rfl, _⟩ := h; rfl) | (obtain ⟨_, _, _, _, _, _, _, _, _, _, _, _, _, _, _, _, rfl, _⟩ := h; rfl) | (obtain ⟨_, _, _, _, _, _, _, _, _, _, _, _, _, _, _, _, _, rfl, _⟩ := h; rfl)
  · exact (pss_cons (ps_set (i := 3) sc_l_deed_by.nd rfl (Or.inl rfl) (pe_op op_mod (pv 0) pe_int))
    (pss_cons (ps_if (pt_cmpR op_eq (pv 3) pe_int (nomark _)) (pss_one (ps_ret (pe_tup (pa_cons pe_str (pa_cons (pe_ix ix_list (pe_lst (pa_cons pe_non (pa_cons pe_bl (pa_cons pe_bl (pa_cons pe_str (pa_cons pe_str (pa_cons (pe_lst (pa_cons pe_int pa_nil)) (pa_cons (pe_tup (pa_cons pe_int pa_nil)) (pa_cons pe_dnewK pa_nil))))))))) (pe_op op_mod (pe_op op_fdiv (pv 0) pe_int) pe_int) (fun _ _ => rfl)) (pa_cons pe_bl pa_nil)))))) pss_nil)
    (pss_cons (ps_if (pt_cmpR op_gt (pv 3) pe_int (nomark _)) (pss_one (ps_ret (pe_tup (pa_cons pe_str (pa_cons pe_non (pa_cons (pe_cmpR (op_neD hr.units) (pv 1) (pe_lst pa_nil) (nomark _)) pa_nil)))))) pss_nil)
    (pss_one (ps_ret (pe_tup (pa_cons pe_str (pa_cons (pe_call (ok_l_load_by T) (hr.mono (by decide)) rfl T.g_l_load_by T.f_l_load_by.kp T.b_l_load_by .nil pass0 (pa_cons (pe_op op_fdiv (pv 0) pe_int) (pa_cons (pv 3) (pa_cons (pv 2) pa_nil)))) (pa_cons pe_bl pa_nil)))))))))
theorem ok_l_done (T : Txt K mg A F) : FnOk P w K mg base CX0 6 F.a_l_done F.d_l_done ["_law_scale", "_law_deed"] (sp_l_done K A) := by
  refine T.f_l_done.ok sc_l_done (fun vs H Q E h => ?_) (fun cdv Ar outer s H vs Q E hr h => ⟨t_l_done K A, ?_, r_l_done T.sc_Scale T.xc_load T.ct_load T.xc_deed T.ct_deed h⟩)
  · first | (obtain ⟨_, rfl, _⟩ := h; rfl) | (obtain ⟨_, _, rfl, _⟩ := h; rfl) | (obtain ⟨_, _, _, rfl, _⟩ := h; rfl) | (obtain ⟨_, _, _, _, rfl, _⟩ := h; rfl) | (obtain ⟨_, _, _, _, _, rfl, _⟩ := h; rfl) | (obtain ⟨_, _, _, _, _, _, rfl, _⟩ := h; rfl) | (obtain ⟨_, _, _, _, _, _, _, rfl, _⟩ := h; rfl) | (obtain ⟨_, _, _, _, _, _, _, _, rfl, _⟩ := h; rfl) | (obtain ⟨_, _, _, _, _, _, _, _, _, _, _, _, _, _, _, _, _, _, rfl, _⟩ := h; rfl) | (obtain ⟨_, _, _, _, _, _, _, _, _, rfl, _⟩ := h; rfl) | (obtain ⟨_, _, _, _, _, _, _, _, _, _, rfl, _⟩ := h; rfl) | (obtain ⟨_, _, _, _, _, _, _, _, _, _, _, rfl, _⟩ := h; rfl) | (obtain ⟨_, _, _, _, _, _, _, _, _, _, _, _, rfl, _⟩ := h; rfl) | (obtain ⟨_, _, _, _, _, _, _, _, _, _, _, _, _, rfl, _⟩ := h; rfl) | (obtain ⟨_, _, _, _, _, _, _, _, _, _, _, _, _, _, rfl, _⟩ := h; rfl) | (obtain ⟨_, _, _, _, _, _, _, _, _, _, _, _, _, _, _, rfl, _⟩ := h; rfl) | (obtain ⟨_, _, _, _, _, _, _, _, _, _, _, _, _, _, _, _, rfl, _⟩ := h; rfl) | (obtain ⟨_, _, _, _, _, _, _, _, _, _, _, _, _, _, _, _, _, rfl, _⟩ := h; rfl)
  · exact (pss_cons (ps_set (i := 2) sc_l_done.nd rfl (Or.inl rfl) pe_non)
    (pss_cons (ps_set (i := 3) sc_l_done.nd rfl (Or.inl rfl) pe_int)
    (pss_cons (ps_try_keep (i := 4) (tb := fun W => (tIfS (tTest (tOp rEq (tOp (rIxT K) (tVar 1) (tC (.int 0))) (tC (.str "lay")))) (tAsg (tMethW A.scale "lay" (sp_Scale_lay K A) (WE W) (tVar 0) (tCons (tOp (rIxT K) (tVar 1) (tC (.int 1))) tNil)) (gName 3)) (tAsg (tMethW A.scale "back" (sp_Scale_back K A) (WE W) (tVar 0) tNil) (gName 3)))) (ts := fun a => (tAsg (tVar 4) (gName 2))) rfl rfl rfl sc_l_done.nd rfl rfl (by rfl) (by decide) T.g_StoneError (fun W pn xe tk _ => (pss_one (ps_if (pt_cmpR op_eq (pe_ix ix_tup (pv 1) pe_int (fun _ _ => rfl)) pe_str (nomark _)) (pss_one (ps_set (i := 3) sc_l_done.nd rfl (Or.inl rfl) (pe_methW (pv 0) T.sc_Scale.cl T.m_Scale_lay (ok_Scale_lay T) (hr.mono (by decide)) T.b_Scale_lay (fun σ => passAt tk σ) (pa_cons (pe_ix ix_tup (pv 1) pe_int (fun _ _ => rfl)) pa_nil) (fun h => PySem.W.methodCall_KW h)))) (pss_one (ps_set (i := 3) sc_l_done.nd rfl (Or.inl rfl) (pe_methW0 (pv 0) T.sc_Scale.cl T.m_Scale_back (ok_Scale_back T) (hr.mono (by decide)) T.b_Scale_back (fun σ => passAt tk σ) (fun h => PySem.W.methodCall_KW h))))))) (fun a o pn => (pss_one (ps_set (i := 2) sc_l_done.nd rfl (Or.inl rfl) (pv 4)))))
    (pss_cons (ps_if (PW.pt (pw_or (PW.pt (pw_and (pt_val (pe_ix ix_tup (pv 1) pe_int (fun _ _ => rfl))) (pw_and1 (pt_cmpR op_isN (pv 2) pe_non (nomark _))))) (pw_or1 (PW.pt (pw_and (pt_not (pt_val (pe_ix ix_tup (pv 1) pe_int (fun _ _ => rfl)))) (pw_and1 (pt_val (pe_call (ok_l_refused T) (hr.mono (by decide)) rfl T.g_l_refused T.f_l_refused.kp T.b_l_refused .nil pass0 (pa_cons (pv 2) (pa_cons (pe_ix ix_tup (pv 1) pe_int (fun _ _ => rfl)) pa_nil)))))))))) (pss_one (ps_ret (pv 3))) pss_nil)
    (pss_one (ps_ret pe_non))))))
theorem ok_l_step (T : Txt K mg A F) : FnOk P w K mg base CX0 7 F.a_l_step F.d_l_step ["_law_pair", "_law_quiet_here", "_law_loads", "_law_rows", "_law_cell", "_law_most"] (sp_l_step K A) := by
  refine T.f_l_step.ok sc_l_step (fun vs H Q E h => ?_) (fun cdv Ar outer s H vs Q E hr h => ⟨t_l_step K A, ?_, r_l_step h⟩)
  · first | (obtain ⟨_, rfl, _⟩ := h; rfl) | (obtain ⟨_, _, rfl, _⟩ := h; rfl) | (obtain ⟨_, _, _, rfl, _⟩ := h; rfl) | (obtain ⟨_, _, _, _, rfl, _⟩ := h; rfl) | (obtain ⟨_, _, _, _, _, rfl, _⟩ := h; rfl) | (obtain ⟨_, _, _, _, _, _, rfl, _⟩ := h; rfl) | (obtain ⟨_, _, _, _, _, _, _, rfl, _⟩ := h; rfl) | (obtain ⟨_, _, _, _, _, _, _, _, rfl, _⟩ := h; rfl) | (obtain ⟨_, _, _, _, _, _, _, _, _, _, _, _, _, _, _, _, _, _, rfl, _⟩ := h; rfl) | (obtain ⟨_, _, _, _, _, _, _, _, _, rfl, _⟩ := h; rfl) | (obtain ⟨_, _, _, _, _, _, _, _, _, _, rfl, _⟩ := h; rfl) | (obtain ⟨_, _, _, _, _, _, _, _, _, _, _, rfl, _⟩ := h; rfl) | (obtain ⟨_, _, _, _, _, _, _, _, _, _, _, _, rfl, _⟩ := h; rfl) | (obtain ⟨_, _, _, _, _, _, _, _, _, _, _, _, _, rfl, _⟩ := h; rfl) | (obtain ⟨_, _, _, _, _, _, _, _, _, _, _, _, _, _, rfl, _⟩ := h; rfl) | (obtain ⟨_, _, _, _, _, _, _, _, _, _, _, _, _, _, _, rfl, _⟩ := h; rfl) | (obtain ⟨_, _, _, _, _, _, _, _, _, _, _, _, _, _, _, _, rfl, _⟩ := h; rfl) | (obtain ⟨_, _, _, _, _, _, _, _, _, _, _, _, _, _, _, _, _, rfl, _⟩ := h; rfl)
  · exact (pss_cons (ps_set (i := 6) sc_l_step.nd rfl (Or.inl rfl) (pe_op op_mod (pv 4) pe_int))
    (pss_cons (ps_set (i := 7) sc_l_step.nd rfl (Or.inl rfl) (pe_call (ok_l_deed_by T) (hr.mono (by decide)) rfl T.g_l_deed_by T.f_l_deed_by.kp T.b_l_deed_by .nil pass0 (pa_cons (pe_op op_fdiv (pv 4) pe_int) (pa_cons (pe_ix ix_list (pv 2) (pv 6) (fun _ _ => rfl)) (pa_cons (pv 5) pa_nil)))))
    (pss_cons (ps_set (i := 8) sc_l_step.nd rfl (Or.inl rfl) (pe_call (ok_l_done T) (hr.mono (by decide)) rfl T.g_l_done T.f_l_done.kp T.b_l_done .nil pass0 (pa_cons (pe_ix ix_list (pv 0) (pv 6) (fun _ _ => rfl)) (pa_cons (pv 7) pa_nil))))
    (pss_cons (ps_if (PW.pt (pw_and (pt_val (pe_ix ix_tup (pv 7) pe_int (fun _ _ => rfl))) (pw_and1 (pt_cmpR op_eq (pe_ix ix_tup (pv 7) pe_int (fun _ _ => rfl)) pe_str (nomark _))))) (pss_one (ps_expr (pe_bm PySem.F.plainAttrs_list PySem.F.slot_list_append PySem.F.type_list_append mt_append (pe_ix ix_list (pv 2) (pv 6) (fun _ _ => rfl)) (pa_cons (pe_ix ix_tup (pv 7) pe_int (fun _ _ => rfl)) pa_nil)))) (pss_one (ps_if (pt_val (pe_ix ix_tup (pv 7) pe_int (fun _ _ => rfl))) (pss_one (ps_expr (pe_bm0 PySem.F.plainAttrs_list PySem.F.slot_list_pop PySem.F.type_list_pop mt_pop (pe_ix ix_list (pv 2) (pv 6) (fun _ _ => rfl))))) pss_nil)))
    (pss_cons (ps_if (pt_not (pt_val (pe_call (ok_l_looked T) (hr.mono (by decide)) rfl T.g_l_looked T.f_l_looked.kp T.b_l_looked .nil pass0 (pa_cons (pe_ix ix_list (pv 0) (pv 6) (fun _ _ => rfl)) (pa_cons (pe_ix ix_list (pv 2) (pv 6) (fun _ _ => rfl)) (pa_cons (pe_ix ix_list (pv 3) (pv 6) (fun _ _ => rfl)) (pa_cons (pv 8) pa_nil))))))) (pss_one (ps_ret pe_bl)) pss_nil)
    (pss_cons (ps_set (i := 9) sc_l_step.nd rfl (Or.inl rfl) (pe_meth0 (pe_ix ix_list (pv 0) (pv 6) (fun _ _ => rfl)) T.sc_Scale.cl T.m_Scale_pans (ok_Scale_pans T) (hr.mono (by decide)) T.b_Scale_pans .nil pass0))
    (pss_cons (ps_expr (pe_bm PySem.F.plainAttrs_list PySem.F.slot_list_append PySem.F.type_list_append mt_append (pv 9) (pa_cons (pe_op op_mod (pv 4) pe_int) pa_nil)))
    (pss_one (ps_ret (pe_or (pe_cmpR op_eq (pv 6) pe_int (nomark _)) (pe_one (pe_cmpR op_eq (pe_call (ok_l_done T) (hr.mono (by decide)) rfl T.g_l_done T.f_l_done.kp T.b_l_done .nil pass0 (pa_cons (pv 1) (pa_cons (pv 7) pa_nil))) (pv 8) (nomark _)))))))))))))
theorem ok_l_all_back (T : Txt K mg A F) : FnOk P w K mg base CX0 7 F.a_l_all_back F.d_l_all_back ["_law_scale", "_law_loads", "_law_row"] (sp_l_all_back K A) := by
  refine T.f_l_all_back.ok sc_l_all_back (fun vs H Q E h => ?_) (fun cdv Ar outer s H vs Q E hr h => ⟨t_l_all_back K A, ?_, r_l_all_back h⟩)
  · first | (obtain ⟨_, rfl, _⟩ := h; rfl) | (obtain ⟨_, _, rfl, _⟩ := h; rfl) | (obtain ⟨_, _, _, rfl, _⟩ := h; rfl) | (obtain ⟨_, _, _, _, rfl, _⟩ := h; rfl) | (obtain ⟨_, _, _, _, _, rfl, _⟩ := h; rfl) | (obtain ⟨_, _, _, _, _, _, rfl, _⟩ := h; rfl) | (obtain ⟨_, _, _, _, _, _, _, rfl, _⟩ := h; rfl) | (obtain ⟨_, _, _, _, _, _, _, _, rfl, _⟩ := h; rfl) | (obtain ⟨_, _, _, _, _, _, _, _, _, _, _, _, _, _, _, _, _, _, rfl, _⟩ := h; rfl) | (obtain ⟨_, _, _, _, _, _, _, _, _, rfl, _⟩ := h; rfl) | (obtain ⟨_, _, _, _, _, _, _, _, _, _, rfl, _⟩ := h; rfl) | (obtain ⟨_, _, _, _, _, _, _, _, _, _, _, rfl, _⟩ := h; rfl) | (obtain ⟨_, _, _, _, _, _, _, _, _, _, _, _, rfl, _⟩ := h; rfl) | (obtain ⟨_, _, _, _, _, _, _, _, _, _, _, _, _, rfl, _⟩ := h; rfl) | (obtain ⟨_, _, _, _, _, _, _, _, _, _, _, _, _, _, rfl, _⟩ := h; rfl) | (obtain ⟨_, _, _, _, _, _, _, _, _, _, _, _, _, _, _, rfl, _⟩ := h; rfl) | (obtain ⟨_, _, _, _, _, _, _, _, _, _, _, _, _, _, _, _, rfl, _⟩ := h; rfl) | (obtain ⟨_, _, _, _, _, _, _, _, _, _, _, _, _, _, _, _, _, rfl, _⟩ := h; rfl)
  · exact (pss_cons (ps_set (i := 3) sc_l_all_back.nd rfl (Or.inl rfl) (pe_lst pa_nil))
    (pss_cons (ps_while PassesOwn.never (pt_cmpR (op_neD hr.units) (pv 1) (pe_lst pa_nil) (nomark _)) (pss_cons (ps_set (i := 4) sc_l_all_back.nd rfl (Or.inl rfl) (pe_meth0 (pv 0) T.sc_Scale.cl T.m_Scale_back (ok_Scale_back T) (hr.mono (by decide)) T.b_Scale_back .nil passL))
    (pss_cons (ps_expr (pe_bm0 PySem.F.plainAttrs_list PySem.F.slot_list_pop PySem.F.type_list_pop mt_pop (pv 1)))
    (pss_cons (ps_if (pt_not (pt_val (pe_call (ok_l_looked T) (hr.mono (by decide)) rfl T.g_l_looked T.f_l_looked.kp T.b_l_looked .nil pass0 (pa_cons (pv 0) (pa_cons (pv 1) (pa_cons (pv 2) (pa_cons (pv 4) pa_nil))))))) (pss_one (ps_ret pe_non)) pss_nil)
    (pss_one (ps_expr (pe_bm PySem.F.plainAttrs_list PySem.F.slot_list_append PySem.F.type_list_append mt_append (pv 3) (pa_cons (pv 4) pa_nil))))))))
    (pss_cons (ps_if (PW.pt (pw_or (pt_cmpR op_ne (pe_call (ok_l_done T) (hr.mono (by decide)) rfl T.g_l_done T.f_l_done.kp T.b_l_done .nil pass0 (pa_cons (pv 0) (pa_cons (pe_tup (pa_cons pe_str (pa_cons pe_non (pa_cons pe_bl pa_nil)))) pa_nil))) pe_int (nomark _)) (pw_or1 (pt_not (pt_val (pe_call (ok_l_looked T) (hr.mono (by decide)) rfl T.g_l_looked T.f_l_looked.kp T.b_l_looked .nil pass0 (pa_cons (pv 0) (pa_cons (pv 1) (pa_cons (pv 2) (pa_cons pe_int pa_nil)))))))))) (pss_one (ps_ret pe_non)) pss_nil)
    (pss_one (ps_ret (pv 3))))))
theorem ok_l_quiet (T : Txt K mg A F) : FnOk P w K mg base CX0 5 F.a_l_quiet F.d_l_quiet ["_law_quiet_here", "_law_loads", "_law_row"] (sp_l_quiet K A) := by
  refine T.f_l_quiet.ok sc_l_quiet (fun vs H Q E h => ?_) (fun cdv Ar outer s H vs Q E hr h => ⟨t_l_quiet K A, ?_, r_l_quiet h⟩)
  · first | (obtain ⟨_, rfl, _⟩ := h; rfl) | (obtain ⟨_, _, rfl, _⟩ := h; rfl) | (obtain ⟨_, _, _, rfl, _⟩ := h; rfl) | (obtain ⟨_, _, _, _, rfl, _⟩ := h; rfl) | (obtain ⟨_, _, _, _, _, rfl, _⟩ := h; rfl) | (obtain ⟨_, _, _, _, _, _, rfl, _⟩ := h; rfl) | (obtain ⟨_, _, _, _, _, _, _, rfl, _⟩ := h; rfl) | (obtain ⟨_, _, _, _, _, _, _, _, rfl, _⟩ := h; rfl) | (obtain ⟨_, _, _, _, _, _, _, _, _, _, _, _, _, _, _, _, _, _, rfl, _⟩ := h; rfl) | (obtain ⟨_, _, _, _, _, _, _, _, _, rfl, _⟩ := h; rfl) | (obtain ⟨_, _, _, _, _, _, _, _, _, _, rfl, _⟩ := h; rfl) | (obtain ⟨_, _, _, _, _, _, _, _, _, _, _, rfl, _⟩ := h; rfl) | (obtain ⟨_, _, _, _, _, _, _, _, _, _, _, _, rfl, _⟩ := h; rfl) | (obtain ⟨_, _, _, _, _, _, _, _, _, _, _, _, _, rfl, _⟩ := h; rfl) | (obtain ⟨_, _, _, _, _, _, _, _, _, _, _, _, _, _, rfl, _⟩ := h; rfl) | (obtain ⟨_, _, _, _, _, _, _, _, _, _, _, _, _, _, _, rfl, _⟩ := h; rfl) | (obtain ⟨_, _, _, _, _, _, _, _, _, _, _, _, _, _, _, _, rfl, _⟩ := h; rfl) | (obtain ⟨_, _, _, _, _, _, _, _, _, _, _, _, _, _, _, _, _, rfl, _⟩ := h; rfl)
  · exact (pss_cons (ps_set (i := 3) sc_l_quiet.nd rfl (Or.inl rfl) (pe_meth0 (pv 0) T.sc_Scale.cl T.m_Scale_weighs (ok_Scale_weighs T) (hr.mono (by decide)) T.b_Scale_weighs .nil pass0))
    (pss_cons (ps_set (i := 4) sc_l_quiet.nd rfl (Or.inl rfl) (pe_meth0 (pv 0) T.sc_Scale.cl T.m_Scale_pans (ok_Scale_pans T) (hr.mono (by decide)) T.b_Scale_pans .nil pass0))
    (pss_one (ps_ret (pe_and (pe_call (ok_l_whole T) (hr.mono (by decide)) rfl T.g_l_whole T.f_l_whole.kp T.b_l_whole .nil pass0 (pa_cons (pv 3) pa_nil)) (pe_and (pe_cmpR op_eq (pv 3) (pe_callB (cr_sum rfl) (by rfl) T.n_sum (by decide +kernel) (pa_cons (pv 1) pa_nil)) (nomark _)) (pe_and (pe_call (ok_l_neatK T) (hr.mono (by decide)) rfl T.g_l_neatK T.f_l_neatK.kp T.b_l_neatK .nil pass0 (pa_cons (pv 4) pa_nil)) (pe_one (pe_cmpR (op_eqD hr.units) (pv 4) (pe_ix ix_list (pe_ix ix_list (pv 2) (pe_un un_neg pe_int) (fun _ _ => rfl)) pe_int (fun _ _ => rfl)) (nomark _))))))))))
theorem ok_law (T : Txt K mg A F) : FnOk P w K mg base CX0 8 F.a_law F.d_law ["_law_script"] (sp_law K A) := by
  refine T.f_law.ok sc_law (fun vs H Q E h => ?_) (fun cdv Ar outer s H vs Q E hr h => ⟨t_law K A, ?_, r_law h⟩)
  · first | (obtain ⟨_, rfl, _⟩ := h; rfl) | (obtain ⟨_, _, rfl, _⟩ := h; rfl) | (obtain ⟨_, _, _, rfl, _⟩ := h; rfl) | (obtain ⟨_, _, _, _, rfl, _⟩ := h; rfl) | (obtain ⟨_, _, _, _, _, rfl, _⟩ := h; rfl) | (obtain ⟨_, _, _, _, _, _, rfl, _⟩ := h; rfl) | (obtain ⟨_, _, _, _, _, _, _, rfl, _⟩ := h; rfl) | (obtain ⟨_, _, _, _, _, _, _, _, rfl, _⟩ := h; rfl) | (obtain ⟨_, _, _, _, _, _, _, _, _, _, _, _, _, _, _, _, _, _, rfl, _⟩ := h; rfl) | (obtain ⟨_, _, _, _, _, _, _, _, _, rfl, _⟩ := h; rfl) | (obtain ⟨_, _, _, _, _, _, _, _, _, _, rfl, _⟩ := h; rfl) | (obtain ⟨_, _, _, _, _, _, _, _, _, _, _, rfl, _⟩ := h; rfl) | (obtain ⟨_, _, _, _, _, _, _, _, _, _, _, _, rfl, _⟩ := h; rfl) | (obtain ⟨_, _, _, _, _, _, _, _, _, _, _, _, _, rfl, _⟩ := h; rfl) | (obtain ⟨_, _, _, _, _, _, _, _, _, _, _, _, _, _, rfl, _⟩ := h; rfl) | (obtain ⟨_, _, _, _, _, _, _, _, _, _, _, _, _, _, _, rfl, _⟩ := h; rfl) | (obtain ⟨_, _, _, _, _, _, _, _, _, _, _, _, _, _, _, _, rfl, _⟩ := h; rfl) | (obtain ⟨_, _, _, _, _, _, _, _, _, _, _, _, _, _, _, _, _, rfl, _⟩ := h; rfl)
  · exact (pss_cons (ps_set (i := 1) sc_law.nd rfl (Or.inl rfl) (pe_lst (pa_cons (pe_make0 T.mk_Scale (ok_Scale_init T) (hr.mono (by decide)) rfl T.g_Scale T.b_Scale_init .nil pass0) (pa_cons (pe_make0 T.mk_Scale (ok_Scale_init T) (hr.mono (by decide)) rfl T.g_Scale T.b_Scale_init .nil pass0) pa_nil))))
    (pss_cons (ps_set (i := 2) sc_law.nd rfl (Or.inl rfl) (pe_make0 T.mk_Scale (ok_Scale_init T) (hr.mono (by decide)) rfl T.g_Scale T.b_Scale_init .nil pass0))
    (pss_cons (ps_set (i := 3) sc_law.nd rfl (Or.inl rfl) (pe_lst (pa_cons (pe_lst pa_nil) (pa_cons (pe_lst pa_nil) pa_nil))))
    (pss_cons (ps_set (i := 4) sc_law.nd rfl (Or.inl rfl) (pe_lst (pa_cons (pe_lst (pa_cons (pe_lst (pa_cons (pe_lst pa_nil) (pa_cons (pe_lst pa_nil) pa_nil))) pa_nil)) (pa_cons (pe_lst (pa_cons (pe_lst (pa_cons (pe_lst pa_nil) (pa_cons (pe_lst pa_nil) pa_nil))) pa_nil)) pa_nil))))
    (pss_cons (ps_set (i := 5) sc_law.nd rfl (Or.inl rfl) (pe_op op_pow pe_int pe_int))
    (pss_cons (ps_set (i := 6) sc_law.nd rfl (Or.inl rfl) pe_int)
    (pss_cons (ps_if (pt_cmpR op_eq (pe_op op_mod (pe_op op_fdiv (pe_call (ok_l_cell_at T) (hr.mono (by decide)) rfl T.g_l_cell_at T.f_l_cell_at.kp T.b_l_cell_at .nil pass0 (pa_cons (pv 0) (pa_cons pe_int pa_nil))) pe_int) pe_int) pe_int (nomark _)) (pss_cons (ps_set (i := 5) sc_law.nd rfl (Or.inl rfl) (pe_op op_mulW (pe_op op_pow pe_int pe_int) (pe_op op_pow pe_int pe_int)))
    (pss_one (ps_set (i := 6) sc_law.nd rfl (Or.inl rfl) pe_int))) pss_nil)
    (pss_cons (ps_if (PW.pt (pw_or (pt_cmpR (op_neD hr.units) (pe_meth0 (pe_ix ix_list (pv 1) pe_int (fun _ _ => rfl)) T.sc_Scale.cl T.m_Scale_pans (ok_Scale_pans T) (hr.mono (by decide)) T.b_Scale_pans .nil pass0) (pe_lst pa_nil) (nomark _)) (pw_or1 (pt_cmpR op_ne (pe_meth0 (pe_ix ix_list (pv 1) pe_int (fun _ _ => rfl)) T.sc_Scale.cl T.m_Scale_weighs (ok_Scale_weighs T) (hr.mono (by decide)) T.b_Scale_weighs .nil pass0) pe_int (nomark _))))) (pss_one (ps_ret pe_bl)) pss_nil)
    (pss_cons (ps_for PassesOwn.never rfl (pi_list (pe_slice sl_list (pv 0) po_none (po_some (pv 6)))) (pg_name (i := 7) sc_law.nd rfl (Or.inl rfl)) (pss_one (ps_if (pt_not (pt_val (pe_call (ok_l_step T) (hr.mono (by decide)) rfl T.g_l_step T.f_l_step.kp T.b_l_step .nil pass0 (pa_cons (pv 1) (pa_cons (pv 2) (pa_cons (pv 3) (pa_cons (pv 4) (pa_cons (pv 7) (pa_cons (pv 5) pa_nil))))))))) (pss_one (ps_ret pe_bl)) pss_nil)))
    (pss_cons (ps_set (i := 8) sc_law.nd rfl (Or.inl rfl) (pe_op op_mod (pe_callB call_len_seq (by rfl) T.n_len (by decide +kernel) (pa_cons (pv 0) pa_nil)) pe_int))
    (pss_cons (ps_set (i := 9) sc_law.nd rfl (Or.inl rfl) (pe_call (ok_l_all_back T) (hr.mono (by decide)) rfl T.g_l_all_back T.f_l_all_back.kp T.b_l_all_back .nil pass0 (pa_cons (pe_ix ix_list (pv 1) (pv 8) (fun _ _ => rfl)) (pa_cons (pe_ix ix_list (pv 3) (pv 8) (fun _ _ => rfl)) (pa_cons (pe_ix ix_list (pv 4) (pv 8) (fun _ _ => rfl)) pa_nil)))))
    (pss_cons (ps_if (PW.pt (pw_or (pt_cmpR op_isN (pv 9) pe_non (nomark _)) (pw_or1 (pt_not (pt_val (pe_call (ok_l_looked T) (hr.mono (by decide)) rfl T.g_l_looked T.f_l_looked.kp T.b_l_looked .nil pass0 (pa_cons (pe_ix ix_list (pv 1) (pe_op op_sub pe_int (pv 8)) (fun _ _ => rfl)) (pa_cons (pe_ix ix_list (pv 3) (pe_op op_sub pe_int (pv 8)) (fun _ _ => rfl)) (pa_cons (pe_ix ix_list (pv 4) (pe_op op_sub pe_int (pv 8)) (fun _ _ => rfl)) (pa_cons pe_int pa_nil)))))))))) (pss_one (ps_ret pe_bl)) pss_nil)
    (pss_cons (ps_if (pt_cmpR op_eq (pv 8) pe_int (nomark _)) (pss_one (ps_for PassesOwn.never rfl (pi_list (pv 9)) (pg_name (i := 10) sc_law.nd rfl (Or.inl rfl)) (pss_one (ps_if (pt_cmpR op_ne (pe_call (ok_l_done T) (hr.mono (by decide)) rfl T.g_l_done T.f_l_done.kp T.b_l_done .nil pass0 (pa_cons (pv 2) (pa_cons (pe_tup (pa_cons pe_str (pa_cons pe_non (pa_cons pe_bl pa_nil)))) pa_nil))) (pv 10) (nomark _)) (pss_one (ps_ret pe_bl)) pss_nil)))) pss_nil)
    (pss_cons (ps_if (pt_not (pt_val (pe_call (ok_l_quiet T) (hr.mono (by decide)) rfl T.g_l_quiet T.f_l_quiet.kp T.b_l_quiet .nil pass0 (pa_cons (pv 2) (pa_cons (pe_ix ix_list (pv 3) pe_int (fun _ _ => rfl)) (pa_cons (pe_ix ix_list (pv 4) pe_int (fun _ _ => rfl)) pa_nil)))))) (pss_one (ps_ret pe_bl)) pss_nil)
    (pss_cons (ps_for PassesOwn.never rfl (pi_list (pe_op op_cat (pe_ix ix_list (pv 4) pe_int (fun _ _ => rfl)) (pe_ix ix_list (pv 4) pe_int (fun _ _ => rfl)))) (pg_lst rfl (pgs_cons (pg_name (i := 11) sc_law.nd rfl (Or.inl rfl)) (pgs_cons (pg_name (i := 12) sc_law.nd rfl (Or.inl rfl)) pgs_nil))) (pss_one (ps_if (pt_cmpR (op_neD hr.units) (pv 11) (pv 12) (nomark _)) (pss_one (ps_ret pe_bl)) pss_nil)))
    (pss_one (ps_ret pe_bl)))))))))))))))))
end
theorem all_mk {l : PySem.W.OpenLaw} {w : World} {K : PySem.W.Frag} {h : Heap} {mg : Str → Option Value} {fa : Addr} (X : K.In h) (G : h.Ns mainGlobals mg) (hfa : mg "law" = some (.ref fa))
    {C_Scale : Addr} (gS_ : PySem.W.nsIn K mainGlobals "Scale" = some (some (.ref C_Scale))) (pS_ : PySem.W.plainGet K C_Scale Str.empty = true) (hS_ : PySem.W.hasDictIn K C_Scale = true) (oS_ : PySem.W.plainOver K C_Scale = true) (sS_ : PySem.W.findIn K (.ref C_Scale) "__setattr__" = some (some (.builtin "object.__setattr__"))) (mS_ : PySem.W.makesIn K C_Scale = true) (kS_ : PySem.W.keepIn K (.ref C_Scale) = true) (n1_ : PySem.W.findIn K (.ref C_Scale) "load" = some none) (n2_ : PySem.W.findIn K (.ref C_Scale) "loads" = some none)
    {f0 : Addr} {od0 an0 : Option Addr} {sl0 : Array (Option Value)} {oc0 kV0 dc0 pm0 cd0 ct0 : Value}
    (a0 : PySem.W.nsIn K mainGlobals "is_whole" = some (some (.ref f0)))
    (l0 : K.lookup f0 = some ⟨oc0, od0, .func (PySem.W.fnOf "is_whole" "is_whole" (defArgs s_is_whole) (defBody s_is_whole) (defScope s_is_whole) .none kV0 dc0 pm0 an0 cd0 ct0), sl0⟩)
    (c0 : PySem.W.codeIn K cd0 "is_whole" = true) (k0 : PySem.W.keepIn K (.ref f0) = true)
    {f1 : Addr} {od1 an1 : Option Addr} {sl1 : Array (Option Value)} {oc1 kV1 dc1 pm1 cd1 ct1 : Value}
    (a1 : PySem.W.nsIn K mainGlobals "good_load" = some (some (.ref f1)))
    (l1 : K.lookup f1 = some ⟨oc1, od1, .func (PySem.W.fnOf "good_load" "good_load" (defArgs s_good_load) (defBody s_good_load) (defScope s_good_load) .none kV1 dc1 pm1 an1 cd1 ct1), sl1⟩)
    (c1 : PySem.W.codeIn K cd1 "good_load" = true) (k1 : PySem.W.keepIn K (.ref f1) = true)
    {f2 : Addr} {od2 an2 : Option Addr} {sl2 : Array (Option Value)} {oc2 kV2 dc2 pm2 cd2 ct2 : Value}
    (a2 : PySem.W.nsIn K mainGlobals "laid" = some (some (.ref f2)))
    (l2 : K.lookup f2 = some ⟨oc2, od2, .func (PySem.W.fnOf "laid" "laid" (defArgs s_laid) (defBody s_laid) (defScope s_laid) .none kV2 dc2 pm2 an2 cd2 ct2), sl2⟩)
    (c2 : PySem.W.codeIn K cd2 "laid" = true) (k2 : PySem.W.keepIn K (.ref f2) = true)
    {f3 : Addr} {od3 an3 : Option Addr} {sl3 : Array (Option Value)} {oc3 kV3 dc3 pm3 cd3 ct3 : Value}
    (a3 : PySem.W.nsIn K mainGlobals "thing_at" = some (some (.ref f3)))
    (l3 : K.lookup f3 = some ⟨oc3, od3, .func (PySem.W.fnOf "thing_at" "thing_at" (defArgs s_thing_at) (defBody s_thing_at) (defScope s_thing_at) .none kV3 dc3 pm3 an3 cd3 ct3), sl3⟩)
    (c3 : PySem.W.codeIn K cd3 "thing_at" = true) (k3 : PySem.W.keepIn K (.ref f3) = true)
    {f4 : Addr} {od4 an4 : Option Addr} {sl4 : Array (Option Value)} {oc4 kV4 dc4 pm4 cd4 ct4 : Value}
    (a4 : PySem.W.nsIn K mainGlobals "moved" = some (some (.ref f4)))
    (l4 : K.lookup f4 = some ⟨oc4, od4, .func (PySem.W.fnOf "moved" "moved" (defArgs s_moved) (defBody s_moved) (defScope s_moved) .none kV4 dc4 pm4 an4 cd4 ct4), sl4⟩)
    (c4 : PySem.W.codeIn K cd4 "moved" = true) (k4 : PySem.W.keepIn K (.ref f4) = true)
    {f5 : Addr} {od5 an5 : Option Addr} {sl5 : Array (Option Value)} {oc5 kV5 dc5 pm5 cd5 ct5 : Value}
    (a5 : PySem.W.findIn K (.ref C_Scale) "__init__" = some (some (.ref f5))) (i5 : PySem.W.isFn K (.ref f5) = true)
    (l5 : K.lookup f5 = some ⟨oc5, od5, .func (PySem.W.fnOf "__init__" "Scale.__init__" (defArgs s_Scale_init) (defBody s_Scale_init) (defScope s_Scale_init) .none kV5 dc5 pm5 an5 cd5 ct5), sl5⟩)
    (c5 : PySem.W.codeIn K cd5 "Scale.__init__" = true) (k5 : PySem.W.keepIn K (.ref f5) = true)
    {f6 : Addr} {od6 an6 : Option Addr} {sl6 : Array (Option Value)} {oc6 kV6 dc6 pm6 cd6 ct6 : Value}
    (a6 : PySem.W.findIn K (.ref C_Scale) "come_to" = some (some (.ref f6))) (i6 : PySem.W.isFn K (.ref f6) = true)
    (l6 : K.lookup f6 = some ⟨oc6, od6, .func (PySem.W.fnOf "come_to" "Scale.come_to" (defArgs s_Scale_come_to) (defBody s_Scale_come_to) (defScope s_Scale_come_to) .none kV6 dc6 pm6 an6 cd6 ct6), sl6⟩)
    (c6 : PySem.W.codeIn K cd6 "Scale.come_to" = true) (k6 : PySem.W.keepIn K (.ref f6) = true)
    {f7 : Addr} {od7 an7 : Option Addr} {sl7 : Array (Option Value)} {oc7 kV7 dc7 pm7 cd7 ct7 : Value}
    (a7 : PySem.W.findIn K (.ref C_Scale) "lay" = some (some (.ref f7))) (i7 : PySem.W.isFn K (.ref f7) = true)
    (l7 : K.lookup f7 = some ⟨oc7, od7, .func (PySem.W.fnOf "lay" "Scale.lay" (defArgs s_Scale_lay) (defBody s_Scale_lay) (defScope s_Scale_lay) .none kV7 dc7 pm7 an7 cd7 ct7), sl7⟩)
    (c7 : PySem.W.codeIn K cd7 "Scale.lay" = true) (k7 : PySem.W.keepIn K (.ref f7) = true)
    {f8 : Addr} {od8 an8 : Option Addr} {sl8 : Array (Option Value)} {oc8 kV8 dc8 pm8 cd8 ct8 : Value}
    (a8 : PySem.W.findIn K (.ref C_Scale) "back" = some (some (.ref f8))) (i8 : PySem.W.isFn K (.ref f8) = true)
    (l8 : K.lookup f8 = some ⟨oc8, od8, .func (PySem.W.fnOf "back" "Scale.back" (defArgs s_Scale_back) (defBody s_Scale_back) (defScope s_Scale_back) .none kV8 dc8 pm8 an8 cd8 ct8), sl8⟩)
    (c8 : PySem.W.codeIn K cd8 "Scale.back" = true) (k8 : PySem.W.keepIn K (.ref f8) = true)
    {f9 : Addr} {od9 an9 : Option Addr} {sl9 : Array (Option Value)} {oc9 kV9 dc9 pm9 cd9 ct9 : Value}
    (a9 : PySem.W.findIn K (.ref C_Scale) "pans" = some (some (.ref f9))) (i9 : PySem.W.isFn K (.ref f9) = true)
    (l9 : K.lookup f9 = some ⟨oc9, od9, .func (PySem.W.fnOf "pans" "Scale.pans" (defArgs s_Scale_pans) (defBody s_Scale_pans) (defScope s_Scale_pans) .none kV9 dc9 pm9 an9 cd9 ct9), sl9⟩)
    (c9 : PySem.W.codeIn K cd9 "Scale.pans" = true) (k9 : PySem.W.keepIn K (.ref f9) = true)
    {f10 : Addr} {od10 an10 : Option Addr} {sl10 : Array (Option Value)} {oc10 kV10 dc10 pm10 cd10 ct10 : Value}
    (a10 : PySem.W.findIn K (.ref C_Scale) "weighs" = some (some (.ref f10))) (i10 : PySem.W.isFn K (.ref f10) = true)
    (l10 : K.lookup f10 = some ⟨oc10, od10, .func (PySem.W.fnOf "weighs" "Scale.weighs" (defArgs s_Scale_weighs) (defBody s_Scale_weighs) (defScope s_Scale_weighs) .none kV10 dc10 pm10 an10 cd10 ct10), sl10⟩)
    (c10 : PySem.W.codeIn K cd10 "Scale.weighs" = true) (k10 : PySem.W.keepIn K (.ref f10) = true)
    {f11 : Addr} {od11 an11 : Option Addr} {sl11 : Array (Option Value)} {oc11 kV11 dc11 pm11 cd11 ct11 : Value}
    (a11 : PySem.W.nsIn K mainGlobals "_law_cell_at" = some (some (.ref f11)))
    (l11 : K.lookup f11 = some ⟨oc11, od11, .func (PySem.W.fnOf "_law_cell_at" "_law_cell_at" (defArgs s_l_cell_at) (defBody s_l_cell_at) (defScope s_l_cell_at) .none kV11 dc11 pm11 an11 cd11 ct11), sl11⟩)
    (c11 : PySem.W.codeIn K cd11 "_law_cell_at" = true) (k11 : PySem.W.keepIn K (.ref f11) = true)
    {f12 : Addr} {od12 an12 : Option Addr} {sl12 : Array (Option Value)} {oc12 kV12 dc12 pm12 cd12 ct12 : Value}
    (a12 : PySem.W.nsIn K mainGlobals "_law_whole" = some (some (.ref f12)))
    (l12 : K.lookup f12 = some ⟨oc12, od12, .func (PySem.W.fnOf "_law_whole" "_law_whole" (defArgs s_l_whole) (defBody s_l_whole) (defScope s_l_whole) .none kV12 dc12 pm12 an12 cd12 ct12), sl12⟩)
    (c12 : PySem.W.codeIn K cd12 "_law_whole" = true) (k12 : PySem.W.keepIn K (.ref f12) = true)
    {f13 : Addr} {od13 an13 : Option Addr} {sl13 : Array (Option Value)} {oc13 kV13 dc13 pm13 cd13 ct13 : Value}
    (a13 : PySem.W.nsIn K mainGlobals "_law_weight" = some (some (.ref f13)))
    (l13 : K.lookup f13 = some ⟨oc13, od13, .func (PySem.W.fnOf "_law_weight" "_law_weight" (defArgs s_l_power) (defBody s_l_power) (defScope s_l_power) .none kV13 dc13 pm13 an13 cd13 ct13), sl13⟩)
    (c13 : PySem.W.codeIn K cd13 "_law_weight" = true) (k13 : PySem.W.keepIn K (.ref f13) = true)
    {f14 : Addr} {od14 an14 : Option Addr} {sl14 : Array (Option Value)} {oc14 kV14 dc14 pm14 cd14 ct14 : Value}
    (a14 : PySem.W.nsIn K mainGlobals "_law_load_by" = some (some (.ref f14)))
    (l14 : K.lookup f14 = some ⟨oc14, od14, .func (PySem.W.fnOf "_law_load_by" "_law_load_by" (defArgs s_l_load_by) (defBody s_l_load_by) (defScope s_l_load_by) .none kV14 dc14 pm14 an14 cd14 ct14), sl14⟩)
    (c14 : PySem.W.codeIn K cd14 "_law_load_by" = true) (k14 : PySem.W.keepIn K (.ref f14) = true)
    {f15 : Addr} {od15 an15 : Option Addr} {sl15 : Array (Option Value)} {oc15 kV15 dc15 pm15 cd15 ct15 : Value}
    (a15 : PySem.W.nsIn K mainGlobals "_law_sum" = some (some (.ref f15)))
    (l15 : K.lookup f15 = some ⟨oc15, od15, .func (PySem.W.fnOf "_law_sum" "_law_sum" (defArgs s_l_sum) (defBody s_l_sum) (defScope s_l_sum) .none kV15 dc15 pm15 an15 cd15 ct15), sl15⟩)
    (c15 : PySem.W.codeIn K cd15 "_law_sum" = true) (k15 : PySem.W.keepIn K (.ref f15) = true)
    {f16 : Addr} {od16 an16 : Option Addr} {sl16 : Array (Option Value)} {oc16 kV16 dc16 pm16 cd16 ct16 : Value}
    (a16 : PySem.W.nsIn K mainGlobals "_law_neat" = some (some (.ref f16)))
    (l16 : K.lookup f16 = some ⟨oc16, od16, .func (PySem.W.fnOf "_law_neat" "_law_neat" (defArgs s_l_neatK) (defBody s_l_neatK) (defScope s_l_neatK) .none kV16 dc16 pm16 an16 cd16 ct16), sl16⟩)
    (c16 : PySem.W.codeIn K cd16 "_law_neat" = true) (k16 : PySem.W.keepIn K (.ref f16) = true)
    {f17 : Addr} {od17 an17 : Option Addr} {sl17 : Array (Option Value)} {oc17 kV17 dc17 pm17 cd17 ct17 : Value}
    (a17 : PySem.W.nsIn K mainGlobals "_law_apart" = some (some (.ref f17)))
    (l17 : K.lookup f17 = some ⟨oc17, od17, .func (PySem.W.fnOf "_law_apart" "_law_apart" (defArgs s_l_apart) (defBody s_l_apart) (defScope s_l_apart) .none kV17 dc17 pm17 an17 cd17 ct17), sl17⟩)
    (c17 : PySem.W.codeIn K cd17 "_law_apart" = true) (k17 : PySem.W.keepIn K (.ref f17) = true)
    {f18 : Addr} {od18 an18 : Option Addr} {sl18 : Array (Option Value)} {oc18 kV18 dc18 pm18 cd18 ct18 : Value}
    (a18 : PySem.W.nsIn K mainGlobals "_law_looked" = some (some (.ref f18)))
    (l18 : K.lookup f18 = some ⟨oc18, od18, .func (PySem.W.fnOf "_law_looked" "_law_looked" (defArgs s_l_looked) (defBody s_l_looked) (defScope s_l_looked) .none kV18 dc18 pm18 an18 cd18 ct18), sl18⟩)
    (c18 : PySem.W.codeIn K cd18 "_law_looked" = true) (k18 : PySem.W.keepIn K (.ref f18) = true)
    {f19 : Addr} {od19 an19 : Option Addr} {sl19 : Array (Option Value)} {oc19 kV19 dc19 pm19 cd19 ct19 : Value}
    (a19 : PySem.W.nsIn K mainGlobals "_law_refused" = some (some (.ref f19)))
    (l19 : K.lookup f19 = some ⟨oc19, od19, .func (PySem.W.fnOf "_law_refused" "_law_refused" (defArgs s_l_refused) (defBody s_l_refused) (defScope s_l_refused) .none kV19 dc19 pm19 an19 cd19 ct19), sl19⟩)
    (c19 : PySem.W.codeIn K cd19 "_law_refused" = true) (k19 : PySem.W.keepIn K (.ref f19) = true)
    {f20 : Addr} {od20 an20 : Option Addr} {sl20 : Array (Option Value)} {oc20 kV20 dc20 pm20 cd20 ct20 : Value}
    (a20 : PySem.W.nsIn K mainGlobals "_law_deed_by" = some (some (.ref f20)))
    (l20 : K.lookup f20 = some ⟨oc20, od20, .func (PySem.W.fnOf "_law_deed_by" "_law_deed_by" (defArgs s_l_deed_by) (defBody s_l_deed_by) (defScope s_l_deed_by) .none kV20 dc20 pm20 an20 cd20 ct20), sl20⟩)
    (c20 : PySem.W.codeIn K cd20 "_law_deed_by" = true) (k20 : PySem.W.keepIn K (.ref f20) = true)
    {f21 : Addr} {od21 an21 : Option Addr} {sl21 : Array (Option Value)} {oc21 kV21 dc21 pm21 cd21 ct21 : Value}
    (a21 : PySem.W.nsIn K mainGlobals "_law_done" = some (some (.ref f21)))
    (l21 : K.lookup f21 = some ⟨oc21, od21, .func (PySem.W.fnOf "_law_done" "_law_done" (defArgs s_l_done) (defBody s_l_done) (defScope s_l_done) .none kV21 dc21 pm21 an21 cd21 ct21), sl21⟩)
    (c21 : PySem.W.codeIn K cd21 "_law_done" = true) (k21 : PySem.W.keepIn K (.ref f21) = true)
    {f22 : Addr} {od22 an22 : Option Addr} {sl22 : Array (Option Value)} {oc22 kV22 dc22 pm22 cd22 ct22 : Value}
    (a22 : PySem.W.nsIn K mainGlobals "_law_step" = some (some (.ref f22)))
    (l22 : K.lookup f22 = some ⟨oc22, od22, .func (PySem.W.fnOf "_law_step" "_law_step" (defArgs s_l_step) (defBody s_l_step) (defScope s_l_step) .none kV22 dc22 pm22 an22 cd22 ct22), sl22⟩)
    (c22 : PySem.W.codeIn K cd22 "_law_step" = true) (k22 : PySem.W.keepIn K (.ref f22) = true)
    {f23 : Addr} {od23 an23 : Option Addr} {sl23 : Array (Option Value)} {oc23 kV23 dc23 pm23 cd23 ct23 : Value}
    (a23 : PySem.W.nsIn K mainGlobals "_law_all_back" = some (some (.ref f23)))
    (l23 : K.lookup f23 = some ⟨oc23, od23, .func (PySem.W.fnOf "_law_all_back" "_law_all_back" (defArgs s_l_all_back) (defBody s_l_all_back) (defScope s_l_all_back) .none kV23 dc23 pm23 an23 cd23 ct23), sl23⟩)
    (c23 : PySem.W.codeIn K cd23 "_law_all_back" = true) (k23 : PySem.W.keepIn K (.ref f23) = true)
    {f24 : Addr} {od24 an24 : Option Addr} {sl24 : Array (Option Value)} {oc24 kV24 dc24 pm24 cd24 ct24 : Value}
    (a24 : PySem.W.nsIn K mainGlobals "_law_quiet" = some (some (.ref f24)))
    (l24 : K.lookup f24 = some ⟨oc24, od24, .func (PySem.W.fnOf "_law_quiet" "_law_quiet" (defArgs s_l_quiet) (defBody s_l_quiet) (defScope s_l_quiet) .none kV24 dc24 pm24 an24 cd24 ct24), sl24⟩)
    (c24 : PySem.W.codeIn K cd24 "_law_quiet" = true) (k24 : PySem.W.keepIn K (.ref f24) = true)
    {f25 : Addr} {od25 an25 : Option Addr} {sl25 : Array (Option Value)} {oc25 kV25 dc25 pm25 cd25 ct25 : Value}
    (a25 : PySem.W.nsIn K mainGlobals "law" = some (some (.ref f25)))
    (l25 : K.lookup f25 = some ⟨oc25, od25, .func (PySem.W.fnOf "law" "law" (defArgs s_law) (defBody s_law) (defScope s_law) .none kV25 dc25 pm25 an25 cd25 ct25), sl25⟩)
    (c25 : PySem.W.codeIn K cd25 "law" = true) (k25 : PySem.W.keepIn K (.ref f25) = true)
    {C_NoDeed : Addr} (ga_NoDeed : PySem.W.nsIn K mainGlobals "NoDeed" = some (some (.ref C_NoDeed)))
    (gx_NoDeed : PySem.W.excIn K C_NoDeed [.type "ValueError", .type "Exception", .type "BaseException", .type "object"] "ValueError.__new__" = true) (gk_NoDeed : PySem.W.keepIn K (.ref C_NoDeed) = true)
    (gs_NoDeed : PySem.W.subIn K (.ref C_NoDeed) (.type "BaseException") = some true) (gt_NoDeed : PySem.W.typeIn K (.ref C_NoDeed) = some (.type "type"))
    {C_NoLaying : Addr} (ga_NoLaying : PySem.W.nsIn K mainGlobals "NoLaying" = some (some (.ref C_NoLaying)))
    (gx_NoLaying : PySem.W.excIn K C_NoLaying [.type "ValueError", .type "Exception", .type "BaseException", .type "object"] "ValueError.__new__" = true) (gk_NoLaying : PySem.W.keepIn K (.ref C_NoLaying) = true)
    (gs_NoLaying : PySem.W.subIn K (.ref C_NoLaying) (.type "BaseException") = some true) (gt_NoLaying : PySem.W.typeIn K (.ref C_NoLaying) = some (.type "type"))
    {C_NoLoad : Addr} (ga_NoLoad : PySem.W.nsIn K mainGlobals "NoLoad" = some (some (.ref C_NoLoad)))
    (gx_NoLoad : PySem.W.excIn K C_NoLoad [.type "ValueError", .type "Exception", .type "BaseException", .type "object"] "ValueError.__new__" = true) (gk_NoLoad : PySem.W.keepIn K (.ref C_NoLoad) = true)
    (gs_NoLoad : PySem.W.subIn K (.ref C_NoLoad) (.type "BaseException") = some true) (gt_NoLoad : PySem.W.typeIn K (.ref C_NoLoad) = some (.type "type"))
    {C_NoPlan : Addr} (ga_NoPlan : PySem.W.nsIn K mainGlobals "NoPlan" = some (some (.ref C_NoPlan)))
    (gx_NoPlan : PySem.W.excIn K C_NoPlan [.type "ValueError", .type "Exception", .type "BaseException", .type "object"] "ValueError.__new__" = true) (gk_NoPlan : PySem.W.keepIn K (.ref C_NoPlan) = true)
    (gs_NoPlan : PySem.W.subIn K (.ref C_NoPlan) (.type "BaseException") = some true) (gt_NoPlan : PySem.W.typeIn K (.ref C_NoPlan) = some (.type "type"))
    {C_NoText : Addr} (ga_NoText : PySem.W.nsIn K mainGlobals "NoText" = some (some (.ref C_NoText)))
    (gx_NoText : PySem.W.excIn K C_NoText [.type "ValueError", .type "Exception", .type "BaseException", .type "object"] "ValueError.__new__" = true) (gk_NoText : PySem.W.keepIn K (.ref C_NoText) = true)
    (gs_NoText : PySem.W.subIn K (.ref C_NoText) (.type "BaseException") = some true) (gt_NoText : PySem.W.typeIn K (.ref C_NoText) = some (.type "type"))
    {C_StoneError : Addr} (ga_StoneError : PySem.W.nsIn K mainGlobals "StoneError" = some (some (.ref C_StoneError)))
    (gx_StoneError : PySem.W.excIn K C_StoneError [.type "ValueError", .type "Exception", .type "BaseException", .type "object"] "ValueError.__new__" = true) (gk_StoneError : PySem.W.keepIn K (.ref C_StoneError) = true)
    (gs_StoneError : PySem.W.subIn K (.ref C_StoneError) (.type "BaseException") = some true) (gt_StoneError : PySem.W.typeIn K (.ref C_StoneError) = some (.type "type"))
    (hd_NoDeed : PySem.W.hasDictIn K C_NoDeed = true)
    (hd_NoLaying : PySem.W.hasDictIn K C_NoLaying = true)
    (hd_NoLoad : PySem.W.hasDictIn K C_NoLoad = true)
    (hd_NoPlan : PySem.W.hasDictIn K C_NoPlan = true)
    (hd_NoText : PySem.W.hasDictIn K C_NoText = true)
    (hd_StoneError : PySem.W.hasDictIn K C_StoneError = true)
    (hn_ : PySem.W.specialIn K (.builtin "object.__class__") "__get__" = some (some (.builtin "getset_descriptor.__get__"))) (ht_ : PySem.W.takesIn K (.builtin "object.__class__") = some true)
    (hg_deed : PySem.W.findIn K (.ref C_NoDeed) "__getattribute__" = some (some (.builtin "BaseException.__getattribute__")))
    (hk_deed : PySem.W.findIn K (.ref C_NoDeed) "__getattr__" = some none)
    (ha_deed : PySem.W.findIn K (.ref C_NoDeed) "__class__" = some (some (.builtin "object.__class__")))
    (hm_deed : PySem.W.mroIn K C_NoDeed (.type "object") = some true)
    (sv_deed : PySem.W.subIn K (.ref C_NoDeed) (.type "ValueError") = some true)
    (su_NoDeed_deed : PySem.W.subIn K (.ref C_NoDeed) (.ref C_NoDeed) = some true)
    (su_NoLaying_deed : PySem.W.subIn K (.ref C_NoDeed) (.ref C_NoLaying) = some false)
    (su_NoLoad_deed : PySem.W.subIn K (.ref C_NoDeed) (.ref C_NoLoad) = some false)
    (su_NoPlan_deed : PySem.W.subIn K (.ref C_NoDeed) (.ref C_NoPlan) = some false)
    (su_NoText_deed : PySem.W.subIn K (.ref C_NoDeed) (.ref C_NoText) = some false)
    (su_StoneError_deed : PySem.W.subIn K (.ref C_NoDeed) (.ref C_StoneError) = some true)
    (hg_load : PySem.W.findIn K (.ref C_NoLoad) "__getattribute__" = some (some (.builtin "BaseException.__getattribute__")))
    (hk_load : PySem.W.findIn K (.ref C_NoLoad) "__getattr__" = some none)
    (ha_load : PySem.W.findIn K (.ref C_NoLoad) "__class__" = some (some (.builtin "object.__class__")))
    (hm_load : PySem.W.mroIn K C_NoLoad (.type "object") = some true)
    (sv_load : PySem.W.subIn K (.ref C_NoLoad) (.type "ValueError") = some true)
    (su_NoDeed_load : PySem.W.subIn K (.ref C_NoLoad) (.ref C_NoDeed) = some false)
    (su_NoLaying_load : PySem.W.subIn K (.ref C_NoLoad) (.ref C_NoLaying) = some false)
    (su_NoLoad_load : PySem.W.subIn K (.ref C_NoLoad) (.ref C_NoLoad) = some true)
    (su_NoPlan_load : PySem.W.subIn K (.ref C_NoLoad) (.ref C_NoPlan) = some false)
    (su_NoText_load : PySem.W.subIn K (.ref C_NoLoad) (.ref C_NoText) = some false)
    (su_StoneError_load : PySem.W.subIn K (.ref C_NoLoad) (.ref C_StoneError) = some true)
    (z_ValueError : PySem.W.nsIn K mainGlobals "ValueError" = some none)
    (z_bool : PySem.W.nsIn K mainGlobals "bool" = some none)
    (z_int : PySem.W.nsIn K mainGlobals "int" = some none)
    (z_isinstance : PySem.W.nsIn K mainGlobals "isinstance" = some none)
    (z_len : PySem.W.nsIn K mainGlobals "len" = some none)
    (z_list : PySem.W.nsIn K mainGlobals "list" = some none)
    (z_max : PySem.W.nsIn K mainGlobals "max" = some none)
    (z_range : PySem.W.nsIn K mainGlobals "range" = some none)
    (z_sum : PySem.W.nsIn K mainGlobals "sum" = some none)
    : ∃ fd : FuncData, (∀ (s : Shared) (v : Value), BindsTo s fd ⟨[v], []⟩ [("_law_script", v)]) ∧ ∀ base : Heap, K.In base → base.Ns mainGlobals mg → FnOk l.prog w K mg base CX0 8 fa fd ["_law_script"] (sp_law K A0) := by
  have e := hfa.symm.trans (PySem.W.mg_of X G a25)
  cases e
  have F0 := fun_mk (st := s_is_whole) l0 c0 k0
  have B0 := F0.binds (ps := ["thing"]) fun _ _ _ _ _ _ us hl => match us, hl with | [_], _ => rfl
  have F1 := fun_mk (st := s_good_load) l1 c1 k1
  have B1 := F1.binds (ps := ["load"]) fun _ _ _ _ _ _ us hl => match us, hl with | [_], _ => rfl
  have F2 := fun_mk (st := s_laid) l2 c2 k2
  have B2 := F2.binds (ps := ["load"]) fun _ _ _ _ _ _ us hl => match us, hl with | [_], _ => rfl
  have F3 := fun_mk (st := s_thing_at) l3 c3 k3
  have B3 := F3.binds (ps := ["laying", "place"]) fun _ _ _ _ _ _ us hl => match us, hl with | [_, _], _ => rfl
  have F4 := fun_mk (st := s_moved) l4 c4 k4
  have B4 := F4.binds (ps := ["one", "other"]) fun _ _ _ _ _ _ us hl => match us, hl with | [_, _], _ => rfl
  have F5 := fun_mk (st := s_Scale_init) l5 c5 k5
  have B5 := F5.binds (ps := ["self"]) fun _ _ _ _ _ _ us hl => match us, hl with | [_], _ => rfl
  have F6 := fun_mk (st := s_Scale_come_to) l6 c6 k6
  have B6 := F6.binds (ps := ["self", "load"]) fun _ _ _ _ _ _ us hl => match us, hl with | [_, _], _ => rfl
  have F7 := fun_mk (st := s_Scale_lay) l7 c7 k7
  have B7 := F7.binds (ps := ["self", "load"]) fun _ _ _ _ _ _ us hl => match us, hl with | [_, _], _ => rfl
  have F8 := fun_mk (st := s_Scale_back) l8 c8 k8
  have B8 := F8.binds (ps := ["self"]) fun _ _ _ _ _ _ us hl => match us, hl with | [_], _ => rfl
  have F9 := fun_mk (st := s_Scale_pans) l9 c9 k9
  have B9 := F9.binds (ps := ["self"]) fun _ _ _ _ _ _ us hl => match us, hl with | [_], _ => rfl
  have F10 := fun_mk (st := s_Scale_weighs) l10 c10 k10
  have B10 := F10.binds (ps := ["self"]) fun _ _ _ _ _ _ us hl => match us, hl with | [_], _ => rfl
  have F11 := fun_mk (st := s_l_cell_at) l11 c11 k11
  have B11 := F11.binds (ps := ["_law_script", "_law_k"]) fun _ _ _ _ _ _ us hl => match us, hl with | [_, _], _ => rfl
  have F12 := fun_mk (st := s_l_whole) l12 c12 k12
  have B12 := F12.binds (ps := ["_law_found"]) fun _ _ _ _ _ _ us hl => match us, hl with | [_], _ => rfl
  have F13 := fun_mk (st := s_l_power) l13 c13 k13
  have B13 := F13.binds (ps := ["_law_many"]) fun _ _ _ _ _ _ us hl => match us, hl with | [_], _ => rfl
  have F14 := fun_mk (st := s_l_load_by) l14 c14 k14
  have B14 := F14.binds (ps := ["_law_cell", "_law_way", "_law_most"]) fun _ _ _ _ _ _ us hl => match us, hl with | [_, _, _], _ => rfl
  have F15 := fun_mk (st := s_l_sum) l15 c15 k15
  have B15 := F15.binds (ps := ["_law_things"]) fun _ _ _ _ _ _ us hl => match us, hl with | [_], _ => rfl
  have F16 := fun_mk (st := s_l_neatK) l16 c16 k16
  have B16 := F16.binds (ps := ["_law_things"]) fun _ _ _ _ _ _ us hl => match us, hl with | [_], _ => rfl
  have F17 := fun_mk (st := s_l_apart) l17 c17 k17
  have B17 := F17.binds (ps := ["_law_one", "_law_other"]) fun _ _ _ _ _ _ us hl => match us, hl with | [_, _], _ => rfl
  have F18 := fun_mk (st := s_l_looked) l18 c18 k18
  have B18 := F18.binds (ps := ["_law_scale", "_law_loads", "_law_row", "_law_many"]) fun _ _ _ _ _ _ us hl => match us, hl with | [_, _, _, _], _ => rfl
  have F19 := fun_mk (st := s_l_refused) l19 c19 k19
  have B19 := F19.binds (ps := ["_law_caught", "_law_word"]) fun _ _ _ _ _ _ us hl => match us, hl with | [_, _], _ => rfl
  have F20 := fun_mk (st := s_l_deed_by) l20 c20 k20
  have B20 := F20.binds (ps := ["_law_cell", "_law_loads", "_law_most"]) fun _ _ _ _ _ _ us hl => match us, hl with | [_, _, _], _ => rfl
  have F21 := fun_mk (st := s_l_done) l21 c21 k21
  have B21 := F21.binds (ps := ["_law_scale", "_law_deed"]) fun _ _ _ _ _ _ us hl => match us, hl with | [_, _], _ => rfl
  have F22 := fun_mk (st := s_l_step) l22 c22 k22
  have B22 := F22.binds (ps := ["_law_pair", "_law_quiet_here", "_law_loads", "_law_rows", "_law_cell", "_law_most"]) fun _ _ _ _ _ _ us hl => match us, hl with | [_, _, _, _, _, _], _ => rfl
  have F23 := fun_mk (st := s_l_all_back) l23 c23 k23
  have B23 := F23.binds (ps := ["_law_scale", "_law_loads", "_law_row"]) fun _ _ _ _ _ _ us hl => match us, hl with | [_, _, _], _ => rfl
  have F24 := fun_mk (st := s_l_quiet) l24 c24 k24
  have B24 := F24.binds (ps := ["_law_quiet_here", "_law_loads", "_law_row"]) fun _ _ _ _ _ _ us hl => match us, hl with | [_, _, _], _ => rfl
  have F25 := fun_mk (st := s_law) l25 c25 k25
  have B25 := F25.binds (ps := ["_law_script"]) fun _ _ _ _ _ _ us hl => match us, hl with | [_], _ => rfl
  let A : Ad := { stone := C_StoneError, laying := C_NoLaying, load := C_NoLoad, plan := C_NoPlan, text := C_NoText, deed := C_NoDeed, scale := C_Scale, words := 0 }
  let F : Fs := { a_is_whole := f0, d_is_whole := PySem.W.fnOf "is_whole" "is_whole" (defArgs s_is_whole) (defBody s_is_whole) (defScope s_is_whole) .none kV0 dc0 pm0 an0 cd0 ct0, a_good_load := f1, d_good_load := PySem.W.fnOf "good_load" "good_load" (defArgs s_good_load) (defBody s_good_load) (defScope s_good_load) .none kV1 dc1 pm1 an1 cd1 ct1, a_laid := f2, d_laid := PySem.W.fnOf "laid" "laid" (defArgs s_laid) (defBody s_laid) (defScope s_laid) .none kV2 dc2 pm2 an2 cd2 ct2, a_thing_at := f3, d_thing_at := PySem.W.fnOf "thing_at" "thing_at" (defArgs s_thing_at) (defBody s_thing_at) (defScope s_thing_at) .none kV3 dc3 pm3 an3 cd3 ct3, a_moved := f4, d_moved := PySem.W.fnOf "moved" "moved" (defArgs s_moved) (defBody s_moved) (defScope s_moved) .none kV4 dc4 pm4 an4 cd4 ct4, a_Scale_init := f5, d_Scale_init := PySem.W.fnOf "__init__" "Scale.__init__" (defArgs s_Scale_init) (defBody s_Scale_init) (defScope s_Scale_init) .none kV5 dc5 pm5 an5 cd5 ct5, a_Scale_come_to := f6, d_Scale_come_to := PySem.W.fnOf "come_to" "Scale.come_to" (defArgs s_Scale_come_to) (defBody s_Scale_come_to) (defScope s_Scale_come_to) .none kV6 dc6 pm6 an6 cd6 ct6, a_Scale_lay := f7, d_Scale_lay := PySem.W.fnOf "lay" "Scale.lay" (defArgs s_Scale_lay) (defBody s_Scale_lay) (defScope s_Scale_lay) .none kV7 dc7 pm7 an7 cd7 ct7, a_Scale_back := f8, d_Scale_back := PySem.W.fnOf "back" "Scale.back" (defArgs s_Scale_back) (defBody s_Scale_back) (defScope s_Scale_back) .none kV8 dc8 pm8 an8 cd8 ct8, a_Scale_pans := f9, d_Scale_pans := PySem.W.fnOf "pans" "Scale.pans" (defArgs s_Scale_pans) (defBody s_Scale_pans) (defScope s_Scale_pans) .none kV9 dc9 pm9 an9 cd9 ct9, a_Scale_weighs := f10, d_Scale_weighs := PySem.W.fnOf "weighs" "Scale.weighs" (defArgs s_Scale_weighs) (defBody s_Scale_weighs) (defScope s_Scale_weighs) .none kV10 dc10 pm10 an10 cd10 ct10, a_l_cell_at := f11, d_l_cell_at := PySem.W.fnOf "_law_cell_at" "_law_cell_at" (defArgs s_l_cell_at) (defBody s_l_cell_at) (defScope s_l_cell_at) .none kV11 dc11 pm11 an11 cd11 ct11, a_l_whole := f12, d_l_whole := PySem.W.fnOf "_law_whole" "_law_whole" (defArgs s_l_whole) (defBody s_l_whole) (defScope s_l_whole) .none kV12 dc12 pm12 an12 cd12 ct12, a_l_power := f13, d_l_power := PySem.W.fnOf "_law_weight" "_law_weight" (defArgs s_l_power) (defBody s_l_power) (defScope s_l_power) .none kV13 dc13 pm13 an13 cd13 ct13, a_l_load_by := f14, d_l_load_by := PySem.W.fnOf "_law_load_by" "_law_load_by" (defArgs s_l_load_by) (defBody s_l_load_by) (defScope s_l_load_by) .none kV14 dc14 pm14 an14 cd14 ct14, a_l_sum := f15, d_l_sum := PySem.W.fnOf "_law_sum" "_law_sum" (defArgs s_l_sum) (defBody s_l_sum) (defScope s_l_sum) .none kV15 dc15 pm15 an15 cd15 ct15, a_l_neatK := f16, d_l_neatK := PySem.W.fnOf "_law_neat" "_law_neat" (defArgs s_l_neatK) (defBody s_l_neatK) (defScope s_l_neatK) .none kV16 dc16 pm16 an16 cd16 ct16, a_l_apart := f17, d_l_apart := PySem.W.fnOf "_law_apart" "_law_apart" (defArgs s_l_apart) (defBody s_l_apart) (defScope s_l_apart) .none kV17 dc17 pm17 an17 cd17 ct17, a_l_looked := f18, d_l_looked := PySem.W.fnOf "_law_looked" "_law_looked" (defArgs s_l_looked) (defBody s_l_looked) (defScope s_l_looked) .none kV18 dc18 pm18 an18 cd18 ct18, a_l_refused := f19, d_l_refused := PySem.W.fnOf "_law_refused" "_law_refused" (defArgs s_l_refused) (defBody s_l_refused) (defScope s_l_refused) .none kV19 dc19 pm19 an19 cd19 ct19, a_l_deed_by := f20, d_l_deed_by := PySem.W.fnOf "_law_deed_by" "_law_deed_by" (defArgs s_l_deed_by) (defBody s_l_deed_by) (defScope s_l_deed_by) .none kV20 dc20 pm20 an20 cd20 ct20, a_l_done := f21, d_l_done := PySem.W.fnOf "_law_done" "_law_done" (defArgs s_l_done) (defBody s_l_done) (defScope s_l_done) .none kV21 dc21 pm21 an21 cd21 ct21, a_l_step := f22, d_l_step := PySem.W.fnOf "_law_step" "_law_step" (defArgs s_l_step) (defBody s_l_step) (defScope s_l_step) .none kV22 dc22 pm22 an22 cd22 ct22, a_l_all_back := f23, d_l_all_back := PySem.W.fnOf "_law_all_back" "_law_all_back" (defArgs s_l_all_back) (defBody s_l_all_back) (defScope s_l_all_back) .none kV23 dc23 pm23 an23 cd23 ct23, a_l_quiet := f24, d_l_quiet := PySem.W.fnOf "_law_quiet" "_law_quiet" (defArgs s_l_quiet) (defBody s_l_quiet) (defScope s_l_quiet) .none kV24 dc24 pm24 an24 cd24 ct24, a_law := fa, d_law := PySem.W.fnOf "law" "law" (defArgs s_law) (defBody s_law) (defScope s_law) .none kV25 dc25 pm25 an25 cd25 ct25 }
  have T : Txt K mg A F := { f_is_whole := F0, b_is_whole := B0, g_is_whole := PySem.W.mg_of X G a0, f_good_load := F1, b_good_load := B1, g_good_load := PySem.W.mg_of X G a1, f_laid := F2, b_laid := B2, g_laid := PySem.W.mg_of X G a2, f_thing_at := F3, b_thing_at := B3, g_thing_at := PySem.W.mg_of X G a3, f_moved := F4, b_moved := B4, g_moved := PySem.W.mg_of X G a4, f_Scale_init := F5, b_Scale_init := B5, f_Scale_come_to := F6, b_Scale_come_to := B6, f_Scale_lay := F7, b_Scale_lay := B7, f_Scale_back := F8, b_Scale_back := B8, f_Scale_pans := F9, b_Scale_pans := B9, f_Scale_weighs := F10, b_Scale_weighs := B10, f_l_cell_at := F11, b_l_cell_at := B11, g_l_cell_at := PySem.W.mg_of X G a11, f_l_whole := F12, b_l_whole := B12, g_l_whole := PySem.W.mg_of X G a12, f_l_power := F13, b_l_power := B13, g_l_power := PySem.W.mg_of X G a13, f_l_load_by := F14, b_l_load_by := B14, g_l_load_by := PySem.W.mg_of X G a14, f_l_sum := F15, b_l_sum := B15, g_l_sum := PySem.W.mg_of X G a15, f_l_neatK := F16, b_l_neatK := B16, g_l_neatK := PySem.W.mg_of X G a16, f_l_apart := F17, b_l_apart := B17, g_l_apart := PySem.W.mg_of X G a17, f_l_looked := F18, b_l_looked := B18, g_l_looked := PySem.W.mg_of X G a18, f_l_refused := F19, b_l_refused := B19, g_l_refused := PySem.W.mg_of X G a19, f_l_deed_by := F20, b_l_deed_by := B20, g_l_deed_by := PySem.W.mg_of X G a20, f_l_done := F21, b_l_done := B21, g_l_done := PySem.W.mg_of X G a21, f_l_step := F22, b_l_step := B22, g_l_step := PySem.W.mg_of X G a22, f_l_all_back := F23, b_l_all_back := B23, g_l_all_back := PySem.W.mg_of X G a23, f_l_quiet := F24, b_l_quiet := B24, g_l_quiet := PySem.W.mg_of X G a24, f_law := F25, b_law := B25, g_law := PySem.W.mg_of X G a25, n_ValueError := PySem.W.mg_none_of X G z_ValueError, n_bool := PySem.W.mg_none_of X G z_bool, n_int := PySem.W.mg_none_of X G z_int, n_isinstance := PySem.W.mg_none_of X G z_isinstance, n_len := PySem.W.mg_none_of X G z_len, n_list := PySem.W.mg_none_of X G z_list, n_max := PySem.W.mg_none_of X G z_max, n_range := PySem.W.mg_none_of X G z_range, n_sum := PySem.W.mg_none_of X G z_sum, g_NoDeed := PySem.W.mg_of X G ga_NoDeed, x_NoDeed := gx_NoDeed, k_NoDeed := gk_NoDeed, s_NoDeed := gs_NoDeed, t_NoDeed := gt_NoDeed, g_NoLaying := PySem.W.mg_of X G ga_NoLaying, x_NoLaying := gx_NoLaying, k_NoLaying := gk_NoLaying, s_NoLaying := gs_NoLaying, t_NoLaying := gt_NoLaying, g_NoLoad := PySem.W.mg_of X G ga_NoLoad, x_NoLoad := gx_NoLoad, k_NoLoad := gk_NoLoad, s_NoLoad := gs_NoLoad, t_NoLoad := gt_NoLoad, g_NoPlan := PySem.W.mg_of X G ga_NoPlan, x_NoPlan := gx_NoPlan, k_NoPlan := gk_NoPlan, s_NoPlan := gs_NoPlan, t_NoPlan := gt_NoPlan, g_NoText := PySem.W.mg_of X G ga_NoText, x_NoText := gx_NoText, k_NoText := gk_NoText, s_NoText := gs_NoText, t_NoText := gt_NoText, g_StoneError := PySem.W.mg_of X G ga_StoneError, x_StoneError := gx_StoneError, k_StoneError := gk_StoneError, s_StoneError := gs_StoneError, t_StoneError := gt_StoneError, xc_deed := ⟨hg_deed, hk_deed, gs_NoDeed, hd_NoDeed, ha_deed, hn_, ht_, hm_deed⟩, ct_deed := ⟨PySem.W.exm_ref gs_StoneError hd_StoneError gt_StoneError su_StoneError_deed, kit_type (by decide +kernel) sv_deed, kit_ref hd_NoLaying gt_NoLaying su_NoLaying_deed su_NoDeed_deed, kit_ref hd_NoLoad gt_NoLoad su_NoLoad_deed su_NoDeed_deed, kit_ref hd_NoPlan gt_NoPlan su_NoPlan_deed su_NoDeed_deed, kit_ref hd_NoText gt_NoText su_NoText_deed su_NoDeed_deed, kit_ref hd_NoDeed gt_NoDeed su_NoDeed_deed su_NoDeed_deed⟩, xc_load := ⟨hg_load, hk_load, gs_NoLoad, hd_NoLoad, ha_load, hn_, ht_, hm_load⟩, ct_load := ⟨PySem.W.exm_ref gs_StoneError hd_StoneError gt_StoneError su_StoneError_load, kit_type (by decide +kernel) sv_load, kit_ref hd_NoLaying gt_NoLaying su_NoLaying_load su_NoLoad_load, kit_ref hd_NoLoad gt_NoLoad su_NoLoad_load su_NoLoad_load, kit_ref hd_NoPlan gt_NoPlan su_NoPlan_load su_NoLoad_load, kit_ref hd_NoText gt_NoText su_NoText_load su_NoLoad_load, kit_ref hd_NoDeed gt_NoDeed su_NoDeed_load su_NoLoad_load⟩, sc_Scale := ⟨⟨pS_, hS_, oS_, sS_⟩, n1_, n2_⟩, g_Scale := PySem.W.mg_of X G gS_, mk_Scale := ⟨mS_, a5, i5, kS_⟩, m_Scale_come_to := ⟨a6, i6, k6⟩, m_Scale_lay := ⟨a7, i7, k7⟩, m_Scale_back := ⟨a8, i8, k8⟩, m_Scale_pans := ⟨a9, i9, k9⟩, m_Scale_weighs := ⟨a10, i10, k10⟩ }
  exact ⟨_, fun s v => .of_eq rfl, fun base _ _ => ok_law T⟩
end Law
open PySem PySem.W PyProof.Rows
set_option maxRecDepth 100000 in
set_option maxHeartbeats 0 in
theorem PySem.Challenge.cw_fewstones_k09_whole_scale_holds : PySem.Challenge.rw_fewstones_k09_whole_scale.Holds := by
  w_on; o_law; k_head; (case hw => w_witness2)
  k_fill
  refine L2.walk_of (l := PySem.Challenge.rw_fewstones_k09_whole_scale) (n := 63) (k := 8) (x := "_law_script") (CX := fun _ => L2.CX0) (sp := fun w => Fw.sp_law _ Fw.A0) rfl (by decide) rfl ⟨rfl, by decide, by decide⟩ (fun w h Y => PySem.W.kIn_of Y) ?F (fun _ _ a ns hl _ hS => ⟨.ref a, ns, rfl, ⟨a, rfl, hS⟩, hl, fun _ _ => rfl⟩) (fun _ _ _ _ _ h => h)
  case F =>
    intro w mg fa h KX G hmg
    refine' Law.all_mk KX G hmg ?gS_ ?pS_ ?hS_ ?oS_ ?sS_ ?mS_ ?kS_ ?n1_ ?n2_ ?a0 ?l0 ?c0 ?k0 ?a1 ?l1 ?c1 ?k1 ?a2 ?l2 ?c2 ?k2 ?a3 ?l3 ?c3 ?k3 ?a4 ?l4 ?c4 ?k4 ?a5 ?i5 ?l5 ?c5 ?k5 ?a6 ?i6 ?l6 ?c6 ?k6 ?a7 ?i7 ?l7 ?c7 ?k7 ?a8 ?i8 ?l8 ?c8 ?k8 ?a9 ?i9 ?l9 ?c9 ?k9 ?a10 ?i10 ?l10 ?c10 ?k10 ?a11 ?l11 ?c11 ?k11 ?a12 ?l12 ?c12 ?k12 ?a13 ?l13 ?c13 ?k13 ?a14 ?l14 ?c14 ?k14 ?a15 ?l15 ?c15 ?k15 ?a16 ?l16 ?c16 ?k16 ?a17 ?l17 ?c17 ?k17 ?a18 ?l18 ?c18 ?k18 ?a19 ?l19 ?c19 ?k19 ?a20 ?l20 ?c20 ?k20 ?a21 ?l21 ?c21 ?k21 ?a22 ?l22 ?c22 ?k22 ?a23 ?l23 ?c23 ?k23 ?a24 ?l24 ?c24 ?k24 ?a25 ?l25 ?c25 ?k25 ?ga_NoDeed ?gx_NoDeed ?gk_NoDeed ?gs_NoDeed ?gt_NoDeed ?ga_NoLaying ?gx_NoLaying ?gk_NoLaying ?gs_NoLaying ?gt_NoLaying ?ga_NoLoad ?gx_NoLoad ?gk_NoLoad ?gs_NoLoad ?gt_NoLoad ?ga_NoPlan ?gx_NoPlan ?gk_NoPlan ?gs_NoPlan ?gt_NoPlan ?ga_NoText ?gx_NoText ?gk_NoText ?gs_NoText ?gt_NoText ?ga_StoneError ?gx_StoneError ?gk_StoneError ?gs_StoneError ?gt_StoneError ?hd_NoDeed ?hd_NoLaying ?hd_NoLoad ?hd_NoPlan ?hd_NoText ?hd_StoneError ?hn_ ?ht_ ?hg_deed ?hk_deed ?ha_deed ?hm_deed ?sv_deed ?su_NoDeed_deed ?su_NoLaying_deed ?su_NoLoad_deed ?su_NoPlan_deed ?su_NoText_deed ?su_StoneError_deed ?hg_load ?hk_load ?ha_load ?hm_load ?sv_load ?su_NoDeed_load ?su_NoLaying_load ?su_NoLoad_load ?su_NoPlan_load ?su_NoText_load ?su_StoneError_load ?z_ValueError ?z_bool ?z_int ?z_isinstance ?z_len ?z_list ?z_max ?z_range ?z_sum
    (case gS_ => k_is)
    (case pS_ => k_is)
    (case hS_ => k_is)
    (case oS_ => k_is)
    (case sS_ => k_is)
    (case mS_ => k_is)
    (case kS_ => k_is)
    (case n1_ => k_is)
    (case n2_ => k_is)
    (case a0 => k_is)
    (case l0 => k_is)
    (case c0 => k_is)
    (case k0 => k_is)
    (case a1 => k_is)
    (case l1 => k_is)
    (case c1 => k_is)
    (case k1 => k_is)
    (case a2 => k_is)
    (case l2 => k_is)
    (case c2 => k_is)
    (case k2 => k_is)
    (case a3 => k_is)
    (case l3 => k_is)
    (case c3 => k_is)
    (case k3 => k_is)
    (case a4 => k_is)
    (case l4 => k_is)
    (case c4 => k_is)
    (case k4 => k_is)
    (case a5 => k_is)
    (case i5 => k_is)
    (case l5 => k_is)
    (case c5 => k_is)
    (case k5 => k_is)
    (case a6 => k_is)
    (case i6 => k_is)
    (case l6 => k_is)
    (case c6 => k_is)
    (case k6 => k_is)
    (case a7 => k_is)
    (case i7 => k_is)
    (case l7 => k_is)
    (case c7 => k_is)
    (case k7 => k_is)
    (case a8 => k_is)
    (case i8 => k_is)
    (case l8 => k_is)
    (case c8 => k_is)
    (case k8 => k_is)
    (case a9 => k_is)
    (case i9 => k_is)
    (case l9 => k_is)
    (case c9 => k_is)
    (case k9 => k_is)
    (case a10 => k_is)
    (case i10 => k_is)
    (case l10 => k_is)
    (case c10 => k_is)
    (case k10 => k_is)
    (case a11 => k_is)
    (case l11 => k_is)
    (case c11 => k_is)
    (case k11 => k_is)
    (case a12 => k_is)
    (case l12 => k_is)
    (case c12 => k_is)
    (case k12 => k_is)
    (case a13 => k_is)
    (case l13 => k_is)
    (case c13 => k_is)
    (case k13 => k_is)
    (case a14 => k_is)
    (case l14 => k_is)
    (case c14 => k_is)
    (case k14 => k_is)
    (case a15 => k_is)
    (case l15 => k_is)
    (case c15 => k_is)
    (case k15 => k_is)
    (case a16 => k_is)
    (case l16 => k_is)
    (case c16 => k_is)
    (case k16 => k_is)
    (case a17 => k_is)
    (case l17 => k_is)
    (case c17 => k_is)
    (case k17 => k_is)
    (case a18 => k_is)
    (case l18 => k_is)
    (case c18 => k_is)
    (case k18 => k_is)
    (case a19 => k_is)
    (case l19 => k_is)
    (case c19 => k_is)
    (case k19 => k_is)
    (case a20 => k_is)
    (case l20 => k_is)
    (case c20 => k_is)
    (case k20 => k_is)
    (case a21 => k_is)
    (case l21 => k_is)
    (case c21 => k_is)
    (case k21 => k_is)
    (case a22 => k_is)
    (case l22 => k_is)
    (case c22 => k_is)
    (case k22 => k_is)
    (case a23 => k_is)
    (case l23 => k_is)
    (case c23 => k_is)
    (case k23 => k_is)
    (case a24 => k_is)
    (case l24 => k_is)
    (case c24 => k_is)
    (case k24 => k_is)
    (case a25 => k_is)
    (case l25 => k_is)
    (case c25 => k_is)
    (case k25 => k_is)
    (case ga_NoDeed => k_is)
    (case gx_NoDeed => k_exc)
    (case gk_NoDeed => k_is)
    (case gs_NoDeed => k_is)
    (case gt_NoDeed => k_is)
    (case ga_NoLaying => k_is)
    (case gx_NoLaying => k_exc)
    (case gk_NoLaying => k_is)
    (case gs_NoLaying => k_is)
    (case gt_NoLaying => k_is)
    (case ga_NoLoad => k_is)
    (case gx_NoLoad => k_exc)
    (case gk_NoLoad => k_is)
    (case gs_NoLoad => k_is)
    (case gt_NoLoad => k_is)
    (case ga_NoPlan => k_is)
    (case gx_NoPlan => k_exc)
    (case gk_NoPlan => k_is)
    (case gs_NoPlan => k_is)
    (case gt_NoPlan => k_is)
    (case ga_NoText => k_is)
    (case gx_NoText => k_exc)
    (case gk_NoText => k_is)
    (case gs_NoText => k_is)
    (case gt_NoText => k_is)
    (case ga_StoneError => k_is)
    (case gx_StoneError => k_exc)
    (case gk_StoneError => k_is)
    (case gs_StoneError => k_is)
    (case gt_StoneError => k_is)
    (case hd_NoDeed => k_is)
    (case hd_NoLaying => k_is)
    (case hd_NoLoad => k_is)
    (case hd_NoPlan => k_is)
    (case hd_NoText => k_is)
    (case hd_StoneError => k_is)
    (case hn_ => k_is)
    (case ht_ => k_is)
    (case hg_deed => k_is)
    (case hk_deed => k_is)
    (case ha_deed => k_is)
    (case hm_deed => k_is)
    (case sv_deed => k_is)
    (case su_NoDeed_deed => k_is)
    (case su_NoLaying_deed => k_is)
    (case su_NoLoad_deed => k_is)
    (case su_NoPlan_deed => k_is)
    (case su_NoText_deed => k_is)
    (case su_StoneError_deed => k_is)
    (case hg_load => k_is)
    (case hk_load => k_is)
    (case ha_load => k_is)
    (case hm_load => k_is)
    (case sv_load => k_is)
    (case su_NoDeed_load => k_is)
    (case su_NoLaying_load => k_is)
    (case su_NoLoad_load => k_is)
    (case su_NoPlan_load => k_is)
    (case su_NoText_load => k_is)
    (case su_StoneError_load => k_is)
    (case z_ValueError => k_is)
    (case z_bool => k_is)
    (case z_int => k_is)
    (case z_isinstance => k_is)
    (case z_len => k_is)
    (case z_list => k_is)
    (case z_max => k_is)
    (case z_range => k_is)
    (case z_sum => k_is)
#print axioms PySem.Challenge.cw_fewstones_k09_whole_scale_holds

