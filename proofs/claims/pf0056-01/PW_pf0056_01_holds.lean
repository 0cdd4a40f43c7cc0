import PyProof.Rows.All
import Wide.All
import OpenK.AllK
import Wide.FinOn
import PySem.Challenge.RW_pf0056_01
set_option Elab.async false
section
set_option linter.unusedVariables false
namespace Mine
namespace F
/-- an exact number: a top, and a bottom that is no int below 0 -/
abbrev Q := Int × Nat
abbrev P := List Q
abbrev R := P × P

noncomputable def ob {α β : Type} (o : Option α) (k : α → Option β) : Option β := match o with
  | none => none
  | some x => k x
theorem ob_some {α β : Type} {o : Option α} {k : α → Option β} {r : β} (h : ob o k = some r) : ∃ x, o = some x ∧ k x = some r := by
  cases o with
  | none => cases h
  | some x => exact ⟨x, rfl, h⟩
noncomputable def gd {β : Type} (c : Bool) (k : Option β) : Option β := match c with
  | false => none
  | true => k
theorem gd_some {β : Type} {c : Bool} {k : Option β} {r : β} (h : gd c k = some r) : c = true ∧ k = some r := by
  cases c with
  | false => cases h
  | true => exact ⟨rfl, h⟩

noncomputable def lim : Nat := 2037035976334486086268445688409378161051468393665936250636140449354381299763336706183397376
noncomputable def intB (a b : Int) : Bool := match a with
  | .ofNat m => (match b with
    | .ofNat n => Nat.beq m n
    | .negSucc n => false)
  | .negSucc m => (match b with
    | .ofNat n => false
    | .negSucc n => Nat.beq m n)
theorem intB_eq (a b : Int) : intB a b = true ↔ a = b := by
  unfold intB
  cases a <;> cases b <;> simp [Nat.beq_eq]
  show _ ↔ ((_ : Nat) : Int) = ((_ : Nat) : Int)
  omega
noncomputable def okI (x : Int) : Bool := match x with
  | .ofNat n => Nat.ble n lim
  | .negSucc n => Nat.ble n lim
noncomputable def gcdZ (a b : Int) : Nat := Nat.gcd a.natAbs b.natAbs
noncomputable def gcdAll (ns : List Int) : Nat := ns.foldl (fun g n => Nat.gcd g n.natAbs) 0
noncomputable def posR (s t b : Nat) : Option Q := gd (Nat.ble s lim) (match Nat.gcd t b with
  | 0 => none
  | Nat.succ g => match b with
    | 0 => none
    | Nat.succ _ => some (Int.ofNat (Nat.div t (Nat.succ g)), Nat.div b (Nat.succ g)))
noncomputable def negR (s t b : Nat) : Option Q := gd (Nat.ble s lim) (match Nat.gcd t b with
  | 0 => none
  | Nat.succ g => match b with
    | 0 => none
    | Nat.succ _ => match Nat.div t (Nat.succ g) with
      | 0 => some (Int.ofNat 0, Nat.div b (Nat.succ g))
      | Nat.succ t' => some (Int.negSucc t', Nat.div b (Nat.succ g)))
noncomputable def subR (s t u b : Nat) : Option Q := match Nat.ble u t with
  | true => posR s (Nat.sub t u) b
  | false => negR s (Nat.sub u t) b
noncomputable def radd (a b : Q) : Option Q := match a with
  | (a, n) => match b with
    | (b, m) => match a with
      | .ofNat x => (match b with
        | .ofNat y => posR (Nat.add (Nat.add x y) (Nat.add n m)) (Nat.add (Nat.mul x m) (Nat.mul y n)) (Nat.mul n m)
        | .negSucc y => subR (Nat.add (Nat.add x y) (Nat.add n m)) (Nat.mul x m) (Nat.mul (Nat.succ y) n) (Nat.mul n m))
      | .negSucc x => (match b with
        | .ofNat y => subR (Nat.add (Nat.add x y) (Nat.add n m)) (Nat.mul y n) (Nat.mul (Nat.succ x) m) (Nat.mul n m)
        | .negSucc y => negR (Nat.add (Nat.add x y) (Nat.add n m)) (Nat.add (Nat.mul (Nat.succ x) m) (Nat.mul (Nat.succ y) n)) (Nat.mul n m))
noncomputable def rmul (a b : Q) : Option Q := match a with
  | (a, n) => match b with
    | (b, m) => match a with
      | .ofNat x => (match b with
        | .ofNat y => posR (Nat.add (Nat.add x y) (Nat.add n m)) (Nat.mul x y) (Nat.mul n m)
        | .negSucc y => negR (Nat.add (Nat.add x y) (Nat.add n m)) (Nat.mul x (Nat.succ y)) (Nat.mul n m))
      | .negSucc x => (match b with
        | .ofNat y => negR (Nat.add (Nat.add x y) (Nat.add n m)) (Nat.mul (Nat.succ x) y) (Nat.mul n m)
        | .negSucc y => posR (Nat.add (Nat.add x y) (Nat.add n m)) (Nat.mul (Nat.succ x) (Nat.succ y)) (Nat.mul n m))
noncomputable def rdiv (a b : Q) : Option Q := match a with
  | (a, n) => match b with
    | (b, m) => match a with
      | .ofNat x => (match b with
        | .ofNat y => posR (Nat.add (Nat.add x y) (Nat.add n m)) (Nat.mul x m) (Nat.mul n y)
        | .negSucc y => negR (Nat.add (Nat.add x y) (Nat.add n m)) (Nat.mul x m) (Nat.mul n (Nat.succ y)))
      | .negSucc x => (match b with
        | .ofNat y => negR (Nat.add (Nat.add x y) (Nat.add n m)) (Nat.mul (Nat.succ x) m) (Nat.mul n y)
        | .negSucc y => posR (Nat.add (Nat.add x y) (Nat.add n m)) (Nat.mul (Nat.succ x) m) (Nat.mul n (Nat.succ y)))
noncomputable def rneg (a : Q) : Q := match a with
  | (a, n) => match a with
    | .ofNat x => (match x with
      | 0 => (.ofNat 0, n)
      | Nat.succ x => (.negSucc x, n))
    | .negSucc x => (.ofNat (Nat.succ x), n)
noncomputable def rinv (a : Q) : Option Q := match a with
  | (a, n) => match a with
    | .ofNat x => posR (Nat.add x n) n x
    | .negSucc x => negR (Nat.add x n) n (Nat.succ x)
noncomputable def ratI (t b : Int) : Option Q := match t with
  | .ofNat x => (match b with
    | .ofNat y => posR (Nat.add x y) x y
    | .negSucc y => negR (Nat.add x y) x (Nat.succ y))
  | .negSucc x => (match b with
    | .ofNat y => negR (Nat.add x y) (Nat.succ x) y
    | .negSucc y => posR (Nat.add x y) (Nat.succ x) (Nat.succ y))

noncomputable def big : Nat := 2037035976334486086268445688409378161051468393665936250636140449354381299763336706183397376 * 2037035976334486086268445688409378161051468393665936250636140449354381299763336706183397376 * 8
theorem mul_big {x y : Nat} (hx : x ≤ lim + 1) (hy : y ≤ lim + 1) : x * y < big := Nat.lt_of_le_of_lt (Nat.mul_le_mul hx hy) (by decide +kernel)
theorem le_big {x : Nat} (hx : x ≤ lim + 1) : x < big := Nat.lt_of_le_of_lt hx (by decide +kernel)
noncomputable def gOf (t b : Int) : Int := if 0 < b then (Nat.gcd t.natAbs b.natAbs : Int) else 0 - (Nat.gcd t.natAbs b.natAbs : Int)
/-- what the program's rat answers at t and b -/
structure IsRat (t b : Int) (r : Q) : Prop where
  ne : b ≠ 0
  g0 : gOf t b ≠ 0
  size : (gOf t b).natAbs ≤ b.natAbs
  top : t.fdiv (gOf t b) = r.1
  bot : b.fdiv (gOf t b) = (r.2 : Int)
theorem fdiv_pos {T g : Nat} (h : g ∣ T) (hg : g ≠ 0) : (T : Int).fdiv (g : Int) = ((T / g : Nat) : Int) := by
  rw [Int.fdiv_eq_ediv_of_nonneg _ (by omega)]; rfl
theorem fdiv_negpos {T g : Nat} (h : g ∣ T) (hg : g ≠ 0) : (-(T : Int)).fdiv (g : Int) = -((T / g : Nat) : Int) := by
  obtain ⟨k, rfl⟩ := h
  rw [Nat.mul_div_cancel_left _ (by omega)]
  rw [show -((g * k : Nat) : Int) = (-(k : Int)) * (g : Int) by rw [Int.natCast_mul, Int.neg_mul, Int.mul_comm]]
  exact Int.mul_fdiv_cancel _ (by omega)
theorem fdiv_neg2 {T g : Nat} (h : g ∣ T) (hg : g ≠ 0) : (-(T : Int)).fdiv (-(g : Int)) = ((T / g : Nat) : Int) := by
  obtain ⟨k, rfl⟩ := h
  rw [Nat.mul_div_cancel_left _ (by omega)]
  rw [show -((g * k : Nat) : Int) = ((k : Int)) * (-(g : Int)) by rw [Int.natCast_mul, Int.mul_neg, Int.mul_comm]]
  exact Int.mul_fdiv_cancel _ (by omega)
theorem fdiv_posneg {T g : Nat} (h : g ∣ T) (hg : g ≠ 0) : ((T : Int)).fdiv (-(g : Int)) = -((T / g : Nat) : Int) := by
  obtain ⟨k, rfl⟩ := h
  rw [Nat.mul_div_cancel_left _ (by omega)]
  rw [show ((g * k : Nat) : Int) = (-(k : Int)) * (-(g : Int)) by rw [Int.natCast_mul, Int.neg_mul_neg, Int.mul_comm]]
  exact Int.mul_fdiv_cancel _ (by omega)
theorem gOf_pos {t b : Int} {T B : Nat} (hb : B ≠ 0) (ht : t.natAbs = T) (e : b = B) : gOf t b = (Nat.gcd T B : Int) := by
  subst e ht
  unfold gOf
  rw [if_pos (by omega)]; rfl
theorem gOf_neg {t b : Int} {T B : Nat} (ht : t.natAbs = T) (e : b = -(B : Int)) : gOf t b = -(Nat.gcd T B : Int) := by
  subst e ht
  unfold gOf
  rw [if_neg (by omega), Int.natAbs_neg, Int.natAbs_natCast]; omega
theorem gcd_le {T B : Nat} (hb : B ≠ 0) : Nat.gcd T B ≤ B := Nat.le_of_dvd (by omega) (Nat.gcd_dvd_right T B)
theorem posR_is {s T B : Nat} {r : Q} (h : posR s T B = some r) : s ≤ lim ∧ ∀ t b : Int, (t = T ∧ b = B) ∨ (t = -(T : Int) ∧ b = -(B : Int)) → IsRat t b r := by
  obtain ⟨h1, h'⟩ := gd_some h
  clear h
  have h := h'
  clear h'
  refine ⟨Nat.le_of_ble_eq_true h1, ?_⟩
  split at h
  · cases h
  · rename_i g hg
    split at h
    · cases h
    · rename_i B' 
      cases h
      have hB : Nat.succ B' ≠ 0 := by omega
      generalize Nat.succ B' = B at *
      have hd1 := Nat.gcd_dvd_left T B
      have hd2 := Nat.gcd_dvd_right T B
      have hle := gcd_le (T := T) hB
      have hg0 : Nat.gcd T B ≠ 0 := by omega
      rw [← hg]
      rintro t b (⟨rfl, rfl⟩ | ⟨rfl, rfl⟩)
      · have e := gOf_pos (t := (T : Int)) (b := (B : Int)) (T := T) (B := B) hB (by simp) rfl
        exact ⟨by omega, by omega, by rw [e]; simpa using hle, by rw [e, fdiv_pos hd1 hg0]; rfl, by rw [e, fdiv_pos hd2 hg0]; rfl⟩
      · have e := gOf_neg (t := -(T : Int)) (b := -(B : Int)) (T := T) (B := B) (by simp) rfl
        exact ⟨by omega, by omega, by rw [e]; simpa using hle, by rw [e, fdiv_neg2 hd1 hg0]; rfl, by rw [e, fdiv_neg2 hd2 hg0]; rfl⟩
theorem negR_is {s T B : Nat} {r : Q} (h : negR s T B = some r) : s ≤ lim ∧ ∀ t b : Int, (t = -(T : Int) ∧ b = B) ∨ (t = T ∧ b = -(B : Int)) → IsRat t b r := by
  obtain ⟨h1, h'⟩ := gd_some h
  clear h
  have h := h'
  clear h'
  refine ⟨Nat.le_of_ble_eq_true h1, ?_⟩
  split at h
  · cases h
  · rename_i g hg
    split at h
    · cases h
    · rename_i B'
      have hB : Nat.succ B' ≠ 0 := by omega
      generalize Nat.succ B' = B at *
      have hd1 := Nat.gcd_dvd_left T B
      have hd2 := Nat.gcd_dvd_right T B
      have hle := gcd_le (T := T) hB
      have hg0 : Nat.gcd T B ≠ 0 := by omega
      rw [← hg] at h
      have hr : r = (-((T / Nat.gcd T B : Nat) : Int), B / Nat.gcd T B) := by
        split at h
        · rename_i h0
          cases h
          rw [show T / Nat.gcd T B = 0 from h0]; rfl
        · rename_i t' h0
          cases h
          rw [show T / Nat.gcd T B = Nat.succ t' from h0]; rfl
      subst hr
      rintro t b (⟨rfl, rfl⟩ | ⟨rfl, rfl⟩)
      · have e := gOf_pos (t := -(T : Int)) (b := (B : Int)) (T := T) (B := B) hB (by simp) rfl
        exact ⟨by omega, by omega, by rw [e]; simpa using hle, by rw [e, fdiv_negpos hd1 hg0], by rw [e, fdiv_pos hd2 hg0]⟩
      · have e := gOf_neg (t := (T : Int)) (b := -(B : Int)) (T := T) (B := B) (by simp) rfl
        exact ⟨by omega, by omega, by rw [e]; simpa using hle, by rw [e, fdiv_posneg hd1 hg0], by rw [e, fdiv_neg2 hd2 hg0]⟩
theorem subR_is {s t u b : Nat} {r : Q} (h : subR s t u b = some r) : s ≤ lim ∧ IsRat ((t : Int) - u) b r := by
  unfold subR at h
  split at h
  · rename_i hle
    have hle := Nat.le_of_ble_eq_true hle
    obtain ⟨h1, h2⟩ := posR_is h
    exact ⟨h1, h2 _ _ (.inl ⟨by show (t : Int) - u = ((t - u : Nat) : Int); omega, rfl⟩)⟩
  · rename_i hle
    have hle : ¬ u ≤ t := fun h => by rw [Nat.ble_eq_true_of_le h] at hle; cases hle
    obtain ⟨h1, h2⟩ := negR_is h
    exact ⟨h1, h2 _ _ (.inl ⟨by show (t : Int) - u = -((u - t : Nat) : Int); omega, rfl⟩)⟩
/-- the numbers are small -/
structure Sm (a : Q) : Prop where
  top : a.1.natAbs ≤ lim + 1
  bot : a.2 ≤ lim + 1
theorem radd_is {a b r : Q} (h : radd a b = some r) : Sm a ∧ Sm b ∧ IsRat (a.1 * b.2 + b.1 * a.2) ((a.2 : Int) * b.2) r := by
  obtain ⟨a, n⟩ := a
  obtain ⟨b, m⟩ := b
  cases a with
  | ofNat x => cases b with
    | ofNat y =>
      obtain ⟨h1, h2⟩ := posR_is h
      have h1 : x + y + (n + m) ≤ lim := h1
      exact ⟨⟨by show x ≤ _; omega, by show n ≤ _; omega⟩, ⟨by show y ≤ _; omega, by show m ≤ _; omega⟩, h2 _ _ (.inl ⟨by show (x : Int) * m + (y : Int) * n = ((x * m + y * n : Nat) : Int); simp, by show (n : Int) * m = ((n * m : Nat) : Int); simp⟩)⟩
    | negSucc y =>
      obtain ⟨h1, h2⟩ := subR_is h
      have h1 : x + y + (n + m) ≤ lim := h1
      refine ⟨⟨by show x ≤ _; omega, by show n ≤ _; omega⟩, ⟨by show y + 1 ≤ _; omega, by show m ≤ _; omega⟩, ?_⟩
      have e : (Int.ofNat x) * (m : Int) + Int.negSucc y * (n : Int) = ((Nat.mul x m : Nat) : Int) - ((Nat.mul (Nat.succ y) n : Nat) : Int) := by
        rw [Int.negSucc_eq]
        show (x : Int) * m + -((y : Int) + 1) * n = ((x * m : Nat) : Int) - (((y + 1) * n : Nat) : Int)
        rw [Int.neg_mul]; simp; omega
      show IsRat ((Int.ofNat x) * (m : Int) + Int.negSucc y * (n : Int)) ((n : Int) * m) r
      rw [e]
      have : (n : Int) * m = ((Nat.mul n m : Nat) : Int) := by show (n : Int) * m = ((n * m : Nat) : Int); simp
      rw [this]; exact h2
  | negSucc x => cases b with
    | ofNat y =>
      obtain ⟨h1, h2⟩ := subR_is h
      have h1 : x + y + (n + m) ≤ lim := h1
      refine ⟨⟨by show x + 1 ≤ _; omega, by show n ≤ _; omega⟩, ⟨by show y ≤ _; omega, by show m ≤ _; omega⟩, ?_⟩
      have e : (Int.negSucc x) * (m : Int) + Int.ofNat y * (n : Int) = ((Nat.mul y n : Nat) : Int) - ((Nat.mul (Nat.succ x) m : Nat) : Int) := by
        rw [Int.negSucc_eq]
        show -((x : Int) + 1) * m + (y : Int) * n = ((y * n : Nat) : Int) - (((x + 1) * m : Nat) : Int)
        rw [Int.neg_mul]; simp; omega
      show IsRat ((Int.negSucc x) * (m : Int) + Int.ofNat y * (n : Int)) ((n : Int) * m) r
      rw [e]
      have : (n : Int) * m = ((Nat.mul n m : Nat) : Int) := by show (n : Int) * m = ((n * m : Nat) : Int); simp
      rw [this]; exact h2
    | negSucc y =>
      obtain ⟨h1, h2⟩ := negR_is h
      have h1 : x + y + (n + m) ≤ lim := h1
      exact ⟨⟨by show x + 1 ≤ _; omega, by show n ≤ _; omega⟩, ⟨by show y + 1 ≤ _; omega, by show m ≤ _; omega⟩, h2 _ _ (.inl ⟨by
        show Int.negSucc x * m + Int.negSucc y * n = -(((x + 1) * m + (y + 1) * n : Nat) : Int)
        rw [Int.negSucc_eq, Int.negSucc_eq, Int.neg_mul, Int.neg_mul]; simp; omega, by show (n : Int) * m = ((n * m : Nat) : Int); simp⟩)⟩
theorem rmul_is {a b r : Q} (h : rmul a b = some r) : Sm a ∧ Sm b ∧ IsRat (a.1 * b.1) ((a.2 : Int) * b.2) r := by
  obtain ⟨a, n⟩ := a
  obtain ⟨b, m⟩ := b
  cases a with
  | ofNat x => cases b with
    | ofNat y =>
      obtain ⟨h1, h2⟩ := posR_is h
      have h1 : x + y + (n + m) ≤ lim := h1
      exact ⟨⟨by show x ≤ _; omega, by show n ≤ _; omega⟩, ⟨by show y ≤ _; omega, by show m ≤ _; omega⟩, h2 _ _ (.inl ⟨rfl, rfl⟩)⟩
    | negSucc y =>
      obtain ⟨h1, h2⟩ := negR_is h
      have h1 : x + y + (n + m) ≤ lim := h1
      exact ⟨⟨by show x ≤ _; omega, by show n ≤ _; omega⟩, ⟨by show y + 1 ≤ _; omega, by show m ≤ _; omega⟩, h2 _ _ (.inl ⟨by
        show (x : Int) * Int.negSucc y = -((x * (y + 1) : Nat) : Int)
        rw [Int.negSucc_eq, Int.mul_neg]; simp, rfl⟩)⟩
  | negSucc x => cases b with
    | ofNat y =>
      obtain ⟨h1, h2⟩ := negR_is h
      have h1 : x + y + (n + m) ≤ lim := h1
      exact ⟨⟨by show x + 1 ≤ _; omega, by show n ≤ _; omega⟩, ⟨by show y ≤ _; omega, by show m ≤ _; omega⟩, h2 _ _ (.inl ⟨by
        show Int.negSucc x * (y : Int) = -(((x + 1) * y : Nat) : Int)
        rw [Int.negSucc_eq, Int.neg_mul]; simp, rfl⟩)⟩
    | negSucc y =>
      obtain ⟨h1, h2⟩ := posR_is h
      have h1 : x + y + (n + m) ≤ lim := h1
      exact ⟨⟨by show x + 1 ≤ _; omega, by show n ≤ _; omega⟩, ⟨by show y + 1 ≤ _; omega, by show m ≤ _; omega⟩, h2 _ _ (.inl ⟨rfl, rfl⟩)⟩
theorem rdiv_is {a b r : Q} (h : rdiv a b = some r) : Sm a ∧ Sm b ∧ IsRat (a.1 * b.2) ((a.2 : Int) * b.1) r := by
  obtain ⟨a, n⟩ := a
  obtain ⟨b, m⟩ := b
  cases a with
  | ofNat x => cases b with
    | ofNat y =>
      obtain ⟨h1, h2⟩ := posR_is h
      have h1 : x + y + (n + m) ≤ lim := h1
      exact ⟨⟨by show x ≤ _; omega, by show n ≤ _; omega⟩, ⟨by show y ≤ _; omega, by show m ≤ _; omega⟩, h2 _ _ (.inl ⟨rfl, rfl⟩)⟩
    | negSucc y =>
      obtain ⟨h1, h2⟩ := negR_is h
      have h1 : x + y + (n + m) ≤ lim := h1
      exact ⟨⟨by show x ≤ _; omega, by show n ≤ _; omega⟩, ⟨by show y + 1 ≤ _; omega, by show m ≤ _; omega⟩, h2 _ _ (.inr ⟨rfl, by
        show (n : Int) * Int.negSucc y = -((n * (y + 1) : Nat) : Int)
        rw [Int.negSucc_eq, Int.mul_neg]; simp⟩)⟩
  | negSucc x => cases b with
    | ofNat y =>
      obtain ⟨h1, h2⟩ := negR_is h
      have h1 : x + y + (n + m) ≤ lim := h1
      exact ⟨⟨by show x + 1 ≤ _; omega, by show n ≤ _; omega⟩, ⟨by show y ≤ _; omega, by show m ≤ _; omega⟩, h2 _ _ (.inl ⟨by
        show Int.negSucc x * (m : Int) = -(((x + 1) * m : Nat) : Int)
        rw [Int.negSucc_eq, Int.neg_mul]; simp, rfl⟩)⟩
    | negSucc y =>
      obtain ⟨h1, h2⟩ := posR_is h
      have h1 : x + y + (n + m) ≤ lim := h1
      exact ⟨⟨by show x + 1 ≤ _; omega, by show n ≤ _; omega⟩, ⟨by show y + 1 ≤ _; omega, by show m ≤ _; omega⟩, h2 _ _ (.inr ⟨by
        show Int.negSucc x * (m : Int) = -(((x + 1) * m : Nat) : Int)
        rw [Int.negSucc_eq, Int.neg_mul]; simp, by
        show (n : Int) * Int.negSucc y = -((n * (y + 1) : Nat) : Int)
        rw [Int.negSucc_eq, Int.mul_neg]; simp⟩)⟩
theorem rinv_is {a r : Q} (h : rinv a = some r) : Sm a ∧ IsRat (a.2 : Int) a.1 r := by
  obtain ⟨a, n⟩ := a
  cases a with
  | ofNat x =>
    obtain ⟨h1, h2⟩ := posR_is h
    have h1 : x + n ≤ lim := h1
    exact ⟨⟨by show x ≤ _; omega, by show n ≤ _; omega⟩, h2 _ _ (.inl ⟨rfl, rfl⟩)⟩
  | negSucc x =>
    obtain ⟨h1, h2⟩ := negR_is h
    have h1 : x + n ≤ lim := h1
    exact ⟨⟨by show x + 1 ≤ _; omega, by show n ≤ _; omega⟩, h2 _ _ (.inr ⟨rfl, rfl⟩)⟩
theorem ratI_is {t b : Int} {r : Q} (h : ratI t b = some r) : b.natAbs ≤ lim + 1 ∧ IsRat t b r := by
  cases t with
  | ofNat x => cases b with
    | ofNat y =>
      obtain ⟨h1, h2⟩ := posR_is h
      have h1 : x + y ≤ lim := h1
      exact ⟨by show y ≤ _; omega, h2 _ _ (.inl ⟨rfl, rfl⟩)⟩
    | negSucc y =>
      obtain ⟨h1, h2⟩ := negR_is h
      have h1 : x + y ≤ lim := h1
      exact ⟨by show y + 1 ≤ _; omega, h2 _ _ (.inr ⟨rfl, rfl⟩)⟩
  | negSucc x => cases b with
    | ofNat y =>
      obtain ⟨h1, h2⟩ := negR_is h
      have h1 : x + y ≤ lim := h1
      exact ⟨by show y ≤ _; omega, h2 _ _ (.inl ⟨rfl, rfl⟩)⟩
    | negSucc y =>
      obtain ⟨h1, h2⟩ := posR_is h
      have h1 : x + y ≤ lim := h1
      exact ⟨by show y + 1 ≤ _; omega, h2 _ _ (.inr ⟨rfl, rfl⟩)⟩
theorem rneg_is (a : Q) : rneg a = (0 - a.1, a.2) := by
  obtain ⟨a, n⟩ := a
  cases a with
  | ofNat x => cases x with
    | zero => rfl
    | succ x => rfl
  | negSucc x =>
    show (Int.ofNat (Nat.succ x), n) = (0 - Int.negSucc x, n)
    rw [show (0 - Int.negSucc x : Int) = Int.ofNat (Nat.succ x) from by show 0 - Int.negSucc x = ((x + 1 : Nat) : Int); omega]

-- lists
noncomputable def mapO {α β : Type} (f : α → Option β) : List α → Option (List β)
  | [] => some []
  | x :: r => ob (f x) fun y => ob (mapO f r) fun t => some (y :: t)
noncomputable def trim {α : Type} (z : α → Bool) : List α → List α
  | [] => []
  | x :: r => match trim z r with
    | [] => (match z x with
      | true => []
      | false => [x])
    | y :: r' => x :: y :: r'
noncomputable def zipLong {α β : Type} (f : α → α → Option β) (z : α) : List α → List α → Option (List β)
  | [], b => mapO (fun y => f z y) b
  | x :: a, b => match b with
    | [] => mapO (fun x => f x z) (x :: a)
    | y :: b => ob (f x y) fun s => ob (zipLong f z a b) fun t => some (s :: t)

theorem mapO_map {α β γ : Type} (f : β → Option γ) (g : α → β) : ∀ l : List α, mapO f (l.map g) = mapO (fun x => f (g x)) l
  | [] => rfl
  | x :: l => by simp only [List.map_cons, mapO]; rw [mapO_map f g l]
theorem mapO_pure {α β : Type} (f : α → β) : ∀ l : List α, mapO (fun x => some (f x)) l = some (l.map f)
  | [] => rfl
  | x :: l => by simp only [mapO, ob]; rw [mapO_pure f l]; rfl
theorem mapO_congr {α β : Type} {f g : α → Option β} : ∀ {l : List α}, (∀ x ∈ l, f x = g x) → mapO f l = mapO g l
  | [], _ => rfl
  | x :: l, h => by simp only [mapO]; rw [h x (by simp), mapO_congr fun y hy => h y (by simp [hy])]
theorem mapO_range {α β : Type} (f : α → Option β) (z : α) : ∀ l : List α, mapO f l = mapO (fun i => f (l.getD i z)) (List.range l.length)
  | [] => rfl
  | x :: l => by
    rw [List.length_cons, List.range_succ_eq_map]
    simp only [mapO]
    rw [mapO_map, mapO_range f z l]
    rfl
theorem zipLong_range {α β : Type} (f : α → α → Option β) (z : α) : ∀ a b : List α, zipLong f z a b = mapO (fun i => f (a.getD i z) (b.getD i z)) (List.range (max a.length b.length))
  | [], b => by
    unfold zipLong
    rw [mapO_range _ z b]
    simp
  | x :: a, [] => by
    unfold zipLong
    rw [mapO_range _ z (x :: a)]
    simp
  | x :: a, y :: b => by
    unfold zipLong
    rw [show max (x :: a).length (y :: b).length = max a.length b.length + 1 by simp only [List.length_cons]; omega, List.range_succ_eq_map]
    simp only [mapO]
    rw [mapO_map, zipLong_range f z a b]
    rfl
theorem trim_spec {α : Type} (z : α → Bool) : ∀ l : List α, (trim z l).length ≤ l.length ∧ trim z l = l.take (trim z l).length ∧ (∀ i, (trim z l).length ≤ i → i < l.length → ∃ x, l[i]? = some x ∧ z x = true) ∧
    (0 < (trim z l).length → ∃ x, l[(trim z l).length - 1]? = some x ∧ z x = false)
  | [] => by simp [trim]
  | x :: r => by
    obtain ⟨h1, h2, h3, h4⟩ := trim_spec z r
    unfold trim
    cases hr : trim z r with
    | nil =>
      rw [hr] at h1 h2 h3 h4
      simp only [List.length_nil] at h3
      cases hz : z x with
      | true =>
        refine ⟨by simp, by simp, fun i _ hi => ?_, by simp⟩
        cases i with
        | zero => exact ⟨x, rfl, hz⟩
        | succ i =>
          obtain ⟨y, hy, e⟩ := h3 i (by omega) (by simpa using hi)
          exact ⟨y, by simpa using hy, e⟩
      | false =>
        refine ⟨by simp, by simp, fun i h hi => ?_, fun _ => ⟨x, rfl, hz⟩⟩
        simp only [List.length_cons, List.length_nil] at h
        cases i with
        | zero => omega
        | succ i =>
          obtain ⟨y, hy, e⟩ := h3 i (by omega) (by simpa using hi)
          exact ⟨y, by simpa using hy, e⟩
    | cons y r' =>
      rw [hr] at h1 h2 h3 h4
      simp only [List.length_cons] at h1 h2 h3 h4 ⊢
      refine ⟨by omega, ?_, fun i h hi => ?_, fun _ => ?_⟩
      · rw [List.take_succ_cons, ← h2]
      · cases i with
        | zero => omega
        | succ i =>
          obtain ⟨y, hy, e⟩ := h3 i (by omega) (by omega)
          exact ⟨y, by simpa using hy, e⟩
      · obtain ⟨w, hw, e⟩ := h4 (by omega)
        refine ⟨w, ?_, e⟩
        rw [show r'.length + 1 + 1 - 1 = (r'.length + 1 - 1) + 1 by omega, List.getElem?_cons_succ]
        exact hw
theorem okI_big {x : Int} (h : okI x = true) : x.natAbs < big := by
  refine le_big ?_
  cases x with
  | ofNat n => have := Nat.le_of_ble_eq_true h; show n ≤ _; omega
  | negSucc n => have := Nat.le_of_ble_eq_true h; show n + 1 ≤ _; omega

-- polynomials over the ints
noncomputable def ztrim (l : List Int) : List Int := trim (fun x => intB x 0) l
noncomputable def zadd (a b : List Int) : Option (List Int) := ob (zipLong (fun x y => some (x + y)) 0 a b) fun r => some (ztrim r)
noncomputable def zneg (b : List Int) : List Int := b.map fun n => -n
noncomputable def zsub (a b : List Int) : Option (List Int) := zadd a (zneg b)
noncomputable def zscale (p : List Int) (k : Int) : Option (List Int) := match intB k 0 with
  | true => some []
  | false => gd (okI k) (mapO (fun x => gd (okI x) (some (x * k))) p)
noncomputable def zraise (p : List Int) (many : Nat) : Option (List Int) := match p with
  | [] => some []
  | x :: r => gd (Nat.ble many 1000) (gd (Nat.ble (x :: r).length 1000) (some (List.replicate many 0 ++ (x :: r))))
noncomputable def zdivided (p : List Int) (k : Int) : Option (List Int) := match intB k 0 with
  | true => none
  | false => gd (okI k) (some (p.map (·.fdiv k)))
noncomputable def sgnContent (p : List Int) (l : Int) : Int := match decide (0 < l) with
  | true => (gcdAll p : Int)
  | false => - (gcdAll p : Int)
noncomputable def zprimitive (p : List Int) : Option (List Int) := match p with
  | [] => some []
  | _ => ob p.getLast? fun l => zdivided p (sgnContent p l)
noncomputable def zderive (p : List Int) : Option (List Int) := ob (mapO (fun x : Int × Nat => gd (okI x.1) (gd (Nat.ble x.2 1000) (some (x.1 * (x.2 : Int))))) p.zipIdx) fun r => some (r.drop 1)

noncomputable def foldO {α β : Type} (f : β → α → Option β) : β → List α → Option β
  | b, [] => some b
  | b, a :: l => ob (f b a) fun b' => foldO f b' l
theorem foldO_pure {α β : Type} (f : β → α → β) : ∀ (l : List α) (b : β), foldO (fun b a => some (f b a)) b l = some (l.foldl f b)
  | [], _ => rfl
  | a :: l, b => foldO_pure f l (f b a)

-- polynomials over the rationals
noncomputable def qtrim (l : P) : P := trim (fun x => intB x.1 0) l
noncomputable def qadd (a b : P) : Option P := ob (zipLong radd (0, 1) a b) fun r => some (qtrim r)
noncomputable def qneg (b : P) : P := b.map rneg
noncomputable def qsub (a b : P) : Option P := qadd a (qneg b)
noncomputable def qscale (p : P) (r : Q) : Option P := match intB r.1 0 with
  | true => some []
  | false => mapO (fun x => rmul x r) p
noncomputable def qraise (p : P) (many : Nat) : Option P := match p with
  | [] => some []
  | x :: r => gd (Nat.ble many 1000) (gd (Nat.ble (x :: r).length 1000) (some (List.replicate many (0, 1) ++ (x :: r))))
noncomputable def mulRow (x : Q) : P → P → Option P
  | [], t => some t
  | y :: b, t => match t with
    | [] => none
    | f :: t => ob (rmul x y) fun m => ob (radd f m) fun s => ob (mulRow x b t) fun r => some (s :: r)
noncomputable def mulRows (b : P) : P → P → Option P
  | [], t => some t
  | x :: a, t => ob (mulRow x b t) fun t1 => match t1 with
    | [] => none
    | h :: t' => ob (mulRows b a t') fun r => some (h :: r)
noncomputable def qmul (a b : P) : Option P := match a with
  | [] => some []
  | x :: a' => match b with
    | [] => some []
    | y :: b' => gd (Nat.ble (Nat.add a.length b.length) 1000) (mulRows b a (List.replicate (Nat.sub (Nat.add a.length b.length) 1) (0, 1)))
noncomputable def qpower (p : P) (many : Nat) : Option P := gd (Nat.ble many 1000) (foldO (fun f _ => qmul f p) [(1, 1)] (List.range many))
noncomputable def divLoop (b : P) (bl : Q) : Nat → P → P → Option (P × P)
  | 0, _, _ => none
  | n + 1, rest, found => match Nat.ble b.length rest.length with
    | false => some (found, rest)
    | true => ob rest.getLast? fun l => ob (rdiv l bl) fun k => ob (qscale b.dropLast k) fun s => ob (qraise s (Nat.sub rest.length b.length)) fun s' => ob (qsub rest.dropLast s') fun lower =>
      gd (Nat.ble (Nat.succ (Nat.sub rest.length b.length)) found.length) (divLoop b bl n lower (found.set (Nat.sub rest.length b.length) k))
noncomputable def qdivmod (a b : P) : Option (P × P) := ob b.getLast? fun bl => gd (Nat.ble a.length 1000) (ob (divLoop b bl (Nat.succ a.length) a (List.replicate (Nat.sub (Nat.succ a.length) b.length) (0, 1))) fun x => some (qtrim x.1, x.2))
noncomputable def qmonic (p : P) : Option P := match p with
  | [] => some []
  | x :: r => ob (x :: r).getLast? fun l => ob (rinv l) fun i => qscale (x :: r) i
noncomputable def gcdLoop : Nat → P → P → Option P
  | 0, _, _ => none
  | n + 1, a, b => match b with
    | [] => some a
    | x :: r => ob (qdivmod a (x :: r)) fun y => ob (qmonic y.2) fun m => gcdLoop n (x :: r) m
noncomputable def qgcd (a b : P) : Option P := ob (gcdLoop 50 a b) qmonic
abbrev T3 := P × P × P
noncomputable def extLoop : Nat → T3 → T3 → Option T3
  | 0, _, _ => none
  | n + 1, one, other => match other.1 with
    | [] => some one
    | x :: r => ob (qdivmod one.1 other.1) fun y => ob (qmul y.1 other.2.1) fun m1 => ob (qsub one.2.1 m1) fun left => ob (qmul y.1 other.2.2) fun m2 => ob (qsub one.2.2 m2) fun right => extLoop n other (y.2, left, right)
noncomputable def qextended (a b : P) : Option T3 := ob (extLoop 50 (a, [(1, 1)], []) (b, [], [(1, 1)])) fun one => ob one.1.getLast? fun l => ob (rinv l) fun k => ob (qscale one.1 k) fun x => ob (qscale one.2.1 k) fun y => ob (qscale one.2.2 k) fun z => some (x, y, z)
noncomputable def qderive (p : P) : Option P := ob (mapO (fun x : Q × Nat => rmul x.1 (Int.ofNat x.2, 1)) p.zipIdx) fun r => some (r.drop 1)
noncomputable def qintegral (p : P) : Option P := gd (Nat.ble p.length 1000) (ob (mapO (fun x : Q × Nat => rdiv x.1 (Int.ofNat (Nat.succ x.2), 1)) p.zipIdx) fun r => match r with
  | [] => some []
  | x :: r => some ((0, 1) :: x :: r))
noncomputable def qat (p : P) (r : Q) : Option Q := foldO (fun f x => ob (rmul f r) fun m => radd m x) (0, 1) p.reverse
noncomputable def lcmOf (q : P) : Option Nat := foldO (fun b x => gd (Nat.ble (Nat.add b x.2) lim) (match Nat.gcd b x.2 with
  | 0 => none
  | Nat.succ g => some (Nat.mul (Nat.div b (Nat.succ g)) x.2))) 1 q
noncomputable def wholeOf (b : Nat) (q : P) : Option (List Int) := mapO (fun x => match x.2 with
  | 0 => none
  | Nat.succ m => gd (okI x.1) (gd (Nat.ble (Nat.add b m) lim) (some (x.1 * Int.ofNat (Nat.div b (Nat.succ m)))))) q
noncomputable def toZ (q : P) : Option (List Int × Q) := match q with
  | [] => some ([], (0, 1))
  | x :: r => ob (lcmOf (x :: r)) fun b => ob (wholeOf b (x :: r)) fun w => ob (zprimitive w) fun p => ob w.getLast? fun l => ob (ratI (sgnContent w l) (Int.ofNat b)) fun s => some (p, s)
noncomputable def fromZ (z : List Int) : P := z.map fun n => (n, 1)

-- rational terms
noncomputable def F0 : R := ([], [(1, 1)])
noncomputable def fmake2 (t b : P) : Option R := ob b.getLast? fun l => ob (rinv l) fun s => ob (qscale t s) fun t' => ob (qscale b s) fun b' => some (t', b')
noncomputable def fmake (t b : P) : Option R := match b with
  | [] => none
  | y :: b' => match t with
    | [] => some F0
    | x :: t' => ob (qgcd (x :: t') (y :: b')) fun c => match Nat.ble 2 c.length with
      | true => ob (qdivmod (x :: t') c) fun x => ob (qdivmod (y :: b') c) fun y => fmake2 x.1 y.1
      | false => fmake2 (x :: t') (y :: b')
noncomputable def fpoly (p : P) : R := (p, [(1, 1)])
noncomputable def fadd (f g : R) : Option R := ob (qmul f.1 g.2) fun x => ob (qmul g.1 f.2) fun y => ob (qadd x y) fun z => ob (qmul f.2 g.2) fun b => fmake z b
noncomputable def fneg (f : R) : R := (qneg f.1, f.2)
noncomputable def fsub (f g : R) : Option R := fadd f (fneg g)
noncomputable def fderive (f : R) : Option R := ob (qderive f.1) fun dt => ob (qmul dt f.2) fun x => ob (qderive f.2) fun db => ob (qmul f.1 db) fun y => ob (qsub x y) fun z => ob (qmul f.2 f.2) fun b => fmake z b

-- division over the ints
noncomputable def zexLoop (b : List Int) (bl : Int) : Nat → List Int → List Int → Option (List Int)
  | 0, _, _ => none
  | n + 1, rest, found => match Nat.ble b.length rest.length with
    | false => (match rest with
      | [] => some found
      | _ :: _ => none)
    | true => ob rest.getLast? fun l => gd (intB (l.fmod bl) 0) (ob (zscale b (l.fdiv bl)) fun s => ob (zraise s (Nat.sub rest.length b.length)) fun s' => ob (zsub rest s') fun rest' =>
      gd (Nat.ble (Nat.succ (Nat.sub rest.length b.length)) found.length) (zexLoop b bl n rest' (found.set (Nat.sub rest.length b.length) (l.fdiv bl))))
noncomputable def zexact (a b : List Int) : Option (List Int) := ob b.getLast? fun bl => match intB bl 0 with
  | true => none
  | false => gd (okI bl) (gd (Nat.ble a.length 1000) (ob (zexLoop b bl (Nat.succ a.length) a (List.replicate (Nat.sub (Nat.succ a.length) b.length) 0)) fun f => some (ztrim f)))
noncomputable def psLoop (b : List Int) (first : Int) : Nat → List Int → List Int → Nat → Option (List Int × List Int × Nat)
  | 0, _, _, _ => none
  | n + 1, rest, found, left => match Nat.ble b.length rest.length with
    | false => some (rest, found, left)
    | true => ob rest.getLast? fun l => ob (zscale found first) fun f1 => ob (zraise [-l] (Nat.sub rest.length b.length)) fun f2 => ob (zsub f1 f2) fun f3 => ob (zscale rest first) fun r1 => ob (zscale b l) fun s => ob (zraise s (Nat.sub rest.length b.length)) fun s' =>
      ob (zsub r1 s') fun r3 => match left with
        | 0 => none
        | Nat.succ left => psLoop b first n r3 f3 left
abbrev Z3 := List Int × List Int × Nat
noncomputable def pseudo (a b : List Int) : Option Z3 := ob b.getLast? fun first => gd (Nat.ble a.length 1000) (gd (okI first) (ob (psLoop b first (Nat.succ a.length) a [] (Nat.sub (Nat.succ a.length) b.length)) fun x => gd (Nat.ble x.2.2 1000) (ob (zscale x.2.1 (first ^ x.2.2)) fun y =>
  ob (zscale x.1 (first ^ x.2.2)) fun z => some (y, z, Nat.sub (Nat.succ a.length) b.length))))
noncomputable def nextHeight (front : Int) (step : Nat) (height : Int) : Option Int := match step with
  | 0 => some height
  | Nat.succ s => match intB (height ^ s) 0 with
    | true => none
    | false => gd (okI front) (gd (okI height) (gd (Nat.ble (Nat.succ s) 10) (gd (okI (height ^ s)) (some ((front ^ (Nat.succ s)).fdiv (height ^ s))))))
noncomputable def subLoop : Nat → List (List Int) → List Int → List Int → Int → Int → Option (List (List Int))
  | 0, _, _, _, _, _ => none
  | n + 1, row, a, b, front, height => match Nat.ble 2 b.length with
    | false => some row
    | true => ob (pseudo a b) fun x => match x.2.1 with
      | [] => some row
      | y :: rest => gd (Nat.ble b.length a.length) (gd (Nat.ble (Nat.sub a.length b.length) 10) (gd (okI front) (gd (okI height) (gd (okI (height ^ (Nat.sub a.length b.length))) (gd (Nat.ble row.length 1000)
        (ob (zdivided (y :: rest) (front * height ^ (Nat.sub a.length b.length))) fun b' => ob b.getLast? fun fr => ob (nextHeight fr (Nat.sub a.length b.length) height) fun h' => subLoop n (row ++ [b']) b b' fr h'))))))
noncomputable def subres (a b : List Int) : Option (List (List Int)) := match Nat.ble b.length a.length with
  | true => subLoop 50 [a, b] a b 1 1
  | false => subLoop 50 [b, a] b a 1 1
noncomputable def zgcd (a b : List Int) : Option (List Int) := match a with
  | [] => ob (zprimitive b) fun p => zscale p (gcdAll b)
  | x :: a' => match b with
    | [] => ob (zprimitive (x :: a')) fun p => zscale p (gcdAll (x :: a'))
    | y :: b' => ob (zprimitive (x :: a')) fun pa => ob (zprimitive (y :: b')) fun pb => ob (subres pa pb) fun rows => ob rows.getLast? fun last => match Nat.ble 2 last.length with
      | true => ob (zprimitive last) fun p => zscale p (Nat.gcd (gcdAll (x :: a')) (gcdAll (y :: b')))
      | false => some [(Nat.gcd (gcdAll (x :: a')) (gcdAll (y :: b')) : Int)]
noncomputable def yunLoop : Nat → Nat → List Int → List Int → List (List Int × Nat) → Option (List (List Int × Nat))
  | 0, _, _, _, _ => none
  | n + 1, many, left, rest, found => match Nat.ble 2 left.length with
    | false => some found
    | true => ob (zgcd left rest) fun part => ob (zexact left part) fun left' => ob (zexact rest part) fun e => ob (zderive left') fun dl => ob (zsub e dl) fun rest' => gd (Nat.ble found.length 1000) (match Nat.ble 2 part.length with
      | true => yunLoop n (Nat.succ many) left' rest' (found ++ [(part, many)])
      | false => yunLoop n (Nat.succ many) left' rest' found)
noncomputable def yun (p : List Int) : Option (List (List Int × Nat)) := ob (zprimitive p) fun whole => ob (zderive whole) fun dw => ob (zgcd whole dw) fun common => ob (zexact whole common) fun left => ob (zexact dw common) fun e => ob (zderive left) fun dl => ob (zsub e dl) fun rest =>
  yunLoop 50 1 left rest []

-- hermite
noncomputable def sfp (p : P) : Option (List (P × Nat)) := ob (toZ p) fun z => ob (yun z.1) fun l => mapO (fun x : List Int × Nat => gd (Nat.ble 2 x.1.length) (ob (qmonic (fromZ x.1)) fun m => some (m, x.2))) l
noncomputable def solved (a b c : P) : Option (P × P) := ob (qextended a b) fun x => ob (qmul x.2.1 c) fun lc => ob (qdivmod lc b) fun y => ob (qmul x.2.2 c) fun rc => ob (qmul y.1 a) fun wa => ob (qadd rc wa) fun t => some (y.2, t)
noncomputable def lowStep (slope part other : P) (s : R × P) (n : Nat) : Option (R × P) := ob (ratI (-1) (Int.ofNat n)) fun r1 => ob (qscale s.2 r1) fun st => ob (solved slope part st) fun x => ob (qpower part n) fun pw => ob (fmake x.1 pw) fun fm => ob (fadd s.1 fm) fun found' =>
  ob (ratI (- (Int.ofNat n)) 1) fun r2 => ob (qscale x.2 r2) fun sr => ob (qderive x.1) fun da => ob (qmul other da) fun od => ob (qsub sr od) fun top' => some (found', top')
noncomputable def lowered (top other part : P) (many : Nat) : Option (R × P) := ob (qderive part) fun dp => ob (qmul other dp) fun slope => gd (Nat.ble many 1000) (foldO (lowStep slope part other) (F0, top) ((List.range (many - 1)).map fun i => many - 1 - i))
noncomputable def hermStep (s : R × P × P) (x : P × Nat) : Option (R × P × P) := match Nat.ble 2 x.2 with
  | false => some s
  | true => ob (qpower x.1 x.2) fun pw => ob (qdivmod s.2.1 pw) fun y => ob (lowered s.2.2 y.1 x.1 x.2) fun z => ob (fadd s.1 z.1) fun found' => ob (qmul y.1 x.1) fun bottom' => some (found', bottom', z.2)
noncomputable def hermite (f : R) : Option (R × R) := ob (qdivmod f.1 f.2) fun x => ob (qintegral x.1) fun qi => ob (match Nat.ble 2 f.2.length with
  | true => sfp f.2
  | false => some []) fun parts => ob (foldO hermStep (fpoly qi, f.2, x.2) parts) fun y => ob (fmake y.2.2 y.2.1) fun m => some (y.1, m)

-- the law's helpers
noncomputable def poleStep (root : Int) (b : List Int) : List Int := List.zipWith (fun x y => x - root * y) (0 :: b) (b ++ [0])
noncomputable def poleLoop (root : Int) : Nat → List Int → Option (List Int)
  | 0, b => some b
  | n + 1, b => gd (b.all okI) (poleLoop root n (poleStep root b))
noncomputable def pole (number root : Int) (many : Nat) : Option R := gd (okI root) (gd (Nat.ble many 1000) (ob (poleLoop root many [1]) fun b => fmake [(number, 1)] (fromZ b)))
noncomputable def ordDiv (root : Int) : P → Q → Option P
  | [], _ => some []
  | x :: r, c => gd (okI root) (gd (okI x.1) (gd (okI c.1) (gd (okI (c.1 * root)) (gd (Nat.ble (Nat.add x.2 c.2) lim)
    (ob (ordDiv root r (x.1 * Int.ofNat c.2 + c.1 * root * Int.ofNat x.2, Nat.mul x.2 c.2)) fun t => some ((x.1 * Int.ofNat c.2 + c.1 * root * Int.ofNat x.2, Nat.mul x.2 c.2) :: t))))))
noncomputable def eqQ (a b : Q) : Bool := match intB a.1 b.1 with
  | true => Nat.beq a.2 b.2
  | false => false
noncomputable def eqP : P → P → Bool
  | [], b => (match b with
    | [] => true
    | _ :: _ => false)
  | x :: a, b => match b with
    | [] => false
    | y :: b => match eqQ x y with
      | true => eqP a b
      | false => false
noncomputable def eqR (a b : R) : Bool := match eqP a.1 b.1 with
  | true => eqP a.2 b.2
  | false => false
noncomputable def ordLoop (root : Int) : Nat → P → Nat → Option Nat
  | 0, _, _ => none
  | n + 1, bottom, many => match Nat.ble 2 bottom.length with
    | false => some many
    | true => ob (qat bottom (root, 1)) fun v => match eqQ v (0, 1) with
      | false => some many
      | true => gd (Nat.ble bottom.length 1000) (ob (ordDiv root bottom.reverse (0, 1)) fun l => ordLoop root n l.dropLast.reverse (Nat.succ many))
noncomputable def order (f : R) (root : Int) : Option Nat := ordLoop root 50 f.2 0

-- the law behind its draws
noncomputable def fStep (first : Int) (s : R) (x : Nat × Nat) : Option R := ob (pole (1 + (x.1 : Int)) (first + (x.2 : Int)) 1) fun p => fadd s p
noncomputable def theF (first : Int) (ps : List Nat) : Option R := foldO (fStep first) F0 ps.zipIdx
noncomputable def theG (root : Int) (x z u : Nat) : Option R := ob (pole (1 + (x : Int)) root (1 + z)) fun p => fadd p (fpoly [(0, 1), (1 + (u : Int), 1)])
noncomputable def rootOk (done whole left : R) (root : Int) : Bool := match order done root with
  | none => false
  | some o1 => match order whole root with
    | none => false
    | some o2 => match order left root with
      | none => false
      | some o3 => match Nat.beq o1 (Nat.sub o2 1) with
        | false => false
        | true => Nat.ble o3 1
noncomputable def rootsOk (done whole left : R) : Nat → Int → Bool
  | 0, _ => true
  | n + 1, root => match rootOk done whole left root with
    | false => false
    | true => rootsOk done whole left n (root + 1)
noncomputable def wholeOk (first : Int) (f g dg : R) : Bool := match fadd f dg with
  | none => false
  | some whole => match hermite whole with
    | none => false
    | some x => match eqR x.2 f with
      | false => false
      | true => match Nat.ble x.2.2.length x.2.1.length with
        | true => false
        | false => match fsub x.1 g with
          | none => false
          | some apart => match Nat.ble apart.1.length 1 with
            | false => false
            | true => match Nat.ble apart.2.length 1 with
              | false => false
              | true => rootsOk x.1 whole x.2 5 (first - 1)
noncomputable def gOk (g dg : R) : Bool := match hermite dg with
  | none => false
  | some x => match eqR x.2 F0 with
    | false => false
    | true => match fsub x.1 g with
      | none => false
      | some y => Nat.ble y.1.length 1
noncomputable def fOk (f : R) : Bool := match hermite f with
  | none => false
  | some h => match eqR h.1 F0 with
    | false => false
    | true => eqR h.2 f
noncomputable def endOk : Bool := match pole 3 0 3 with
  | none => false
  | some p => match hermite p with
    | none => false
    | some x => match eqR x.2 F0 with
      | false => false
      | true => match fmake [(-3, 1)] [(0, 1), (0, 1), (2, 1)] with
        | none => false
        | some q => eqR x.1 q
noncomputable def caseOk (first : Int) (ps : List Nat) (x y z u : Nat) : Bool := match theF first ps with
  | none => false
  | some f => match theG (first + (y : Int)) x z u with
    | none => false
    | some g => match fderive g with
      | none => false
      | some dg => wholeOk first f g dg
noncomputable def caseG (root : Int) (x z u : Nat) : Bool := match theG root x z u with
    | none => false
    | some g => match fderive g with
      | none => false
      | some dg => gOk g dg
noncomputable def caseF (first : Int) (ps : List Nat) : Bool := match theF first ps with
    | none => false
    | some f => fOk f

inductive Chain {α β : Type} (S : β → α → β → Prop) : β → List α → β → Prop
  | nil {b : β} : Chain S b [] b
  | cons {b b' r : β} {a : α} {l : List α} : S b a b' → Chain S b' l r → Chain S b (a :: l) r
noncomputable def CellStep (x : Q) (i : Nat) (found : P) (y : Q × Nat) (found' : P) : Prop := ∃ f m s, found[i + y.2]? = some f ∧ rmul x y.1 = some m ∧ radd f m = some s ∧ found' = found.set (i + y.2) s
theorem mulRow_chain {x : Q} {i : Nat} : ∀ {b t r pre : P} {j : Nat}, mulRow x b t = some r → pre.length = i + j → Chain (CellStep x i) (pre ++ t) (b.zipIdx j) (pre ++ r)
  | [], t, r, pre, j, h, hp => by cases h; exact .nil
  | y :: b, t, r, pre, j, h, hp => by
    unfold mulRow at h
    split at h
    · cases h
    · rename_i f t
      obtain ⟨m, hm, h⟩ := ob_some h
      obtain ⟨s, hs, h⟩ := ob_some h
      obtain ⟨r', hr, h⟩ := ob_some h
      cases h
      rw [List.zipIdx_cons]
      refine .cons (b' := pre ++ s :: t) ⟨f, m, s, ?_, hm, hs, ?_⟩ ?_
      · show (pre ++ f :: t)[i + j]? = some f
        rw [← hp, List.getElem?_append_right (by omega)]; simp
      · show _ = (pre ++ f :: t).set (i + j) s
        rw [← hp, List.set_append_right _ _ (by omega)]; simp
      · have := mulRow_chain (x := x) (i := i) (pre := pre ++ [s]) (j := j + 1) hr (by simp; omega)
        simpa using this
noncomputable def RowStep (b : P) (found : P) (x : Q × Nat) (found' : P) : Prop := ∃ pre t r, found = pre ++ t ∧ pre.length = x.2 ∧ mulRow x.1 b t = some r ∧ found' = pre ++ r
theorem mulRows_chain {b : P} : ∀ {a t r pre : P} {i : Nat}, mulRows b a t = some r → pre.length = i → Chain (RowStep b) (pre ++ t) (a.zipIdx i) (pre ++ r)
  | [], t, r, pre, i, h, hp => by cases h; exact .nil
  | x :: a, t, r, pre, i, h, hp => by
    unfold mulRows at h
    obtain ⟨t1, h1, h⟩ := ob_some h
    split at h
    · cases h
    · rename_i c t'
      obtain ⟨r', hr, h⟩ := ob_some h
      cases h
      rw [List.zipIdx_cons]
      refine .cons ⟨pre, t, c :: t', rfl, hp, h1, rfl⟩ ?_
      have := mulRows_chain (b := b) (pre := pre ++ [c]) (i := i + 1) hr (by simp; omega)
      simpa using this
end F
end Mine
end
section
open PySem PySem.W PyProof.Rows PySem.Calls
set_option Elab.async false
set_option maxRecDepth 100000
set_option linter.unusedVariables false
set_option linter.unusedSimpArgs false
namespace Mine

inductive PV where
  | none | bool (b : Bool) | int (i : Int) | tup (l : List PV) | lst (l : List PV) | mt (i : Nat) | ils (ns : List Int)

mutual
noncomputable def Rep (h : Heap) (as : List Addr) : PV → Value → Prop
  | .none, v => v = .none
  | .bool b, v => v = .bool b
  | .int i, v => ∃ t, v = .int i t
  | .tup l, v => ∃ a vs n, v = .ref a ∧ a ∉ as ∧ h.get? a = some { cls := .type "tuple", data := .seq (List.toArray vs) n } ∧ RepL h as l vs ∧ l.length ≤ 1048576
  | .lst l, v => ∃ a vs n, v = .ref a ∧ a ∉ as ∧ h.get? a = some { cls := .type "list", data := .seq (List.toArray vs) n } ∧ RepL h as l vs ∧ l.length ≤ 1048576
  | .mt i, v => ∃ a, v = .ref a ∧ as[i]? = some a
  | .ils ns, v => ∃ a vs, v = .ref a ∧ a ∉ as ∧ h.IsList a (List.toArray vs) ∧ IntsAre vs ns
noncomputable def RepL (h : Heap) (as : List Addr) : List PV → List Value → Prop
  | [], vs => vs = []
  | p :: l, vs => ∃ v r, vs = v :: r ∧ Rep h as p v ∧ RepL h as l r
end

mutual
noncomputable def noMt : PV → Bool
  | .mt _ => false
  | .tup l => noMtL l
  | .lst l => noMtL l
  | _ => true
noncomputable def noMtL : List PV → Bool
  | [] => true
  | p :: l => noMt p && noMtL l
end
mutual
theorem Rep.trunc {h as bs} : ∀ (p : PV) (v : Value), noMt p = true → Rep h (as ++ bs) p v → Rep h as p v
  | .none, _, _, r => r
  | .bool _, _, _, r => r
  | .int _, _, _, r => r
  | .tup l, v, e, ⟨a, vs, n, e1, ha, ho, r, hz⟩ => ⟨a, vs, n, e1, fun hm => ha (List.mem_append_left _ hm), ho, RepL.trunc l vs e r, hz⟩
  | .lst l, v, e, ⟨a, vs, n, e1, ha, ho, r, hz⟩ => ⟨a, vs, n, e1, fun hm => ha (List.mem_append_left _ hm), ho, RepL.trunc l vs e r, hz⟩
  | .mt i, _, e, _ => by cases e
  | .ils ns, v, e, ⟨a, vs, e1, ha, r⟩ => ⟨a, vs, e1, fun hm => ha (List.mem_append_left _ hm), r⟩
theorem RepL.trunc {h as bs} : ∀ (l : List PV) (vs : List Value), noMtL l = true → RepL h (as ++ bs) l vs → RepL h as l vs
  | [], _, _, r => r
  | p :: l, _, e, ⟨v, r, e1, hp, hl⟩ => ⟨v, r, e1, Rep.trunc p v (Bool.and_eq_true_iff.mp e).1 hp, RepL.trunc l r (Bool.and_eq_true_iff.mp e).2 hl⟩
end

structure Step (X : List Addr) (as : List Addr) (h : Heap) (as' : List Addr) (h' : Heap) : Prop where
  ext : ∃ bs, as' = as ++ bs ∧ ∀ b ∈ bs, h.get? b = .none
  live : ∀ b o, h.get? b = some o → ∃ o', h'.get? b = some o'
  keep : ∀ b o, b ∉ as → b ∉ X → h.get? b = some o → h'.get? b = some o

theorem Step.refl (X as h) : Step X as h as h := ⟨⟨[], by simp, by simp⟩, fun _ o e => ⟨o, e⟩, fun _ _ _ _ e => e⟩

theorem Step.notin {X as h as' h'} (S : Step X as h as' h') {b o} (hb : b ∉ as) (e : h.get? b = some o) : b ∉ as' := by
  obtain ⟨bs, rfl, hbs⟩ := S.ext
  intro hm
  rcases List.mem_append.mp hm with hm | hm
  · exact hb hm
  · rw [hbs b hm] at e; cases e

theorem Step.trans {X as h as₁ h₁ as₂ h₂} (S : Step X as h as₁ h₁) (T : Step X as₁ h₁ as₂ h₂) : Step X as h as₂ h₂ := by
  obtain ⟨bs, rfl, hbs⟩ := S.ext
  obtain ⟨cs, rfl, hcs⟩ := T.ext
  refine ⟨⟨bs ++ cs, by simp, fun b hb => ?_⟩, fun b o e => ?_, fun b o hb hx e => T.keep b o (S.notin hb e) hx (S.keep b o hb hx e)⟩
  · rcases List.mem_append.mp hb with hb | hb
    · exact hbs b hb
    · cases e : h.get? b with
      | none => rfl
      | some o =>
        obtain ⟨o', e'⟩ := S.live b o e
        rw [hcs b hb] at e'; cases e'
  · obtain ⟨o', e'⟩ := S.live b o e
    exact T.live b o' e'

theorem Step.weak {X Y as h as' h'} (S : Step X as h as' h') (hs : ∀ b ∈ X, b ∈ Y) : Step Y as h as' h' :=
  ⟨S.ext, S.live, fun b o hb hy e => S.keep b o hb (fun hx => hy (hs b hx)) e⟩

theorem Step.of_keeps {as h h'} (k : ∀ b o, h.get? b = some o → h'.get? b = some o) (X : List Addr := []) : Step X as h as h' :=
  ⟨⟨[], by simp, by simp⟩, fun b o e => ⟨o, k b o e⟩, fun b o _ _ e => k b o e⟩

noncomputable def NoSeq (X : List Addr) (h : Heap) : Prop := ∀ b ∈ X, ∀ o, h.get? b = some o → ∀ vs n, o.data ≠ .seq vs n
noncomputable def OnlyFrames (X : List Addr) (h : Heap) : Prop := ∀ b ∈ X, ∀ o, h.get? b = some o → (∃ es ep, o.data = .dict es ep) ∨ ∃ v, o.data = .cell v
noncomputable def OnlyFields (X : List Addr) (h : Heap) : Prop := ∀ b ∈ X, ∀ o, h.get? b = some o → ∃ vs, o.data = .fields vs
theorem OnlyFrames.noSeq {X h} (F : OnlyFrames X h) : NoSeq X h := fun b hb o ho vs n hd => by
  rcases F b hb o ho with ⟨_, _, e⟩ | ⟨_, e⟩ <;> rw [e] at hd <;> cases hd
theorem OnlyFields.noSeq {X h} (F : OnlyFields X h) : NoSeq X h := fun b hb o ho vs n hd => by
  obtain ⟨_, e⟩ := F b hb o ho
  rw [e] at hd; cases hd
theorem NoSeq.nil (h) : NoSeq [] h := fun _ hb => nomatch hb

mutual
theorem Rep.mono {X as h as' h'} (S : Step X as h as' h') (N : NoSeq X h) : ∀ (p : PV) (v : Value), Rep h as p v → Rep h' as' p v
  | .none, _, r => r
  | .bool _, _, r => r
  | .int _, _, r => r
  | .tup l, v, ⟨a, vs, n, e, ha, ho, r, hz⟩ => ⟨a, vs, n, e, S.notin ha ho, S.keep a _ ha (fun hx => N a hx _ ho _ _ rfl) ho, RepL.mono S N l vs r, hz⟩
  | .lst l, v, ⟨a, vs, n, e, ha, ho, r, hz⟩ => ⟨a, vs, n, e, S.notin ha ho, S.keep a _ ha (fun hx => N a hx _ ho _ _ rfl) ho, RepL.mono S N l vs r, hz⟩
  | .mt i, v, ⟨a, e, ha⟩ => by
    obtain ⟨bs, rfl, _⟩ := S.ext
    refine ⟨a, e, ?_⟩
    rw [List.getElem?_append_left (by have := (List.getElem?_eq_some_iff.mp ha).1; exact this)]; exact ha
  | .ils ns, v, ⟨a, vs, e, ha, ⟨o, ho, hc, n, hd⟩, r⟩ => ⟨a, vs, e, S.notin ha ho, ⟨o, S.keep a _ ha (fun hx => N a hx _ ho _ _ hd) ho, hc, n, hd⟩, r⟩
theorem RepL.mono {X as h as' h'} (S : Step X as h as' h') (N : NoSeq X h) : ∀ (l : List PV) (vs : List Value), RepL h as l vs → RepL h' as' l vs
  | [], _, r => r
  | p :: l, _, ⟨v, r, e, hp, hl⟩ => ⟨v, r, e, Rep.mono S N p v hp, RepL.mono S N l r hl⟩
end

theorem RepL.length {h as} : ∀ {l : List PV} {vs : List Value}, RepL h as l vs → vs.length = l.length
  | [], _, r => by cases r; rfl
  | _ :: _, _, ⟨_, _, rfl, _, r⟩ => by simp [RepL.length r]

theorem RepL.get {h as} : ∀ {l : List PV} {vs : List Value} {i : Nat} {p : PV}, RepL h as l vs → l[i]? = some p → ∃ v, vs[i]? = some v ∧ Rep h as p v
  | [], _, i, _, _, e => by simp at e
  | q :: l, _, 0, p, ⟨v, r, rfl, hp, _⟩, e => by simp at e; subst e; exact ⟨v, rfl, hp⟩
  | q :: l, _, i + 1, p, ⟨v, r, rfl, _, hl⟩, e => by simp at e; simpa using RepL.get hl e

theorem RepL.append {h as} : ∀ {l l' : List PV} {vs vs' : List Value}, RepL h as l vs → RepL h as l' vs' → RepL h as (l ++ l') (vs ++ vs')
  | [], _, _, _, r, r' => by cases r; exact r'
  | _ :: _, _, _, _, ⟨v, r, rfl, hp, hl⟩, r' => ⟨v, _, rfl, hp, hl.append r'⟩

theorem RepL.set {h as} : ∀ {l : List PV} {vs : List Value} {p : PV} {v : Value} (i : Nat), RepL h as l vs → Rep h as p v → RepL h as (l.set i p) (vs.set i v)
  | [], _, _, _, _, r, _ => by cases r; simp [RepL]
  | _ :: _, _, _, _, 0, ⟨v, r, rfl, hp, hl⟩, r' => ⟨_, _, rfl, r', hl⟩
  | _ :: _, _, _, _, i + 1, ⟨v, r, rfl, hp, hl⟩, r' => ⟨_, _, rfl, hp, hl.set i r'⟩

theorem RepL.take {h as} : ∀ {l : List PV} {vs : List Value} (k : Nat), RepL h as l vs → RepL h as (l.take k) (vs.take k)
  | [], _, _, r => by cases r; simp [RepL]
  | _ :: _, _, 0, ⟨v, r, rfl, hp, hl⟩ => by simp [RepL]
  | _ :: _, _, k + 1, ⟨v, r, rfl, hp, hl⟩ => ⟨_, _, rfl, hp, hl.take k⟩
theorem RepL.drop {h as} : ∀ {l : List PV} {vs : List Value} (k : Nat), RepL h as l vs → RepL h as (l.drop k) (vs.drop k)
  | [], _, _, r => by cases r; simp [RepL]
  | _ :: _, _, 0, r => r
  | _ :: _, _, k + 1, ⟨v, r, rfl, hp, hl⟩ => by simpa using hl.drop k
theorem RepL.reverse {h as} : ∀ {l : List PV} {vs : List Value}, RepL h as l vs → RepL h as l.reverse vs.reverse
  | [], _, r => by cases r; simp [RepL]
  | _ :: _, _, ⟨v, r, rfl, hp, hl⟩ => by simp only [List.reverse_cons]; exact hl.reverse.append ⟨_, _, rfl, hp, rfl⟩

/-- the world: what stands at the law's call -/
structure Wd where
  prog : Program
  w : World
  H0 : Heap
  mg : Str → Option Value
  mb : Str → Option Value
structure Fn where
  params : Arguments
  body : List Stmt
  scope : Scope

structure Wd.FnAt (W : Wd) (n : Str) (a : Addr) (f : Fn) : Prop where
  glob : W.mg n = some (.ref a)
  obj : ∃ o pm code doc, W.H0.get? a = some o ∧ o.data = .func (docDef n f.params f.body f.scope pm code doc) ∧ W.H0.CodeRec code n

noncomputable def gconsts : List (Str × PV) := [("R0", .tup [.int 0, .int 1]), ("R1", .tup [.int 1, .int 1]), ("F0", .tup [.lst [], .lst [.tup [.int 1, .int 1]]])]
noncomputable def gbuiltins : List Str := ["abs", "len", "max", "list", "range", "enumerate", "reversed", "int", "sum"]
structure Wd.Ok (W : Wd) : Prop where
  g : W.H0.Ns mainGlobals W.mg
  b : W.H0.Ns builtinsNs W.mb
  nolimit : W.H0.NoLimit
  consts : ∀ x p, gconsts.lookup x = some p → ∃ v, W.mg x = some v ∧ Rep W.H0 [] p v
  builtins : ∀ x ∈ gbuiltins, W.mg x = .none ∧ W.mb x = bootBuiltins x

abbrev Vars := List (Str × PV)
abbrev Mem := List (List PV)

noncomputable def setV (x : Str) (p : PV) : Vars → Vars
  | [] => [(x, p)]
  | (y, q) :: r => if y = x then (x, p) :: r else (y, q) :: setV x p r
theorem lookup_setV (x : Str) (p : PV) (y : Str) : ∀ (σ : Vars), (setV x p σ).lookup y = if y = x then some p else σ.lookup y
  | [] => by
    by_cases h : y = x
    · subst h; simp [setV]
    · have hb : (y == x) = false := beq_eq_false_iff_ne.mpr h
      simp [setV, List.lookup, hb, h]
  | (z, q) :: r => by
    unfold setV
    by_cases hz : z = x
    · subst hz
      rw [if_pos rfl]
      by_cases h : y = z
      · subst h; simp [List.lookup]
      · have hb : (y == z) = false := beq_eq_false_iff_ne.mpr h
        simp [List.lookup, hb, h]
    · rw [if_neg hz]
      by_cases h : y = z
      · subst h; simp [List.lookup, hz]
      · have hb : (y == z) = false := beq_eq_false_iff_ne.mpr h
        simp only [List.lookup, hb]
        exact lookup_setV x p y r

noncomputable def VarAt (h : Heap) (env : Env) (x : Str) (v : Value) : Prop :=
  (env.kindOf x = some .local ∧ ∃ m, h.Ns env.locals m ∧ m x = some v) ∨
  ((env.kindOf x = some .cell ∨ env.kindOf x = some .free) ∧ ∃ c, env.cells.lookup x = some c ∧ h.IsCell c (some v))

noncomputable def frameAddrs (env : Env) : List Addr := env.locals :: env.cells.map (·.2)

structure Inv (W : Wd) (env : Env) (σ : Vars) (M : Mem) (as : List Addr) (h : Heap) : Prop where
  base : ∀ b o, W.H0.get? b = some o → h.get? b = some o
  len : as.length = M.length
  nodup : as.Nodup
  mem : ∀ (i : Nat) (a : Addr) (l : List PV), as[i]? = some a → M[i]? = some l → ∃ vs n, h.get? a = some { cls := .type "list", data := .seq (List.toArray vs) n } ∧ RepL h as l vs ∧ l.length ≤ 1048576 ∧ noMtL l = true
  fresh : ∀ a ∈ as, W.H0.get? a = none
  vars : ∀ x p, σ.lookup x = some p → ∃ v, VarAt h env x v ∧ Rep h as p v
  loc : (∃ m, h.Ns env.locals m) ∧ W.H0.get? env.locals = none
  cells : ∀ x c, (x, c) ∈ env.cells → (∃ v, h.IsCell c v) ∧ W.H0.get? c = none
  inj : ∀ x y c, env.cells.lookup x = some c → env.cells.lookup y = some c → x = y
  has : ∀ x, env.kindOf x = some .cell → ∃ c, env.cells.lookup x = some c

structure EnvOk (sc : Scope) (env : Env) : Prop where
  scope : env.scope = sc
  kind : sc.kind = .function
  globals : env.globals = mainGlobals
  builtins : env.builtins = builtinsNs

structure AOk (d : Nat) (A : Around) : Prop where
  handled : A.handled = none
  depth : A.depth + d < 900
  units : A.units + 20 * d < 9000

theorem AOk.mono {d d' A} (a : AOk d A) (h : d' ≤ d) : AOk d' A := ⟨a.handled, by have := a.depth; omega, by have := a.units; omega⟩

abbrev Post (W : Wd) (env : Env) (X : List Addr) (σ' : Vars) (M' : Mem) (as : List Addr) (s : Shared) {α : Type} (R : Heap → List Addr → α → Prop) (Q : α → Shared → Prop) : Prop :=
  ∀ v h' tk as', Inv W env σ' M' as' h' → Step X as s.heap as' h' → R h' as' v → Q v { s with heap := h', toks := tk }

structure Ev (W : Wd) (sc : Scope) (d : Nat) (σ : Vars) (M : Mem) {α : Type} (frame : Bool) (t : Env → Sem α) (R : Heap → List Addr → α → Prop) (σ' : Vars) (M' : Mem) : Prop where
  run : ∀ (A : Around) (env : Env) (s : Shared) (as : List Addr) (Q : α → Shared → Prop) (E : Value → Shared → Prop), AOk d A → EnvOk sc env → Inv W env σ M as s.heap →
    Post W env (if frame then frameAddrs env else []) σ' M' as s R Q → wpAny (model W.prog W.w) A (t env) Q E s

abbrev EvE (W : Wd) (sc : Scope) (d : Nat) (σ : Vars) (M : Mem) (e : Expr) (p : PV) (M' : Mem) : Prop :=
  Ev W sc d σ M false (eval e) (fun h as v => Rep h as p v) σ M'
abbrev EvL (W : Wd) (sc : Scope) (d : Nat) (σ : Vars) (M : Mem) (es : List Expr) (ps : List PV) (M' : Mem) : Prop :=
  ∀ pos, Ev W sc d σ M false (fun env => spliced (backTo pos (starEach es env))) (fun h as vs => RepL h as ps vs) σ M'
abbrev EvT (W : Wd) (sc : Scope) (d : Nat) (σ : Vars) (M : Mem) (e : Expr) (b : Bool) (M' : Mem) : Prop :=
  Ev W sc d σ M false (fun env => isTrue e env (eval e env)) (fun _ _ v => v = b) σ M'

inductive Fl where
  | nx | rt (p : PV)
noncomputable def FlRep (h : Heap) (as : List Addr) : Fl → Flow → Prop
  | .nx, f => f = .next
  | .rt p, f => ∃ v, f = .ret v ∧ Rep h as p v

abbrev EvS (W : Wd) (sc : Scope) (d : Nat) (σ : Vars) (M : Mem) (st : Stmt) (f : Fl) (σ' : Vars) (M' : Mem) : Prop :=
  Ev W sc d σ M true (exec st) (fun h as v => FlRep h as f v) σ' M'
abbrev EvB (W : Wd) (sc : Scope) (d : Nat) (σ : Vars) (M : Mem) (st : List Stmt) (f : Fl) (σ' : Vars) (M' : Mem) : Prop :=
  Ev W sc d σ M true (execs st) (fun h as v => FlRep h as f v) σ' M'

/-- the call of a def of the text -/
structure MemOk (W : Wd) (M : Mem) (as : List Addr) (h : Heap) : Prop where
  base : ∀ b o, W.H0.get? b = some o → h.get? b = some o
  len : as.length = M.length
  nodup : as.Nodup
  mem : ∀ (i : Nat) (a : Addr) (l : List PV), as[i]? = some a → M[i]? = some l → ∃ vs n, h.get? a = some { cls := .type "list", data := .seq (List.toArray vs) n } ∧ RepL h as l vs ∧ l.length ≤ 1048576 ∧ noMtL l = true
  fresh : ∀ a ∈ as, W.H0.get? a = none

noncomputable def CallV (W : Wd) (d : Nat) (f : Value) (ps : List PV) (M : Mem) (p : PV) (M' : Mem) : Prop :=
  ∀ (A : Around) (s : Shared) (as : List Addr) (vs : List Value) (Q : Value → Shared → Prop) (E : Value → Shared → Prop), AOk d A → MemOk W M as s.heap → RepL s.heap as ps vs →
    (∀ v h' tk, MemOk W M' as h' → Step [] as s.heap as h' → Rep h' as p v → Q v { s with heap := h', toks := tk }) → wpAny (model W.prog W.w) A (call f vs) Q E s
noncomputable def CallOk (W : Wd) (d : Nat) (n : Str) (ps : List PV) (M : Mem) (p : PV) (M' : Mem) : Prop := ∀ a, W.mg n = some (.ref a) → CallV W d (.ref a) ps M p M'

/-- assignment to a target -/
noncomputable def xOf (loc : Bool) (env : Env) : List Addr := if loc then [env.locals] else frameAddrs env
noncomputable def EvA (W : Wd) (sc : Scope) (d : Nat) (loc : Bool) (σ : Vars) (M : Mem) (t : Expr) (p : PV) (σ' : Vars) (M' : Mem) : Prop :=
  ∀ (A : Around) (env : Env) (s : Shared) (as : List Addr) (v : Value) (Q : Unit → Shared → Prop) (E : Value → Shared → Prop), AOk d A → EnvOk sc env → Inv W env σ M as s.heap → Rep s.heap as p v →
    (∀ h' tk, Inv W env σ' M' as h' → Step (xOf loc env) as s.heap as h' → Q () { s with heap := h', toks := tk }) → wpAny (model W.prog W.w) A (assign t env v) Q E s

end Mine
end
section
open PySem PySem.W PyProof.Rows PySem.Calls
set_option Elab.async false
set_option maxRecDepth 100000
set_option linter.unusedVariables false
set_option linter.unusedSimpArgs false
namespace Mine

section
variable {W : Wd} {env : Env} {σ : Vars} {M M' : Mem} {as : List Addr} {h h' : Heap}

theorem Inv.memOk (I : Inv W env σ M as h) : MemOk W M as h := ⟨I.base, I.len, I.nodup, I.mem, I.fresh⟩

theorem Inv.isSeq (I : Inv W env σ M as h) {b : Addr} (hb : b ∈ as) : ∃ vs n, h.get? b = some { cls := .type "list", data := .seq (List.toArray vs) n } := by
  obtain ⟨i, hi, rfl⟩ := List.getElem_of_mem hb
  obtain ⟨vs, n, e, _⟩ := I.mem i as[i] (M[i]'(I.len ▸ hi)) (by simp [hi]) (by simp [I.len ▸ hi])
  exact ⟨vs, n, e⟩
theorem MemOk.isSeq (I : MemOk W M as h) {b : Addr} (hb : b ∈ as) : ∃ vs n, h.get? b = some { cls := .type "list", data := .seq (List.toArray vs) n } := by
  obtain ⟨i, hi, rfl⟩ := List.getElem_of_mem hb
  obtain ⟨vs, n, e, _⟩ := I.mem i as[i] (M[i]'(I.len ▸ hi)) (by simp [hi]) (by simp [I.len ▸ hi])
  exact ⟨vs, n, e⟩

theorem Inv.loc_notin (I : Inv W env σ M as h) : env.locals ∉ as := fun hm => by
  obtain ⟨vs, n, e⟩ := I.isSeq hm
  obtain ⟨⟨m, o, es, ep, ho, hd, _⟩, _⟩ := I.loc
  rw [e] at ho; cases ho; cases hd
theorem Inv.cell_notin (I : Inv W env σ M as h) {x c} (hc : (x, c) ∈ env.cells) : c ∉ as := fun hm => by
  obtain ⟨vs, n, e⟩ := I.isSeq hm
  obtain ⟨⟨v, o, ho, hd⟩, _⟩ := I.cells x c hc
  rw [e] at ho; cases ho; cases hd
theorem Inv.cell_ne_loc (I : Inv W env σ M as h) {x c} (hc : (x, c) ∈ env.cells) : c ≠ env.locals := fun e => by
  obtain ⟨⟨m, o, es, ep, ho, hd, _⟩, _⟩ := I.loc
  obtain ⟨⟨v, o', ho', hd'⟩, _⟩ := I.cells x c hc
  rw [e, ho] at ho'; cases ho'; rw [hd] at hd'; cases hd'

theorem mem_of_lookup {α : Type} {x : Str} {a : α} : ∀ {l : List (Str × α)}, l.lookup x = some a → (x, a) ∈ l
  | (y, b) :: r, e => by
    rw [List.lookup_cons] at e
    by_cases h : x = y
    · subst h; simp at e; subst e; simp
    · have hb : (x == y) = false := beq_eq_false_iff_ne.mpr h
      rw [hb] at e
      exact List.mem_cons_of_mem _ (mem_of_lookup e)

theorem Inv.frames (I : Inv W env σ M as h) : OnlyFrames (frameAddrs env) h := by
  intro b hb o ho
  rcases List.mem_cons.mp hb with rfl | hb
  · obtain ⟨⟨m, o', es, ep, ho', hd', _⟩, _⟩ := I.loc
    rw [ho] at ho'; cases ho'; exact .inl ⟨_, _, hd'⟩
  · obtain ⟨⟨x, c⟩, hc, rfl⟩ := List.mem_map.mp hb
    obtain ⟨⟨v, o', ho', hd'⟩, _⟩ := I.cells x c hc
    rw [ho] at ho'; cases ho'; exact .inr ⟨_, hd'⟩
theorem Inv.noSeq (I : Inv W env σ M as h) : NoSeq (frameAddrs env) h := I.frames.noSeq

/-- the locals and the cells stand as they stood -/
theorem VarAt.keep {x : Str} {v : Value} (hk : ∀ b ∈ frameAddrs env, ∀ o, h.get? b = some o → h'.get? b = some o) (V : VarAt h env x v) : VarAt h' env x v := by
  rcases V with ⟨hl, m, hn, hm⟩ | ⟨hl, c, hc, o, ho, hd⟩
  · exact .inl ⟨hl, m, hn.at' fun o e => hk _ (by simp [frameAddrs]) o e, hm⟩
  · exact .inr ⟨hl, c, hc, o, hk _ (by simp only [frameAddrs, List.mem_cons]; right; exact List.mem_map.mpr ⟨_, mem_of_lookup hc, rfl⟩) o ho, hd⟩

theorem Inv.of_stepX {X : List Addr} (I : Inv W env σ M as h) (S : Step X as h as h') (hX : OnlyFields X h) (O : MemOk W M' as h') : Inv W env σ M' as h' := by
  have hk : ∀ b ∈ frameAddrs env, ∀ o, h.get? b = some o → h'.get? b = some o := fun b hb o e => by
    refine S.keep b o (fun hm => ?_) (fun hx => ?_) e
    rotate_left
    · obtain ⟨vs, hf⟩ := hX b hx o e
      rcases I.frames b hb o e with ⟨_, _, e'⟩ | ⟨_, e'⟩ <;> rw [hf] at e' <;> cases e'
    rcases List.mem_cons.mp hb with rfl | hb
    · exact I.loc_notin hm
    · obtain ⟨⟨x, c⟩, hc, rfl⟩ := List.mem_map.mp hb
      exact I.cell_notin hc hm
  refine ⟨O.base, O.len, O.nodup, O.mem, O.fresh, fun x p e => ?_, ⟨?_, I.loc.2⟩, fun x c hc => ⟨?_, (I.cells x c hc).2⟩, I.inj, I.has⟩
  · obtain ⟨v, V, R⟩ := I.vars x p e
    exact ⟨v, V.keep hk, R.mono S hX.noSeq⟩
  · obtain ⟨⟨m, hn⟩, _⟩ := I.loc
    exact ⟨m, hn.at' fun o e => hk _ (by simp [frameAddrs]) o e⟩
  · obtain ⟨⟨v, o, ho, hd⟩, _⟩ := I.cells x c hc
    exact ⟨v, o, hk _ (by simp only [frameAddrs, List.mem_cons]; right; exact List.mem_map.mpr ⟨_, hc, rfl⟩) o ho, hd⟩

theorem Inv.of_step (I : Inv W env σ M as h) (S : Step [] as h as h') (O : MemOk W M' as h') : Inv W env σ M' as h' := I.of_stepX S (fun _ hb => nomatch hb) O

theorem MemOk.grow (O : MemOk W M as h) (k : ∀ b o, h.get? b = some o → h'.get? b = some o) : MemOk W M as h' :=
  ⟨fun b o e => k b o (O.base b o e), O.len, O.nodup, fun i a l ha hl => by
    obtain ⟨vs, n, e, r, hz⟩ := O.mem i a l ha hl
    exact ⟨vs, n, k _ _ e, r.mono (Step.of_keeps k) (NoSeq.nil _), hz⟩, O.fresh⟩

theorem Inv.grow (I : Inv W env σ M as h) (k : ∀ b o, h.get? b = some o → h'.get? b = some o) : Inv W env σ M as h' :=
  I.of_step (Step.of_keeps k) (I.memOk.grow k)

theorem Inv.set_local (I : Inv W env σ M as h) {x : Str} {p : PV} {v : Value} {m : Str → Option Value} (hx : env.kindOf x = some .local) (hn : h.Ns env.locals m) (r : Rep h as p v)
    (hn' : h'.Ns env.locals (fun y => if y = x then some v else m y)) (hs : Heap.SameBut env.locals h h') : Inv W env (setV x p σ) M as h' ∧ Step [env.locals] as h as h' := by
  have S : Step [env.locals] as h as h' := ⟨⟨[], by simp, by simp⟩, fun b o e => by
    by_cases hb : b = env.locals
    · subst hb; obtain ⟨o', _, _, ho', _⟩ := hn'; exact ⟨o', ho'⟩
    · exact ⟨o, (hs.2 b hb).trans e⟩, fun b o _ hb e => (hs.2 b (by simpa using hb)).trans e⟩
  have N : NoSeq [env.locals] h := fun b hb o ho vs n hd => I.noSeq b (by simp at hb; simp [frameAddrs, hb]) o ho vs n hd
  refine ⟨⟨fun b o e => (hs.2 b ?_).trans (I.base b o e), I.len, I.nodup, fun i a l ha hl => ?_, I.fresh, fun y q e => ?_, ⟨⟨_, hn'⟩, I.loc.2⟩, fun y c hc => ⟨?_, (I.cells y c hc).2⟩, I.inj, I.has⟩, S⟩
  · rintro rfl; rw [I.loc.2] at e; cases e
  · obtain ⟨vs, n, e, rr, hz⟩ := I.mem i a l ha hl
    refine ⟨vs, n, (hs.2 a ?_).trans e, rr.mono S N, hz⟩
    rintro rfl; exact I.loc_notin (List.mem_of_getElem? ha)
  · rw [lookup_setV] at e
    by_cases hy : y = x
    · subst hy
      rw [if_pos rfl] at e; cases e
      exact ⟨v, .inl ⟨hx, _, hn', by simp⟩, r.mono S N⟩
    · rw [if_neg hy] at e
      obtain ⟨w, V, R⟩ := I.vars y q e
      refine ⟨w, ?_, R.mono S N⟩
      rcases V with ⟨hl, m', hm', e'⟩ | ⟨hl, c, hc, o, ho, hd⟩
      · refine .inl ⟨hl, _, hn', ?_⟩
        have : m' = m := by
          obtain ⟨o, es, ep, ho, hd, _, hf⟩ := hm'
          obtain ⟨o2, es2, ep2, ho2, hd2, _, hf2⟩ := hn
          rw [ho] at ho2; cases ho2; rw [hd] at hd2; cases hd2
          funext z; rw [← hf z, ← hf2 z]
        rw [if_neg hy, ← this]; exact e'
      · exact .inr ⟨hl, c, hc, o, (hs.2 c (I.cell_ne_loc (mem_of_lookup hc))).trans ho, hd⟩
  · obtain ⟨⟨w, o, ho, hd⟩, _⟩ := I.cells y c hc
    exact ⟨w, o, (hs.2 c (I.cell_ne_loc hc)).trans ho, hd⟩

theorem Inv.set_cell (I : Inv W env σ M as h) {x : Str} {p : PV} {v : Value} {c : Addr} (hx : env.kindOf x = some .cell ∨ env.kindOf x = some .free) (hc : env.cells.lookup x = some c) (r : Rep h as p v)
    (hv : h'.IsCell c (some v)) (hs : Heap.SameBut c h h') : Inv W env (setV x p σ) M as h' ∧ Step (frameAddrs env) as h as h' := by
  have hcm := mem_of_lookup hc
  have hin : c ∈ frameAddrs env := by simp only [frameAddrs, List.mem_cons]; right; exact List.mem_map.mpr ⟨_, hcm, rfl⟩
  have S : Step [c] as h as h' := ⟨⟨[], by simp, by simp⟩, fun b o e => by
    by_cases hb : b = c
    · subst hb; obtain ⟨o', ho', _⟩ := hv; exact ⟨o', ho'⟩
    · exact ⟨o, (hs.2 b hb).trans e⟩, fun b o _ hb e => (hs.2 b (by simpa using hb)).trans e⟩
  have N : NoSeq [c] h := fun b hb o ho vs n hd => I.noSeq b (by simp at hb; subst hb; exact hin) o ho vs n hd
  refine ⟨⟨fun b o e => (hs.2 b ?_).trans (I.base b o e), I.len, I.nodup, fun i a l ha hl => ?_, I.fresh, fun y q e => ?_, ⟨?_, I.loc.2⟩, fun y c' hc' => ⟨?_, (I.cells y c' hc').2⟩, I.inj, I.has⟩, S.weak (by simp [hin])⟩
  · rintro rfl; rw [(I.cells x _ hcm).2] at e; cases e
  · obtain ⟨vs, n, e, rr, hz⟩ := I.mem i a l ha hl
    refine ⟨vs, n, (hs.2 a ?_).trans e, rr.mono S N, hz⟩
    rintro rfl; exact I.cell_notin hcm (List.mem_of_getElem? ha)
  · rw [lookup_setV] at e
    by_cases hy : y = x
    · subst hy
      rw [if_pos rfl] at e; cases e
      exact ⟨v, .inr ⟨hx, c, hc, hv⟩, r.mono S N⟩
    · rw [if_neg hy] at e
      obtain ⟨w, V, R⟩ := I.vars y q e
      refine ⟨w, ?_, R.mono S N⟩
      rcases V with ⟨hl, m', hm', e'⟩ | ⟨hl, c', hc', o, ho, hd⟩
      · exact .inl ⟨hl, m', hm'.sameBut hs (Ne.symm (I.cell_ne_loc hcm)), e'⟩
      · refine .inr ⟨hl, c', hc', o, (hs.2 c' ?_).trans ho, hd⟩
        rintro rfl; exact hy (I.inj _ _ _ hc' hc)
  · obtain ⟨⟨m, hn⟩, _⟩ := I.loc
    exact ⟨m, hn.sameBut hs (Ne.symm (I.cell_ne_loc hcm))⟩
  · by_cases hcc : c' = c
    · subst hcc; exact ⟨_, hv⟩
    · obtain ⟨⟨w, o, ho, hd⟩, _⟩ := I.cells y c' hc'
      exact ⟨w, o, (hs.2 c' hcc).trans ho, hd⟩

theorem Inv.setMut (I : Inv W env σ M as h) {i : Nat} {a : Addr} {l : List PV} {vs : List Value} {n : Nat} (ha : as[i]? = some a) (hs : Heap.SameBut a h h') (ho : h'.get? a = some { cls := .type "list", data := .seq (List.toArray vs) n })
    (r : RepL h as l vs) (hz : l.length ≤ 1048576) (hm : noMtL l = true) : Inv W env σ (M.set i l) as h' ∧ Step [] as h as h' := by
  have hin : a ∈ as := List.mem_of_getElem? ha
  have S : Step [] as h as h' := ⟨⟨[], by simp, by simp⟩, fun b o e => by
    by_cases hb : b = a
    · subst hb; exact ⟨_, ho⟩
    · exact ⟨o, (hs.2 b hb).trans e⟩, fun b o hb _ e => (hs.2 b (fun e' => hb (e' ▸ hin))).trans e⟩
  refine ⟨I.of_step S ⟨fun b o e => ?_, by simp [I.len], I.nodup, fun j b l' hb hl' => ?_, I.fresh⟩, S⟩
  · refine (hs.2 b ?_).trans (I.base b o e)
    rintro rfl; rw [I.fresh _ hin] at e; cases e
  · by_cases hj : j = i
    · subst hj
      rw [ha] at hb; cases hb
      have hlt : j < M.length := by rw [← I.len]; exact (List.getElem?_eq_some_iff.mp ha).1
      rw [List.getElem?_set_self hlt] at hl'; cases hl'
      exact ⟨vs, n, ho, r.mono S (NoSeq.nil _), hz, hm⟩
    · rw [List.getElem?_set_ne (Ne.symm hj)] at hl'
      obtain ⟨ws, m, e, rr, z, hm'⟩ := I.mem j b l' hb hl'
      refine ⟨ws, m, (hs.2 b ?_).trans e, rr.mono S (NoSeq.nil _), z, hm'⟩
      rintro rfl
      have h1 := (List.getElem?_eq_some_iff.mp ha)
      have h2 := (List.getElem?_eq_some_iff.mp hb)
      obtain ⟨k1, e1⟩ := h1
      obtain ⟨k2, e2⟩ := h2
      rcases Nat.lt_or_gt_of_ne hj with h | h
      · exact List.pairwise_iff_getElem.mp I.nodup j i k2 k1 h (e2.trans e1.symm)
      · exact List.pairwise_iff_getElem.mp I.nodup i j k1 k2 h (e1.trans e2.symm)
end
end Mine
end
section
open PySem PySem.W PyProof.Rows PySem.Calls
set_option Elab.async false
set_option maxRecDepth 100000
set_option linter.unusedVariables false
set_option linter.unusedSimpArgs false
namespace Mine

section
variable {W : Wd} {sc : Scope} {d : Nat} {σ : Vars} {M M₁ M₂ : Mem}

theorem EnvOk.isFun {env : Env} (hE : EnvOk sc env) : env.scope.kind = .function := by rw [hE.scope]; exact hE.kind
theorem EnvOk.kindOf {env : Env} (hE : EnvOk sc env) (x : Str) : env.kindOf x = sc.names.lookup x := by unfold Env.kindOf; rw [hE.scope]
theorem EnvOk.notClass {env : Env} (hE : EnvOk sc env) : (env.scope.kind == .class || (env.scope.kind == .module && env.locals != env.globals)) = false := by rw [hE.isFun]; rfl

theorem Ev.weakX {α : Type} {t : Env → Sem α} {R} {σ' : Vars} (h : Ev W sc d σ M false t R σ' M₁) : Ev W sc d σ M true t R σ' M₁ :=
  Ev.mk fun A env s as Q E hA hE I post => h.run A env s as Q E hA hE I fun v h' tk as' I' S r => post v h' tk as' I' (S.weak (by simp)) r

-- names of the frame
theorem E_var {x : Str} {p : PV} {pos : Pos} (hx : σ.lookup x = some p) (hd : (x == ("__debug__" : Str)) = false := by rfl) (hc : (x == ("__classdict__" : Str)) = false := by rfl) :
    EvE W sc d σ M (.Name x pos) p M := by
  refine ⟨fun A env s as Q E hA hE I post => ?_⟩
  obtain ⟨v, V, R⟩ := I.vars x p hx
  have fin : Q v s := post v s.heap s.toks as I (Step.refl ..) R
  rcases V with ⟨hl, m, hn, hm⟩ | ⟨hl, c, hcl, hv⟩
  · exact wpAny_Name (wpAny_loadName_local hE.isFun hl hn hm fin) hd
  · rcases hl with hl | hl
    · exact wpAny_Name (wpAny_loadName_cell hE.isFun hl hcl hv fin) hd
    · exact wpAny_Name (wpAny_loadName_free hE.isFun hl hcl hv fin hc) hd

theorem E_int {i : Int} {k : Nat} {pos : Pos} : EvE W sc d σ M (.Constant (.int i) k pos) (.int i) M := Ev.mk fun A env s as Q E hA hE I post =>
  wpAny_Constant_int (post _ s.heap _ as I (Step.refl ..) ⟨_, rfl⟩)
theorem E_none {k : Nat} {pos : Pos} : EvE W sc d σ M (.Constant .none k pos) .none M := Ev.mk fun A env s as Q E hA hE I post =>
  wpAny_pure (post _ s.heap s.toks as I (Step.refl ..) rfl)
theorem E_bool {b : Bool} {k : Nat} {pos : Pos} : EvE W sc d σ M (.Constant (.bool b) k pos) (.bool b) M := Ev.mk fun A env s as Q E hA hE I post =>
  wpAny_pure (post _ s.heap s.toks as I (Step.refl ..) rfl)

theorem Inv.fromBase {env : Env} {as : List Addr} {h : Heap} (I : Inv W env σ M as h) : Step [] [] W.H0 as h :=
  ⟨⟨as, rfl, I.fresh⟩, fun b o e => ⟨o, I.base b o e⟩, fun b o _ _ e => I.base b o e⟩

theorem E_glob (O : W.Ok) {x : Str} {p : PV} {pos : Pos} (hx : gconsts.lookup x = some p) (hk : sc.names.lookup x = some .globalImplicit := by rfl) (hd : (x == ("__debug__" : Str)) = false := by rfl) :
    EvE W sc d σ M (.Name x pos) p M := by
  refine ⟨fun A env s as Q E hA hE I post => ?_⟩
  obtain ⟨v, hv, R⟩ := O.consts x p hx
  refine Name_function_global hE.isFun ((hE.kindOf x).trans hk) ?_ hd
  refine loadGlobal_global (env := env) (mg := W.mg) (by rw [hE.globals]; exact O.g.keeps I.base) hv ?_
  exact post v s.heap s.toks as I (Step.refl ..) (R.mono I.fromBase (NoSeq.nil _))

-- lists of expressions
theorem L_nil : EvL W sc d σ M [] [] M := fun pos => Ev.mk fun A env s as Q E hA hE I post => spliced_nil (post [] s.heap s.toks as I (Step.refl ..) rfl)
theorem L_cons {e : Expr} {es : List Expr} {p : PV} {ps : List PV} (h1 : EvE W sc d σ M e p M₁) (h2 : EvL W sc d σ M₁ es ps M₂)
    (he : ∀ env, starEach (e :: es) env = (false, eval e env) :: starEach es env := by intro _; rfl) : EvL W sc d σ M (e :: es) (p :: ps) M₂ := by
  intro pos
  refine ⟨fun A env s as Q E hA hE I post => ?_⟩
  try dsimp only
  rw [he]
  show wpAny _ A (spliced ((false, eval e env) :: backTo pos (starEach es env))) _ _ _
  refine spliced_cons (h1.run A env s as _ E hA hE I fun v h' tk as' I' S r => ?_)
  refine (h2 pos).run A env _ as' _ E hA hE I' fun vs h'' tk' as'' I'' S' r' => ?_
  exact post (v :: vs) h'' tk' as'' I'' (S.trans S') ⟨v, vs, rfl, r.mono S' (NoSeq.nil _), r'⟩

-- operations on ints
section
variable {l r : Expr} {pos : Pos} {a b : Int}

theorem E_bin {op : Operator} {p q t : PV} (h1 : EvE W sc d σ M l p M₁) (h2 : EvE W sc d σ M₁ r q M₂)
    (h : ∀ (A : Around) (env : Env) (s : Shared) (as : List Addr) (u v : Value) (Q : Value → Shared → Prop) (E : Value → Shared → Prop), AOk d A → Inv W env σ M₂ as s.heap → Rep s.heap as p u → Rep s.heap as q v →
      (∀ w h' tk, Inv W env σ M₂ as h' → Step [] as s.heap as h' → Rep h' as t w → Q w { s with heap := h', toks := tk }) → wpAny (model W.prog W.w) A (binaryOp op u v) Q E s) :
    EvE W sc d σ M (.BinOp l op r pos) t M₂ := by
  refine ⟨fun A env s as Q E hA hE I post => ?_⟩
  refine wpAny_BinOp (h1.run A env s as _ E hA hE I fun v h' tk as' I' S rr => ?_)
  refine h2.run A env _ as' _ E hA hE I' fun v' h'' tk' as'' I'' S' rr' => ?_
  refine h A env _ as'' v v' _ _ hA I'' (rr.mono S' (NoSeq.nil _)) rr' fun w h3 tk3 I3 S3 r3 => ?_
  exact post w h3 tk3 as'' I3 ((S.trans S').trans S3) r3

theorem E_add (h1 : EvE W sc d σ M l (.int a) M₁) (h2 : EvE W sc d σ M₁ r (.int b) M₂) : EvE W sc d σ M (.BinOp l .Add r pos) (.int (a + b)) M₂ :=
  E_bin h1 h2 fun A env s as u v Q E hA I ⟨t, e⟩ ⟨t', e'⟩ post => by subst e e'; exact PyProof.Rows.add_int (post _ s.heap _ I (Step.refl ..) ⟨_, rfl⟩)
theorem E_sub (h1 : EvE W sc d σ M l (.int a) M₁) (h2 : EvE W sc d σ M₁ r (.int b) M₂) : EvE W sc d σ M (.BinOp l .Sub r pos) (.int (a - b)) M₂ :=
  E_bin h1 h2 fun A env s as u v Q E hA I ⟨t, e⟩ ⟨t', e'⟩ post => by subst e e'; exact PyProof.Rows.sub_int (post _ s.heap _ I (Step.refl ..) ⟨_, rfl⟩)
theorem E_mul (h1 : EvE W sc d σ M l (.int a) M₁) (h2 : EvE W sc d σ M₁ r (.int b) M₂) (hm : IntMulOk a b) : EvE W sc d σ M (.BinOp l .Mult r pos) (.int (a * b)) M₂ :=
  E_bin h1 h2 fun A env s as u v Q E hA I ⟨t, e⟩ ⟨t', e'⟩ post => by subst e e'; exact PyProof.Rows.mul_int (post _ s.heap _ I (Step.refl ..) ⟨_, rfl⟩) hm
theorem E_fdiv (h1 : EvE W sc d σ M l (.int a) M₁) (h2 : EvE W sc d σ M₁ r (.int b) M₂) (hb : b ≠ 0) (hp : b.natAbs.log2 < 9000) : EvE W sc d σ M (.BinOp l .FloorDiv r pos) (.int (a.fdiv b)) M₂ :=
  E_bin h1 h2 fun A env s as u v Q E hA I ⟨t, e⟩ ⟨t', e'⟩ post => by subst e e'; exact PyProof.Rows.floordiv_int hb (post _ s.heap _ I (Step.refl ..) ⟨_, rfl⟩) (.inl (PyProof.noPylong_of_log2 hp))
theorem E_fmod (h1 : EvE W sc d σ M l (.int a) M₁) (h2 : EvE W sc d σ M₁ r (.int b) M₂) (hb : b ≠ 0) : EvE W sc d σ M (.BinOp l .Mod r pos) (.int (a.fmod b)) M₂ :=
  E_bin h1 h2 fun A env s as u v Q E hA I ⟨t, e⟩ ⟨t', e'⟩ post => by subst e e'; exact PyProof.Rows.mod_int' hb (post _ s.heap _ I (Step.refl ..) ⟨_, rfl⟩)
theorem E_pow (h1 : EvE W sc d σ M l (.int a) M₁) (h2 : EvE W sc d σ M₁ r (.int b) M₂) (hn : 0 ≤ b) (hsz : (Builtin.Int.intBits a : Int) * b ≤ 2 ^ 27) : EvE W sc d σ M (.BinOp l .Pow r pos) (.int (a ^ b.toNat)) M₂ :=
  E_bin h1 h2 fun A env s as u v Q E hA I ⟨t, e⟩ ⟨t', e'⟩ post => by subst e e'; exact PyProof.Rows.pow_int hn hsz (post _ s.heap _ I (Step.refl ..) ⟨_, rfl⟩)
theorem E_neg (h1 : EvE W sc d σ M l (.int a) M₁) : EvE W sc d σ M (.UnaryOp .USub l pos) (.int (-a)) M₁ := by
  refine ⟨fun A env s as Q E hA hE I post => ?_⟩
  refine wpAny_UnaryOp (h1.run A env s as _ E hA hE I fun v h' tk as' I' S rr => ?_)
  obtain ⟨t, rfl⟩ := rr
  exact PyProof.Rows.neg_int (post _ h' _ as' I' S ⟨_, rfl⟩)

-- comparisons of ints
noncomputable def cmpI : CmpOp → Int → Int → Option Bool
  | .Eq, a, b => some (a == b)
  | .NotEq, a, b => some (a != b)
  | .Lt, a, b => some (decide (a < b))
  | .LtE, a, b => some (decide (a ≤ b))
  | .Gt, a, b => some (decide (a > b))
  | .GtE, a, b => some (decide (a ≥ b))
  | _, _, _ => .none
theorem wp_cmpI {prog w A op s} {t u : Tok} {c : Bool} {Q E} (h : cmpI op a b = some c) (hq : Q (.bool c) s) : wpAny (model prog w) A (compareOp op (.int a t) (.int b u)) Q E s := by
  cases op <;> simp only [cmpI, Option.some.injEq, reduceCtorEq] at h <;> subst h
  · exact PyProof.Rows.eq_int hq
  · exact PyProof.Rows.ne_int hq
  · exact PyProof.Rows.lt_int hq
  · exact PyProof.Rows.le_int hq
  · exact PyProof.Rows.gt_int hq
  · exact PyProof.Rows.ge_int hq
theorem E_cmpI {op : CmpOp} {c : Bool} (h1 : EvE W sc d σ M l (.int a) M₁) (h2 : EvE W sc d σ M₁ r (.int b) M₂) (h : cmpI op a b = some c) (hm : behindInMarks op r = false := by with_unfolding_all rfl) :
    EvE W sc d σ M (.Compare l [op] [r] pos) (.bool c) M₂ := by
  refine ⟨fun A env s as Q E hA hE I post => ?_⟩
  refine wpAny_Compare1 (h1.run A env s as _ E hA hE I fun v h' tk as' I' S rr => ?_) hm
  refine h2.run A env _ as' _ E hA hE I' fun v' h'' tk' as'' I'' S' rr' => ?_
  obtain ⟨t, rfl⟩ := rr; obtain ⟨t', rfl⟩ := rr'
  exact wp_cmpI h (post _ h'' tk' as'' I'' (S.trans S') rfl)
theorem T_cmpI {op : CmpOp} {c : Bool} (h1 : EvE W sc d σ M l (.int a) M₁) (h2 : EvE W sc d σ M₁ r (.int b) M₂) (h : cmpI op a b = some c) (hm : behindInMarks op r = false := by with_unfolding_all rfl) :
    EvT W sc d σ M (.Compare l [op] [r] pos) c M₂ := by
  refine ⟨fun A env s as Q E hA hE I post => ?_⟩
  refine wpAny_isTrue_Compare1 (h1.run A env s as _ E hA hE I fun v h' tk as' I' S rr => ?_) hm
  refine h2.run A env _ as' _ E hA hE I' fun v' h'' tk' as'' I'' S' rr' => ?_
  obtain ⟨t, rfl⟩ := rr; obtain ⟨t', rfl⟩ := rr'
  exact wp_cmpI h (wpAny_truthy_bool (post _ h'' tk' as'' I'' (S.trans S') rfl))
end

-- tests
section
variable {x e : Expr} {es : List Expr} {pos : Pos} {b c : Bool}
theorem T_and_nil : EvT W sc d σ M (.BoolOp .And [] pos) true M := Ev.mk fun A env s as Q E hA hE I post => isTrue_and_nil (post true s.heap s.toks as I (Step.refl ..) rfl)
theorem T_or_nil : EvT W sc d σ M (.BoolOp .Or [] pos) false M := Ev.mk fun A env s as Q E hA hE I post => isTrue_or_nil (post false s.heap s.toks as I (Step.refl ..) rfl)
theorem T_and_t (h1 : EvT W sc d σ M x true M₁) (h2 : EvT W sc d σ M₁ (.BoolOp .And es pos) c M₂) : EvT W sc d σ M (.BoolOp .And (x :: es) pos) c M₂ := Ev.mk fun A env s as Q E hA hE I post =>
  isTrue_and (h1.run A env s as _ E hA hE I fun v h' tk as' I' S rr => by
    subst rr; simp only [if_true]
    exact h2.run A env _ as' _ E hA hE I' fun v' h'' tk' as'' I'' S' rr' => post v' h'' tk' as'' I'' (S.trans S') rr')
theorem T_and_f (h1 : EvT W sc d σ M x false M₁) : EvT W sc d σ M (.BoolOp .And (x :: es) pos) false M₁ := Ev.mk fun A env s as Q E hA hE I post =>
  isTrue_and (h1.run A env s as _ E hA hE I fun v h' tk as' I' S rr => by subst rr; simp only [Bool.false_eq_true, if_false]; exact post _ h' tk as' I' S rfl)
theorem T_or_t (h1 : EvT W sc d σ M x true M₁) : EvT W sc d σ M (.BoolOp .Or (x :: es) pos) true M₁ := Ev.mk fun A env s as Q E hA hE I post =>
  isTrue_or (h1.run A env s as _ E hA hE I fun v h' tk as' I' S rr => by subst rr; simp only [if_true]; exact post _ h' tk as' I' S rfl)
theorem T_or_f (h1 : EvT W sc d σ M x false M₁) (h2 : EvT W sc d σ M₁ (.BoolOp .Or es pos) c M₂) : EvT W sc d σ M (.BoolOp .Or (x :: es) pos) c M₂ := Ev.mk fun A env s as Q E hA hE I post =>
  isTrue_or (h1.run A env s as _ E hA hE I fun v h' tk as' I' S rr => by
    subst rr; simp only [Bool.false_eq_true, if_false]
    exact h2.run A env _ as' _ E hA hE I' fun v' h'' tk' as'' I'' S' rr' => post v' h'' tk' as'' I'' (S.trans S') rr')
theorem E_ite {body orelse : Expr} {p : PV} (h1 : EvT W sc d σ M x b M₁) (h2 : b = true → EvE W sc d σ M₁ body p M₂) (h3 : b = false → EvE W sc d σ M₁ orelse p M₂) : EvE W sc d σ M (.IfExp x body orelse pos) p M₂ :=
  Ev.mk fun A env s as Q E hA hE I post => wpAny_IfExp (h1.run A env s as _ E hA hE I fun v h' tk as' I' S rr => by
    subst rr
    cases v with
    | true => simp only [if_true]; exact (h2 rfl).run A env _ as' _ E hA hE I' fun v' h'' tk' as'' I'' S' rr' => post v' h'' tk' as'' I'' (S.trans S') rr'
    | false => simp only [Bool.false_eq_true, if_false]; exact (h3 rfl).run A env _ as' _ E hA hE I' fun v' h'' tk' as'' I'' S' rr' => post v' h'' tk' as'' I'' (S.trans S') rr')
theorem E_and2 {y : Expr} {q : Bool} (h1 : EvE W sc d σ M x (.bool true) M₁) (h2 : EvE W sc d σ M₁ y (.bool q) M₂) : EvE W sc d σ M (.BoolOp .And [x, y] pos) (.bool q) M₂ :=
  Ev.mk fun A env s as Q E hA hE I post => BoolOp_and (h1.run A env s as _ E hA hE I fun v h' tk as' I' S rr => by
    cases rr
    refine wpAny_truthy_bool ?_
    simp only [if_true]
    exact BoolOp_one (h2.run A env _ as' _ E hA hE I' fun v' h'' tk' as'' I'' S' rr' => post v' h'' tk' as'' I'' (S.trans S') rr'))
theorem E_and2f {y : Expr} (h1 : EvE W sc d σ M x (.bool false) M₁) : EvE W sc d σ M (.BoolOp .And [x, y] pos) (.bool false) M₁ :=
  Ev.mk fun A env s as Q E hA hE I post => BoolOp_and (h1.run A env s as _ E hA hE I fun v h' tk as' I' S rr => by
    cases rr
    refine wpAny_truthy_bool ?_
    simp only [Bool.false_eq_true, if_false]
    exact post _ h' tk as' I' S rfl)
end

-- displays
theorem push_get {h : Heap} {o : Obj} (hf : o.isFreed = false := by rfl) : (h.push o).get? h.objs.size = some o := Heap.get?_push_size _ hf
theorem push_keeps (h : Heap) (o : Obj) : ∀ b o', h.get? b = some o' → (h.push o).get? b = some o' := fun _ _ e => Heap.get?_push_of_some _ e
theorem fresh_notin {env : Env} {as : List Addr} {h : Heap} (I : Inv W env σ M as h) : h.objs.size ∉ as := fun hm => by
  obtain ⟨vs, n, e⟩ := I.isSeq hm
  exact Nat.lt_irrefl _ (Heap.lt_size e)
theorem fresh_none (h : Heap) : h.get? h.objs.size = none := by
  cases e : h.get? h.objs.size with
  | none => rfl
  | some o => exact absurd (Heap.lt_size e) (Nat.lt_irrefl _)

theorem E_tuple {es : List Expr} {ps : List PV} {k : Nat} {pos : Pos} (h1 : EvL W sc d σ M es ps M₁) (hz : ps.length ≤ 1048576 := by exact Nat.le_of_ble_eq_true rfl) : EvE W sc d σ M (.Tuple es k pos) (.tup ps) M₁ := by
  refine ⟨fun A env s as Q E hA hE I post => ?_⟩
  refine Tuple_ ((h1 pos).run A env s as _ E hA hE I fun vs h' tk as' I' S rr => ?_)
  have hl : vs.length = ps.length := rr.length
  refine PySem.wpAny_newTuple (items := vs) ?_ (by rw [sizeLine_eq]; omega)
  have k := push_keeps h' { cls := .type "tuple", data := .seq vs.toArray }
  have S' : Step [] as' h' as' (h'.push { cls := .type "tuple", data := .seq vs.toArray }) := Step.of_keeps k
  exact post _ _ tk as' (I'.grow k) (S.trans S') ⟨_, vs, 0, rfl, fresh_notin I', push_get, rr.mono S' (NoSeq.nil _), hz⟩
theorem E_list {es : List Expr} {ps : List PV} {pos : Pos} (h1 : EvL W sc d σ M es ps M₁) (hz : ps.length ≤ 1048576 := by exact Nat.le_of_ble_eq_true rfl) : EvE W sc d σ M (.List es pos) (.lst ps) M₁ := by
  refine ⟨fun A env s as Q E hA hE I post => ?_⟩
  refine List_ ((h1 pos).run A env s as _ E hA hE I fun vs h' tk as' I' S rr => ?_)
  have hl : vs.length = ps.length := rr.length
  refine PySem.wpAny_newList (items := vs) ?_ (by rw [sizeLine_eq]; omega)
  have k := push_keeps h' { cls := .type "list", data := .seq vs.toArray }
  have S' : Step [] as' h' as' (h'.push { cls := .type "list", data := .seq vs.toArray }) := Step.of_keeps k
  exact post _ _ tk as' (I'.grow k) (S.trans S') ⟨_, vs, 0, rfl, fresh_notin I', push_get, rr.mono S' (NoSeq.nil _), hz⟩

-- a new list becomes a mutable one
theorem Inv.addMut {env : Env} {as : List Addr} {h : Heap} (I : Inv W env σ M as h) {vs : List Value} {ps : List PV} (n : Nat) (r : RepL h as ps vs) (hz : ps.length ≤ 1048576) (hm : noMtL ps = true) :
    Inv W env σ (M ++ [ps]) (as ++ [h.objs.size]) (h.push { cls := .type "list", data := .seq vs.toArray n }) ∧ Step [] as h (as ++ [h.objs.size]) (h.push { cls := .type "list", data := .seq vs.toArray n }) := by
  have k := push_keeps h { cls := .type "list", data := .seq vs.toArray n }
  have S : Step [] as h (as ++ [h.objs.size]) (h.push { cls := .type "list", data := .seq vs.toArray n }) := ⟨⟨[h.objs.size], rfl, by simp [fresh_none]⟩, fun b o e => ⟨o, k b o e⟩, fun b o _ _ e => k b o e⟩
  have J := I.grow k
  have hn := fresh_notin I
  refine ⟨⟨J.base, by simp [I.len], ?_, fun i a l ha hl => ?_, fun a ha => ?_, fun x p e => ?_, J.loc, J.cells, J.inj, J.has⟩, S⟩
  · rw [List.nodup_append]
    exact ⟨I.nodup, by simp, fun a ha b hb => by simp at hb; subst hb; rintro rfl; exact hn ha⟩
  · by_cases hi : i < as.length
    · rw [List.getElem?_append_left hi] at ha
      rw [List.getElem?_append_left (by rw [← I.len]; exact hi)] at hl
      obtain ⟨ws, n', e, rr, z⟩ := I.mem i a l ha hl
      exact ⟨ws, n', k _ _ e, rr.mono S (NoSeq.nil _), z⟩
    · have hi' : i = as.length := by
        have := (List.getElem?_eq_some_iff.mp ha).1
        simp at this; omega
      subst hi'
      simp at ha; subst ha
      rw [I.len] at hl; simp at hl; subst hl
      exact ⟨vs, n, push_get, r.mono S (NoSeq.nil _), hz, hm⟩
  · rcases List.mem_append.mp ha with ha | ha
    · exact I.fresh a ha
    · simp at ha; subst ha
      cases e : W.H0.get? h.objs.size with
      | none => rfl
      | some o => exact absurd (Heap.lt_size (I.base _ _ e)) (Nat.lt_irrefl _)
  · obtain ⟨v, V, R⟩ := I.vars x p e
    exact ⟨v, V.keep fun b _ o e => k b o e, R.mono S (NoSeq.nil _)⟩

theorem E_listM {es : List Expr} {ps : List PV} {pos : Pos} (h1 : EvL W sc d σ M es ps M₁) (hz : ps.length ≤ 1048576 := by exact Nat.le_of_ble_eq_true rfl) (hm : noMtL ps = true := by rfl) : EvE W sc d σ M (.List es pos) (.mt M₁.length) (M₁ ++ [ps]) := by
  refine ⟨fun A env s as Q E hA hE I post => ?_⟩
  refine List_ ((h1 pos).run A env s as _ E hA hE I fun vs h' tk as' I' S rr => ?_)
  have hl : vs.length = ps.length := rr.length
  refine PySem.wpAny_newList (items := vs) ?_ (by rw [sizeLine_eq]; omega)
  obtain ⟨I2, S2⟩ := I'.addMut 0 rr hz hm
  exact post _ _ tk _ I2 (S.trans S2) ⟨h'.objs.size, rfl, by rw [← I'.len]; simp⟩
end
end Mine
end
section
open PySem PySem.W PyProof.Rows PySem.Calls
set_option Elab.async false
set_option maxRecDepth 100000
set_option linter.unusedVariables false
set_option linter.unusedSimpArgs false
namespace Mine

-- items of a value that is a sequence
noncomputable def itemsOf (M : Mem) : PV → Option (List PV)
  | .lst l => some l
  | .tup l => some l
  | .mt i => M[i]?
  | _ => none
noncomputable def listOfP (M : Mem) : PV → Option (List PV)
  | .lst l => some l
  | .mt i => M[i]?
  | _ => none
noncomputable def pyGet (l : List PV) (k : Int) : Option PV := if 0 ≤ k then l[k.toNat]? else if -(l.length : Int) ≤ k then l[(k + l.length).toNat]? else none

section
variable {W : Wd} {sc : Scope} {d : Nat} {σ : Vars} {M M₁ M₂ M₃ : Mem}

theorem items_list {as : List Addr} {h : Heap} (I : MemOk W M as h) {p : PV} {v : Value} {l : List PV} (r : Rep h as p v) (hl : listOfP M p = some l) :
    ∃ a vs n, v = .ref a ∧ h.get? a = some { cls := .type "list", data := .seq (List.toArray vs) n } ∧ RepL h as l vs ∧ l.length ≤ 1048576 := by
  cases p with
  | lst l' => cases hl; obtain ⟨a, vs, n, e, _, ho, rr, z⟩ := r; exact ⟨a, vs, n, e, ho, rr, z⟩
  | mt i =>
    obtain ⟨a, e, ha⟩ := r
    obtain ⟨vs, n, ho, rr, z, _⟩ := I.mem i a l ha hl
    exact ⟨a, vs, n, e, ho, rr, z⟩
  | _ => cases hl

theorem pyGet_bounds {l : List PV} {k : Int} {p : PV} (hp : pyGet l k = some p) : (0 ≤ k ∧ k < l.length ∧ l[k.toNat]? = some p) ∨ (k < 0 ∧ -(l.length : Int) ≤ k ∧ l[(k + l.length).toNat]? = some p) := by
  unfold pyGet at hp
  split at hp
  · rename_i h0
    refine .inl ⟨h0, ?_, hp⟩
    have := (List.getElem?_eq_some_iff.mp hp).1
    omega
  · rename_i h0
    split at hp
    · rename_i h1
      exact .inr ⟨by omega, h1, hp⟩
    · cases hp

theorem wp_item {A : Around} {s : Shared} {as : List Addr} {p : PV} {v : Value} {l : List PV} {k : Int} {t : Tok} {q : PV} {value slice : Expr} {Q : Value → Shared → Prop} {E : Value → Shared → Prop} (I : MemOk W M as s.heap) (r : Rep s.heap as p v) (hl : itemsOf M p = some l)
    (hq : pyGet l k = some q) (hs : ∀ o i, subscripted slice false o i = operate [o, i] (getItem o i)) (h : ∀ w, Rep s.heap as q w → Q w s) : wpAny (model W.prog W.w) A (subscriptTail value slice v (.int k t)) Q E s := by
  have key : (∃ a vs n, v = .ref a ∧ s.heap.get? a = some { cls := .type "list", data := .seq (List.toArray vs) n } ∧ RepL s.heap as l vs ∧ l.length ≤ 1048576) ∨
      (∃ a vs n, v = .ref a ∧ s.heap.get? a = some { cls := .type "tuple", data := .seq (List.toArray vs) n } ∧ RepL s.heap as l vs ∧ l.length ≤ 1048576) := by
    cases p with
    | tup l' => cases hl; obtain ⟨a, vs, n, e, _, ho, rr, z⟩ := r; exact .inr ⟨a, vs, n, e, ho, rr, z⟩
    | lst l' => exact .inl (items_list I r hl)
    | mt i => exact .inl (items_list I r hl)
    | _ => cases hl
  rcases key with ⟨a, vs, n, rfl, ho, rr, z⟩ | ⟨a, vs, n, rfl, ho, rr, z⟩
  · have hL : s.heap.IsList a vs.toArray := ⟨_, ho, rfl, n, rfl⟩
    have hlen := rr.length
    rcases pyGet_bounds hq with ⟨h0, h1, hg⟩ | ⟨h0, h1, hg⟩
    · obtain ⟨w, hw, rw'⟩ := rr.get hg
      exact tail_any hL.typeIs slot_list_getitem.lookup (wpAny_getItem_list hL h0 (by omega) (by simpa using hw) (h w rw')) (hs _ _)
    · obtain ⟨w, hw, rw'⟩ := rr.get hg
      exact tail_any hL.typeIs slot_list_getitem.lookup (wpAny_getItem_list_neg hL h0 (by simp; omega) (by omega) (by simpa [hlen] using hw) (h w rw')) (hs _ _)
  · have hT : IsTup s.heap a vs.toArray := ⟨_, ho, rfl, n, rfl⟩
    have hlen := rr.length
    rcases pyGet_bounds hq with ⟨h0, h1, hg⟩ | ⟨h0, h1, hg⟩
    · obtain ⟨w, hw, rw'⟩ := rr.get hg
      exact item_tupleT (l := vs) hT (by omega) (by omega) (j := k.toNat) (by unfold seqIndex?; simp [show ¬ k < 0 by omega, h0]; omega) hw (h w rw') (hs _ _)
    · obtain ⟨w, hw, rw'⟩ := rr.get hg
      exact item_tupleT (l := vs) hT (by omega) (by omega) (j := (k + l.length).toNat) (by unfold seqIndex?; simp [h0, hlen]; omega) hw (h w rw') (hs _ _)

theorem E_idx {value slice : Expr} {pos : Pos} {p : PV} {k : Int} {l : List PV} {q : PV} (h1 : EvE W sc d σ M value p M₁) (h2 : EvE W sc d σ M₁ slice (.int k) M₂) (hl : itemsOf M₂ p = some l) (hq : pyGet l k = some q)
    (hs : ∀ o i, subscripted slice false o i = operate [o, i] (getItem o i) := by intro _ _; rfl) : EvE W sc d σ M (.Subscript value slice pos) q M₂ := by
  refine ⟨fun A env s as Q E hA hE I post => ?_⟩
  refine Subscript_ (h1.run A env s as _ E hA hE I fun v h' tk as' I' S rr => ?_)
  refine h2.run A env _ as' _ E hA hE I' fun v' h'' tk' as'' I'' S' rr' => ?_
  obtain ⟨t, rfl⟩ := rr'
  exact wp_item I''.memOk (rr.mono S' (NoSeq.nil _)) hl hq hs fun w rw' => post w h'' tk' as'' I'' (S.trans S') rw'

-- slices
noncomputable def pySlice (l : List PV) (lo hi st : Option Int) : List PV :=
  match st with
  | none => (l.drop (lo.elim 0 (clipAt l.length))).take (hi.elim l.length (clipAt l.length) - lo.elim 0 (clipAt l.length))
  | some _ => l.reverse

theorem filterMap_range : ∀ (l : List Value), List.filterMap (fun i => l[i]?) (List.range l.length) = l
  | [] => rfl
  | x :: r => by
    rw [List.length_cons, List.range_succ_eq_map, List.filterMap_cons]
    simp only [List.getElem?_cons_zero, List.filterMap_map]
    congr 1
    exact filterMap_range r

theorem slicePick_rev (items : Array Value) : slicePick items none none (some (-1)) = items.toList.reverse.toArray := by
  have hb : sliceBounds none none (some (-1)) items.size = ((items.size : Int) - 1, -1, -1) := by simp [sliceBounds]
  have hr : ∀ n : Nat, sliceRange ((n : Int) - 1) (-1) (-1) = (List.range n).reverse := by
    intro n
    unfold sliceRange
    simp only [show ¬ ((-1 : Int) > 0) by omega, if_false]
    rcases Nat.eq_zero_or_pos n with h | h
    · subst h; rfl
    · have e1 : (-1 : Int) < (n : Int) - 1 := by omega
      simp only [e1, if_true]
      have e2 : (((n : Int) - 1 - -1 - -1 - 1) / - -1).toNat = n := by simp
      rw [e2]
      apply List.ext_getElem
      · simp
      · intro i h1 h2
        simp at h1 h2 ⊢
        omega
  unfold slicePick
  rw [hb]
  dsimp only
  rw [hr]
  congr 1
  rw [List.filterMap_reverse]
  congr 1
  obtain ⟨l⟩ := items
  show List.filterMap (fun i => (l.toArray)[i]?) (List.range l.toArray.size) = l
  simp only [List.getElem?_toArray, List.size_toArray]
  exact filterMap_range l

theorem slice_rep {h : Heap} {as : List Addr} {l : List PV} {vs : List Value} (r : RepL h as l vs) (lo hi st : Option Int) (hst : st = none ∨ (lo = none ∧ hi = none ∧ st = some (-1))) :
    RepL h as (pySlice l lo hi st) (slicePick vs.toArray lo hi st).toList := by
  have hlen := r.length
  rcases hst with rfl | ⟨rfl, rfl, rfl⟩
  · rw [slicePick_plain]
    simp only [pySlice, List.size_toArray, hlen]
    exact (r.drop _).take _
  · rw [slicePick_rev]
    simpa [pySlice] using r.reverse

theorem pySlice_length (l : List PV) (lo hi st : Option Int) : (pySlice l lo hi st).length ≤ l.length := by
  unfold pySlice
  split
  · simp; omega
  · simp

-- a part of a slice: none, or an int
inductive EvPart (W : Wd) (sc : Scope) (d : Nat) (σ : Vars) (M : Mem) : Option Expr → Option Int → Mem → Prop
  | none : EvPart W sc d σ M .none .none M
  | some {e : Expr} {k : Int} {M' : Mem} : EvE W sc d σ M e (.int k) M' → EvPart W sc d σ M (.some e) (.some k) M'

theorem EvPart.wp {x : Option Expr} {k : Option Int} (h : EvPart W sc d σ M x k M₁) {A : Around} {env : Env} {s : Shared} {as : List Addr} {Q : Value → Shared → Prop} {E : Value → Shared → Prop} (hA : AOk d A) (hE : EnvOk sc env)
    (I : Inv W env σ M as s.heap) (post : ∀ v h' tk as', IsPart v k → Inv W env σ M₁ as' h' → Step [] as s.heap as' h' → Q v { s with heap := h', toks := tk }) : wpAny (model W.prog W.w) A (evalPart x env) Q E s := by
  cases h with
  | none => exact wpAny_pure (post .none s.heap s.toks as .none I (Step.refl ..))
  | some h => exact h.run A env s as _ E hA hE I fun v h' tk as' I' S r => by obtain ⟨t, rfl⟩ := r; exact post _ h' tk as' (.int _ _) I' S

theorem E_slice {value : Expr} {lower upper step : Option Expr} {ps pos : Pos} {p : PV} {l : List PV} {lo hi st : Option Int} {M₄ : Mem} (h1 : EvE W sc d σ M value p M₁) (h2 : EvPart W sc d σ M₁ lower lo M₂) (h3 : EvPart W sc d σ M₂ upper hi M₃) (h4 : EvPart W sc d σ M₃ step st M₄)
    (hl : listOfP M₄ p = some l) (hst : st = none ∨ (lo = none ∧ hi = none ∧ st = some (-1)) := by first | exact .inl rfl | exact .inr ⟨rfl, rfl, rfl⟩) : EvE W sc d σ M (.Subscript value (.Slice lower upper step ps) pos) (.lst (pySlice l lo hi st)) M₄ := by
  refine ⟨fun A env s as Q E hA hE I post => ?_⟩
  refine Subscript_ (h1.run A env s as _ E hA hE I fun v h' tk as' I' S rr => ?_)
  refine wpAny_Slice (h2.wp hA hE I' fun v2 h2' tk2 as2 p2 I2 S2 => h3.wp hA hE I2 fun v3 h3' tk3 as3 p3 I3 S3 => h4.wp hA hE I3 fun v4 h4' tk4 as4 p4 I4 S4 => ?_)
  have k1 := push_keeps h4' { cls := .type "slice", data := .fields #[v2, v3, v4] }
  have T1 : Step [] as4 h4' as4 (h4'.push { cls := .type "slice", data := .fields #[v2, v3, v4] }) := Step.of_keeps k1
  have I5 := I4.grow k1
  have r5 := (((rr.mono S2 (NoSeq.nil _)).mono S3 (NoSeq.nil _)).mono S4 (NoSeq.nil _)).mono T1 (NoSeq.nil _)
  obtain ⟨a, vs, n, rfl, ho, rl, z⟩ := items_list I5.memOk r5 hl
  have hL : (h4'.push { cls := .type "slice", data := .fields #[v2, v3, v4] }).IsList a vs.toArray := ⟨_, ho, rfl, n, rfl⟩
  have hne : st ≠ some 0 := by rcases hst with rfl | ⟨_, _, rfl⟩ <;> simp
  have hsl : Heap.IsSliceOf (h4'.push { cls := .type "slice", data := .fields #[v2, v3, v4] }) h4'.objs.size v2 v3 v4 := Heap.IsSliceOf.new _ _ _ _
  have hg := wpAny_getItem_list_slice (prog := W.prog) (w := W.w) (A := A) (E := E) (s := { s with heap := h4'.push { cls := .type "slice", data := .fields #[v2, v3, v4] }, toks := tk4 }) (Q := Q) hL hsl p2 p3 p4 hne ?_ (by have := rl.length; simp; rw [sizeLine_eq]; omega)
  · refine tail_any (ops := match step with | .none => [.ref h4'.objs.size, .ref a] | .some _ => [.ref a, .ref h4'.objs.size]) hL.typeIs slot_list_getitem.lookup hg ?_
    cases step <;> rfl
  · have k2 := push_keeps (h4'.push { cls := .type "slice", data := .fields #[v2, v3, v4] }) { cls := .type "list", data := .seq (slicePick vs.toArray lo hi st) }
    have T2 : Step [] as4 (h4'.push { cls := .type "slice", data := .fields #[v2, v3, v4] }) as4 ((h4'.push { cls := .type "slice", data := .fields #[v2, v3, v4] }).push { cls := .type "list", data := .seq (slicePick vs.toArray lo hi st) }) := Step.of_keeps k2
    refine post _ _ tk4 as4 (I5.grow k2) (((((S.trans S2).trans S3).trans S4).trans T1).trans T2) ⟨_, (slicePick vs.toArray lo hi st).toList, 0, rfl, fresh_notin I5, ?_, ?_, ?_⟩
    · simpa using push_get (h := h4'.push { cls := .type "slice", data := .fields #[v2, v3, v4] }) (o := { cls := .type "list", data := .seq (slicePick vs.toArray lo hi st) })
    · exact (slice_rep rl lo hi st hst).mono T2 (NoSeq.nil _)
    · have := pySlice_length l lo hi st; omega

-- sums and multiples of lists
theorem E_cat {l r : Expr} {pos : Pos} {p q : PV} {ps qs : List PV} (h1 : EvE W sc d σ M l p M₁) (h2 : EvE W sc d σ M₁ r q M₂) (hp : listOfP M₂ p = some ps) (hq : listOfP M₂ q = some qs) (hz : ps.length + qs.length ≤ 1048576) :
    EvE W sc d σ M (.BinOp l .Add r pos) (.lst (ps ++ qs)) M₂ :=
  E_bin h1 h2 fun A env s as u v Q E hA I r1 r2 post => by
    obtain ⟨a, vs, n, rfl, ho, rl, z⟩ := items_list I.memOk r1 hp
    obtain ⟨b, ws, m, rfl, ho', rl', z'⟩ := items_list I.memOk r2 hq
    have e1 := rl.length; have e2 := rl'.length
    refine PySem.P.add_list ho ho' ?_ (by simp; rw [sizeLine_eq]; omega)
    have k := push_keeps s.heap { cls := .type "list", data := .seq (vs.toArray ++ ws.toArray) }
    have T : Step [] as s.heap as (s.heap.push { cls := .type "list", data := .seq (vs.toArray ++ ws.toArray) }) := Step.of_keeps k
    refine post _ _ s.toks (I.grow k) T ⟨_, vs ++ ws, 0, rfl, fresh_notin I, ?_, (rl.append rl').mono T (NoSeq.nil _), by simpa using hz⟩
    simpa using push_get (h := s.heap) (o := { cls := .type "list", data := .seq (vs.toArray ++ ws.toArray) })

theorem mul_items (v : Value) (n : Nat) : List.foldl (fun x1 x2 => x1 ++ x2) (#[] : Array Value) (List.replicate (if (#[v] : Array Value).isEmpty = true then 0 else n) #[v]) = (List.replicate n v).toArray := by
  have e : (#[v] : Array Value).isEmpty = false := rfl
  rw [e]
  simp only [Bool.false_eq_true, if_false]
  have gen : ∀ (n : Nat) (acc : Array Value), List.foldl (fun x1 x2 => x1 ++ x2) acc (List.replicate n #[v]) = acc ++ (List.replicate n v).toArray := by
    intro n
    induction n with
    | zero => intro acc; simp
    | succ n ih => intro acc; rw [List.replicate_succ, List.foldl_cons, ih, List.replicate_succ]; apply Array.toList_inj.mp; simp
  simpa using gen n #[]

theorem wp_mul {A : Around} {s : Shared} {a : Addr} {v : Value} {n : Nat} {x : Int} {u : Tok} {Q : Value → Shared → Prop} {E : Value → Shared → Prop} {prog : Program} {w : World}
    (ho : s.heap.get? a = some { cls := .type "list", data := .seq #[v] n }) (hx : x.toNat ≤ 1048576) (hlo : -(2 ^ 63 : Int) ≤ x)
    (h : Q (.ref s.heap.objs.size) { s with heap := s.heap.push { cls := .type "list", data := .seq (List.replicate x.toNat v).toArray } }) : wpAny (model prog w) A (binaryOp .Mult (.ref a) (.int x u)) Q E s := by
  refine wpAny_binaryOp_repeat_ref (T := "list") (U := "int") (by decide) ⟨_, ho, rfl⟩ (fun s' => typeIs_int s' x u) noFill_list_mul F.fills_int_mul F.slot_int_rmul repeat_list F.slot_int_index.lookup
    (call_meets F.slot_int_rmul (typeIs_int s x u) F.entry_int_rmul (F.args_int_rmul_2 _ _) (int___rmul___int_list x u a #[v] n)
      ⟨ho, rfl, ⟨_, ho, rfl⟩, call_meets F.slot_list_mul ⟨_, ho, rfl⟩ F.entry_list_mul (F.args_list_mul_2 _ _)
        (AutoListH.list___mul___list_int_3 a #[v] n x u (by simp [Builtin.List.listFitsIndex]; omega) (by simp; omega) (by simp [Builtin.List.listTooLong, sizeLine]; omega))
        ⟨ho, ?_⟩⟩)
  rw [mul_items]
  exact h

theorem RepL.replicate {h : Heap} {as : List Addr} {p : PV} {v : Value} (r : Rep h as p v) : ∀ n : Nat, RepL h as (List.replicate n p) (List.replicate n v)
  | 0 => rfl
  | n + 1 => ⟨v, _, rfl, r, RepL.replicate r n⟩

theorem E_rep {l r : Expr} {pos : Pos} {p : PV} {k : Int} (h1 : EvE W sc d σ M l (.lst [p]) M₁) (h2 : EvE W sc d σ M₁ r (.int k) M₂) (hz : k ≤ 1048576) (h0 : -1048576 ≤ k) :
    EvE W sc d σ M (.BinOp l .Mult r pos) (.lst (List.replicate k.toNat p)) M₂ :=
  E_bin h1 h2 fun A env s as u v Q E hA I r1 r2 post => by
    obtain ⟨a, vs, n, rfl, _, ho, ⟨w, _, rfl, rw', rfl⟩, z⟩ := r1
    obtain ⟨t, rfl⟩ := r2
    refine wp_mul ho (by omega) (by omega) ?_
    have k' := push_keeps s.heap { cls := .type "list", data := .seq (List.replicate k.toNat w).toArray }
    have T : Step [] as s.heap as (s.heap.push { cls := .type "list", data := .seq (List.replicate k.toNat w).toArray }) := Step.of_keeps k'
    exact post _ _ s.toks (I.grow k') T ⟨_, List.replicate k.toNat w, 0, rfl, fresh_notin I, push_get, RepL.replicate (rw'.mono T (NoSeq.nil _)) _, by simp; omega⟩
theorem noMtL_replicate {p : PV} (h : noMt p = true) : ∀ n : Nat, noMtL (List.replicate n p) = true
  | 0 => rfl
  | n + 1 => by rw [List.replicate_succ, noMtL, h, noMtL_replicate h n]; rfl
theorem E_repM {l r : Expr} {pos : Pos} {p : PV} {k : Int} (h1 : EvE W sc d σ M l (.lst [p]) M₁) (h2 : EvE W sc d σ M₁ r (.int k) M₂) (hz : k ≤ 1048576) (h0 : -1048576 ≤ k) (hm : noMt p = true := by rfl) :
    EvE W sc d σ M (.BinOp l .Mult r pos) (.mt M₂.length) (M₂ ++ [List.replicate k.toNat p]) := by
  refine ⟨fun A env s as Q E hA hE I post => ?_⟩
  refine wpAny_BinOp (h1.run A env s as _ E hA hE I fun v h' tk as' I' S rr => ?_)
  refine h2.run A env _ as' _ E hA hE I' fun v' h'' tk' as'' I'' S' rr' => ?_
  obtain ⟨a, vs, n, rfl, _, ho, ⟨w, _, rfl, rw', rfl⟩, z⟩ := rr.mono S' (NoSeq.nil _)
  obtain ⟨t, rfl⟩ := rr'
  refine wp_mul ho (by omega) (by omega) ?_
  obtain ⟨I2, S2⟩ := I''.addMut 0 (RepL.replicate rw' k.toNat) (by simp; omega) (noMtL_replicate hm _)
  exact post _ _ tk' _ I2 ((S.trans S').trans S2) ⟨h''.objs.size, rfl, by rw [← I''.len]; simp⟩
end
end Mine
end
section
open PySem PySem.W PyProof.Rows PySem.Calls
set_option Elab.async false
set_option maxRecDepth 100000
set_option linter.unusedVariables false
set_option linter.unusedSimpArgs false
namespace Mine

section
variable {W : Wd} {sc : Scope} {d : Nat} {σ : Vars} {M M₁ M₂ M₃ : Mem}

theorem CallV.mono {d' : Nat} {f : Value} {ps : List PV} {q : PV} (h : CallV W d f ps M q M₁) (hd : d ≤ d') : CallV W d' f ps M q M₁ :=
  fun A s as vs Q E hA => h A s as vs Q E (hA.mono hd)
theorem CallOk.mono {d' : Nat} {n : Str} {ps : List PV} {q : PV} (h : CallOk W d n ps M q M₁) (hd : d ≤ d') : CallOk W d' n ps M q M₁ :=
  fun a ha => (h a ha).mono hd

-- a value is called
theorem E_callV {f : Str} {pf pos : Pos} {e : Expr} {es : List Expr} {ps : List PV} {q : PV} (fv : Value) (hty : (∃ i, fv = .builtin i) ∨ ∃ T, fv = .type T)
    (hn : ∀ (A : Around) (env : Env) (s : Shared) (as : List Addr) (Q : Value → Shared → Prop) (E : Value → Shared → Prop), EnvOk sc env → Inv W env σ M as s.heap → Q fv s → wpAny (model W.prog W.w) A (eval (.Name f pf) env) Q E s)
    (h1 : EvL W sc d σ M (e :: es) ps M₁) (h2 : CallV W d fv ps M₁ q M₂)
    (he : ∀ env, starEach (e :: es) env = (false, eval e env) :: starEach es env) (hp : ∀ pos env, (backTo pos (starEach es env)).any (·.1) = false) :
    EvE W sc d σ M (.Call (.Name f pf) (e :: es) [] pos) q M₂ := by
  refine ⟨fun A env s as Q E hA hE I post => ?_⟩
  refine wpAny_Call_NameR (hn A env s as _ E hE I ?_)
  have key : wpAny (model W.prog W.w) A (evalArgs fv true (backTo pos (starEach (e :: es) env)) []) (fun a s₁ => wpAny (model W.prog W.w) A (call fv ([] ++ a.pos) a.kw) Q E s₁) E s := by
    have h1' := (h1 pos).run A env s as
    try dsimp only at h1'
    rw [he] at h1' ⊢
    show wpAny _ A (evalArgs fv true ((false, eval e env) :: backTo pos (starEach es env)) []) _ _ _
    refine evalArgs_plain (h1' _ E hA hE I fun vs h' tk as' I' S rr => ?_)
    refine h2 A _ as' vs _ E hA I'.memOk rr fun v h'' tk' O' S' r' => ?_
    exact post v h'' tk' as' (I'.of_step S' O') (S.trans S') r'
  have hpl : (backTo pos (starEach (e :: es) env)).any (·.1) = false := by
    rw [he]
    show (false || (backTo pos (starEach es env)).any (·.1)) = false
    rw [hp]; rfl
  rcases hty with ⟨i, rfl⟩ | ⟨T, rfl⟩
  · exact callWith_builtin hpl key
  · exact PySem.callWith_type hpl key

theorem name_builtin (O : W.Ok) {x : Str} {v : Value} (hx : x ∈ gbuiltins) (hv : bootBuiltins x = some v) (hk : sc.names.lookup x = some .globalImplicit) (hd : (x == ("__debug__" : Str)) = false) {pf : Pos} :
    ∀ (A : Around) (env : Env) (s : Shared) (as : List Addr) (Q : Value → Shared → Prop) (E : Value → Shared → Prop), EnvOk sc env → Inv W env σ M as s.heap → Q v s → wpAny (model W.prog W.w) A (eval (.Name x pf) env) Q E s := by
  intro A env s as Q E hE I h
  obtain ⟨h1, h2⟩ := O.builtins x hx
  refine Name_function_global hE.isFun ((hE.kindOf x).trans hk) ?_ hd
  exact loadGlobal_builtin (env := env) (mg := W.mg) (mb := W.mb) (by rw [hE.globals]; exact O.g.keeps I.base) h1 (by rw [hE.builtins]; exact O.b.keeps I.base) (h2.trans hv) h

-- a def of the text is called
theorem E_call {f : Str} {pf pos : Pos} {e : Expr} {es : List Expr} {ps : List PV} {q : PV} (O : W.Ok) (hfn : ∃ a fn, W.FnAt f a fn) (h1 : EvL W sc d σ M (e :: es) ps M₁) (h2 : CallOk W d f ps M₁ q M₂)
    (hk : sc.names.lookup f = some .globalImplicit := by rfl) (hd : (f == ("__debug__" : Str)) = false := by rfl)
    (he : ∀ env, starEach (e :: es) env = (false, eval e env) :: starEach es env := by intro _; rfl) :
    EvE W sc d σ M (.Call (.Name f pf) (e :: es) [] pos) q M₂ := by
  refine ⟨fun A env s as Q E hA hE I post => ?_⟩
  obtain ⟨a, fn, ⟨hg, o, pm, code, doc, ho, hdat, hcd⟩⟩ := hfn
  refine wpAny_Call_NameR (Name_function_global hE.isFun ((hE.kindOf f).trans hk) (loadGlobal_global (env := env) (mg := W.mg) (by rw [hE.globals]; exact O.g.keeps I.base) hg ?_) hd)
  refine callWith_function (o := o) (fd := docDef f fn.params fn.body fn.scope pm code doc) ?_
  have h1' := (h1 pos).run A env s as
  try dsimp only at h1'
  rw [he] at h1' ⊢
  show wpAny _ A (evalArgs (.ref a) true ((false, eval e env) :: backTo pos (starEach es env)) []) _ _ _
  refine evalArgs_plain (h1' _ E hA hE I fun vs h' tk as' I' S rr => ⟨⟨I'.base _ _ ho, hdat⟩, ?_⟩)
  refine h2 a hg A _ as' vs _ E hA I'.memOk rr fun v h'' tk' O' S' r' => ?_
  exact post v h'' tk' as' (I'.of_step S' O') (S.trans S') r'

-- entering a def
theorem bindL_get {kindOf : Str → Option NameKind} : ∀ {binds : List (Str × Value)} {m : Str → Option Value} {x : Str} {v : Value}, binds.lookup x = some v → (binds.map (·.1)).Nodup → kindOf x = some .local → bindL kindOf binds m x = some v
  | (y, w) :: r, m, x, v, e, hn, hk => by
    rw [List.lookup_cons] at e
    unfold bindL
    by_cases h : x = y
    · subst h
      simp at e; subst e
      rw [if_pos hk]
      have hn' : x ∉ r.map (·.1) := (List.nodup_cons.mp hn).1
      clear hn
      generalize hm : (fun y => if y = x then some w else m y) = m'
      have hm' : m' x = some w := by rw [← hm]; simp
      clear hm
      induction r generalizing m' with
      | nil => exact hm'
      | cons z r ih =>
        obtain ⟨z, u⟩ := z
        unfold bindL
        have hz : x ≠ z := fun e => hn' (by simp [e])
        refine ih (fun hm => hn' (by simp [hm])) _ ?_
        split
        · simp [hz, hm']
        · exact hm'
    · have hb : (x == y) = false := beq_eq_false_iff_ne.mpr h
      rw [hb] at e
      exact bindL_get e (List.nodup_cons.mp hn).2 hk
theorem bindC_get {kindOf : Str → Option NameKind} : ∀ {binds : List (Str × Value)} {m : Str → Option Value} {x : Str} {v : Value}, binds.lookup x = some v → (binds.map (·.1)).Nodup → kindOf x ≠ some .local → bindC kindOf binds m x = some v
  | (y, w) :: r, m, x, v, e, hn, hk => by
    rw [List.lookup_cons] at e
    unfold bindC
    by_cases h : x = y
    · subst h
      simp at e; subst e
      rw [if_neg hk]
      have hn' : x ∉ r.map (·.1) := (List.nodup_cons.mp hn).1
      clear hn
      generalize hm : (fun y => if y = x then some w else m y) = m'
      have hm' : m' x = some w := by rw [← hm]; simp
      clear hm
      induction r generalizing m' with
      | nil => exact hm'
      | cons z r ih =>
        obtain ⟨z, u⟩ := z
        unfold bindC
        have hz : x ≠ z := fun e => hn' (by simp [e])
        refine ih (fun hm => hn' (by simp [hm])) _ ?_
        split
        · exact hm'
        · simp [hz, hm']
    · have hb : (x == y) = false := beq_eq_false_iff_ne.mpr h
      rw [hb] at e
      exact bindC_get e (List.nodup_cons.mp hn).2 hk

theorem zip_lookup : ∀ {names : List Str} {ps : List PV} {vs : List Value} {h : Heap} {as : List Addr} {x : Str} {p : PV}, RepL h as ps vs → (names.zip ps).lookup x = some p → ∃ v, (names.zip vs).lookup x = some v ∧ Rep h as p v
  | [], ps, vs, _, _, x, p, _, e => by simp at e
  | y :: names, [], vs, _, _, x, p, _, e => by simp at e
  | y :: names, q :: ps, vs, _, _, x, p, hr, e => by
    obtain ⟨v, r, rfl, hq, hl⟩ := hr
    simp only [List.zip_cons_cons, List.lookup_cons] at e ⊢
    cases hb : x == y with
    | true => rw [hb] at e; simp at e; subst e; exact ⟨v, rfl, hq⟩
    | false => rw [hb] at e; exact zip_lookup hl e

inductive RetTo (k : Nat) (N : Mem) : PV → PV → Prop
  | same {q} : noMt q = true → RetTo k N q q
  | list {i l} : N[i]? = some l → noMtL l = true → RetTo k N (.mt (k + i)) (.lst l)

theorem cellsFrom_kind : ∀ {names : List (Str × NameKind)} {n : Nat} {acc : List (Str × Addr)} {x : Str} {c : Addr}, (x, c) ∈ cellsFrom n names acc → (x, c) ∈ acc ∨ n ≤ c
  | [], _, _, _, _, h => .inl h
  | (y, k) :: r, n, acc, x, c, h => by
    unfold cellsFrom at h
    split at h
    · rcases cellsFrom_kind h with h | h
      · rcases List.mem_cons.mp h with h | h
        · cases h; exact .inr (Nat.le_refl _)
        · exact .inl h
      · exact .inr (Nat.le_of_succ_le h)
    · exact cellsFrom_kind h

theorem callOk_of_bodyG (O : W.Ok) {n : Str} {f : Fn} (fl0 : Fl) {names : List Str} {ps : List PV} {q q' : PV} {σ' : Vars} {N : Mem} (hfn : ∃ a, W.FnAt n a f) (hlen : names.length = ps.length)
    (hbind : ∀ (vals : List Value) (pm code doc : Value), vals.length = names.length → bindArgs (docDef n f.params f.body f.scope pm code doc) ⟨vals, []⟩ = pure (names.zip vals))
    (hnd : names.Nodup) (hndc : ((cellsFrom 0 f.scope.names []).map (·.1)).Nodup) (hkinds : ∀ x ∈ names, f.scope.names.lookup x = some .local ∨ f.scope.names.lookup x = some .cell)
    (hk : f.scope.kind = .function) (hco : f.scope.isCoroutine = false) (hgen : f.scope.isGenerator = false)
    (hM : M₁.length = M.length) (hret : RetTo M.length N q q')
    (hfl : fl0 = .rt q ∨ (fl0 = .nx ∧ q = .none)) (h : EvB W f.scope d (names.zip ps) M f.body fl0 σ' (M₁ ++ N)) : CallOk W (d + 1) n ps M q' M₁ := by
  intro a ha A s as vs Q E hA O₁ hvs post
  obtain ⟨a', ⟨hg, o, pm, code, doc, ho, hdat, hcd⟩⟩ := hfn
  rw [ha] at hg; cases hg
  have hvl : vs.length = names.length := by rw [hvs.length, hlen]
  have hmap : (names.zip vs).map (·.1) = names := by
    rw [List.map_fst_zip]; omega
  have hb := O₁.base
  refine wpAny_call (codeAny_call_cells (o := o) (fd := docDef n f.params f.body f.scope pm code doc) (body := f.body) (binds := names.zip vs) (by have := hA.depth; unfold recursionLimit; omega) (hb _ _ ho) hdat (O.nolimit.keeps hb) (hcd.keeps hb) rfl
    (hbind vs pm code doc hvl) rfl (fun x hx => ?_) (fun s₁ X => ?_) hco hgen hk)
  · have hx' : x.1 ∈ names := by rw [← hmap]; exact List.mem_map_of_mem hx
    exact (hkinds x.1 hx').imp id fun e => ⟨e, PySem.W.cellsFrom_some _ _ _ (.inl e)⟩
  · generalize henv : callEnvC (docDef n f.params f.body f.scope pm code doc) s.heap.objs.size a = env at X ⊢
    have hsc : env.scope = f.scope := by rw [← henv]; rfl
    have hcells : env.cells = cellsFrom (env.locals + 1) f.scope.names [] := by rw [← henv]; rfl
    have hEnv : EnvOk f.scope env := ⟨hsc, hk, by rw [← henv]; rfl, by rw [← henv]; rfl⟩
    obtain ⟨h₁, tk₁, rfl⟩ := X.toInCall.same
    have keep : ∀ b o, s.heap.get? b = some o → h₁.get? b = some o := X.toInCall.keep
    have S₁ : Step [] as s.heap as h₁ := Step.of_keeps keep
    have O₂ := O₁.grow keep
    have freshLoc : s.heap.get? env.locals = none := by
      cases e : s.heap.get? env.locals with
      | none => rfl
      | some o => exact absurd (Heap.lt_size e) (Nat.not_lt.mpr X.toInCall.fresh)
    have freshCell : ∀ x c, (x, c) ∈ env.cells → s.heap.get? c = none := fun x c hm => by
      cases e : s.heap.get? c with
      | none => rfl
      | some o => exact absurd (Heap.lt_size e) (Nat.not_lt.mpr (Nat.le_of_lt (Nat.lt_of_le_of_lt X.toInCall.fresh (X.above x c hm))))
    have inj : ∀ x y c, env.cells.lookup x = some c → env.cells.lookup y = some c → x = y := fun x y c e e' => name_of_addr X.apart (mem_of_lookup e) (mem_of_lookup e')
    have hcell : ∀ x c, (x, c) ∈ env.cells → ∃ v, h₁.IsCell c v := fun x c hm =>
      ⟨_, X.cell x c (lookup_of_mem_nodup (by rw [hcells]; exact cellsFrom_names f.scope.names 0 (env.locals + 1) [] [] rfl ▸ hndc) hm)⟩
    have I₁ : Inv W env (names.zip ps) M as h₁ := by
      refine ⟨O₂.base, O₂.len, O₂.nodup, O₂.mem, O₂.fresh, fun x p e => ?_, ⟨⟨_, X.toInCall.ns⟩, ?_⟩, fun x c hm => ⟨hcell x c hm, ?_⟩, inj, fun x hx => ?_⟩
      · obtain ⟨v, hv, hr⟩ := zip_lookup hvs e
        refine ⟨v, ?_, hr.mono S₁ (NoSeq.nil _)⟩
        have hx : x ∈ names := by rw [← hmap]; exact List.mem_map_of_mem (f := (·.1)) (mem_of_lookup hv)
        rcases hkinds x hx with hl | hl
        · have hl' : env.kindOf x = some .local := (hEnv.kindOf x).trans hl
          exact .inl ⟨hl', _, X.toInCall.ns, bindL_get hv (by rw [hmap]; exact hnd) hl'⟩
        · have hl' : env.kindOf x = some .cell := (hEnv.kindOf x).trans hl
          refine .inr ⟨.inl hl', ?_⟩
          obtain ⟨c, hc⟩ := Option.isSome_iff_exists.mp (PySem.W.cellsFrom_some f.scope.names (env.locals + 1) [] (x := x) (.inl hl))
          rw [← hcells] at hc
          refine ⟨c, hc, ?_⟩
          have := X.cell x c hc
          rwa [bindC_get hv (by rw [hmap]; exact hnd) (by rw [hl']; simp)] at this
      · cases e : W.H0.get? env.locals with
        | none => rfl
        | some o => rw [hb _ _ e] at freshLoc; cases freshLoc
      · cases e : W.H0.get? c with
        | none => rfl
        | some o => have := freshCell x c hm; rw [hb _ _ e] at this; cases this
      · rw [hcells]
        exact Option.isSome_iff_exists.mp (PySem.W.cellsFrom_some _ _ _ (.inl ((hEnv.kindOf x).symm.trans hx)))
    have hA' : AOk d (A.deeper env) := ⟨hA.handled, by show A.depth + 1 + d < 900; have := hA.depth; omega, by show A.units + 3 + 20 * d < 9000; have := hA.units; omega⟩
    refine h.run (A.deeper env) env _ as _ _ hA' hEnv I₁ fun fl h' tk' as' I' S' r => ?_
    obtain ⟨v, r, hv⟩ : ∃ v, Rep h' as' q v ∧ (match (generalizing := false) fl with | .ret v => v | _ => .none) = v := by
      rcases hfl with rfl | ⟨rfl, rfl⟩
      · obtain ⟨v, rfl, r⟩ := r
        exact ⟨v, r, rfl⟩
      · cases r
        exact ⟨.none, rfl, rfl⟩
    have freshF : ∀ b ∈ frameAddrs env, s.heap.get? b = none := fun b hb => by
      rcases List.mem_cons.mp hb with rfl | hb
      · exact freshLoc
      · obtain ⟨⟨x, c⟩, hc, rfl⟩ := List.mem_map.mp hb
        exact freshCell x c hc
    obtain ⟨bs, rfl, hbs⟩ := S'.ext
    have hlen' : as.length + bs.length = M₁.length + N.length := by have := I'.len; simpa using this
    have hal := O₁.len
    have T : Step [] as s.heap as h' := ⟨⟨[], by simp, by simp⟩, fun b o e => S'.live b o (keep b o e), fun b o hb _ e => S'.keep b o hb (fun hf => by rw [freshF b hf] at e; cases e) (keep b o e)⟩
    have O' : MemOk W M₁ as h' := by
      refine ⟨I'.base, by omega, (List.nodup_append.mp I'.nodup).1, fun i a l ha hl => ?_, fun a ha => I'.fresh a (List.mem_append_left _ ha)⟩
      have hi : i < as.length := (List.getElem?_eq_some_iff.mp ha).1
      obtain ⟨vs, n, e, rr, z, hm⟩ := I'.mem i a l (by rw [List.getElem?_append_left hi]; exact ha) (by rw [List.getElem?_append_left (by omega)]; exact hl)
      exact ⟨vs, n, e, rr.trunc _ _ hm, z, hm⟩
    show Q (match (generalizing := false) fl with | .ret v => v | _ => .none) _
    rw [hv]
    refine post v h' tk' O' T ?_
    cases hret with
    | same hm => exact r.trunc _ _ hm
    | @list i l hl hm =>
      obtain ⟨a, rfl, ha⟩ := r
      rw [show M.length + i = as.length + i by omega] at ha
      obtain ⟨vs, n, e, rr, z, hm'⟩ := I'.mem (as.length + i) a l ha (by rw [List.getElem?_append_right (by omega), show as.length + i - M₁.length = i by omega]; exact hl)
      refine ⟨a, vs, n, rfl, fun hin => ?_, e, rr.trunc _ _ hm, z⟩
      rw [List.getElem?_append_right (by omega)] at ha
      exact (List.nodup_append.mp I'.nodup).2.2 a hin a (List.mem_of_getElem? ha) rfl
theorem callOk_of_body (O : W.Ok) {n : Str} {f : Fn} {names : List Str} {ps : List PV} {q q' : PV} {σ' : Vars} {N : Mem} (hfn : ∃ a, W.FnAt n a f) (hlen : names.length = ps.length)
    (hbind : ∀ (vals : List Value) (pm code doc : Value), vals.length = names.length → bindArgs (docDef n f.params f.body f.scope pm code doc) ⟨vals, []⟩ = pure (names.zip vals))
    (hnd : names.Nodup) (hndc : ((cellsFrom 0 f.scope.names []).map (·.1)).Nodup) (hkinds : ∀ x ∈ names, f.scope.names.lookup x = some .local ∨ f.scope.names.lookup x = some .cell)
    (hk : f.scope.kind = .function) (hco : f.scope.isCoroutine = false) (hgen : f.scope.isGenerator = false)
    (hM : M₁.length = M.length) (hret : RetTo M.length N q q')
    (h : EvB W f.scope d (names.zip ps) M f.body (.rt q) σ' (M₁ ++ N)) : CallOk W (d + 1) n ps M q' M₁ :=
  callOk_of_bodyG O (.rt q) hfn hlen hbind hnd hndc hkinds hk hco hgen hM hret (.inl rfl) h
end
end Mine
end
section
open PySem PySem.W PyProof.Rows PySem.Calls
set_option Elab.async false
set_option maxRecDepth 100000
set_option linter.unusedVariables false
set_option linter.unusedSimpArgs false
namespace Mine

-- several targets, in their order
inductive EvAs (W : Wd) (sc : Scope) (d : Nat) (loc : Bool) : Vars → Mem → List Expr → List PV → Vars → Mem → Prop
  | nil {σ : Vars} {M : Mem} : EvAs W sc d loc σ M [] [] σ M
  | cons {σ : Vars} {M : Mem} {t : Expr} {ts : List Expr} {p : PV} {ps : List PV} {σ₁ : Vars} {M₁ : Mem} {σ₂ : Vars} {M₂ : Mem} : EvA W sc d loc σ M t p σ₁ M₁ → EvAs W sc d loc σ₁ M₁ ts ps σ₂ M₂ → (∀ env, assignEach (t :: ts) env = (false, assign t env) :: assignEach ts env) → EvAs W sc d loc σ M (t :: ts) (p :: ps) σ₂ M₂

inductive WhileRun (W : Wd) (sc : Scope) (d : Nat) (test : Expr) (body : List Stmt) : Nat → Vars → Mem → Fl → Vars → Mem → Prop
  | done {σ : Vars} {M M₁ : Mem} : EvT W sc d σ M test false M₁ → WhileRun W sc d test body 0 σ M .nx σ M₁
  | ret {σ : Vars} {M M₁ : Mem} {σ₂ : Vars} {M₂ : Mem} {p : PV} : EvT W sc d σ M test true M₁ → EvB W sc d σ M₁ body (.rt p) σ₂ M₂ → WhileRun W sc d test body 0 σ M (.rt p) σ₂ M₂
  | step {n : Nat} {σ : Vars} {M M₁ : Mem} {σ₂ : Vars} {M₂ : Mem} {f : Fl} {σ₃ : Vars} {M₃ : Mem} : EvT W sc d σ M test true M₁ → EvB W sc d σ M₁ body .nx σ₂ M₂ → WhileRun W sc d test body n σ₂ M₂ f σ₃ M₃ → WhileRun W sc d test body (n + 1) σ M f σ₃ M₃


section
variable {W : Wd} {sc : Scope} {d : Nat} {loc : Bool} {σ σ₁ σ₂ σ₃ : Vars} {M M₁ M₂ M₃ : Mem}

-- what is known of the frame may be forgotten
noncomputable def SubV : Vars → Vars → Prop
  | [], _ => True
  | (x, p) :: r, σ => σ.lookup x = some p ∧ SubV r σ
theorem SubV.get : ∀ {τ σ : Vars}, SubV τ σ → ∀ x p, τ.lookup x = some p → σ.lookup x = some p
  | [], _, _, _, _, e => by simp at e
  | (y, q) :: r, σ, ⟨h, hr⟩, x, p, e => by
    rw [List.lookup_cons] at e
    cases hb : x == y with
    | true => rw [hb] at e; cases e; rw [beq_iff_eq.mp hb]; exact h
    | false => rw [hb] at e; exact SubV.get hr x p e
theorem Inv.weak {env : Env} {as : List Addr} {h : Heap} (I : Inv W env σ M as h) (s : SubV σ₁ σ) : Inv W env σ₁ M as h :=
  ⟨I.base, I.len, I.nodup, I.mem, I.fresh, fun x p e => I.vars x p (s.get x p e), I.loc, I.cells, I.inj, I.has⟩
theorem Ev.pre {α : Type} {fr : Bool} {t : Env → Sem α} {R} (h : Ev W sc d σ₁ M fr t R σ₂ M₁) (s : SubV σ₁ σ) : Ev W sc d σ M fr t R σ₂ M₁ :=
  Ev.mk fun A env st as Q E hA hE I post => h.run A env st as Q E hA hE (I.weak s) post
theorem Ev.post {α : Type} {fr : Bool} {t : Env → Sem α} {R} (h : Ev W sc d σ M fr t R σ₁ M₁) (s : SubV σ₂ σ₁) : Ev W sc d σ M fr t R σ₂ M₁ :=
  Ev.mk fun A env st as Q E hA hE I post => h.run A env st as Q E hA hE I fun v h' tk as' I' S r => post v h' tk as' (I'.weak s) S r

-- stores
theorem wp_storeL {A : Around} {env : Env} {s : Shared} {as : List Addr} {x : Str} {p : PV} {v : Value} {Q : Unit → Shared → Prop} {E : Value → Shared → Prop} (hE : EnvOk sc env) (I : Inv W env σ M as s.heap) (r : Rep s.heap as p v)
    (hx : sc.names.lookup x = some .local) (post : ∀ h' tk, Inv W env (setV x p σ) M as h' → Step [env.locals] as s.heap as h' → Q () { s with heap := h', toks := tk }) : wpAny (model W.prog W.w) A (storeName env x v) Q E s := by
  obtain ⟨⟨m, hn⟩, _⟩ := I.loc
  refine wpAny_storeName_local ((hE.kindOf x).trans hx) hn (fun h' hn' hs => ?_) hE.notClass
  obtain ⟨I', S'⟩ := I.set_local ((hE.kindOf x).trans hx) hn r hn' hs
  exact post h' _ I' S'
theorem wp_store {A : Around} {env : Env} {s : Shared} {as : List Addr} {x : Str} {p : PV} {v : Value} {Q : Unit → Shared → Prop} {E : Value → Shared → Prop} (hE : EnvOk sc env) (I : Inv W env σ M as s.heap) (r : Rep s.heap as p v)
    (hx : sc.names.lookup x = some .local ∨ sc.names.lookup x = some .cell)
    (post : ∀ h' tk, Inv W env (setV x p σ) M as h' → Step (frameAddrs env) as s.heap as h' → Q () { s with heap := h', toks := tk }) : wpAny (model W.prog W.w) A (storeName env x v) Q E s := by
  rcases hx with hx | hx
  · exact wp_storeL hE I r hx fun h' tk I' S' => post h' tk I' (S'.weak (by simp [frameAddrs]))
  · have hk : env.kindOf x = some .cell := (hE.kindOf x).trans hx
    obtain ⟨c, hc⟩ := I.has x hk
    obtain ⟨⟨v₀, hv⟩, _⟩ := I.cells x c (mem_of_lookup hc)
    refine wpAny_storeName_cell hE.isFun hk hc hv fun h' hv' hs => ?_
    obtain ⟨I', S'⟩ := I.set_cell (.inl hk) hc r hv' hs
    exact post h' s.toks I' S'

theorem A_name {x : Str} {p : PV} {pos : Pos} (hx : sc.names.lookup x = some .local ∨ sc.names.lookup x = some .cell := by first | exact .inl rfl | exact .inr rfl) : EvA W sc d false σ M (.Name x pos) p (setV x p σ) M :=
  fun A env s as v Q E hA hE I r post => wpAny_assign_Name (wp_store hE I r hx fun h' tk I' S' => post h' tk I' S')
theorem A_nameL {x : Str} {p : PV} {pos : Pos} (hx : sc.names.lookup x = some .local := by rfl) : EvA W sc d true σ M (.Name x pos) p (setV x p σ) M :=
  fun A env s as v Q E hA hE I r post => wpAny_assign_Name (wp_storeL hE I r hx fun h' tk I' S' => post h' tk I' S')
theorem Inv.noSeqX {env : Env} {as : List Addr} {h : Heap} (I : Inv W env σ M as h) : NoSeq (xOf loc env) h := by
  cases loc with
  | false => exact I.noSeq
  | true => exact fun b hb o ho vs n hd => I.noSeq b (by simp [xOf] at hb; simp [frameAddrs, hb]) o ho vs n hd
theorem xOf_frames {env : Env} : ∀ b ∈ xOf loc env, b ∈ frameAddrs env := by
  cases loc with
  | false => exact fun b hb => hb
  | true => simp [xOf, frameAddrs]

theorem EvAs.length {ts : List Expr} {ps : List PV} (h : EvAs W sc d loc σ M ts ps σ₁ M₁) (env : Env) : (assignEach ts env).length = ps.length ∧ (assignEach ts env).findIdx? (·.1) = none := by
  induction h with
  | nil => exact ⟨rfl, rfl⟩
  | cons _ _ he ih => rw [he]; exact ⟨by simp [ih.1], by rw [List.findIdx?_cons, ih.2]; rfl⟩
theorem EvAs.wp {ts : List Expr} {ps : List PV} (h : EvAs W sc d loc σ M ts ps σ₁ M₁) : ∀ {A : Around} {env : Env} {s : Shared} {as : List Addr} {vs : List Value} {Q : Unit → Shared → Prop} {E : Value → Shared → Prop}, AOk d A → EnvOk sc env →
    Inv W env σ M as s.heap → RepL s.heap as ps vs → (∀ h' tk, Inv W env σ₁ M₁ as h' → Step (xOf loc env) as s.heap as h' → Q () { s with heap := h', toks := tk }) → wpAny (model W.prog W.w) A (assignInOrder ((assignEach ts env).map (·.2)) vs) Q E s := by
  induction h with
  | nil =>
    intro A env s as vs Q E hA hE I r post
    cases r
    exact wpAny_pure (post s.heap s.toks I (Step.refl ..))
  | cons h1 _ he ih =>
    intro A env s as vs Q E hA hE I r post
    obtain ⟨v, r', rfl, hv, hr⟩ := r
    rw [he]
    show wpAny _ A (do holding r' (assign _ env v); assignInOrder ((assignEach _ env).map (·.2)) r') _ _ _
    refine wpAny_bind (wpAny_holding (h1 A env s as v _ E hA hE I hv fun h' tk I' S' => ?_))
    exact ih hA hE I' (hr.mono S' I.noSeqX) fun h'' tk' I'' S'' => post h'' tk' I'' (S'.trans S'')

theorem tup_is {as : List Addr} {h : Heap} {ps : List PV} {v : Value} (r : Rep h as (.tup ps) v) : ∃ t vs, v = .ref t ∧ h.IsTuple t (List.toArray vs) ∧ IsTup h t (List.toArray vs) ∧ RepL h as ps vs := by
  obtain ⟨t, vs, n, rfl, _, ho, rl, _⟩ := r
  exact ⟨t, vs, rfl, ⟨_, ho, rfl, n, rfl⟩, ⟨_, ho, rfl, n, rfl⟩, rl⟩

theorem A_tuple {ts : List Expr} {ps : List PV} {k : Nat} {pos : Pos} (h : EvAs W sc d loc σ M ts ps σ₁ M₁) : EvA W sc d loc σ M (.Tuple ts k pos) (.tup ps) σ₁ M₁ := by
  intro A env s as v Q E hA hE I r post
  obtain ⟨t, vs, rfl, ht, _, rl⟩ := tup_is r
  obtain ⟨h1, h2⟩ := h.length env
  refine wpAny_assign_Tuple hA.handled ht (by rw [h1]; simp [rl.length]) h2 fun h' hx => ?_
  have k : ∀ b o, s.heap.get? b = some o → h'.get? b = some o := fun b o e => hx b o (Nat.ne_of_lt (Heap.lt_size e)) e
  have S : Step [] as s.heap as h' := Step.of_keeps k
  refine h.wp hA hE (I.grow k) (rl.mono S (NoSeq.nil _)) fun h'' tk I'' S'' => ?_
  exact post h'' tk I'' ((S.weak (by simp)).trans S'')

-- x = e
theorem S_assign {x : Str} {e : Expr} {p : PV} {px pos : Pos} (h : EvE W sc d σ M e p M₁) (hx : sc.names.lookup x = some .local ∨ sc.names.lookup x = some .cell := by first | exact .inl rfl | exact .inr rfl)
    (hs : ∀ env, EnvOk sc env → swapsWith e (some (.Name x px)) pos.line env = pure false := by first | (intro _ _; rfl) | (rintro ⟨_, _, _, _, _, _, _, _, _⟩ ⟨rfl, _, _, _⟩; rfl)) : EvS W sc d σ M (.Assign [.Name x px] e pos) .nx (setV x p σ) M₁ := by
  refine ⟨fun A env s as Q E hA hE I post => ?_⟩
  refine wpAny_Assign_Name (h.run A env s as _ E hA hE I fun v h' tk as' I' S r => ?_) (hs env hE)
  refine wp_store hE I' r hx fun h'' tk' I'' S' => ?_
  exact post .next h'' tk' as' I'' ((S.weak (by simp)).trans S') rfl

-- a, b = e
theorem S_unpack {ts : List Expr} {e : Expr} {ps : List PV} {k : Nat} {px pos : Pos} (h : EvE W sc d σ M e (.tup ps) M₁) (ha : EvAs W sc d false σ M₁ ts ps σ₂ M₂)
    (hs : ∀ env, EnvOk sc env → swapsWithSole [.Tuple ts k px] e pos.line env = pure false := by first | (intro _ _; rfl) | (rintro ⟨_, _, _, _, _, _, _, _, _⟩ ⟨rfl, _, _, _⟩; rfl))
    (hw : ∀ env, EnvOk sc env → swappedStores [.Tuple ts k px] e env = pure none := by first | (intro _ _; rfl) | (rintro ⟨_, _, _, _, _, _, _, _, _⟩ ⟨rfl, _, _, _⟩; rfl)) :
    EvS W sc d σ M (.Assign [.Tuple ts k px] e pos) .nx σ₂ M₂ := by
  refine ⟨fun A env s as Q E hA hE I post => ?_⟩
  refine Assign_Tuple (h.run A env s as _ E hA hE I fun v h' tk as' I' S r => ?_) (hs env hE) (hw env hE)
  refine A_tuple (loc := false) ha A env _ as' v _ E hA hE I' r fun h'' tk' I'' S'' => ?_
  replace S'' : Step (frameAddrs env) as' h' as' h'' := S''
  exact post .next h'' tk' as' I'' ((S.weak (by simp)).trans S'') rfl

-- the exchanged stores
theorem swap_wp {A : Around} {env : Env} {E : Value → Shared → Prop} (hE : EnvOk sc env) : ∀ {names : List Str} {ps : List PV} {vs : List Value} {σ : Vars} {s : Shared} {as : List Addr} {Q : Unit → Shared → Prop}, names.length = ps.length →
    Inv W env σ M as s.heap → RepL s.heap as ps vs → (∀ x ∈ names, sc.names.lookup x = some .local ∨ sc.names.lookup x = some .cell) →
    (∀ h' tk, Inv W env ((names.zip ps).foldl (fun σ y => setV y.1 y.2 σ) σ) M as h' → Step (frameAddrs env) as s.heap as h' → Q () { s with heap := h', toks := tk }) →
    wpAny (model W.prog W.w) A (assignInOrder (names.map fun n => bindName env n) vs) Q E s
  | [], ps, vs, σ, s, as, Q, hl, I, r, hx, post => by
    cases ps with
    | nil => cases r; exact wpAny_pure (post s.heap s.toks I (Step.refl ..))
    | cons _ _ => simp at hl
  | x :: names, [], vs, σ, s, as, Q, hl, I, r, hx, post => by simp at hl
  | x :: names, p :: ps, vs, σ, s, as, Q, hl, I, r, hx, post => by
    obtain ⟨v, r', rfl, hv, hr⟩ := r
    show wpAny _ A (do holding r' (bindName env x v); assignInOrder (names.map fun n => bindName env n) r') _ _ _
    refine wpAny_bind (wpAny_holding (wpAny_bindName (wp_store hE I hv (hx x (by simp)) fun h' tk I' S' => ?_)))
    exact swap_wp hE (by simpa using hl) I' (hr.mono S' I.noSeq) (fun y hy => hx y (by simp [hy])) fun h'' tk' I'' S'' => post h'' tk' I'' (S'.trans S'')

theorem S_swap {ts : List Expr} {e : Expr} {ps : List PV} {names : List Str} {k : Nat} {px pos : Pos} (h : EvE W sc d σ M e (.tup ps) M₁)
    (hw : ∀ env, EnvOk sc env → swappedStores [.Tuple ts k px] e env = pure (some names)) (hl : names.length = ps.length) (hx : ∀ x ∈ names, sc.names.lookup x = some .local ∨ sc.names.lookup x = some .cell)
    (hs : ∀ env, EnvOk sc env → swapsWithSole [.Tuple ts k px] e pos.line env = pure false) :
    EvS W sc d σ M (.Assign [.Tuple ts k px] e pos) .nx ((names.reverse.zip ps.reverse).foldl (fun σ y => setV y.1 y.2 σ) σ) M₁ := by
  refine ⟨fun A env s as Q E hA hE I post => ?_⟩
  refine Assign_Tuple_swapped (h.run A env s as _ E hA hE I fun v h' tk as' I' S r => ?_) (hs env hE) (hw env hE)
  obtain ⟨t, vs, rfl, ht, _, rl⟩ := tup_is r
  rw [show names.length = (List.toArray vs).size by simp [rl.length, hl]]
  refine wpAny_unpackItems_tuple hA.handled ht fun h2 hx2 => ?_
  have k : ∀ b o, h'.get? b = some o → h2.get? b = some o := fun b o e => hx2 b o (Nat.ne_of_lt (Heap.lt_size e)) e
  have S2 : Step [] as' h' as' h2 := Step.of_keeps k
  refine swap_wp hE (ps := ps.reverse) (by simp [hl]) (I'.grow k) ((rl.mono S2 (NoSeq.nil _)).reverse) (fun x hm => hx x (by simpa using hm)) fun h3 tk3 I3 S3 => ?_
  exact post .next h3 tk3 as' I3 (((S.trans S2).weak (by simp)).trans S3) rfl

-- x op= e, on ints
theorem S_augI {x : Str} {e : Expr} {op : Operator} {a b c : Int} {px pos : Pos} (hv : σ.lookup x = some (.int a)) (h : EvE W sc d σ M e (.int b) M₁)
    (hop : (op = .Add ∧ c = a + b) ∨ (op = .Sub ∧ c = a - b)) (hx : sc.names.lookup x = some .local ∨ sc.names.lookup x = some .cell := by first | exact .inl rfl | exact .inr rfl) (hc : (x == ("__classdict__" : Str)) = false := by rfl) :
    EvS W sc d σ M (.AugAssign (.Name x px) op e pos) .nx (setV x (.int c) σ) M₁ := by
  refine ⟨fun A env s as Q E hA hE I post => ?_⟩
  refine wpAny_AugAssign_Name ?_
  obtain ⟨v, V, R⟩ := I.vars x _ hv
  obtain ⟨t, rfl⟩ := R
  have fin : wpAny (model W.prog W.w) A (eval e env) (fun v s₂ => wpAny (model W.prog W.w) A (inplaceOp op (.int a t) v) (fun r s₃ => wpAny (model W.prog W.w) A (storeName env x r) (fun _ => Q .next) E s₃) E s₂) E s := by
    refine h.run A env s as _ E hA hE I fun v h' tk as' I' S r => ?_
    obtain ⟨u, rfl⟩ := r
    have st : ∀ w s', Rep h' as' (.int c) w → s'.heap = h' → s'.gens = s.gens → s'.drawn = s.drawn → s'.os = s.os → wpAny (model W.prog W.w) A (storeName env x w) (fun _ => Q .next) E s' := by
      intro w s' rw' e1 e2 e3 e4
      obtain ⟨hh, g, dd, tt, oo⟩ := s'
      dsimp only at e1 e2 e3 e4
      subst e1 e2 e3 e4
      exact wp_store hE (s := ⟨hh, s.gens, s.drawn, tt, s.os⟩) I' rw' hx fun h'' tk' I'' S' => post .next h'' tk' as' I'' ((S.weak (by simp)).trans S') rfl
    rcases hop with ⟨rfl, rfl⟩ | ⟨rfl, rfl⟩
    · exact PyProof.Rows.iadd_int (st _ _ ⟨_, rfl⟩ rfl rfl rfl rfl)
    · exact PyProof.Rows.isub_int (st _ _ ⟨_, rfl⟩ rfl rfl rfl rfl)
  rcases V with ⟨hl, m, hn, hm⟩ | ⟨hl, c', hcl, hv'⟩
  · exact wpAny_loadName_local hE.isFun hl hn hm fin
  · rcases hl with hl | hl
    · exact wpAny_loadName_cell hE.isFun hl hcl hv' fin
    · exact wpAny_loadName_free hE.isFun hl hcl hv' fin hc

-- blocks
theorem B_nil : EvB W sc d σ M [] .nx σ M := Ev.mk fun A env s as Q E hA hE I post => wpAny_execs_nil (post .next s.heap s.toks as I (Step.refl ..) rfl)
theorem Inv.step_frames {env : Env} {as as' : List Addr} {h h' : Heap} (S : Step (frameAddrs env) as h as' h') : Step (frameAddrs env) as h as' h' := S
theorem B_cons {st : Stmt} {sts : List Stmt} {f : Fl} (h1 : EvS W sc d σ M st .nx σ₁ M₁) (h2 : EvB W sc d σ₁ M₁ sts f σ₂ M₂) : EvB W sc d σ M (st :: sts) f σ₂ M₂ := by
  refine ⟨fun A env s as Q E hA hE I post => ?_⟩
  refine wpAny_execs_cons (h1.run A env s as _ E hA hE I fun v h' tk as' I' S r => ?_)
  cases r
  exact h2.run A env _ as' _ E hA hE I' fun v' h'' tk' as'' I'' S' r' => post v' h'' tk' as'' I'' (Step.trans S S') r'
theorem B_ret {st : Stmt} {sts : List Stmt} {p : PV} (h1 : EvS W sc d σ M st (.rt p) σ₁ M₁) : EvB W sc d σ M (st :: sts) (.rt p) σ₁ M₁ := by
  refine ⟨fun A env s as Q E hA hE I post => ?_⟩
  refine wpAny_execs_cons (h1.run A env s as _ E hA hE I fun v h' tk as' I' S r => ?_)
  obtain ⟨v', rfl, r'⟩ := r
  exact post (.ret v') h' tk as' I' S ⟨v', rfl, r'⟩
theorem S_ret {e : Expr} {p : PV} {pos : Pos} (h : EvE W sc d σ M e p M₁) : EvS W sc d σ M (.Return (some e) pos) (.rt p) σ M₁ := by
  refine ⟨fun A env s as Q E hA hE I post => ?_⟩
  refine wpAny_Return_some (h.run A env s as _ E hA hE I fun v h' tk as' I' S r => ?_)
  exact post (.ret v) h' tk as' I' (S.weak (by simp)) ⟨v, rfl, r⟩
theorem S_if {test : Expr} {body orelse : List Stmt} {f : Fl} {b : Bool} {pos : Pos} (h1 : EvT W sc d σ M test b M₁) (h2 : b = true → EvB W sc d σ M₁ body f σ₂ M₂) (h3 : b = false → EvB W sc d σ M₁ orelse f σ₂ M₂) :
    EvS W sc d σ M (.If test body orelse pos) f σ₂ M₂ := by
  refine ⟨fun A env s as Q E hA hE I post => ?_⟩
  refine wpAny_If (h1.run A env s as _ E hA hE I fun v h' tk as' I' S r => ?_)
  subst r
  cases v with
  | true => simp only [if_true]; exact (h2 rfl).run A env _ as' _ E hA hE I' fun v' h'' tk' as'' I'' S' r' => post v' h'' tk' as'' I'' ((S.weak (by simp)).trans S') r'
  | false => simp only [Bool.false_eq_true, if_false]; exact (h3 rfl).run A env _ as' _ E hA hE I' fun v' h'' tk' as'' I'' S' r' => post v' h'' tk' as'' I'' ((S.weak (by simp)).trans S') r'

-- while
theorem S_while {test : Expr} {body : List Stmt} {n : Nat} {f : Fl} {pos : Pos} (h : WhileRun W sc d test body n σ M f σ₁ M₁) : EvS W sc d σ M (.While test body [] pos) f σ₁ M₁ := by
  refine ⟨fun A env s as Q E hA hE I post => ?_⟩
  refine wpAny_While (codeAny_whileLoop (fun k s' => ∃ σ' M' as' h' tk', s' = { s with heap := h', toks := tk' } ∧ Inv W env σ' M' as' h' ∧ Step (frameAddrs env) as s.heap as' h' ∧ WhileRun W sc d test body k σ' M' f σ₁ M₁) ?_ n ⟨σ, M, as, s.heap, s.toks, rfl, I, Step.refl .., h⟩)
  rintro k _ ⟨σ', M', as', h', tk', rfl, I', S', run⟩
  cases run with
  | done ht =>
    refine ht.run A env _ as' _ _ hA hE I' fun v h2 tk2 as2 I2 S2 r => ?_
    subst r
    simp only [Bool.false_eq_true, if_false]
    refine wpAny_execs_nil ?_
    exact post .next h2 tk2 as2 I2 (S'.trans (S2.weak (by simp))) rfl
  | ret ht hb =>
    refine ht.run A env _ as' _ _ hA hE I' fun v h2 tk2 as2 I2 S2 r => ?_
    subst r
    simp only [if_true]
    refine hb.run A env _ as2 _ _ hA hE I2 fun v h3 tk3 as3 I3 S3 r3 => ?_
    obtain ⟨w, rfl, r3⟩ := r3
    exact post (.ret w) h3 tk3 as3 I3 ((S'.trans (S2.weak (by simp))).trans S3) ⟨w, rfl, r3⟩
  | step ht hb rest =>
    refine ht.run A env _ as' _ _ hA hE I' fun v h2 tk2 as2 I2 S2 r => ?_
    subst r
    simp only [if_true]
    refine hb.run A env _ as2 _ _ hA hE I2 fun v h3 tk3 as3 I3 S3 r3 => ?_
    cases r3
    exact ⟨_, Nat.lt_succ_self _, _, _, as3, h3, tk3, rfl, I3, (S'.trans (S2.weak (by simp))).trans S3, rest⟩
end
end Mine
end
section
open PySem PySem.W PyProof.Rows PySem.Calls
set_option Elab.async false
set_option maxRecDepth 100000
set_option linter.unusedVariables false
set_option linter.unusedSimpArgs false
namespace Mine

-- the objects of an iterator change, nothing else
mutual
theorem Rep.mono0 {as h h'} (k : ∀ b o vs n, h.get? b = some o → o.data = .seq vs n → h'.get? b = some o) : ∀ (p : PV) (v : Value), Rep h as p v → Rep h' as p v
  | .none, _, r => r
  | .bool _, _, r => r
  | .int _, _, r => r
  | .tup l, v, ⟨a, vs, n, e, ha, ho, r, hz⟩ => ⟨a, vs, n, e, ha, k a _ _ _ ho rfl, RepL.mono0 k l vs r, hz⟩
  | .lst l, v, ⟨a, vs, n, e, ha, ho, r, hz⟩ => ⟨a, vs, n, e, ha, k a _ _ _ ho rfl, RepL.mono0 k l vs r, hz⟩
  | .mt i, v, r => r
  | .ils ns, v, ⟨a, vs, e, ha, ⟨o, ho, hc, n, hd⟩, r⟩ => ⟨a, vs, e, ha, ⟨o, k a _ _ _ ho hd, hc, n, hd⟩, r⟩
theorem RepL.mono0 {as h h'} (k : ∀ b o vs n, h.get? b = some o → o.data = .seq vs n → h'.get? b = some o) : ∀ (l : List PV) (vs : List Value), RepL h as l vs → RepL h' as l vs
  | [], _, r => r
  | p :: l, _, ⟨v, r, e, hp, hl⟩ => ⟨v, r, e, Rep.mono0 k p v hp, RepL.mono0 k l r hl⟩
end

mutual
theorem Rep.mono1 {as h h'} (k : ∀ b o vs n, b ∉ as → h.get? b = some o → o.data = .seq vs n → h'.get? b = some o) : ∀ (p : PV) (v : Value), Rep h as p v → Rep h' as p v
  | .none, _, r => r
  | .bool _, _, r => r
  | .int _, _, r => r
  | .tup l, v, ⟨a, vs, n, e, ha, ho, r, hz⟩ => ⟨a, vs, n, e, ha, k a _ _ _ ha ho rfl, RepL.mono1 k l vs r, hz⟩
  | .lst l, v, ⟨a, vs, n, e, ha, ho, r, hz⟩ => ⟨a, vs, n, e, ha, k a _ _ _ ha ho rfl, RepL.mono1 k l vs r, hz⟩
  | .mt i, v, r => r
  | .ils ns, v, ⟨a, vs, e, ha, ⟨o, ho, hc, n, hd⟩, r⟩ => ⟨a, vs, e, ha, ⟨o, k a _ _ _ ha ho hd, hc, n, hd⟩, r⟩
theorem RepL.mono1 {as h h'} (k : ∀ b o vs n, b ∉ as → h.get? b = some o → o.data = .seq vs n → h'.get? b = some o) : ∀ (l : List PV) (vs : List Value), RepL h as l vs → RepL h' as l vs
  | [], _, r => r
  | p :: l, _, ⟨v, r, e, hp, hl⟩ => ⟨v, r, e, Rep.mono1 k p v hp, RepL.mono1 k l r hl⟩
end

structure Step2 (wr : List Addr) (h h' : Heap) : Prop where
  live : ∀ b o, h.get? b = some o → ∃ o', h'.get? b = some o'
  keep : ∀ b o, b ∉ wr → h.get? b = some o → h'.get? b = some o
theorem Step2.step {wr as h h'} (S : Step2 wr h h') : Step wr as h as h' := ⟨⟨[], by simp, by simp⟩, S.live, fun b o _ hx e => S.keep b o hx e⟩

noncomputable def KeepBut (wr : List Addr) (h h' : Heap) : Prop := ∀ b o, b ∉ wr → h.get? b = some o → h'.get? b = some o

-- what a loop draws from
structure IterOk (W : Wd) (A : Around) (target : Expr) (I : Addr) (wr : List Addr) (items : List PV) (St : Nat → List Addr → Heap → Prop) : Prop where
  fields : ∀ i as h, St i as h → OnlyFields wr h
  frame : ∀ i as h as' h' X, St i as h → Step X as h as' h' → OnlyFrames X h → St i as' h'
  item : ∀ i p as (s : Shared) (Q : Value → Shared → Prop) (E : Value → Shared → Prop), items[i]? = some p → St i as s.heap → (∀ b ∈ as, b < s.heap.objs.size) →
    (∀ v h' tk, St (i + 1) as h' → Step2 wr s.heap h' → Rep h' as p v → Q v { s with heap := h', toks := tk }) →
    wpAny (model W.prog W.w) A (pyNext (.ref I)) (fun r s₁ => ∃ v, r = some v ∧ wpAny (model W.prog W.w) A (letOwnedTupleGo target (.ref I) v) (fun _ => Q v) E s₁) E s
  done : ∀ as (s : Shared) (Q : Option Value → Shared → Prop) (E : Value → Shared → Prop), St items.length as s.heap →
    (∀ h' tk, KeepBut wr s.heap h' → Q none { s with heap := h', toks := tk }) → wpAny (model W.prog W.w) A (pyNext (.ref I)) Q E s
  self : ∀ i as (s : Shared) (Q : Value → Shared → Prop) (E : Value → Shared → Prop), St i as s.heap → Q (.ref I) s → wpAny (model W.prog W.w) A (pyIter (.ref I)) Q E s

noncomputable def EvI (W : Wd) (sc : Scope) (d : Nat) (σ : Vars) (M : Mem) (target iter : Expr) (items : List PV) (M' : Mem) : Prop :=
  ∀ (A : Around) (env : Env) (s : Shared) (as : List Addr) (Q : Value → Shared → Prop) (E : Value → Shared → Prop), AOk d A → EnvOk sc env → Inv W env σ M as s.heap →
    (∀ I wr St h' tk as', Inv W env σ M' as' h' → Step [] as s.heap as' h' → (∀ b ∈ wr, s.heap.get? b = none) → IterOk W A target I wr items St → St 0 as' h' → items.length ≤ 1048576 → Q (.ref I) { s with heap := h', toks := tk }) →
    wpAny (model W.prog W.w) A (eval iter env) (fun x s₁ => wpAny (model W.prog W.w) A (pyIter x) Q E s₁) E s

inductive ForRun (W : Wd) (sc : Scope) (d : Nat) (target : Expr) (body : List Stmt) : List PV → Vars → Mem → Fl → Vars → Mem → Prop
  | nil {σ : Vars} {M : Mem} : ForRun W sc d target body [] σ M .nx σ M
  | ret {p : PV} {ps : List PV} {σ : Vars} {M : Mem} {σ₁ : Vars} {M₁ : Mem} {σ₂ : Vars} {M₂ : Mem} {q : PV} : EvA W sc d false σ M target p σ₁ M₁ → EvB W sc d σ₁ M₁ body (.rt q) σ₂ M₂ → ForRun W sc d target body (p :: ps) σ M (.rt q) σ₂ M₂
  | step {p : PV} {ps : List PV} {σ : Vars} {M : Mem} {σ₁ : Vars} {M₁ : Mem} {σ₂ : Vars} {M₂ : Mem} {f : Fl} {σ₃ : Vars} {M₃ : Mem} : EvA W sc d false σ M target p σ₁ M₁ → EvB W sc d σ₁ M₁ body .nx σ₂ M₂ →
      ForRun W sc d target body ps σ₂ M₂ f σ₃ M₃ → ForRun W sc d target body (p :: ps) σ M f σ₃ M₃

section
variable {W : Wd} {sc : Scope} {d : Nat} {σ σ₁ σ₂ σ₃ : Vars} {M M₁ M₂ M₃ : Mem}

theorem Step.drop {X wr as h as₁ h₁ as₂ h₂} (S : Step X as h as₁ h₁) (T : Step (X ++ wr) as₁ h₁ as₂ h₂) (hw : ∀ b ∈ wr, h.get? b = none) : Step X as h as₂ h₂ := by
  obtain ⟨bs, rfl, hbs⟩ := S.ext
  obtain ⟨cs, rfl, hcs⟩ := T.ext
  refine ⟨⟨bs ++ cs, by simp, fun b hb => ?_⟩, fun b o e => ?_, fun b o hb hx e => T.keep b o (S.notin hb e) (fun hm => ?_) (S.keep b o hb hx e)⟩
  · rcases List.mem_append.mp hb with hb | hb
    · exact hbs b hb
    · cases e : h.get? b with
      | none => rfl
      | some o =>
        obtain ⟨o', e'⟩ := S.live b o e
        rw [hcs b hb] at e'; cases e'
  · obtain ⟨o', e'⟩ := S.live b o e
    exact T.live b o' e'
  · rcases List.mem_append.mp hm with hm | hm
    · exact hx hm
    · rw [hw b hm] at e; cases e

theorem Step.keepBut {X wr as h as₁ h₁ h₂} (S : Step X as h as₁ h₁) (k : KeepBut wr h₁ h₂) (hw : ∀ b ∈ wr, h.get? b = none) : Step X as h as₁ h₂ :=
  ⟨S.ext, fun b o e => by
    obtain ⟨o', e'⟩ := S.live b o e
    exact ⟨o', k b o' (fun hm => by rw [hw b hm] at e; cases e) e'⟩, fun b o hb hx e => k b o (fun hm => by rw [hw b hm] at e; cases e) (S.keep b o hb hx e)⟩

theorem MemOk.of_stepX {X as h h'} (O : MemOk W M as h) (S : Step X as h as h') (N : NoSeq X h) (hX : ∀ b ∈ X, W.H0.get? b = none) (hm : ∀ b ∈ as, h'.get? b = h.get? b) : MemOk W M as h' := by
  refine ⟨fun b o e => S.keep b o (fun hb => ?_) (fun hb => ?_) (O.base b o e), O.len, O.nodup, fun i a l ha hl => ?_, O.fresh⟩
  · rw [O.fresh b hb] at e; cases e
  · rw [hX b hb] at e; cases e
  · obtain ⟨vs, n, e, r, z, m⟩ := O.mem i a l ha hl
    exact ⟨vs, n, (hm a (List.mem_of_getElem? ha)).trans e, r.mono S N, z, m⟩

theorem Inv.of_keepBut {env : Env} {as : List Addr} {h h' : Heap} {wr : List Addr} (I : Inv W env σ M as h) (k : KeepBut wr h h') (hf : OnlyFields wr h) (hH : ∀ b ∈ wr, W.H0.get? b = none) : Inv W env σ M as h' := by
  have kS : ∀ b o vs n, h.get? b = some o → o.data = .seq vs n → h'.get? b = some o := fun b o vs n e hd => k b o (fun hm => hf.noSeq b hm o e vs n hd) e
  have kF : ∀ b ∈ frameAddrs env, ∀ o, h.get? b = some o → h'.get? b = some o := fun b hb o e => k b o (fun hm => by
    obtain ⟨vs, hv⟩ := hf b hm o e
    rcases I.frames b hb o e with ⟨_, _, e'⟩ | ⟨_, e'⟩ <;> rw [hv] at e' <;> cases e') e
  refine ⟨fun b o e => k b o (fun hm => by rw [hH b hm] at e; cases e) (I.base b o e), I.len, I.nodup, fun i a l ha hl => ?_, I.fresh, fun x p e => ?_, ⟨?_, I.loc.2⟩, fun x c hc => ⟨?_, (I.cells x c hc).2⟩, I.inj, I.has⟩
  · obtain ⟨vs, n, e, r, z, mm⟩ := I.mem i a l ha hl
    exact ⟨vs, n, kS _ _ _ _ e rfl, r.mono0 kS, z, mm⟩
  · obtain ⟨v, V, R⟩ := I.vars x p e
    exact ⟨v, V.keep kF, R.mono0 kS⟩
  · obtain ⟨⟨m', hm'⟩, _⟩ := I.loc
    exact ⟨m', hm'.at' fun o e => kF _ (by simp [frameAddrs]) o e⟩
  · obtain ⟨⟨v, o, ho, hd⟩, _⟩ := I.cells x c hc
    exact ⟨v, o, kF _ (by simp only [frameAddrs, List.mem_cons]; right; exact List.mem_map.mpr ⟨_, hc, rfl⟩) o ho, hd⟩

theorem S_for {target iter : Expr} {body : List Stmt} {items : List PV} {f : Fl} {pos : Pos} (hi : EvI W sc d σ M target iter items M₁) (run : ForRun W sc d target body items σ M₁ f σ₂ M₂)
    (hs : ∀ x env, foldedSetIterable iter env x = pure x := by intro _ _; rfl) : EvS W sc d σ M (.For target iter body [] pos) f σ₂ M₂ := by
  refine ⟨fun A env s as Q E hA hE I post => ?_⟩
  refine wpAny_For (hi A env s as _ E hA hE I fun It wr St h1 tk1 as1 I1 S1 hw ok st0 hz => ?_) (fun x => hs x env)
  refine codeAny_forLoop_any (fun k s' => ∃ i σ' M' as' h' tk', s' = { s with heap := h', toks := tk' } ∧ Inv W env σ' M' as' h' ∧ Step (frameAddrs env ++ wr) as1 h1 as' h' ∧ St i as' h' ∧ i ≤ items.length ∧ k = items.length - i ∧
    ForRun W sc d target body (items.drop i) σ' M' f σ₂ M₂) ?_ items.length ⟨0, σ, M₁, as1, h1, tk1, rfl, I1, Step.refl .., st0, Nat.zero_le _, rfl, run⟩
  rintro k _ ⟨i, σ', M', as', h', tk', rfl, I', S', st, hi', rfl, run⟩
  have fin : ∀ {σ'' M'' as'' h'' tk''} {fl : Flow}, Inv W env σ'' M'' as'' h'' → Step (frameAddrs env ++ wr) as1 h1 as'' h'' → σ'' = σ₂ → M'' = M₂ → FlRep h'' as'' f fl → Q fl { s with heap := h'', toks := tk'' } := by
    rintro σ'' M'' as'' h'' tk'' fl I'' S'' rfl rfl r
    exact post fl h'' tk'' as'' I'' ((S1.weak (by simp)).drop S'' hw) r
  have preserve : ∀ {h'' : Heap}, Step2 wr h' h'' → Inv W env σ' M' as' h'' := fun {h''} S => by
    have hf := ok.fields i as' h' st
    have S1' : Step wr as' h' as' h'' := S.step
    refine I'.of_stepX S1' hf ?_
    refine ⟨fun b o e => S.keep b o (fun hb => ?_) (I'.base b o e), I'.len, I'.nodup, fun j a l ha hl => ?_, I'.fresh⟩
    · have := hw b hb
      rw [I.base b o e] at this; cases this
    · obtain ⟨vs, n, e, r, z, m⟩ := I'.mem j a l ha hl
      refine ⟨vs, n, S.keep a _ (fun hb => ?_) e, r.mono S1' hf.noSeq, z, m⟩
      obtain ⟨vs', hv⟩ := hf a hb _ e
      cases hv
  generalize hrem : items.drop i = rem at run
  cases run with
  | nil =>
    have hil : i = items.length := by
      have := congrArg List.length hrem
      simp at this; omega
    refine ok.done as' _ _ _ (hil ▸ st) fun h2 tk2 S2 => ?_
    refine wpAny_execs_nil ?_
    exact post .next h2 tk2 as' (I'.of_keepBut S2 (ok.fields i as' h' st) fun b hb => by
      cases e : W.H0.get? b with
      | none => rfl
      | some o => have := hw b hb; rw [I.base b o e] at this; cases this) (((S1.weak (by simp)).drop S' hw).keepBut S2 hw) rfl
  | @ret p ps _ _ σ1 M1 _ _ q ha hb =>
    have hp : items[i]? = some p := by rw [← List.head?_drop, hrem]; rfl
    refine wpAny_mono (ok.item i p as' _ ?Q _ hp st (fun b hb => by obtain ⟨_, _, e⟩ := I'.isSeq hb; exact Heap.lt_size e) ?prem) ?conv (fun _ _ e => e)
    case conv => rintro r s₁ ⟨v, rfl, h⟩; exact h
    case prem =>
      intro v h2 tk2 st2 S2 r2
      refine ha A env { s with heap := h2, toks := tk2 } as' v _ _ hA hE (preserve S2) r2 fun h3 tk3 I3 S3 => ?_
      refine hb.run A env _ as' _ _ hA hE I3 fun fl h4 tk4 as4 I4 S4 r4 => ?_
      obtain ⟨w, rfl, r4⟩ := r4
      have S3' : Step (frameAddrs env) as' h2 as' h3 := S3
      have S4' : Step (frameAddrs env) as' h3 as4 h4 := S4
      exact fin I4 (((S'.trans (S2.step.weak fun _ hb => List.mem_append_right _ hb)).trans (S3'.weak fun _ hb => List.mem_append_left _ hb)).trans (S4'.weak fun _ hb => List.mem_append_left _ hb)) rfl rfl ⟨w, rfl, r4⟩
  | @step p ps _ _ σ1 M1 σ2 M2 _ _ _ ha hb rest =>
    have hp : items[i]? = some p := by rw [← List.head?_drop, hrem]; rfl
    have hlt : i < items.length := (List.getElem?_eq_some_iff.mp hp).1
    refine wpAny_mono (ok.item i p as' _ ?Q2 _ hp st (fun b hb => by obtain ⟨_, _, e⟩ := I'.isSeq hb; exact Heap.lt_size e) ?prem2) ?conv2 (fun _ _ e => e)
    case conv2 => rintro r s₁ ⟨v, rfl, h⟩; exact h
    case prem2 =>
      intro v h2 tk2 st2 S2 r2
      refine ha A env { s with heap := h2, toks := tk2 } as' v _ _ hA hE (preserve S2) r2 fun h3 tk3 I3 S3 => ?_
      refine hb.run A env _ as' _ _ hA hE I3 fun fl h4 tk4 as4 I4 S4 r4 => ?_
      cases r4
      have S3' : Step (frameAddrs env) as' h2 as' h3 := S3
      have S4' : Step (frameAddrs env) as' h3 as4 h4 := S4
      refine ⟨items.length - (i + 1), by omega, i + 1, σ2, M2, as4, h4, tk4, rfl, I4, ((S'.trans (S2.step.weak fun _ hb => List.mem_append_right _ hb)).trans (S3'.weak fun _ hb => List.mem_append_left _ hb)).trans (S4'.weak fun _ hb => List.mem_append_left _ hb), ?_, hlt, rfl, ?_⟩
      · exact ok.frame _ _ _ _ _ _ (ok.frame _ _ _ _ _ _ st2 S3' (preserve S2).frames) S4' I3.frames
      · have : items.drop (i + 1) = ps := by rw [← List.tail_drop, hrem]; rfl
        rw [this]; exact rest
end
end Mine
end
section
open PySem PySem.W PyProof.Rows PySem.Calls
set_option Elab.async false
set_option maxRecDepth 100000
set_option linter.unusedVariables false
set_option linter.unusedSimpArgs false
namespace Mine

noncomputable def TestsOk (W : Wd) (sc : Scope) (d : Nat) (σ : Vars) (M : Mem) (ifs : List Expr) (b : Bool) : Prop := (ifs = [] ∧ b = true) ∨ ∃ c, ifs = [c] ∧ EvT W sc d σ M c b M

-- the turns of a comprehension
inductive CompRun (W : Wd) (sc : Scope) (d : Nat) (σ : Vars) (M : Mem) (target : Expr) (ifs : List Expr) (elt : Expr) : List PV → List PV → Prop
  | nil : CompRun W sc d σ M target ifs elt [] []
  | keep {p : PV} {ps : List PV} {q : PV} {qs : List PV} (σ₁ : Vars) : (∀ acc, EvA W sc d true σ (M ++ [acc]) target p σ₁ (M ++ [acc])) → SubV σ σ₁ → (∀ acc, TestsOk W sc d σ₁ (M ++ [acc]) ifs true) →
      (∀ acc, EvE W sc d σ₁ (M ++ [acc]) elt q (M ++ [acc])) → noMt q = true → CompRun W sc d σ M target ifs elt ps qs → CompRun W sc d σ M target ifs elt (p :: ps) (q :: qs)
  | drop {p : PV} {ps : List PV} {qs : List PV} (σ₁ : Vars) : (∀ acc, EvA W sc d true σ (M ++ [acc]) target p σ₁ (M ++ [acc])) → SubV σ σ₁ → (∀ acc, TestsOk W sc d σ₁ (M ++ [acc]) ifs false) →
      CompRun W sc d σ M target ifs elt ps qs → CompRun W sc d σ M target ifs elt (p :: ps) qs

section
variable {prog : Program} {w : World} {A : Around} {E : Value → Shared → Prop} {R : Result → Shared → Prop} {s : Shared}

theorem compLoop_any {elt target iter : Expr} {ifs : List Expr} {scope : Scope} {pos : Pos} {it acc : Value} {env : Env} (I : Nat → Shared → Prop)
    (turn : ∀ n s, I n s → wpAny (model prog w) A (pyNext it) (fun r s₁ => match r with
      | none => R (.ok .next) s₁
      | some v => wpAny (model prog w) A (letOwnedTupleGo target it v) (fun _ s₁' => wpAny (model prog w) A (assign target env v) (fun _ s₂ =>
          wpAny (model prog w) A (forIn ifs true fun c r => if r = true then do let ok ← isTrue c env (eval c env); pure (ForInStep.yield ok) else pure (ForInStep.yield r)) (fun ok s₃ =>
            if ok = true then wpAny (model prog w) A (eval elt env) (fun x s₄ =>
              wpAny (model prog w) A (call (.builtin "list.append") [acc, x]) (fun _ s₅ => ∃ m, m < n ∧ I m s₅) (notedBy (model prog w) A env fun e s' => R (.error e) s') s₄) (notedBy (model prog w) A env fun e s' => R (.error e) s') s₃
            else ∃ m, m < n ∧ I m s₃) (notedBy (model prog w) A env fun e s' => R (.error e) s') s₂) (notedBy (model prog w) A env fun e s' => R (.error e) s') s₁') (notedBy (model prog w) A env fun e s' => R (.error e) s') s₁)
          (notedBy (model prog w) A env fun e s' => R (.error e) s') s)
    (n : Nat) (h : I n s) : codeAny (model prog w) A (.compLoop (.ListComp elt [⟨target, iter, ifs, 0⟩] scope pos) 0 it acc env) R s := by
  refine codeAny_loop rfl I (fun n s hI => ?_) n h
  show wpAny _ A ((compTurn (.ListComp elt [⟨target, iter, ifs, 0⟩] scope pos) 0 it acc env).onRaise (fun x => do noteFrame x env; theTreesLotGoes x)) _ _ s
  refine wpAny_noted ?_
  rw [compTurn_list]
  refine wpAny_bind (wpAny_standAt (wpAny_bind (wpAny_mono (turn n s hI) (fun r s₁ h₁ => ?_) fun _ _ h' => h')))
  cases r with
  | none => exact wpAny_pure h₁
  | some v =>
    refine wpAny_bind (wpAny_mono h₁ (fun _ s₁' h₁' => ?_) fun _ _ h' => h')
    refine wpAny_bind (wpAny_mono h₁' (fun _ s₂ h₂ => wpAny_bind (wpAny_mono h₂ (fun ok s₃ h₃ => ?_) fun _ _ h' => h')) fun _ _ h' => h')
    cases ok with
    | false => exact wpAny_pure ⟨rfl, h₃⟩
    | true =>
      exact wpAny_bind (wpAny_bind (wpAny_mono h₃ (fun x s₄ h₄ => wpAny_bind (wpAny_mono h₄ (fun _ s₅ h₅ => wpAny_pure (wpAny_pure ⟨rfl, h₅⟩)) fun _ _ h' => h')) fun _ _ h' => h'))
end

section
variable {W : Wd} {sc : Scope} {d : Nat} {σ σ₁ σ₂ σc : Vars} {M M₁ M₂ M₃ : Mem}

theorem Step.same {X as h as' h'} (S : Step X as h as' h') (e : as'.length = as.length) : as' = as := by
  obtain ⟨bs, rfl, _⟩ := S.ext
  have : bs = [] := by cases bs with | nil => rfl | cons _ _ => simp at e
  simp [this]

theorem tests_wp {ifs : List Expr} {b : Bool} (T : TestsOk W sc d σ M ifs b) {A : Around} {env : Env} {s : Shared} {as : List Addr} {Q : Bool → Shared → Prop} {E : Value → Shared → Prop} (hA : AOk d A) (hE : EnvOk sc env) (I : Inv W env σ M as s.heap)
    (post : ∀ h' tk, Inv W env σ M as h' → Step [] as s.heap as h' → Q b { s with heap := h', toks := tk }) :
    wpAny (model W.prog W.w) A (forIn ifs true fun c r => if r = true then do let ok ← isTrue c env (eval c env); pure (ForInStep.yield ok) else pure (ForInStep.yield r)) Q E s := by
  rcases T with ⟨rfl, rfl⟩ | ⟨c, rfl, h⟩
  · exact wpAny_tests_nil (post s.heap s.toks I (Step.refl ..))
  · refine wpAny_tests_one (h.run A env s as _ E hA hE I fun v h' tk as' I' S r => ?_)
    subst r
    have e : as' = as := S.same (by rw [I'.len, I.len])
    subst e
    exact post h' tk I' S

theorem noMtL_append : ∀ {l l' : List PV}, noMtL l = true → noMtL l' = true → noMtL (l ++ l') = true
  | [], _, _, h => h
  | p :: l, l', h, h' => by
    have := Bool.and_eq_true_iff.mp h
    show (noMt p && noMtL (l ++ l')) = true
    rw [this.1, noMtL_append this.2 h']; rfl

theorem comp_loop {elt target iter : Expr} {ifs : List Expr} {scope : Scope} {pos : Pos} {A : Around} {cenv : Env} {s : Shared} {as : List Addr} {D It : Addr} {wr : List Addr} {St : Nat → List Addr → Heap → Prop} {items qs : List PV} {R : Result → Shared → Prop}
    (hA : AOk d A) (hE : EnvOk sc cenv) (I0 : Inv W cenv σc (M ++ [[]]) (as ++ [D]) s.heap) (hwr : ∀ b ∈ wr, W.H0.get? b = none) (ok : IterOk W A target It wr items St) (st0 : St 0 (as ++ [D]) s.heap) (hz : items.length ≤ 1048576)
    (run : CompRun W sc d σc M target ifs elt items qs)
    (fin : ∀ h₂ h' tk, Inv W cenv σc (M ++ [qs]) (as ++ [D]) h' → Step (cenv.locals :: wr) (as ++ [D]) s.heap (as ++ [D]) h₂ → KeepBut wr h₂ h' → R (.ok .next) { s with heap := h', toks := tk }) :
    codeAny (model W.prog W.w) A (.compLoop (.ListComp elt [⟨target, iter, ifs, 0⟩] scope pos) 0 (.ref It) (.ref D) cenv) R s := by
  have hlen : as.length = M.length := by have := I0.len; simpa using this
  refine compLoop_any (fun k s' => ∃ i acc rest h' tk', s' = { s with heap := h', toks := tk' } ∧ Inv W cenv σc (M ++ [acc]) (as ++ [D]) h' ∧ Step (cenv.locals :: wr) (as ++ [D]) s.heap (as ++ [D]) h' ∧ St i (as ++ [D]) h' ∧ i ≤ items.length ∧
    k = items.length - i ∧ CompRun W sc d σc M target ifs elt (items.drop i) rest ∧ acc ++ rest = qs ∧ acc.length ≤ i) ?_ items.length ⟨0, [], qs, s.heap, s.toks, rfl, I0, Step.refl .., st0, Nat.zero_le _, rfl, run, rfl, Nat.zero_le _⟩
  rintro k _ ⟨i, acc, rest, h', tk', rfl, I', S', st, hi', rfl, run, hacc, hal⟩
  have preserve : ∀ {h'' : Heap}, Step2 wr h' h'' → Inv W cenv σc (M ++ [acc]) (as ++ [D]) h'' := fun {h''} S => by
    have hf := ok.fields i _ h' st
    have S1' : Step wr (as ++ [D]) h' (as ++ [D]) h'' := S.step
    refine I'.of_stepX S1' hf ?_
    refine ⟨fun b o e => S.keep b o (fun hb => ?_) (I'.base b o e), I'.len, I'.nodup, fun j a l ha hl => ?_, I'.fresh⟩
    · rw [hwr b hb] at e; cases e
    · obtain ⟨vs, n, e, r, z, m⟩ := I'.mem j a l ha hl
      refine ⟨vs, n, S.keep a _ (fun hb => ?_) e, r.mono S1' hf.noSeq, z, m⟩
      obtain ⟨vs', hv⟩ := hf a hb _ e
      cases hv
  have inl : ∀ b ∈ [cenv.locals], b ∈ cenv.locals :: wr := by simp
  have inr : ∀ b ∈ wr, b ∈ cenv.locals :: wr := fun b hb => List.mem_cons_of_mem _ hb
  generalize hrem : items.drop i = rem at run
  cases run with
  | nil =>
    have hil : i = items.length := by
      have := congrArg List.length hrem
      simp at this; omega
    refine ok.done (as ++ [D]) _ _ _ (hil ▸ st) fun h2 tk2 S2 => ?_
    simp at hacc; subst hacc
    exact fin h' h2 tk2 (I'.of_keepBut S2 (ok.fields i _ h' st) hwr) S' S2
  | @keep p ps q qs' σ1 ha hsub ht hb hm rest' =>
    have hp : items[i]? = some p := by rw [← List.head?_drop, hrem]; rfl
    have hlt : i < items.length := (List.getElem?_eq_some_iff.mp hp).1
    refine wpAny_mono (ok.item i p (as ++ [D]) _ ?Q _ hp st (fun b hb => by obtain ⟨_, _, e⟩ := I'.isSeq hb; exact Heap.lt_size e) ?prem) ?conv (fun _ _ e => e)
    case conv => rintro r s₁ ⟨v, rfl, h⟩; exact h
    case prem =>
      intro v h2 tk2 st2 S2 r2
      refine ha acc A cenv { s with heap := h2, toks := tk2 } (as ++ [D]) v _ _ hA hE (preserve S2) r2 fun h3 tk3 I3 S3 => ?_
      replace S3 : Step [cenv.locals] (as ++ [D]) h2 (as ++ [D]) h3 := S3
      refine tests_wp (ht acc) (s := { s with heap := h3, toks := tk3 }) hA hE I3 fun h4 tk4 I4 S4 => ?_
      simp only [if_true]
      refine (hb acc).run A cenv { s with heap := h4, toks := tk4 } (as ++ [D]) _ _ hA hE I4 fun x h5 tk5 as5 I5 S5 r5 => ?_
      have e5 : as5 = as ++ [D] := S5.same (by rw [I5.len, I4.len])
      subst e5
      replace S4 : Step [] (as ++ [D]) h3 (as ++ [D]) h4 := S4
      replace S5 : Step [] (as ++ [D]) h4 (as ++ [D]) h5 := S5
      have hD : (as ++ [D])[as.length]? = some D := by simp
      obtain ⟨vs, n, ho, rr, z, hmm⟩ := I5.mem as.length D acc hD (by rw [hlen]; simp)
      have hvl := rr.length
      refine wpAny_list_append_plain (items := vs.toArray) ⟨n, ho⟩ (fun h6 ⟨n6, ho6⟩ hs6 => ?_) (by simp; rw [sizeLine_eq]; omega)
      replace hs6 : Heap.SameBut D h5 h6 := hs6
      have ho6' : h6.get? D = some { cls := .type "list", data := .seq (List.toArray (vs ++ [x])) n6 } := by simpa using ho6
      have F3 : OnlyFrames [cenv.locals] h2 := fun b hb o e => (preserve S2).frames b (by simp at hb; simp [frameAddrs, hb]) o e
      have st5 : St (i + 1) (as ++ [D]) h5 := ok.frame _ _ _ _ _ _ (ok.frame _ _ _ _ _ _ (ok.frame _ _ _ _ _ _ st2 S3 F3) S4 (fun _ hb => nomatch hb)) S5 (fun _ hb => nomatch hb)
      obtain ⟨I6, S6⟩ := I5.setMut (l := acc ++ [q]) hD hs6 ho6' (rr.append ⟨x, [], rfl, r5, rfl⟩) (by simp; omega) (noMtL_append hmm (by simp [noMtL, hm]))
      have e6 : (M ++ [acc]).set as.length (acc ++ [q]) = M ++ [acc ++ [q]] := by rw [hlen]; simp
      rw [e6] at I6
      refine ⟨items.length - (i + 1), by omega, i + 1, acc ++ [q], qs', h6, tk5, rfl, I6.weak hsub, ?_, ok.frame _ _ _ _ _ _ st5 S6 (fun _ hb => nomatch hb), hlt, rfl, ?_, by simpa using hacc, by simp; omega⟩
      · exact ((((S'.trans (S2.step.weak inr)).trans (S3.weak inl)).trans (S4.weak (by simp))).trans (S5.weak (by simp))).trans (S6.weak (by simp))
      · have : items.drop (i + 1) = ps := by rw [← List.tail_drop, hrem]; rfl
        rw [this]; exact rest'
  | @drop p ps qs' σ1 ha hsub ht rest' =>
    have hp : items[i]? = some p := by rw [← List.head?_drop, hrem]; rfl
    have hlt : i < items.length := (List.getElem?_eq_some_iff.mp hp).1
    refine wpAny_mono (ok.item i p (as ++ [D]) _ ?Q2 _ hp st (fun b hb => by obtain ⟨_, _, e⟩ := I'.isSeq hb; exact Heap.lt_size e) ?prem2) ?conv2 (fun _ _ e => e)
    case conv2 => rintro r s₁ ⟨v, rfl, h⟩; exact h
    case prem2 =>
      intro v h2 tk2 st2 S2 r2
      refine ha acc A cenv { s with heap := h2, toks := tk2 } (as ++ [D]) v _ _ hA hE (preserve S2) r2 fun h3 tk3 I3 S3 => ?_
      replace S3 : Step [cenv.locals] (as ++ [D]) h2 (as ++ [D]) h3 := S3
      refine tests_wp (ht acc) (s := { s with heap := h3, toks := tk3 }) hA hE I3 fun h4 tk4 I4 S4 => ?_
      simp only [Bool.false_eq_true, if_false]
      replace S4 : Step [] (as ++ [D]) h3 (as ++ [D]) h4 := S4
      have F3 : OnlyFrames [cenv.locals] h2 := fun b hb o e => (preserve S2).frames b (by simp at hb; simp [frameAddrs, hb]) o e
      have st4 : St (i + 1) (as ++ [D]) h4 := ok.frame _ _ _ _ _ _ (ok.frame _ _ _ _ _ _ st2 S3 F3) S4 (fun _ hb => nomatch hb)
      refine ⟨items.length - (i + 1), by omega, i + 1, acc, rest, h4, tk4, rfl, I4.weak hsub, ?_, st4, hlt, rfl, ?_, hacc, by omega⟩
      · exact ((S'.trans (S2.step.weak inr)).trans (S3.weak inl)).trans (S4.weak (by simp))
      · have : items.drop (i + 1) = ps := by rw [← List.tail_drop, hrem]; rfl
        rw [this]; exact rest'
end
end Mine
end
section
open PySem PySem.W PyProof.Rows PySem.Calls
set_option Elab.async false
set_option maxRecDepth 100000
set_option linter.unusedVariables false
set_option linter.unusedSimpArgs false
namespace Mine

section
variable {W : Wd} {sc : Scope} {d : Nat} {σ σ₁ σ₂ σc : Vars} {M M₁ M₂ M₃ : Mem}

theorem Inv.of_keepBut2 {env : Env} {as : List Addr} {h h' : Heap} {wr : List Addr} (I : Inv W env σ M as h) (k : KeepBut (as ++ wr) h h') (hf : OnlyFields wr h) (O : MemOk W M as h') : Inv W env σ M as h' := by
  have kF : ∀ b ∈ frameAddrs env, ∀ o, h.get? b = some o → h'.get? b = some o := fun b hb o e => k b o (fun hm => by
    rcases List.mem_append.mp hm with hm | hm
    · rcases List.mem_cons.mp hb with rfl | hb
      · exact I.loc_notin hm
      · obtain ⟨⟨x, c⟩, hc, rfl⟩ := List.mem_map.mp hb
        exact I.cell_notin hc hm
    · obtain ⟨vs, hv⟩ := hf b hm o e
      rcases I.frames b hb o e with ⟨_, _, e'⟩ | ⟨_, e'⟩ <;> rw [hv] at e' <;> cases e') e
  have S : Step wr as h as h' → True := fun _ => trivial
  refine ⟨O.base, O.len, O.nodup, O.mem, O.fresh, fun x p e => ?_, ⟨?_, I.loc.2⟩, fun x c hc => ⟨?_, (I.cells x c hc).2⟩, I.inj, I.has⟩
  · obtain ⟨v, V, R⟩ := I.vars x p e
    exact ⟨v, V.keep kF, R.mono1 (fun b o vs n hb e hd => k b o (fun hm => (List.mem_append.mp hm).elim hb fun hm => hf.noSeq b hm o e vs n hd) e)⟩
  · obtain ⟨⟨m', hm'⟩, _⟩ := I.loc
    exact ⟨m', hm'.at' fun o e => kF _ (by simp [frameAddrs]) o e⟩
  · obtain ⟨⟨v, o, ho, hd⟩, _⟩ := I.cells x c hc
    exact ⟨v, o, kF _ (by simp only [frameAddrs, List.mem_cons]; right; exact List.mem_map.mpr ⟨_, hc, rfl⟩) o ho, hd⟩

-- another dict, that is nothing of the frame's
theorem Inv.sameC {env : Env} {as : List Addr} {h h' : Heap} {C : Addr} {m : Str → Option Value} (I : Inv W env σ M as h) (hn : h.Ns C m) (hne : C ≠ env.locals) (hH : W.H0.get? C = none) (hs : Heap.SameBut C h h') : Inv W env σ M as h' := by
  obtain ⟨oC, es, ep, hC, hdC, _⟩ := hn
  have kS : ∀ b o vs n, h.get? b = some o → o.data = .seq vs n → h'.get? b = some o := fun b o vs n e hd => by
    refine (hs.2 b ?_).trans e
    rintro rfl; rw [hC] at e; cases e; rw [hdC] at hd; cases hd
  have hcell : ∀ c v, h.IsCell c v → h'.IsCell c v := fun c v ⟨o, ho, hd⟩ => ⟨o, (hs.2 c (by rintro rfl; rw [hC] at ho; cases ho; rw [hdC] at hd; cases hd)).trans ho, hd⟩
  refine ⟨fun b o e => (hs.2 b ?_).trans (I.base b o e), I.len, I.nodup, fun i a l ha hl => ?_, I.fresh, fun x p e => ?_, ⟨?_, I.loc.2⟩, fun x c hc => ⟨?_, (I.cells x c hc).2⟩, I.inj, I.has⟩
  · rintro rfl; rw [hH] at e; cases e
  · obtain ⟨vs, n, e, r, z, mm⟩ := I.mem i a l ha hl
    exact ⟨vs, n, kS _ _ _ _ e rfl, r.mono0 kS, z, mm⟩
  · obtain ⟨v, V, R⟩ := I.vars x p e
    refine ⟨v, ?_, R.mono0 kS⟩
    rcases V with ⟨hl, m', hm', e'⟩ | ⟨hl, c, hc, hv⟩
    · exact .inl ⟨hl, m', hm'.sameBut hs (Ne.symm hne), e'⟩
    · exact .inr ⟨hl, c, hc, hcell _ _ hv⟩
  · obtain ⟨⟨m', hm'⟩, _⟩ := I.loc
    exact ⟨m', hm'.sameBut hs (Ne.symm hne)⟩
  · obtain ⟨⟨v, hv⟩, _⟩ := I.cells x c hc
    exact ⟨v, hcell _ _ hv⟩

-- the cells that a comprehension sees
theorem forIn_cells {env : Env} (f : Str × NameKind → List (Str × Addr) → Sem (ForInStep (List (Str × Addr))))
    (hf : ∀ n k cs, f (n, k) cs = if k == .free then (do let a ← cellOf env n; pure (.yield ((n, a) :: cs))) else pure (.yield cs)) :
    ∀ (names : List (Str × NameKind)) (acc : List (Str × Addr)), (∀ x ∈ names, x.2 = .free → ∃ c, env.cells.lookup x.1 = some c) → (∀ y ∈ acc, env.cells.lookup y.1 = some y.2) →
      ∃ cl, forIn names acc f = pure cl ∧ (∀ y ∈ cl, env.cells.lookup y.1 = some y.2) ∧ (∀ y ∈ acc, y ∈ cl) ∧ ∀ x ∈ names, x.2 = .free → ∃ c, (x.1, c) ∈ cl
  | [], acc, _, ha => ⟨acc, by rw [List.forIn_nil], ha, fun _ h => h, fun _ h => nomatch h⟩
  | (n, k) :: r, acc, h, ha => by
    rw [List.forIn_cons, hf]
    by_cases hk : (k == NameKind.free) = true
    · obtain ⟨c, hc⟩ := h (n, k) (by simp) (beq_iff_eq.mp hk)
      rw [if_pos hk]
      have e : cellOf env n = pure c := by unfold cellOf; rw [hc]
      obtain ⟨cl, h1, h2, h3, h4⟩ := forIn_cells f hf r ((n, c) :: acc) (fun x hx => h x (by simp [hx])) (fun y hy => by rcases List.mem_cons.mp hy with rfl | hy; exact hc; exact ha y hy)
      refine ⟨cl, ?_, h2, fun y hy => h3 y (by simp [hy]), fun x hx hf' => ?_⟩
      · rw [e]; exact h1
      · rcases List.mem_cons.mp hx with rfl | hx
        · exact ⟨c, h3 _ (by simp)⟩
        · exact h4 x hx hf'
    · rw [if_neg hk]
      obtain ⟨cl, h1, h2, h3, h4⟩ := forIn_cells f hf r acc (fun x hx => h x (by simp [hx])) ha
      refine ⟨cl, h1, h2, h3, fun x hx hf' => ?_⟩
      rcases List.mem_cons.mp hx with rfl | hx
      · exact absurd (by rw [show k = .free from hf']; rfl) hk
      · exact h4 x hx hf'
theorem closureFor_eq {scope : Scope} {env : Env} (h : ∀ x ∈ scope.names, x.2 = .free → ∃ c, env.cells.lookup x.1 = some c) :
    ∃ cl, closureFor scope env = pure cl ∧ (∀ y ∈ cl, env.cells.lookup y.1 = some y.2) ∧ ∀ x ∈ scope.names, x.2 = .free → ∃ c, (x.1, c) ∈ cl := by
  obtain ⟨cl, h1, h2, _, h4⟩ := forIn_cells (env := env) (fun x cs => if x.2 == .free then (do let a ← cellOf env x.1; pure (.yield ((x.1, a) :: cs))) else pure (.yield cs)) (fun _ _ _ => rfl) scope.names [] h (fun _ hy => nomatch hy)
  refine ⟨cl, ?_, h2, h4⟩
  simp only [closureFor]
  rw [← h1]
  simp only [bind_pure]

noncomputable def relab (scope sc : Scope) : Scope := { scope with names := scope.names.map fun (n, k) => if (k == .free && sc.kind == .function && sc.names.lookup n == some .cell) then (n, .cell) else (n, k) }
theorem relab_eq {scope : Scope} {env : Env} (hE : EnvOk sc env) : relabel scope env = relab scope sc := by
  unfold relabel relab Env.kindOf
  rw [hE.scope]

noncomputable def SeenC (scope sc : Scope) : Vars → Prop
  | [] => True
  | (x, _) :: r => (scope.names.lookup x = some .free ∧ sc.names.lookup x = some .cell ∧ (relab scope sc).names.lookup x = some .cell) ∧ SeenC scope sc r
theorem SeenC.get {scope : Scope} : ∀ {σ : Vars}, SeenC scope sc σ → ∀ x p, σ.lookup x = some p → scope.names.lookup x = some .free ∧ sc.names.lookup x = some .cell ∧ (relab scope sc).names.lookup x = some .cell
  | [], _, _, _, e => by simp at e
  | (y, q) :: r, ⟨h, hr⟩, x, p, e => by
    rw [List.lookup_cons] at e
    cases hb : x == y with
    | true => rw [beq_iff_eq.mp hb]; exact h
    | false => rw [hb] at e; exact SeenC.get hr x p e

structure CompOk (scope sc : Scope) : Prop where
  kind : scope.kind = .function
  nocell : ∀ y ∈ scope.names, y.2 ≠ .cell
  locals : ∀ x ∈ scope.names, x.2 = .local → scope.names.lookup x.1 = some .local
  free : ∀ x ∈ scope.names, x.2 = .free → sc.names.lookup x.1 = some .cell

theorem lookup_isSome_of_mem {α : Type} : ∀ {l : List (Str × α)} {x : Str} {a : α}, (x, a) ∈ l → ∃ b, l.lookup x = some b
  | (y, b) :: r, x, a, h => by
    rw [List.lookup_cons]
    cases hb : x == y with
    | true => exact ⟨b, rfl⟩
    | false =>
      rcases List.mem_cons.mp h with h | h
      · cases h; simp at hb
      · exact lookup_isSome_of_mem h

theorem Inv.enter {scope : Scope} {env : Env} {as : List Addr} {h : Heap} {cl : List (Str × Addr)} {C : Addr} {m : Str → Option Value} (I : Inv W env σ M as h) (hE : EnvOk sc env) (hc : CompOk scope sc) (h1 : ∀ y ∈ cl, env.cells.lookup y.1 = some y.2)
    (h2 : ∀ x ∈ scope.names, x.2 = .free → ∃ c, (x.1, c) ∈ cl) (hn : h.Ns C m) (hH : W.H0.get? C = none) (hs : SubV σc σ) (hk : SeenC scope sc σc) : Inv W (compEnvC scope cl C env) σc M as h := by
  have hloc : (compEnvC scope cl C env).locals = C := rfl
  have hcel : (compEnvC scope cl C env).cells = cl := rfl
  have hkind : ∀ x, (compEnvC scope cl C env).kindOf x = (relab scope sc).names.lookup x := fun x => by
    show (relabel scope env).names.lookup x = _
    rw [relab_eq hE]
  have lk : ∀ x c, cl.lookup x = some c → env.cells.lookup x = some c := fun x c e => h1 (x, c) (mem_of_lookup e)
  refine ⟨I.base, I.len, I.nodup, I.mem, I.fresh, fun x p e => ?_, ⟨⟨m, hn⟩, hH⟩, fun x c hm => ?_, fun x y c e e' => I.inj x y c (lk x c e) (lk y c e'), fun x hx => ?_⟩
  · obtain ⟨v, V, R⟩ := I.vars x p (hs.get x p e)
    obtain ⟨k1, k2, k3⟩ := hk.get x p e
    refine ⟨v, ?_, R⟩
    rcases V with ⟨hl, _⟩ | ⟨_, c, hcl, hv⟩
    · rw [hE.kindOf, k2] at hl; cases hl
    · obtain ⟨c', hc'⟩ := h2 (x, .free) (mem_of_lookup k1) rfl
      obtain ⟨c'', hc''⟩ := lookup_isSome_of_mem hc'
      have : c'' = c := by have := lk x c'' hc''; rw [hcl] at this; exact (Option.some.inj this).symm
      subst this
      exact .inr ⟨.inl ((hkind x).trans k3), c'', hc'', hv⟩
  · exact I.cells x c (mem_of_lookup (h1 (x, c) hm))
  · rw [hkind] at hx
    have hm := mem_of_lookup hx
    obtain ⟨⟨n, k⟩, hnk, e⟩ := List.mem_map.mp hm
    dsimp only at e
    split at e
    · rename_i hcond
      simp only [Bool.and_eq_true, beq_iff_eq] at hcond
      obtain ⟨c, hc'⟩ := h2 (n, k) hnk hcond.1.1
      cases e
      exact lookup_isSome_of_mem hc'
    · cases e
      exact absurd rfl (hc.nocell _ hnk)

-- the whole of a comprehension, up to where its list stands
theorem comp_wp {elt target iter : Expr} {ifs : List Expr} {scope : Scope} {pos : Pos} {items qs : List PV} {use : Option (Value → Sem Unit)} (hi : EvI W sc d σ M target iter items M₁) (hc : CompOk scope sc) (hσ : SubV σc σ) (hσk : SeenC scope sc σc)
    (run : CompRun W (relab scope sc) d σc M₁ target ifs elt items qs) (hs : ∀ x env, foldedSetIterable iter env x = pure x)
    {A : Around} {env : Env} {s : Shared} {as : List Addr} {Q : Value → Shared → Prop} {E : Value → Shared → Prop} (hA : AOk d A) (hE : EnvOk sc env) (I : Inv W env σ M as s.heap)
    (fin : ∀ D C h' tk m as', Inv W env σ M₁ as' h' → Step [] as s.heap as' h' → Rep h' as' (.lst qs) (.ref D) → h'.Ns C m → s.heap.get? C = none → C ≠ env.locals → W.H0.get? C = none → compPost (model W.prog W.w) A E use Q (.ref D) C (.ok .next) { s with heap := h', toks := tk }) :
    wpAny (model W.prog W.w) A (comprehension (.ListComp elt [⟨target, iter, ifs, 0⟩] scope pos) scope env (firstIterPos [⟨target, iter, ifs, 0⟩] pos) (newList []) false (eval iter env) use) Q E s := by
  obtain ⟨cl, hcl, hcl1, hcl2⟩ := closureFor_eq (scope := scope) (env := env) (fun x hx hf => I.has x.1 ((hE.kindOf _).trans (hc.free x hx hf)))
  refine wpAny_comprehension_free (cl := cl) rfl (fun x => hs x env) hcl hc.kind hc.locals ?_
  refine hi A env s as _ E hA hE I fun It wr St h2 tk2 as2 I2 S2 hw ok st2 hz => ?_
  refine PySem.wpAny_newList (items := []) ?_ (by simp)
  refine wpAny_newFunctionEnv hc.nocell (by intro y hy; simp at hy) (fun h4 hns hsb => ?_) hc.kind
  dsimp only at hns hsb ⊢
  obtain ⟨I3, S3⟩ := I2.addMut (vs := []) (ps := []) 0 rfl (by simp) rfl
  generalize hH3 : h2.push { cls := .type "list", data := .seq ([] : List Value).toArray 0 } = h3 at I3 S3
  have hH3' : h2.push { cls := .type "list", dict := none, data := .seq ([] : List Value).toArray } = h3 := hH3
  try rw [hH3'] at hns
  try rw [hH3'] at hsb
  have hsz3 : h3.objs.size = h2.objs.size + 1 := by rw [← hH3, Heap.size_push]
  have k34 : ∀ b o, h3.get? b = some o → h4.get? b = some o := fun b o e => hsb.extBut b o (Nat.ne_of_lt (Heap.lt_size e)) (Heap.get?_push_of_some _ e)
  have I4 := I3.grow k34
  have S4 : Step [] (as2 ++ [h2.objs.size]) h3 (as2 ++ [h2.objs.size]) h4 := Step.of_keeps k34
  have st3 := ok.frame _ _ _ _ _ [] st2 S3 (fun _ hb => nomatch hb)
  have st4 := ok.frame _ _ _ _ _ [] st3 S4 (fun _ hb => nomatch hb)
  have freshC : ∀ b o, h2.get? b = some o → b ≠ h3.objs.size := fun b o e => by rw [hsz3]; exact Nat.ne_of_lt (Nat.lt_succ_of_lt (Heap.lt_size e))
  have noneC : ∀ {g : Heap}, (∀ b o, g.get? b = some o → ∃ o', h2.get? b = some o') → g.get? h3.objs.size = none := fun {g} k => by
    cases e : g.get? h3.objs.size with
    | none => rfl
    | some o => obtain ⟨o', e'⟩ := k _ _ e; exact absurd rfl (freshC _ _ e')
  have sC : s.heap.get? h3.objs.size = none := noneC fun b o e => S2.live b o e
  have hC0 : W.H0.get? h3.objs.size = none := noneC fun b o e => ⟨o, I2.base b o e⟩
  have hCl : h3.objs.size ≠ env.locals := by
    obtain ⟨⟨m, o, es, ep, ho, _⟩, _⟩ := I2.loc
    exact (freshC _ _ ho).symm
  have I4' := I4.enter (C := h3.objs.size) hE hc hcl1 hcl2 hns hC0 hσ hσk
  have hEc : EnvOk (relab scope sc) (compEnvC scope cl h3.objs.size env) := ⟨relab_eq hE, hc.kind, hE.globals, hE.builtins⟩
  have hwr : ∀ b ∈ wr, W.H0.get? b = none := fun b hb => by
    cases e : W.H0.get? b with
    | none => rfl
    | some o => have := hw b hb; rw [I.base b o e] at this; cases this
  have loop : ∀ s' : Shared, s' = { s with heap := h4, toks := tk2 + ([] : List (Str × Value)).length } →
      codeAny (model W.prog W.w) A (.compLoop (.ListComp elt [⟨target, iter, ifs, 0⟩] scope pos) 0 (.ref It) (.ref h2.objs.size) (compEnvC scope cl h3.objs.size env)) (compPost (model W.prog W.w) A E use Q (.ref h2.objs.size) h3.objs.size) s' := by
    rintro s' rfl
    refine comp_loop (σc := σc) (M := M₁) hA hEc I4' hwr ok st4 hz run fun h₂ h' tk I' S' KB => ?_
    replace S' : Step (h3.objs.size :: wr) (as2 ++ [h2.objs.size]) h4 (as2 ++ [h2.objs.size]) h₂ := S'
    have hlen2 := I2.len
    have hD : (as2 ++ [h2.objs.size])[as2.length]? = some h2.objs.size := by simp
    obtain ⟨vs, n, ho, rr, z, hm⟩ := I'.mem as2.length _ qs hD (by rw [hlen2]; simp)
    obtain ⟨⟨m, hn⟩, _⟩ := I'.loc
    have hn' : h'.Ns h3.objs.size m := hn
    have O : MemOk W M₁ as2 h' := by
      refine ⟨I'.base, hlen2, I2.nodup, fun i a l ha hl => ?_, I2.fresh⟩
      have hia : i < as2.length := (List.getElem?_eq_some_iff.mp ha).1
      obtain ⟨vs, n, e, r, z, m⟩ := I'.mem i a l (by rw [List.getElem?_append_left hia]; exact ha) (by rw [List.getElem?_append_left (by omega)]; exact hl)
      exact ⟨vs, n, e, r.trunc _ _ m, z, m⟩
    have T : Step wr as2 h2 as2 h₂ := by
      refine ⟨⟨[], by simp, by simp⟩, fun b o e => ?_, fun b o hb hx e => ?_⟩
      · obtain ⟨o3, e3⟩ := S3.live b o e
        exact S'.live b o3 (k34 _ _ e3)
      · have e3 := S3.keep b o hb (by simp) e
        exact S'.keep b o (S3.notin hb e) (fun hm => by rcases List.mem_cons.mp hm with h | h; exact freshC _ _ e h; exact hx h) (k34 _ _ e3)
    have T' : KeepBut (as2 ++ wr) h2 h' := fun b o hb e => KB b o (fun hm => hb (List.mem_append_right _ hm)) (T.keep b o (fun hm => hb (List.mem_append_left _ hm)) (fun hm => hb (List.mem_append_right _ hm)) e)
    have I5 := I2.of_keepBut2 T' (ok.fields _ _ _ st2) O
    refine fin h2.objs.size h3.objs.size h' tk m as2 I5 ((S2.drop (by simpa using T) hw).keepBut KB hw) ⟨_, vs, n, rfl, fresh_notin I2, ho, rr.trunc _ _ hm, z⟩ hn' sC hCl hC0
  exact codeAny_compStart_list (loop _ rfl) (ok.self 0 _ _ _ _ st4 (loop _ rfl))

theorem E_comp {elt target iter : Expr} {ifs : List Expr} {scope : Scope} {pos : Pos} {items qs : List PV} (hi : EvI W sc d σ M target iter items M₁) (hc : CompOk scope sc) (hσ : SubV σc σ) (hσk : SeenC scope sc σc)
    (run : CompRun W (relab scope sc) d σc M₁ target ifs elt items qs) (hs : ∀ x env, foldedSetIterable iter env x = pure x := by intro _ _; rfl) : EvE W sc d σ M (.ListComp elt [⟨target, iter, ifs, 0⟩] scope pos) (.lst qs) M₁ := by
  refine ⟨fun A env s as Q E hA hE I post => ?_⟩
  rw [eval_ListComp]
  show wpAny _ A (comprehension (.ListComp elt [⟨target, iter, ifs, 0⟩] scope pos) scope env (firstIterPos [⟨target, iter, ifs, 0⟩] pos) (newList []) false (eval iter env) none) _ _ _
  refine comp_wp hi hc hσ hσk run hs hA hE I fun D C h' tk m as' I' S' r hn sC hCl hC0 => ?_
  refine ⟨m, hn, fun h'' hs'' => ?_⟩
  replace hs'' : Heap.SameBut C h' h'' := hs''
  obtain ⟨oC, es, ep, hC, hdC, _⟩ := id hn
  have kS : ∀ b o vs n, h'.get? b = some o → o.data = .seq vs n → h''.get? b = some o := fun b o vs n e hd => by
    refine (hs''.2 b ?_).trans e
    rintro rfl; rw [hC] at e; cases e; rw [hdC] at hd; cases hd
  refine post (.ref D) h'' tk as' (I'.sameC hn hCl hC0 hs'') ⟨S'.ext, fun b o e => ?_, fun b o hb hx e => (hs''.2 b ?_).trans (S'.keep b o hb hx e)⟩ (r.mono0 kS)
  · obtain ⟨o', e'⟩ := S'.live b o e
    exact ⟨o', (hs''.2 b (by rintro rfl; rw [sC] at e; cases e)).trans e'⟩
  · rintro rfl; rw [sC] at e; cases e

theorem S_comp {elt target iter : Expr} {ifs : List Expr} {scope : Scope} {x : Str} {px pos apos : Pos} {items qs : List PV} (hi : EvI W sc d σ M target iter items M₁) (hc : CompOk scope sc) (hσ : SubV σc σ) (hσk : SeenC scope sc σc)
    (run : CompRun W (relab scope sc) d σc M₁ target ifs elt items qs) (hx : sc.names.lookup x = some .local)
    (hsw : ∀ env, EnvOk sc env → swapsWith (.ListComp elt [⟨target, iter, ifs, 0⟩] scope pos) (some (.Name x px)) apos.line env = pure true)
    (hs : ∀ x env, foldedSetIterable iter env x = pure x := by intro _ _; rfl) : EvS W sc d σ M (.Assign [.Name x px] (.ListComp elt [⟨target, iter, ifs, 0⟩] scope pos) apos) .nx (setV x (.lst qs) σ) M₁ := by
  refine ⟨fun A env s as Q E hA hE I post => ?_⟩
  rw [exec_Assign_Name_used _ _ _ _ (hsw env hE)]
  refine wpAny_bind (wpAny_standAt (wpAny_bind ?_))
  show wpAny _ A (do let _ ← comprehension (.ListComp elt [⟨target, iter, ifs, 0⟩] scope pos) scope env (firstIterPos [⟨target, iter, ifs, 0⟩] pos) (newList []) false (eval iter env) (some (assign (.Name x px) env))) _ _ s
  refine wpAny_bind (wpAny_mono (comp_wp (Q := fun _ s' => Q .next s') hi hc hσ hσk run hs hA hE I fun D C h' tk m as' I' S' r hn sC hCl hC0 => ?_) (fun _ s' hq => wpAny_pure (wpAny_pure hq)) fun _ _ e => e)
  refine wpAny_assign_Name (wp_storeL (s := { s with heap := h', toks := tk }) hE I' r hx fun h3 tk3 I3 S3 => ?_)
  replace S3 : Step [env.locals] as' h' as' h3 := S3
  have hn3 : h3.Ns C m := by
    refine hn.at' fun o e => S3.keep C o (fun hm => ?_) (by simp [hCl]) e
    obtain ⟨vs, n, e'⟩ := I'.isSeq hm
    obtain ⟨oC, es, ep, hC, hdC, _⟩ := id hn
    rw [e'] at hC; cases hC; cases hdC
  refine ⟨m, hn3, fun h'' hs'' => ?_⟩
  replace hs'' : Heap.SameBut C h3 h'' := hs''
  have T : Step (frameAddrs env) as s.heap as' h3 := (S'.weak (by simp)).trans (S3.weak (by simp [frameAddrs]))
  refine post .next h'' tk3 as' (I3.sameC hn3 hCl hC0 hs'') ⟨T.ext, fun b o e => ?_, fun b o hb hx e => (hs''.2 b ?_).trans (T.keep b o hb hx e)⟩ rfl
  · obtain ⟨o', e'⟩ := T.live b o e
    exact ⟨o', (hs''.2 b (by rintro rfl; rw [sC] at e; cases e)).trans e'⟩
  · rintro rfl; rw [sC] at e; cases e
end
end Mine
end
section
open PySem PySem.W PyProof.Rows PySem.Calls
set_option Elab.async false
set_option maxRecDepth 100000
set_option linter.unusedVariables false
set_option linter.unusedSimpArgs false
namespace Mine

section
variable {W : Wd} {sc : Scope} {d : Nat} {σ σ₁ σ₂ σc : Vars} {M M₁ M₂ M₃ : Mem}

theorem owned_plain {A : Around} {E : Value → Shared → Prop} {s : Shared} {prog : Program} {w : World} {target : Expr} {I : Addr} {v : Value} {o : Obj} {T : String} {Q : Unit → Shared → Prop} (ho : s.heap.get? I = some o) (hc : o.cls = .type T)
    (hT : ["enumerate", "zip", "dict_itemiterator", "dict_reverseitemiterator", "odict_iterator", "itertools.zip_longest", "itertools.pairwise"].contains T = false) (h : Q () s) : wpAny (model prog w) A (letOwnedTupleGo target (.ref I) v) Q E s := by
  have key : ∀ a, wpAny (model prog w) A (do
      let o ← load I
      match o.cls, o.data with
      | .type n, .fields vs =>
        if ["enumerate", "zip", "dict_itemiterator", "dict_reverseitemiterator", "odict_iterator", "itertools.zip_longest", "itertools.pairwise"].contains n && vs[0]? == some (rawInt a) then
          rule "for.unpacks-the-owned-tuple"
          updateField I 0 .none
      | _, _ => pure () : Sem Unit) Q E s := fun a => by
    refine wpAny_bind (wpAny_load ho ?_)
    rw [hc]
    cases o.data <;> first | exact wpAny_pure h | (simp only [hT, Bool.false_and, Bool.false_eq_true, if_false]; exact wpAny_pure h)
  unfold letOwnedTupleGo
  split
  · cases v <;> first | exact key _ | exact wpAny_pure h
  · cases v <;> first | exact key _ | exact wpAny_pure h
  · exact wpAny_pure h

theorem lt_of_get {h : Heap} {a : Addr} {o : Obj} (e : h.get? a = some o) : a < h.objs.size := Heap.lt_size e
theorem same2 {a : Addr} {h h' : Heap} {o' : Obj} (hs : Heap.SameBut a h h') (e : h'.get? a = some o') : Step2 [a] h h' :=
  ⟨fun b o eb => by
    by_cases hb : b = a
    · subst hb; exact ⟨_, e⟩
    · exact ⟨o, (hs.2 b hb).trans eb⟩, fun b o hb eb => (hs.2 b (by simpa using hb)).trans eb⟩

-- the end of a list's iterator: it is still there
theorem IsListIter.ne {h : Heap} {I ax : Addr} {i : Nat} (hit : h.IsListIter I ax i) {b : Addr} {o : Obj} (e : h.get? b = some o) (hd : ∀ vs, o.data ≠ .fields vs) : b ≠ I := by
  rintro rfl
  obtain ⟨o', ho, _, hdd⟩ := hit
  rw [e] at ho; cases ho; exact hd _ hdd

structure LSt (I ax : Addr) (items : List PV) (vs : List Value) (i : Nat) (as : List Addr) (h : Heap) : Prop where
  iter : h.IsListIter I ax i
  off : I ∉ as
  lst : ∃ n, h.get? ax = some { cls := .type "list", data := .seq (List.toArray vs) n }
  offl : ax ∉ as
  rep : RepL h as items vs

theorem keepF {X as h as' h'} (S : Step X as h as' h') (F : OnlyFrames X h) {b : Addr} {o : Obj} (hb : b ∉ as) (e : h.get? b = some o) (hd : (∃ vs, o.data = .fields vs) ∨ ∃ vs n, o.data = .seq vs n) : h'.get? b = some o :=
  S.keep b o hb (fun hx => by
    rcases F b hx o e with ⟨_, _, h1⟩ | ⟨_, h1⟩ <;> rcases hd with ⟨_, h2⟩ | ⟨_, _, h2⟩ <;> rw [h1] at h2 <;> cases h2) e

theorem iter_list {A : Around} (hh : A.handled = none) {target : Expr} {I ax : Addr} {items : List PV} {vs : List Value} (hne : ax ≠ I) : IterOk W A target I [I] items (LSt I ax items vs) where
  fields := fun i as h st b hb o e => by
    simp at hb; subst hb
    obtain ⟨o', ho, _, hd⟩ := st.iter
    rw [e] at ho; cases ho; exact ⟨_, hd⟩
  frame := fun i as h as' h' X st S F => by
    obtain ⟨⟨o, ho, hc, hd⟩, off, ⟨n, hl⟩, offl, r⟩ := st
    exact ⟨⟨o, keepF S F off ho (.inl ⟨_, hd⟩), hc, hd⟩, S.notin off ho, ⟨n, keepF S F offl hl (.inr ⟨_, _, rfl⟩)⟩, S.notin offl hl, r.mono S F.noSeq⟩
  item := fun i p as s Q E hp st _ post => by
    obtain ⟨hit, off, ⟨n, hl⟩, offl, r⟩ := st
    obtain ⟨v, hv, rv⟩ := r.get hp
    have hL : s.heap.IsList ax vs.toArray := ⟨_, hl, rfl, n, rfl⟩
    refine wpAny_pyNext_list_item hit hL (x := v) (by simpa using hv) fun h' hit' hs => ⟨v, rfl, ?_⟩
    obtain ⟨o', ho', hc', hd'⟩ := id hit'
    refine owned_plain ho' hc' (by decide) ?_
    have S2 := same2 hs ho'
    have S : Step [I] as s.heap as h' := S2.step
    have N : NoSeq [I] s.heap := fun b hb o e vs n hd => by
      simp at hb; subst hb
      obtain ⟨o2, ho2, _, hd2⟩ := hit
      rw [e] at ho2; cases ho2; rw [hd] at hd2; cases hd2
    exact post v h' s.toks ⟨hit', off, ⟨n, (hs.2 ax hne).trans hl⟩, offl, r.mono S N⟩ S2 (rv.mono S N)
  done := fun as s Q E st post => by
    obtain ⟨hit, off, ⟨n, hl⟩, offl, r⟩ := st
    have hL : s.heap.IsList ax vs.toArray := ⟨_, hl, rfl, n, rfl⟩
    exact wpAny_pyNext_list_end hh hit hL (by have := r.length; simp; omega) fun h' he => post h' s.toks fun b o hb e => he b o (by simpa using hb) e
  self := fun i as s Q E st h => wpAny_pyIter_listiter st.iter h

theorem I_list {target iter : Expr} {l : List PV} (h : EvE W sc d σ M iter (.lst l) M₁) : EvI W sc d σ M target iter l M₁ := by
  intro A env s as Q E hA hE I post
  refine h.run A env s as _ E hA hE I fun v h' tk as' I' S r => ?_
  obtain ⟨ax, vs, n, rfl, offl, hl, rl, z⟩ := r
  have hL : h'.IsList ax vs.toArray := ⟨_, hl, rfl, n, rfl⟩
  refine wpAny_pyIter_list hL ?_
  have k := push_keeps h' { cls := .type "list_iterator", data := .fields #[.ref ax, .int 0 0] }
  have T : Step [] as' h' as' (h'.push { cls := .type "list_iterator", data := .fields #[.ref ax, .int 0 0] }) := Step.of_keeps k
  have hne : ax ≠ h'.objs.size := Nat.ne_of_lt (Heap.lt_size hl)
  refine post h'.objs.size [h'.objs.size] (LSt h'.objs.size ax l vs) _ tk as' (I'.grow k) (S.trans T) (fun b hb => ?_) (iter_list hA.handled hne) ⟨⟨_, push_get, rfl, rfl⟩, fresh_notin I', ⟨n, k _ _ hl⟩, offl, rl.mono T (NoSeq.nil _)⟩ z
  simp at hb; subst hb
  cases e : s.heap.get? h'.objs.size with
  | none => rfl
  | some o => obtain ⟨o', e'⟩ := S.live _ _ e; rw [fresh_none] at e'; cases e'

-- ranges
noncomputable def rangeP (a c : Int) (n : Nat) : List PV := (List.range n).map fun i : Nat => .int (a + i * c)

theorem iter_range {A : Around} (hh : A.handled = none) {target : Expr} {I : Addr} (a c : Int) (n : Nat) :
    IterOk W A target I [I] (rangeP a c n) (fun i as h => IsRangeIter h I (a + (i : Nat) * c) ((n : Int) - (i : Nat)) c ∧ I ∉ as) where
  fields := fun i as h st b hb o e => by
    simp at hb; subst hb
    rw [st.1] at e; cases e; exact ⟨_, rfl⟩
  frame := fun i as h as' h' X st S F => ⟨keepF S F st.2 st.1 (.inl ⟨_, rfl⟩), S.notin st.2 st.1⟩
  item := fun i p as s Q E hp st _ post => by
    obtain ⟨hit, off⟩ := st
    have hlt : i < n := by
      have := (List.getElem?_eq_some_iff.mp hp).1
      simpa [rangeP] using this
    have hpe : p = .int (a + i * c) := by
      simp [rangeP, List.getElem?_map, List.getElem?_range hlt] at hp
      exact hp.symm
    subst hpe
    refine wpAny_pyNext_range_item hit (by omega) fun h' hit' hs => ⟨_, rfl, ?_⟩
    refine owned_plain hit' rfl (by decide) ?_
    have e1 : a + ((i + 1 : Nat) : Int) * c = a + (i : Int) * c + c := by push_cast; rw [Int.add_mul, Int.one_mul, Int.add_assoc]
    have e2 : (n : Int) - ((i + 1 : Nat) : Int) = (n : Int) - (i : Int) - 1 := by push_cast; omega
    exact post _ h' _ ⟨by rw [e1, e2]; exact hit', off⟩ (same2 hs hit') ⟨_, rfl⟩
  done := fun as s Q E st post => by
    obtain ⟨hit, off⟩ := st
    exact wpAny_pyNext_range_end hh hit (by simp [rangeP]) fun h' he => post h' s.toks fun b o hb e => he b o (by simpa using hb) e
  self := fun i as s Q E st h => wpAny_pyIter_rangeiter st.1 h

theorem I_ofRange {target e : Expr} {es : List Expr} {pf pos : Pos} {ps : List PV} (O : W.Ok) {a c : Int} {n : Nat} (h1 : EvL W sc d σ M (e :: es) ps M₁) (hn : n ≤ 1048576)
    (hc : ∀ (A : Around) (s : Shared) (as : List Addr) (vs : List Value) (Q : Value → Shared → Prop) (E : Value → Shared → Prop), RepL s.heap as ps vs →
      (∀ tk t u v b, Builtin.Range.small a b c = true → Builtin.Range.rangeSize a b c = n → Q (.ref s.heap.objs.size) { s with heap := s.heap.push { cls := .type "range", data := .fields #[.int a t, .int b u, .int c v] }, toks := tk }) → wpAny (model W.prog W.w) A (call (.type "range") vs) Q E s)
    (hk : sc.names.lookup (Str.ofString "range") = some .globalImplicit) (he : ∀ env, starEach (e :: es) env = (false, eval e env) :: starEach es env) (hp : ∀ pos env, (backTo pos (starEach es env)).any (·.1) = false) :
    EvI W sc d σ M target (.Call (.Name "range" pf) (e :: es) [] pos) (rangeP a c n) M₁ := by
  intro A env s as Q E hA hE I post
  refine wpAny_Call_NameR (name_builtin (M := M) O (x := "range") (v := .type "range") (by decide) PyProof.Rows.boot_range hk (by decide) A env s as _ E hE I ?_)
  have h1' := (h1 pos).run A env s as
  try dsimp only at h1'
  have hpl : (backTo pos (starEach (e :: es) env)).any (·.1) = false := by
    rw [he]
    show (false || (backTo pos (starEach es env)).any (·.1)) = false
    rw [hp]; rfl
  refine PySem.callWith_type hpl ?_
  rw [he] at h1' ⊢
  show wpAny _ A (evalArgs (.type "range") true ((false, eval e env) :: backTo pos (starEach es env)) []) _ _ _
  refine evalArgs_plain (h1' _ E hA hE I fun vs h' tk as' I' S rr => ?_)
  refine hc A _ as' vs _ E rr fun tk2 t u v b hsm hsz => ?_
  have k := push_keeps h' { cls := .type "range", data := .fields #[.int a t, .int b u, .int c v] }
  have T : Step [] as' h' as' (h'.push { cls := .type "range", data := .fields #[.int a t, .int b u, .int c v] }) := Step.of_keeps k
  refine wpAny_pyIter_range (IsRange.new ..) hsm ?_
  have k2 := push_keeps (h'.push { cls := .type "range", data := .fields #[.int a t, .int b u, .int c v] }) { cls := .type "range_iterator", data := .fields #[rawInt a, rawInt (Builtin.Range.rangeSize a b c), rawInt c] }
  have T2 : Step [] as' (h'.push { cls := .type "range", data := .fields #[.int a t, .int b u, .int c v] }) as' ((h'.push { cls := .type "range", data := .fields #[.int a t, .int b u, .int c v] }).push { cls := .type "range_iterator", data := .fields #[rawInt a, rawInt (Builtin.Range.rangeSize a b c), rawInt c] }) := Step.of_keeps k2
  have I2 := I'.grow k
  refine post (h'.push { cls := .type "range", data := .fields #[.int a t, .int b u, .int c v] }).objs.size [_] _ _ tk2 as' (I2.grow k2) ((S.trans T).trans T2) (fun b hb => ?_) (iter_range hA.handled a c n) ⟨?_, fresh_notin I2⟩ (by simp [rangeP]; exact hn)
  · simp at hb; subst hb
    cases e : s.heap.get? (h'.objs.size + 1) with
    | none => rfl
    | some o =>
      obtain ⟨o', e'⟩ := S.live _ _ e
      exact absurd (Heap.lt_size e') (Nat.not_lt.mpr (Nat.le_succ _))
  · have e1 : a + ((0 : Nat) : Int) * c = a := by simp
    have e2 : (n : Int) - ((0 : Nat) : Int) = Builtin.Range.rangeSize a b c := by rw [hsz]; simp
    show IsRangeIter _ _ (a + ((0 : Nat) : Int) * c) ((n : Int) - ((0 : Nat) : Int)) c
    rw [e1, e2]
    exact push_get

theorem I_range1 {target e : Expr} {pf pos : Pos} {b : Int} (O : W.Ok) (h1 : EvE W sc d σ M e (.int b) M₁) (hb : b ≤ 1048576) (hb' : -1048576 ≤ b) (hk : sc.names.lookup (Str.ofString "range") = some .globalImplicit := by rfl)
    (he : ∀ env, starEach [e] env = [(false, eval e env)] := by intro _; rfl) : EvI W sc d σ M target (.Call (.Name "range" pf) [e] [] pos) (rangeP 0 1 b.toNat) M₁ := by
  refine I_ofRange O (L_cons h1 L_nil (fun env => by rw [he]; rfl)) (by omega) (fun A s as vs Q E r h => ?_) hk (fun env => by rw [he]; rfl) (fun _ _ => rfl)
  obtain ⟨v, _, rfl, ⟨t, rfl⟩, rfl⟩ := r
  exact call_range_1 (h _ _ _ _ b (small_one (by omega) (by omega) (by omega) (by omega)) (by rw [rangeSize_one]; split <;> omega))
theorem I_range2 {target e₁ e₂ : Expr} {pf pos : Pos} {a b : Int} (O : W.Ok) (h1 : EvE W sc d σ M e₁ (.int a) M₁) (h2 : EvE W sc d σ M₁ e₂ (.int b) M₂) (ha : a ≤ 1000000) (ha' : -1000000 ≤ a) (hb : b ≤ 1000000) (hb' : -1000000 ≤ b) (hn : (b - a).toNat ≤ 1048576)
    (hk : sc.names.lookup (Str.ofString "range") = some .globalImplicit := by rfl) (he : ∀ env, starEach [e₁, e₂] env = [(false, eval e₁ env), (false, eval e₂ env)] := by intro _; rfl) (he2 : ∀ env, starEach [e₂] env = [(false, eval e₂ env)] := by intro _; rfl) :
    EvI W sc d σ M target (.Call (.Name "range" pf) [e₁, e₂] [] pos) (rangeP a 1 (b - a).toNat) M₂ := by
  refine I_ofRange O (L_cons h1 (L_cons h2 L_nil (fun env => by rw [he2]; rfl)) (fun env => by rw [he, he2])) hn (fun A s as vs Q E r h => ?_) hk (fun env => by rw [he, he2]) (fun _ env => by rw [he2]; rfl)
  obtain ⟨v, _, rfl, ⟨t, rfl⟩, ⟨v', _, rfl, ⟨t', rfl⟩, rfl⟩⟩ := r
  exact call_range_2 (h _ _ _ _ b (small_one (by omega) (by omega) (by omega) (by omega)) (by rw [rangeSize_one]; split <;> omega))
theorem I_range3 {target e₁ e₂ e₃ : Expr} {pf pos : Pos} {a b : Int} (O : W.Ok) (h1 : EvE W sc d σ M e₁ (.int a) M₁) (h2 : EvE W sc d σ M₁ e₂ (.int b) M₂) (h3 : EvE W sc d σ M₂ e₃ (.int (-1)) M₃) (ha : a ≤ 1000000) (ha' : -1000000 ≤ a) (hb : b ≤ 1000000) (hb' : -1000000 ≤ b) (hn : (a - b).toNat ≤ 1048576)
    (hk : sc.names.lookup (Str.ofString "range") = some .globalImplicit := by rfl) (he : ∀ env, starEach [e₁, e₂, e₃] env = [(false, eval e₁ env), (false, eval e₂ env), (false, eval e₃ env)] := by intro _; rfl)
    (he2 : ∀ env, starEach [e₂, e₃] env = [(false, eval e₂ env), (false, eval e₃ env)] := by intro _; rfl) (he3 : ∀ env, starEach [e₃] env = [(false, eval e₃ env)] := by intro _; rfl) :
    EvI W sc d σ M target (.Call (.Name "range" pf) [e₁, e₂, e₃] [] pos) (rangeP a (-1) (a - b).toNat) M₃ := by
  refine I_ofRange O (L_cons h1 (L_cons h2 (L_cons h3 L_nil (fun env => by rw [he3]; rfl)) (fun env => by rw [he2, he3])) (fun env => by rw [he, he2])) hn (fun A s as vs Q E r h => ?_) hk (fun env => by rw [he, he2]) (fun _ env => by rw [he2]; rfl)
  obtain ⟨v, _, rfl, ⟨t, rfl⟩, ⟨v', _, rfl, ⟨t', rfl⟩, ⟨v'', _, rfl, ⟨t'', rfl⟩, rfl⟩⟩⟩ := r
  exact PySem.call_range_3 (by decide) (h _ _ _ _ b (small_down (by omega) (by omega) (by omega) (by omega)) (rangeSize_downNat a b)) (.inl (PyProof.noPylong_small (by decide)))

-- enumerate
noncomputable def enumP (l : List PV) : List PV := l.zipIdx.map fun x => .tup [.int (x.2 : Nat), x.1]

structure ESt (e it ax : Addr) (items : List PV) (vs : List Value) (i : Nat) (as : List Addr) (h : Heap) : Prop where
  enum : ∃ old, IsEnum h e it i old
  iter : h.IsListIter it ax i
  off : e ∉ as
  offi : it ∉ as
  lst : ∃ n, h.get? ax = some { cls := .type "list", data := .seq (List.toArray vs) n }
  offl : ax ∉ as
  rep : RepL h as items vs

theorem iter_enum {A : Around} (hh : A.handled = none) {ts : List Expr} {k : Nat} {pos : Pos} {e it ax : Addr} {items : List PV} {vs : List Value} (hei : e ≠ it) (hle : ax ≠ e) (hli : ax ≠ it) :
    IterOk W A (.Tuple ts k pos) e [e, it] (enumP items) (ESt e it ax items vs) where
  fields := fun i as h st b hb o eo => by
    simp at hb
    rcases hb with rfl | rfl
    · obtain ⟨old, he⟩ := st.enum; rw [he] at eo; cases eo; exact ⟨_, rfl⟩
    · obtain ⟨o', ho, _, hd⟩ := st.iter
      rw [eo] at ho; cases ho; exact ⟨_, hd⟩
  frame := fun i as h as' h' X st S F => by
    obtain ⟨⟨old, he⟩, ⟨o, ho, hc, hd⟩, off, offi, ⟨n, hl⟩, offl, r⟩ := st
    exact ⟨⟨old, keepF S F off he (.inl ⟨_, rfl⟩)⟩, ⟨o, keepF S F offi ho (.inl ⟨_, hd⟩), hc, hd⟩, S.notin off he, S.notin offi ho, ⟨n, keepF S F offl hl (.inr ⟨_, _, rfl⟩)⟩, S.notin offl hl, r.mono S F.noSeq⟩
  item := fun i p as s Q E hp st hlt post => by
    obtain ⟨⟨old, he⟩, hit, off, offi, ⟨n, hl⟩, offl, r⟩ := st
    have hL : s.heap.IsList ax vs.toArray := ⟨_, hl, rfl, n, rfl⟩
    obtain ⟨x, hx, rfl⟩ : ∃ x, items[i]? = some x ∧ p = .tup [.int (i : Nat), x] := by
      simp only [enumP, List.getElem?_map, List.getElem?_zipIdx, Option.map_map] at hp
      cases hxi : items[i]? with
      | none => rw [hxi] at hp; cases hp
      | some x => rw [hxi] at hp; simp at hp; exact ⟨x, rfl, hp.symm⟩
    obtain ⟨v, hv, rv⟩ := r.get hx
    refine wpAny_pyNext_enum_item he hit hL (x := v) (by simpa using hv) hei fun h' ho hit' hT hsz hk => ⟨_, rfl, ?_⟩
    refine wpAny_letOwnedTupleGo_enum ho fun h2 he2 hs2 => ?_
    replace hs2 : Heap.SameBut e h' h2 := hs2
    have helt : e < s.heap.objs.size := Heap.lt_size he
    have hilt : it < s.heap.objs.size := by obtain ⟨_, x, _⟩ := hit; exact Heap.lt_size x
    have hT2 : h2.get? s.heap.objs.size = some { cls := .type "tuple", data := .seq #[.int i s.toks, v] } := (hs2.2 _ (Nat.ne_of_gt helt)).trans hT
    have hit2 : h2.IsListIter it ax (i + 1) := hit'.extBut hs2.extBut (Ne.symm hei)
    have keep : ∀ b o, b ≠ e → b ≠ it → s.heap.get? b = some o → h2.get? b = some o := fun b o h1 h3 eo => (hs2.2 b h1).trans (hk b o h1 h3 eo)
    have S2 : Step2 [e, it] s.heap h2 := ⟨fun b o eo => by
      by_cases h1 : b = e
      · subst h1; exact ⟨_, he2⟩
      · by_cases h3 : b = it
        · subst h3; obtain ⟨o', ho', _⟩ := hit2; exact ⟨o', ho'⟩
        · exact ⟨o, keep b o h1 h3 eo⟩, fun b o hb eo => keep b o (fun h => hb (by simp [h])) (fun h => hb (by simp [h])) eo⟩
    have S : Step [e, it] as s.heap as h2 := S2.step
    have N : NoSeq [e, it] s.heap := fun b hb o eo ws m hd => by
      simp at hb
      rcases hb with rfl | rfl
      · rw [he] at eo; cases eo; cases hd
      · obtain ⟨o2, ho2, _, hd2⟩ := hit
        rw [eo] at ho2; cases ho2; rw [hd] at hd2; cases hd2
    have hTn : s.heap.objs.size ∉ as := fun hm => Nat.lt_irrefl _ (hlt _ hm)
    refine post _ h2 _ ⟨⟨v, by simpa using he2⟩, hit2, off, offi, ⟨n, keep _ _ hle hli hl⟩, offl, r.mono S N⟩ S2 ?_
    exact ⟨_, [.int i s.toks, v], 0, rfl, hTn, hT2, ⟨_, _, rfl, ⟨_, rfl⟩, ⟨_, _, rfl, rv.mono S N, rfl⟩⟩, Nat.le_of_ble_eq_true rfl⟩
  done := fun as s Q E st post => by
    obtain ⟨⟨old, he⟩, hit, off, offi, ⟨n, hl⟩, offl, r⟩ := st
    have hL : s.heap.IsList ax vs.toArray := ⟨_, hl, rfl, n, rfl⟩
    have hlen : (enumP items).length = items.length := by simp [enumP]
    rw [hlen] at he hit
    exact wpAny_pyNext_enum_end hh he hit hL (by have := r.length; simp; omega) fun h' hx => post h' s.toks fun b o hb eo => hx b o (fun h => hb (by simp [h])) eo
  self := fun i as s Q E st h => by
    obtain ⟨⟨old, he⟩, _⟩ := st
    exact wpAny_pyIter_enum he h

theorem I_enum {ts : List Expr} {kk : Nat} {tp : Pos} {e : Expr} {pf pos : Pos} {l : List PV} (O : W.Ok) (h1 : EvE W sc d σ M e (.lst l) M₁) (hk : sc.names.lookup (Str.ofString "enumerate") = some .globalImplicit := by rfl)
    (he : ∀ env, starEach [e] env = [(false, eval e env)] := by intro _; rfl) : EvI W sc d σ M (.Tuple ts kk tp) (.Call (.Name "enumerate" pf) [e] [] pos) (enumP l) M₁ := by
  intro A env s as Q E hA hE I post
  refine wpAny_Call_NameR (name_builtin (M := M) O (x := "enumerate") (v := .type "enumerate") (by decide) PyProof.Rows.boot_enumerate hk (by decide) A env s as _ E hE I ?_)
  have h1' := (L_cons h1 L_nil (fun env => by rw [he]; rfl) pos).run A env s as
  try dsimp only at h1'
  refine PySem.callWith_type (by rw [he]; rfl) ?_
  rw [he] at h1' ⊢
  refine evalArgs_plain (h1' _ E hA hE I fun vs h' tk as' I' S rr => ?_)
  obtain ⟨v, _, rfl, ⟨ax, vs, n, rfl, offl, hl, rl, z⟩, rfl⟩ := rr
  have hL : h'.IsList ax vs.toArray := ⟨_, hl, rfl, n, rfl⟩
  refine call_enumerate_list hL fun h2 hen hit hsz k => ?_
  dsimp only at hen hit hsz k
  refine wpAny_pyIter_enum hen ?_
  have T : Step [] as' h' as' h2 := Step.of_keeps k
  have hlt := Heap.lt_size hl
  have big : ∀ b, h'.objs.size ≤ b → s.heap.get? b = none := fun b hb => by
    cases e : s.heap.get? b with
    | none => rfl
    | some o => obtain ⟨o', e'⟩ := S.live _ _ e; exact absurd (Heap.lt_size e') (Nat.not_lt.mpr hb)
  have off : ∀ b, h'.objs.size ≤ b → b ∉ as' := fun b hb hm => by
    obtain ⟨_, _, e⟩ := I'.isSeq hm
    exact absurd (Heap.lt_size e) (Nat.not_lt.mpr hb)
  refine post (h'.objs.size + 1) [h'.objs.size + 1, h'.objs.size] (ESt (h'.objs.size + 1) h'.objs.size ax l vs) h2 _ as' (I'.grow k) (S.trans T) (fun b hb => ?_) (iter_enum hA.handled (Nat.ne_of_gt (Nat.lt_succ_self _)) (Nat.ne_of_lt (Nat.lt_succ_of_lt hlt)) (Nat.ne_of_lt hlt)) ⟨⟨_, hen⟩, hit, off _ (Nat.le_succ _), off _ (Nat.le_refl _), ⟨n, k _ _ hl⟩, offl, rl.mono T (NoSeq.nil _)⟩ (by simpa [enumP] using z)
  simp at hb
  rcases hb with rfl | rfl
  · exact big _ (Nat.le_succ _)
  · exact big _ (Nat.le_refl _)

-- reversed
structure RSt (I ax : Addr) (items : List PV) (vs : List Value) (i : Nat) (as : List Addr) (h : Heap) : Prop where
  le : i ≤ vs.length
  iter : h.IsRevIter I ax ((vs.length : Int) - 1 - (i : Int))
  off : I ∉ as
  lst : ∃ n, h.get? ax = some { cls := .type "list", data := .seq (List.toArray vs) n }
  offl : ax ∉ as
  rep : RepL h as items vs

theorem iter_rev {A : Around} (hh : A.handled = none) {target : Expr} {I ax : Addr} {items : List PV} {vs : List Value} (hne : ax ≠ I) : IterOk W A target I [I] items.reverse (RSt I ax items vs) where
  fields := fun i as h st b hb o e => by
    simp at hb; subst hb
    obtain ⟨o', ho, _, hd⟩ := st.iter
    rw [e] at ho; cases ho; exact ⟨_, hd⟩
  frame := fun i as h as' h' X st S F => by
    obtain ⟨le, ⟨o, ho, hc, hd⟩, off, ⟨n, hl⟩, offl, r⟩ := st
    exact ⟨le, ⟨o, keepF S F off ho (.inl ⟨_, hd⟩), hc, hd⟩, S.notin off ho, ⟨n, keepF S F offl hl (.inr ⟨_, _, rfl⟩)⟩, S.notin offl hl, r.mono S F.noSeq⟩
  item := fun i p as s Q E hp st _ post => by
    obtain ⟨le, hit, off, ⟨n, hl⟩, offl, r⟩ := st
    obtain ⟨v, hv, rv⟩ := r.reverse.get hp
    have hilt : i < vs.length := by have := (List.getElem?_eq_some_iff.mp hv).1; simpa using this
    rw [List.getElem?_reverse hilt] at hv
    have hL : s.heap.IsList ax vs.toArray := ⟨_, hl, rfl, n, rfl⟩
    have e : (vs.length : Int) - 1 - (i : Int) = ((vs.length - 1 - i : Nat) : Int) := by omega
    rw [e] at hit
    refine wpAny_pyNext_rev_item hit hL (x := v) (by simpa using hv) fun h' hit' hs => ⟨v, rfl, ?_⟩
    obtain ⟨o', ho', hc', hd'⟩ := id hit'
    refine owned_plain ho' hc' (by decide) ?_
    have S2 := same2 hs ho'
    have S : Step [I] as s.heap as h' := S2.step
    have N : NoSeq [I] s.heap := fun b hb o e vs n hd => by
      simp at hb; subst hb
      obtain ⟨o2, ho2, _, hd2⟩ := hit
      rw [e] at ho2; cases ho2; rw [hd] at hd2; cases hd2
    have e2 : ((vs.length - 1 - i : Nat) : Int) - 1 = (vs.length : Int) - 1 - ((i + 1 : Nat) : Int) := by omega
    rw [e2] at hit'
    exact post v h' s.toks ⟨hilt, hit', off, ⟨n, (hs.2 ax hne).trans hl⟩, offl, r.mono S N⟩ S2 (rv.mono S N)
  done := fun as s Q E st post => by
    obtain ⟨le, hit, off, ⟨n, hl⟩, offl, r⟩ := st
    have hlen := r.length
    have e : (vs.length : Int) - 1 - ((items.reverse.length : Nat) : Int) = -1 := by simp; omega
    rw [e] at hit
    exact wpAny_pyNext_rev_end hh hit fun h' he => post h' s.toks fun b o hb eo => he b o (by simpa using hb) eo
  self := fun i as s Q E st h => wpAny_pyIter_revIter st.iter h

theorem I_rev {target e : Expr} {pf pos : Pos} {l : List PV} (O : W.Ok) (h1 : EvE W sc d σ M e (.lst l) M₁) (hk : sc.names.lookup (Str.ofString "reversed") = some .globalImplicit := by rfl)
    (he : ∀ env, starEach [e] env = [(false, eval e env)] := by intro _; rfl) : EvI W sc d σ M target (.Call (.Name "reversed" pf) [e] [] pos) l.reverse M₁ := by
  intro A env s as Q E hA hE I post
  refine wpAny_Call_NameR (name_builtin (M := M) O (x := "reversed") (v := .type "reversed") (by decide) PyProof.Rows.boot_reversed hk (by decide) A env s as _ E hE I ?_)
  have h1' := (L_cons h1 L_nil (fun env => by rw [he]; rfl) pos).run A env s as
  try dsimp only at h1'
  refine PySem.callWith_type (by rw [he]; rfl) ?_
  rw [he] at h1' ⊢
  refine evalArgs_plain (h1' _ E hA hE I fun vs h' tk as' I' S rr => ?_)
  obtain ⟨v, _, rfl, ⟨ax, vs, n, rfl, offl, hl, rl, z⟩, rfl⟩ := rr
  have hL : h'.IsList ax vs.toArray := ⟨_, hl, rfl, n, rfl⟩
  refine call_reversed_list hL ?_
  have k := push_keeps h' (revObj ax ((vs.toArray.size : Int) - 1))
  have T : Step [] as' h' as' (h'.push (revObj ax ((vs.toArray.size : Int) - 1))) := Step.of_keeps k
  have hne : ax ≠ h'.objs.size := Nat.ne_of_lt (Heap.lt_size hl)
  have hit : (h'.push (revObj ax ((vs.toArray.size : Int) - 1))).IsRevIter h'.objs.size ax ((vs.length : Int) - 1 - ((0 : Nat) : Int)) := ⟨_, push_get, rfl, by simp [revObj]⟩
  refine wpAny_pyIter_revIter hit ?_
  refine post h'.objs.size [h'.objs.size] (RSt h'.objs.size ax l vs) _ tk as' (I'.grow k) (S.trans T) (fun b hb => ?_) (iter_rev hA.handled hne) ⟨Nat.zero_le _, hit, fresh_notin I', ⟨n, k _ _ hl⟩, offl, rl.mono T (NoSeq.nil _)⟩ (by simpa using z)
  simp at hb; subst hb
  cases e : s.heap.get? h'.objs.size with
  | none => rfl
  | some o => obtain ⟨o', e'⟩ := S.live _ _ e; rw [fresh_none] at e'; cases e'
end
end Mine
end
section
open PySem PySem.W PyProof.Rows PySem.Calls
set_option Elab.async false
set_option maxRecDepth 100000
set_option linter.unusedVariables false
set_option linter.unusedSimpArgs false
namespace Mine

section
variable {W : Wd} {sc : Scope} {d : Nat} {σ σ₁ σ₂ σc : Vars} {M M₁ M₂ M₃ : Mem}

-- the built-ins
theorem V_len {p : PV} {l : List PV} (hl : listOfP M p = some l) : CallV W d (.builtin "len") [p] M (.int l.length) M := by
  intro A s as vs Q E hA O r post
  obtain ⟨v, _, rfl, rv, rfl⟩ := r
  obtain ⟨a, vs, n, rfl, ho, rl, z⟩ := items_list O rv hl
  have hL : s.heap.IsList a vs.toArray := ⟨_, ho, rfl, n, rfl⟩
  have hlen := rl.length
  refine call_len_list hL (by simp; omega) ?_
  exact post _ s.heap _ O (Step.refl ..) ⟨_, by simp [hlen]; rfl⟩
theorem V_abs {a : Int} : CallV W d (.builtin "abs") [.int a] M (.int (if a < 0 then -a else a)) M := by
  intro A s as vs Q E hA O r post
  obtain ⟨v, _, rfl, ⟨t, rfl⟩, rfl⟩ := r
  exact PyProof.Rows.call_abs_int fun u tk => post _ s.heap tk O (Step.refl ..) ⟨_, rfl⟩
theorem V_max {a b : Int} : CallV W d (.builtin "max") [.int a, .int b] M (.int (if b > a then b else a)) M := by
  intro A s as vs Q E hA O r post
  obtain ⟨v, _, rfl, ⟨t, rfl⟩, v', _, rfl, ⟨t', rfl⟩, rfl⟩ := r
  refine max_two_ints hA.handled fun h' tk k => ?_
  refine post _ h' tk (O.grow k) (Step.of_keeps k) ?_
  split <;> exact ⟨_, rfl⟩
theorem V_int {a : Int} : CallV W d (.type "int") [.int a] M (.int a) M := by
  intro A s as vs Q E hA O r post
  obtain ⟨v, _, rfl, ⟨t, rfl⟩, rfl⟩ := r
  exact call_int_int (post _ s.heap s.toks O (Step.refl ..) ⟨_, rfl⟩)
theorem MemOk.notin {as : List Addr} {h : Heap} (O : MemOk W M as h) : h.objs.size ∉ as := fun hm => by
  obtain ⟨vs, n, e⟩ := O.isSeq hm
  exact Nat.lt_irrefl _ (Heap.lt_size e)
theorem V_list {p : PV} {l : List PV} (hl : listOfP M p = some l) : CallV W d (.type "list") [p] M (.lst l) M := by
  intro A s as vs Q E hA O r post
  obtain ⟨v, _, rfl, rv, rfl⟩ := r
  obtain ⟨a, vs, n, rfl, ho, rl, z⟩ := items_list O rv hl
  have hlen := rl.length
  refine call_list_seq a (.inl rfl) ho rfl rfl (fun h' c' k hn => ?_) (by simp; rw [sizeLine_eq]; omega)
  exact post _ h' s.toks (O.grow k) (Step.of_keeps k) ⟨_, vs, c', rfl, O.notin, hn, rl.mono (Step.of_keeps k) (NoSeq.nil _), z⟩

theorem rep_ints {h : Heap} {as : List Addr} : ∀ {ns : List Int} {vs : List Value}, RepL h as (ns.map .int) vs → ∃ xs : List (Int × Tok), vs = xs.map (fun p => .int p.1 p.2) ∧ xs.map (·.1) = ns
  | [], _, r => by cases r; exact ⟨[], rfl, rfl⟩
  | n :: ns, _, r => by
    obtain ⟨v, r', rfl, ⟨t, rfl⟩, hl⟩ := r
    obtain ⟨xs, rfl, rfl⟩ := rep_ints hl
    exact ⟨(n, t) :: xs, rfl, rfl⟩
theorem V_sum {ns : List Int} : CallV W d (.builtin "sum") [.lst (ns.map .int)] M (.int ns.sum) M := by
  intro A s as vs Q E hA O r post
  obtain ⟨v, _, rfl, ⟨a, vs, n, rfl, _, ho, rl, z⟩, rfl⟩ := r
  obtain ⟨xs, rfl, rfl⟩ := rep_ints rl
  have hL : s.heap.IsList a (intItems xs.toArray) := ⟨_, ho, rfl, n, by simp [intItems]⟩
  refine sum_intListG hA.handled hL fun h' tk t' k => ?_
  refine post _ h' tk (O.grow k) (Step.of_keeps k) ⟨t', ?_⟩
  rw [preSum_eq]
  simp [← List.map_take]

theorem E_len {e : Expr} {pf pos : Pos} {p : PV} {l : List PV} (O : W.Ok) (h1 : EvE W sc d σ M e p M₁) (hl : listOfP M₁ p = some l) (hk : sc.names.lookup (Str.ofString "len") = some .globalImplicit := by rfl)
    (he : ∀ env, starEach [e] env = [(false, eval e env)] := by intro _; rfl) : EvE W sc d σ M (.Call (.Name "len" pf) [e] [] pos) (.int l.length) M₁ :=
  E_callV (.builtin "len") (.inl ⟨_, rfl⟩) (name_builtin O (by decide) PySem.boot_len hk (by decide)) (L_cons h1 L_nil (fun env => by rw [he]; rfl)) (V_len hl) (fun env => by rw [he]; rfl) (fun _ _ => rfl)
theorem E_abs {e : Expr} {pf pos : Pos} {a : Int} (O : W.Ok) (h1 : EvE W sc d σ M e (.int a) M₁) (hk : sc.names.lookup (Str.ofString "abs") = some .globalImplicit := by rfl)
    (he : ∀ env, starEach [e] env = [(false, eval e env)] := by intro _; rfl) : EvE W sc d σ M (.Call (.Name "abs" pf) [e] [] pos) (.int (if a < 0 then -a else a)) M₁ :=
  E_callV (.builtin "abs") (.inl ⟨_, rfl⟩) (name_builtin O (by decide) PyProof.Rows.boot_abs hk (by decide)) (L_cons h1 L_nil (fun env => by rw [he]; rfl)) V_abs (fun env => by rw [he]; rfl) (fun _ _ => rfl)
theorem E_max {e₁ e₂ : Expr} {pf pos : Pos} {a b : Int} (O : W.Ok) (h1 : EvE W sc d σ M e₁ (.int a) M₁) (h2 : EvE W sc d σ M₁ e₂ (.int b) M₂) (hk : sc.names.lookup (Str.ofString "max") = some .globalImplicit := by rfl)
    (he : ∀ env, starEach [e₁, e₂] env = [(false, eval e₁ env), (false, eval e₂ env)] := by intro _; rfl) (he2 : ∀ env, starEach [e₂] env = [(false, eval e₂ env)] := by intro _; rfl) :
    EvE W sc d σ M (.Call (.Name "max" pf) [e₁, e₂] [] pos) (.int (if b > a then b else a)) M₂ :=
  E_callV (.builtin "max") (.inl ⟨_, rfl⟩) (name_builtin O (by decide) PyProof.Rows.boot_max hk (by decide)) (L_cons h1 (L_cons h2 L_nil (fun env => by rw [he2]; rfl)) (fun env => by rw [he, he2])) V_max (fun env => by rw [he, he2]) (fun _ env => by rw [he2]; rfl)
theorem E_toInt {e : Expr} {pf pos : Pos} {a : Int} (O : W.Ok) (h1 : EvE W sc d σ M e (.int a) M₁) (hk : sc.names.lookup (Str.ofString "int") = some .globalImplicit := by rfl)
    (he : ∀ env, starEach [e] env = [(false, eval e env)] := by intro _; rfl) : EvE W sc d σ M (.Call (.Name "int" pf) [e] [] pos) (.int a) M₁ :=
  E_callV (.type "int") (.inr ⟨_, rfl⟩) (name_builtin O (by decide) PyProof.Rows.boot_int hk (by decide)) (L_cons h1 L_nil (fun env => by rw [he]; rfl)) V_int (fun env => by rw [he]; rfl) (fun _ _ => rfl)
theorem E_toList {e : Expr} {pf pos : Pos} {p : PV} {l : List PV} (O : W.Ok) (h1 : EvE W sc d σ M e p M₁) (hl : listOfP M₁ p = some l) (hk : sc.names.lookup (Str.ofString "list") = some .globalImplicit := by rfl)
    (he : ∀ env, starEach [e] env = [(false, eval e env)] := by intro _; rfl) : EvE W sc d σ M (.Call (.Name "list" pf) [e] [] pos) (.lst l) M₁ :=
  E_callV (.type "list") (.inr ⟨_, rfl⟩) (name_builtin O (by decide) PyProof.Rows.boot_list hk (by decide)) (L_cons h1 L_nil (fun env => by rw [he]; rfl)) (V_list hl) (fun env => by rw [he]; rfl) (fun _ _ => rfl)
theorem E_sum {e : Expr} {pf pos : Pos} {ns : List Int} (O : W.Ok) (h1 : EvE W sc d σ M e (.lst (ns.map .int)) M₁) (hk : sc.names.lookup (Str.ofString "sum") = some .globalImplicit := by rfl)
    (he : ∀ env, starEach [e] env = [(false, eval e env)] := by intro _; rfl) : EvE W sc d σ M (.Call (.Name "sum" pf) [e] [] pos) (.int ns.sum) M₁ :=
  E_callV (.builtin "sum") (.inl ⟨_, rfl⟩) (name_builtin O (by decide) PyProof.Rows.boot_sum hk (by decide)) (L_cons h1 L_nil (fun env => by rw [he]; rfl)) V_sum (fun env => by rw [he]; rfl) (fun _ _ => rfl)

-- x[i] = e, x a mutable list
theorem S_setItem {o i e : Expr} {sp pos : Pos} {p : PV} {j : Nat} {k : Int} {l : List PV} (h1 : EvE W sc d σ M e p M₁) (h2 : EvE W sc d σ M₁ o (.mt j) M₂) (h3 : EvE W sc d σ M₂ i (.int k) M₃) (hl : M₃[j]? = some l) (h0 : 0 ≤ k) (hk : k < l.length) (hm : noMtL (l.set k.toNat p) = true)
    (hs : ∀ env, swapsWith e (some (.Subscript o i sp)) pos.line env = pure false := by intro _; rfl) : EvS W sc d σ M (.Assign [.Subscript o i sp] e pos) .nx σ (M₃.set j (l.set k.toNat p)) := by
  refine ⟨fun A env s as Q E hA hE I post => ?_⟩
  refine wpAny_Assign_Subscript (h1.run A env s as _ E hA hE I fun v h' tk as' I' S r => ?_) (hs env)
  refine h2.run A env _ as' _ E hA hE I' fun v2 h2' tk2 as2 I2 S2 r2 => ?_
  refine h3.run A env _ as2 _ E hA hE I2 fun v3 h3' tk3 as3 I3 S3 r3 => ?_
  obtain ⟨t, rfl⟩ := r3
  obtain ⟨a, rfl, ha⟩ := r2.mono S3 (NoSeq.nil _)
  have rv := (r.mono S2 (NoSeq.nil _)).mono S3 (NoSeq.nil _)
  obtain ⟨vs, n, ho, rl, z, _⟩ := I3.mem j a l ha hl
  have hlen := rl.length
  refine ki_setAt (items := vs.toArray) (n := n) ho h0 (by omega) (by simp; omega) ?_
  obtain ⟨I4, S4⟩ := I3.setMut (h' := h3'.update a (Obj.mapSeq (·.setIfInBounds k.toNat v))) (l := l.set k.toNat p) (vs := vs.set k.toNat v) (n := n) ha (Heap.SameBut.update ..) (by
    have := Heap.get?_update_self (Obj.mapSeq (·.setIfInBounds k.toNat v)) ho (by simp [Obj.mapSeq, Obj.isFreed])
    rw [this]
    simp [Obj.mapSeq]) (rl.set k.toNat rv) (by simpa using z) hm
  exact post .next _ tk3 as3 I4 ((((S.trans S2).trans S3).trans S4).weak (by simp)) rfl

-- x.append(e), x a mutable list
theorem S_append {o e : Expr} {ap cp pos : Pos} {p : PV} {j : Nat} {l : List PV} (h1 : EvE W sc d σ M o (.mt j) M₁) (h2 : EvE W sc d σ M₁ e p M₂) (hl : M₂[j]? = some l) (hz : l.length < 1048576) (hm : noMtL (l ++ [p]) = true)
    (hbase : ∀ env, attributeBase o "append" env (eval o env) = eval o env := by intro _; rfl) (hline : (ap.endLine == cp.line) = true := by rfl) (he : ∀ env, starEach [e] env = [(false, eval e env)] := by intro _; rfl)
    (hs : ∀ env, swapsWith (.Call (.Attribute o "append" ap) [e] [] cp) none pos.line env = pure false := by intro _; rfl) :
    EvS W sc d σ M (.Expr (.Call (.Attribute o "append" ap) [e] [] cp) pos) .nx σ (M₂.set j (l ++ [p])) := by
  refine ⟨fun A env s as Q E hA hE I post => ?_⟩
  refine wpAny_Expr_any ?_ (by unfold interactive; rw [hE.isFun]; rfl) (hs env)
  have ht : backTo cp (starEach [e] env) = [(false, eval e env)] := by rw [he]; rfl
  refine wpAny_Call_append (hbase env) (by rw [ht]; rfl) hline ht (h1.run A env s as _ E hA hE I fun v h' tk as' I' S r => ?_)
  obtain ⟨a, rfl, ha⟩ := r
  obtain ⟨l0, hl0⟩ : ∃ l0, M₁[j]? = some l0 := by
    have h1 := (List.getElem?_eq_some_iff.mp ha).1
    rw [I'.len] at h1
    exact ⟨_, List.getElem?_eq_getElem h1⟩
  obtain ⟨vs0, n0, ho0, _⟩ := I'.mem j a l0 ha hl0
  refine ⟨a, _, rfl, ⟨_, n0, ho0, rfl, rfl, rfl⟩, ?_⟩
  refine h2.run A env _ as' _ E hA hE I' fun y h2' tk2 as2 I2 S2 r2 => ?_
  have ha2 : as2[j]? = some a := by
    obtain ⟨bs, rfl, _⟩ := S2.ext
    rw [List.getElem?_append_left (List.getElem?_eq_some_iff.mp ha).1]; exact ha
  obtain ⟨vs, n, ho, rl, z, hmm⟩ := I2.mem j a l ha2 hl
  have hlen := rl.length
  refine wpAny_list_append_plain (items := vs.toArray) ⟨n, ho⟩ (fun h6 ⟨n6, ho6⟩ hs6 => ?_) (by simp; rw [sizeLine_eq]; omega)
  replace hs6 : Heap.SameBut a h2' h6 := hs6
  obtain ⟨I6, S6⟩ := I2.setMut (l := l ++ [p]) (vs := vs ++ [y]) (n := n6) ha2 hs6 (by simpa using ho6) (rl.append ⟨y, [], rfl, r2, rfl⟩) (by simp; omega) hm
  exact post .next h6 tk2 as2 I6 (((S.trans S2).trans S6).weak (by simp)) rfl

-- the call of a def for nothing
theorem S_call {f : Str} {pf cp pos : Pos} {e : Expr} {es : List Expr} (h : EvE W sc d σ M (.Call (.Name f pf) (e :: es) [] cp) .none M₁) (hs : ∀ env, swapsWith (.Call (.Name f pf) (e :: es) [] cp) none pos.line env = pure false := by intro _; rfl) :
    EvS W sc d σ M (.Expr (.Call (.Name f pf) (e :: es) [] cp) pos) .nx σ M₁ := by
  refine ⟨fun A env s as Q E hA hE I post => ?_⟩
  refine wpAny_Expr (h.run A env s as _ E hA hE I fun v h' tk as' I' S r => ?_) (by unfold interactive; rw [hE.isFun]; rfl) (hs env)
  cases r
  exact post .next h' tk as' I' (S.weak (by simp)) rfl
end
end Mine
end
section
open PySem PySem.W PyProof.Rows PySem.Calls
set_option Elab.async false
set_option maxRecDepth 100000
set_option linter.unusedVariables false
set_option linter.unusedSimpArgs false
namespace Mine

mutual
noncomputable def toD : PV → PyData
  | .none => .none
  | .bool b => .bool b
  | .int i => .int i
  | .tup l => .tuple (toDL l)
  | .lst l => .list (toDL l)
  | .mt _ => .none
  | .ils _ => .none
noncomputable def toDL : List PV → List PyData
  | [] => []
  | p :: l => toD p :: toDL l
end
mutual
noncomputable def plainN : Nat → PV → Bool
  | _, .none => true
  | _, .bool _ => true
  | _, .int _ => true
  | 0, .tup _ => false
  | 0, .lst _ => false
  | n + 1, .tup l => plainL n l
  | n + 1, .lst l => plainL n l
  | _, .mt _ => false
  | _, .ils _ => false
noncomputable def plainL : Nat → List PV → Bool
  | _, [] => true
  | n, p :: l => plainN n p && plainL n l
end
open PyProof in
mutual
theorem Rep.reads {h : Heap} {as : List Addr} : ∀ (n : Nat) (p : PV) (v : Value), plainN n p = true → Rep h as p v → ∃ bs, Reads h v (toD p) bs
  | _, .none, v, _, r => by cases r; exact ⟨_, .none⟩
  | _, .bool b, v, _, r => by cases r; exact ⟨_, .bool b⟩
  | _, .int i, v, _, ⟨t, e⟩ => by cases e; exact ⟨_, .int i t⟩
  | 0, .tup l, v, hp, _ => by simp [plainN] at hp
  | 0, .lst l, v, hp, _ => by simp [plainN] at hp
  | n + 1, .tup l, v, hp, ⟨a, vs, k, e, ha, ho, r, hz⟩ => by
    obtain ⟨bs, hb⟩ := RepL.reads n l vs (by simpa [plainN] using hp) r
    subst e
    exact ⟨_, .tuple ho rfl rfl hb⟩
  | n + 1, .lst l, v, hp, ⟨a, vs, k, e, ha, ho, r, hz⟩ => by
    obtain ⟨bs, hb⟩ := RepL.reads n l vs (by simpa [plainN] using hp) r
    subst e
    exact ⟨_, .list ho rfl rfl hb⟩
  | _, .mt _, v, hp, _ => by simp [plainN] at hp
  | _, .ils _, v, hp, _ => by simp [plainN] at hp
theorem RepL.reads {h : Heap} {as : List Addr} : ∀ (n : Nat) (l : List PV) (vs : List Value), plainL n l = true → RepL h as l vs → ∃ bs, ReadsAll h vs (toDL l) bs
  | _, [], vs, _, r => by cases r; exact ⟨_, .nil⟩
  | n, p :: l, vs, hp, ⟨v, r, e, hq, hl⟩ => by
    simp only [plainL, Bool.and_eq_true] at hp
    obtain ⟨bs, hb⟩ := Rep.reads n p v hp.1 hq
    obtain ⟨cs, hc⟩ := RepL.reads n l r hp.2 hl
    subst e
    exact ⟨_, .cons hb hc⟩
end
open PyProof in
mutual
theorem toD_shape : ∀ (n : Nat) (p : PV), plainN n p = true → (toD p).canLay0 = true ∧ (toD p).depth ≤ n
  | _, .none, _ => by simp [toD, PyData.canLay0, PyData.depth]
  | _, .bool b, _ => by simp [toD, PyData.canLay0, PyData.depth]
  | _, .int i, _ => by simp [toD, PyData.canLay0, PyData.depth]
  | 0, .tup l, hp => by simp [plainN] at hp
  | 0, .lst l, hp => by simp [plainN] at hp
  | n + 1, .tup l, hp => by
    have := toDL_shape n l (by simpa [plainN] using hp)
    simp only [toD, PyData.canLay0, PyData.depth]
    exact ⟨this.1, by omega⟩
  | n + 1, .lst l, hp => by
    have := toDL_shape n l (by simpa [plainN] using hp)
    simp only [toD, PyData.canLay0, PyData.depth]
    exact ⟨this.1, by omega⟩
  | _, .mt _, hp => by simp [plainN] at hp
  | _, .ils _, hp => by simp [plainN] at hp
theorem toDL_shape : ∀ (n : Nat) (l : List PV), plainL n l = true → PyData.canLayAll0 (toDL l) = true ∧ PyData.depthAll (toDL l) ≤ n
  | _, [], _ => by simp [toDL, PyData.canLayAll0, PyData.depthAll]
  | n, p :: l, hp => by
    simp only [plainL, Bool.and_eq_true] at hp
    have h1 := toD_shape n p hp.1
    have h2 := toDL_shape n l hp.2
    simp only [toDL, PyData.canLayAll0, PyData.depthAll, Bool.and_eq_true]
    exact ⟨⟨h1.1, h2.1⟩, by omega⟩
end
mutual
theorem plain_noMt : ∀ (n : Nat) (p : PV), plainN n p = true → noMt p = true
  | _, .none, _ => by simp [noMt]
  | _, .bool b, _ => by simp [noMt]
  | _, .int i, _ => by simp [noMt]
  | 0, .tup l, hp => by simp [plainN] at hp
  | 0, .lst l, hp => by simp [plainN] at hp
  | n + 1, .tup l, hp => by
    have := plain_noMtL n l (by simpa [plainN] using hp)
    simpa only [noMt] using this
  | n + 1, .lst l, hp => by
    have := plain_noMtL n l (by simpa [plainN] using hp)
    simpa only [noMt] using this
  | _, .mt _, hp => by simp [plainN] at hp
  | _, .ils _, hp => by simp [plainN] at hp
theorem plain_noMtL : ∀ (n : Nat) (l : List PV), plainL n l = true → noMtL l = true
  | _, [], _ => by simp [noMtL]
  | n, p :: l, hp => by
    simp only [plainL, Bool.and_eq_true] at hp
    simp only [noMtL, Bool.and_eq_true]
    exact ⟨plain_noMt n p hp.1, plain_noMtL n l hp.2⟩
end

section
variable {W : Wd} {sc : Scope} {d : Nat} {σ : Vars} {M M₁ M₂ M₃ : Mem} {l r : Expr} {pos : Pos} {p q : PV}
noncomputable def eqD (p q : PV) : Bool := PyData.eqv (toD p) (toD q)
theorem wp_eqD {A : Around} {s : Shared} {as bs : List Addr} {v u : Value} {Q : Value → Shared → Prop} {E : Value → Shared → Prop} {prog : Program} {w : World} (hA : AOk d A) (rp : Rep s.heap as p v) (rq : Rep s.heap bs q u) (hp : plainN 8 p = true) (hq : plainN 8 q = true)
    (h : Q (.bool (eqD p q)) s) : wpAny (model prog w) A (compareOp .Eq v u) Q E s := by
  obtain ⟨cs, hr⟩ := Rep.reads 8 p v hp rp
  obtain ⟨ds, hs⟩ := Rep.reads 8 q u hq rq
  have h1 := toD_shape 8 p hp
  have h2 := toD_shape 8 q hq
  refine eq_dataH hr hs (by simp [PySem.SeqAt.shaped, h1.1]; omega) (by simp [PySem.SeqAt.shaped, h2.1]; omega) (by have := hA.units; unfold cLine; omega) h
theorem wp_neD {A : Around} {s : Shared} {as bs : List Addr} {v u : Value} {Q : Value → Shared → Prop} {E : Value → Shared → Prop} {prog : Program} {w : World} (hA : AOk d A) (rp : Rep s.heap as p v) (rq : Rep s.heap bs q u) (hp : plainN 8 p = true) (hq : plainN 8 q = true)
    (h : Q (.bool (!eqD p q)) s) : wpAny (model prog w) A (compareOp .NotEq v u) Q E s := by
  obtain ⟨cs, hr⟩ := Rep.reads 8 p v hp rp
  obtain ⟨ds, hs⟩ := Rep.reads 8 q u hq rq
  have h1 := toD_shape 8 p hp
  have h2 := toD_shape 8 q hq
  refine ne_dataH hr hs (by simp [PySem.SeqAt.shaped, h1.1]; omega) (by simp [PySem.SeqAt.shaped, h2.1]; omega) (by have := hA.units; unfold cLine; omega) h
theorem E_eqD (h1 : EvE W sc d σ M l p M₁) (h2 : EvE W sc d σ M₁ r q M₂) (hp : plainN 8 p = true) (hq : plainN 8 q = true) (hm : behindInMarks .Eq r = false := by with_unfolding_all rfl) :
    EvE W sc d σ M (.Compare l [.Eq] [r] pos) (.bool (eqD p q)) M₂ := by
  refine ⟨fun A env s as Q E hA hE I post => ?_⟩
  refine wpAny_Compare1 (h1.run A env s as _ E hA hE I fun v h' tk as' I' S rr => ?_) hm
  refine h2.run A env _ as' _ E hA hE I' fun v' h'' tk' as'' I'' S' rr' => ?_
  exact wp_eqD hA (rr.mono S' (NoSeq.nil _)) rr' hp hq (post _ h'' tk' as'' I'' (S.trans S') rfl)
theorem T_eqD (h1 : EvE W sc d σ M l p M₁) (h2 : EvE W sc d σ M₁ r q M₂) (hp : plainN 8 p = true) (hq : plainN 8 q = true) (hm : behindInMarks .Eq r = false := by with_unfolding_all rfl) :
    EvT W sc d σ M (.Compare l [.Eq] [r] pos) (eqD p q) M₂ := by
  refine ⟨fun A env s as Q E hA hE I post => ?_⟩
  refine wpAny_isTrue_Compare1 (h1.run A env s as _ E hA hE I fun v h' tk as' I' S rr => ?_) hm
  refine h2.run A env _ as' _ E hA hE I' fun v' h'' tk' as'' I'' S' rr' => ?_
  exact wp_eqD hA (rr.mono S' (NoSeq.nil _)) rr' hp hq (wpAny_truthy_bool (post _ h'' tk' as'' I'' (S.trans S') rfl))
theorem T_neD (h1 : EvE W sc d σ M l p M₁) (h2 : EvE W sc d σ M₁ r q M₂) (hp : plainN 8 p = true) (hq : plainN 8 q = true) (hm : behindInMarks .NotEq r = false := by with_unfolding_all rfl) :
    EvT W sc d σ M (.Compare l [.NotEq] [r] pos) (!eqD p q) M₂ := by
  refine ⟨fun A env s as Q E hA hE I post => ?_⟩
  refine wpAny_isTrue_Compare1 (h1.run A env s as _ E hA hE I fun v h' tk as' I' S rr => ?_) hm
  refine h2.run A env _ as' _ E hA hE I' fun v' h'' tk' as'' I'' S' rr' => ?_
  exact wp_neD hA (rr.mono S' (NoSeq.nil _)) rr' hp hq (wpAny_truthy_bool (post _ h'' tk' as'' I'' (S.trans S') rfl))
end
end Mine
end
section
open PySem PySem.W PyProof.Rows PySem.Calls
set_option Elab.async false
set_option maxRecDepth 100000
set_option linter.unusedVariables false
set_option linter.unusedSimpArgs false
namespace Mine

noncomputable def stAt (k : Nat) : Stmt := (PySem.Challenge.pw_pf0056_01.main.body)[k]?.getD (.Pass ⟨0, 0, 0, 0⟩)
noncomputable def nameAt (k : Nat) : Str := match stAt k with
  | .FunctionDef n _ _ _ _ _ _ _ _ _ => n
  | _ => ⟨#[]⟩
noncomputable def fnAt (k : Nat) : Fn := match stAt k with
  | .FunctionDef _ a b _ _ _ s _ _ _ => ⟨a, b, s⟩
  | _ => ⟨⟨[], [], none, [], [], none, []⟩, [], ⟨.function, [], false, false, []⟩⟩
noncomputable def defIdx : List Nat := [3, 4, 8, 9, 10, 11, 12, 13, 15, 16, 17, 18, 19, 20, 21, 22, 23, 24, 25, 26, 28, 29, 30, 31, 32, 33, 34, 35, 36, 37, 38, 39, 40, 41, 42, 43, 44, 45, 46, 49, 50, 51, 52, 53, 54, 56, 57, 58, 59, 61, 62, 63, 65, 67, 68, 69, 70, 72, 73, 74]
structure Good (W : Wd) : Prop where
  ok : W.Ok
  all : ∀ k ∈ defIdx, ∃ a, W.FnAt (nameAt k) a (fnAt k)

section
variable {W : Wd} {sc : Scope} {d : Nat} {σ σ₁ σ₂ : Vars} {M M₁ M₂ M₃ : Mem} {e : Expr}
theorem EvE.to {p q : PV} (h : EvE W sc d σ M e p M₁) (hq : p = q) : EvE W sc d σ M e q M₁ := hq ▸ h
theorem EvT.to {b c : Bool} (h : EvT W sc d σ M e b M₁) (hq : b = c) : EvT W sc d σ M e c M₁ := hq ▸ h

theorem callAt (G : Good W) (k : Nat) (hk : k ∈ defIdx) (names : List Str) {ps : List PV} {q q' : PV} (N : Mem)
    (hbind : ∀ (vals : List Value) (pm code doc : Value), vals.length = names.length → bindArgs (docDef (nameAt k) (fnAt k).params (fnAt k).body (fnAt k).scope pm code doc) ⟨vals, []⟩ = pure (names.zip vals))
    (hlen : names.length = ps.length)
    (hnd : names.Nodup) (hndc : ((cellsFrom 0 (fnAt k).scope.names []).map (·.1)).Nodup) (hkinds : ∀ x ∈ names, (fnAt k).scope.names.lookup x = some .local ∨ (fnAt k).scope.names.lookup x = some .cell)
    (hkd : (fnAt k).scope.kind = .function) (hco : (fnAt k).scope.isCoroutine = false) (hgen : (fnAt k).scope.isGenerator = false)
    (hM : M₁.length = M.length) (hret : RetTo M.length N q q')
    (hd : 1 ≤ d)
    (h : ∃ σ', EvB W (fnAt k).scope (d - 1) (names.zip ps) M (fnAt k).body (.rt q) σ' (M₁ ++ N)) : CallOk W d (nameAt k) ps M q' M₁ := by
  obtain ⟨σ', h⟩ := h
  obtain ⟨d, rfl⟩ : ∃ d', d = d' + 1 := ⟨d - 1, by omega⟩
  exact callOk_of_body G.ok (G.all k hk) hlen hbind hnd hndc hkinds hkd hco hgen hM hret h
theorem E_ite_t {x body orelse : Expr} {pos : Pos} {p : PV} (h1 : EvT W sc d σ M x true M₁) (h2 : EvE W sc d σ M₁ body p M₂) : EvE W sc d σ M (.IfExp x body orelse pos) p M₂ := E_ite h1 (fun _ => h2) (fun h => nomatch h)
theorem E_ite_f {x body orelse : Expr} {pos : Pos} {p : PV} (h1 : EvT W sc d σ M x false M₁) (h2 : EvE W sc d σ M₁ orelse p M₂) : EvE W sc d σ M (.IfExp x body orelse pos) p M₂ := E_ite h1 (fun h => nomatch h) (fun _ => h2)
theorem S_if_t {test : Expr} {body orelse : List Stmt} {f : Fl} {pos : Pos} (h1 : EvT W sc d σ M test true M₁) (h2 : EvB W sc d σ M₁ body f σ₂ M₂) : EvS W sc d σ M (.If test body orelse pos) f σ₂ M₂ := S_if h1 (fun _ => h2) (fun h => nomatch h)
theorem S_if_f {test : Expr} {body orelse : List Stmt} {f : Fl} {pos : Pos} (h1 : EvT W sc d σ M test false M₁) (h2 : EvB W sc d σ M₁ orelse f σ₂ M₂) : EvS W sc d σ M (.If test body orelse pos) f σ₂ M₂ := S_if h1 (fun h => nomatch h) (fun _ => h2)

/-- a def of the text, called -/
structure CallR (W : Wd) (d : Nat) (n : Str) (ps : List PV) (M : Mem) (q : PV) (M' : Mem) : Prop where
  fn : ∃ a fn, W.FnAt n a fn
  ok : CallOk W d n ps M q M'
theorem CallR.mono {d' : Nat} {n : Str} {ps : List PV} {q : PV} (h : CallR W d n ps M q M₁) (hd : d ≤ d') : CallR W d' n ps M q M₁ := ⟨h.fn, h.ok.mono hd⟩
theorem CallR.to {n : Str} {ps : List PV} {q q' : PV} (h : CallR W d n ps M q M₁) (e : q = q') : CallR W d n ps M q' M₁ := e ▸ h
theorem EvB.rt {st : List Stmt} {p q : PV} (h : EvB W sc d σ M st (.rt p) σ₂ M₁) (hq : p = q) : EvB W sc d σ M st (.rt q) σ₂ M₁ := hq ▸ h
theorem callR (G : Good W) (k : Nat) (n : Str) (hn : nameAt k = n) (hk : k ∈ defIdx) (names : List Str) {ps : List PV} {q q' : PV} (N : Mem)
    (hbind : ∀ (vals : List Value) (pm code doc : Value), vals.length = names.length → bindArgs (docDef (nameAt k) (fnAt k).params (fnAt k).body (fnAt k).scope pm code doc) ⟨vals, []⟩ = pure (names.zip vals))
    (hlen : names.length = ps.length)
    (hnd : names.Nodup) (hndc : ((cellsFrom 0 (fnAt k).scope.names []).map (·.1)).Nodup) (hkinds : ∀ x ∈ names, (fnAt k).scope.names.lookup x = some .local ∨ (fnAt k).scope.names.lookup x = some .cell)
    (hkd : (fnAt k).scope.kind = .function) (hco : (fnAt k).scope.isCoroutine = false) (hgen : (fnAt k).scope.isGenerator = false)
    (hd : 1 ≤ d) (hM : M₁.length = M.length) (hret : RetTo M.length N q q')
    (h : ∃ σ', EvB W (fnAt k).scope (d - 1) (names.zip ps) M (fnAt k).body (.rt q) σ' (M₁ ++ N)) : CallR W d n ps M q' M₁ := by
  subst hn
  obtain ⟨a, h'⟩ := G.all k hk
  exact ⟨⟨a, _, h'⟩, callAt G k hk names N hbind hlen hnd hndc hkinds hkd hco hgen hM hret hd h⟩
theorem callS (G : Good W) (k : Nat) (n : Str) (hn : nameAt k = n) (hk : k ∈ defIdx) (names : List Str) {ps : List PV} {q : PV}
    (hbind : ∀ (vals : List Value) (pm code doc : Value), vals.length = names.length → bindArgs (docDef (nameAt k) (fnAt k).params (fnAt k).body (fnAt k).scope pm code doc) ⟨vals, []⟩ = pure (names.zip vals))
    (hlen : names.length = ps.length)
    (hnd : names.Nodup) (hndc : ((cellsFrom 0 (fnAt k).scope.names []).map (·.1)).Nodup) (hkinds : ∀ x ∈ names, (fnAt k).scope.names.lookup x = some .local ∨ (fnAt k).scope.names.lookup x = some .cell)
    (hkd : (fnAt k).scope.kind = .function) (hco : (fnAt k).scope.isCoroutine = false) (hgen : (fnAt k).scope.isGenerator = false)
    (hd : 1 ≤ d) (hq : noMt q = true)
    (h : ∃ σ', EvB W (fnAt k).scope (d - 1) (names.zip ps) M (fnAt k).body (.rt q) σ' M) : CallR W d n ps M q M :=
  callR G k n hn hk names [] hbind hlen hnd hndc hkinds hkd hco hgen hd rfl (.same hq) (by rw [List.append_nil]; exact h)
theorem callN (G : Good W) (k : Nat) (n : Str) (hn : nameAt k = n) (hk : k ∈ defIdx) (names : List Str) {ps : List PV}
    (hbind : ∀ (vals : List Value) (pm code doc : Value), vals.length = names.length → bindArgs (docDef (nameAt k) (fnAt k).params (fnAt k).body (fnAt k).scope pm code doc) ⟨vals, []⟩ = pure (names.zip vals))
    (hlen : names.length = ps.length)
    (hnd : names.Nodup) (hndc : ((cellsFrom 0 (fnAt k).scope.names []).map (·.1)).Nodup) (hkinds : ∀ x ∈ names, (fnAt k).scope.names.lookup x = some .local ∨ (fnAt k).scope.names.lookup x = some .cell)
    (hkd : (fnAt k).scope.kind = .function) (hco : (fnAt k).scope.isCoroutine = false) (hgen : (fnAt k).scope.isGenerator = false)
    (hd : 1 ≤ d)
    (h : ∃ σ', EvB W (fnAt k).scope (d - 1) (names.zip ps) M (fnAt k).body .nx σ' M) : CallR W d n ps M .none M := by
  subst hn
  obtain ⟨a, h'⟩ := G.all k hk
  obtain ⟨σ', h⟩ := h
  obtain ⟨d, rfl⟩ : ∃ d', d = d' + 1 := ⟨d - 1, by omega⟩
  exact ⟨⟨a, _, h'⟩, callOk_of_bodyG G.ok (N := []) .nx ⟨a, h'⟩ hlen hbind hnd hndc hkinds hkd hco hgen rfl (.same rfl) (.inr ⟨rfl, rfl⟩) (by rw [List.append_nil]; exact h)⟩
theorem E_callR {f : Str} {pf pos : Pos} {e : Expr} {es : List Expr} {ps : List PV} {q : PV} (O : W.Ok) (h1 : EvL W sc d σ M (e :: es) ps M₁) (h2 : CallR W d f ps M₁ q M₂)
    (hk : sc.names.lookup f = some .globalImplicit) (hd : (f == ("__debug__" : Str)) = false)
    (he : ∀ env, starEach (e :: es) env = (false, eval e env) :: starEach es env) :
    EvE W sc d σ M (.Call (.Name f pf) (e :: es) [] pos) q M₂ := E_call O h2.fn h1 h2.ok hk hd he

theorem E_tuple' {es : List Expr} {ps : List PV} {k : Nat} {pos : Pos} (h1 : EvL W sc d σ M es ps M₁) (hz : ps.length ≤ 1048576) : EvE W sc d σ M (.Tuple es k pos) (.tup ps) M₁ := E_tuple h1 hz
theorem E_list' {es : List Expr} {ps : List PV} {pos : Pos} (h1 : EvL W sc d σ M es ps M₁) (hz : ps.length ≤ 1048576) : EvE W sc d σ M (.List es pos) (.lst ps) M₁ := E_list h1 hz
theorem L_cons' {e : Expr} {es : List Expr} {p : PV} {ps : List PV} (h1 : EvE W sc d σ M e p M₁) (h2 : EvL W sc d σ M₁ es ps M₂) (he : ∀ env, starEach (e :: es) env = (false, eval e env) :: starEach es env) : EvL W sc d σ M (e :: es) (p :: ps) M₂ := L_cons h1 h2 he
theorem E_idx' {value slice : Expr} {pos : Pos} {p : PV} {k : Int} {l : List PV} {q : PV} (h1 : EvE W sc d σ M value p M₁) (h2 : EvE W sc d σ M₁ slice (.int k) M₂) (hl : itemsOf M₂ p = some l) (hq : pyGet l k = some q)
    (hs : ∀ o i, subscripted slice false o i = operate [o, i] (getItem o i)) : EvE W sc d σ M (.Subscript value slice pos) q M₂ := E_idx h1 h2 hl hq hs
theorem E_abs' {e : Expr} {pf pos : Pos} {a : Int} (O : W.Ok) (h1 : EvE W sc d σ M e (.int a) M₁) (hk : sc.names.lookup (Str.ofString "abs") = some .globalImplicit)
    (he : ∀ env, starEach [e] env = [(false, eval e env)]) : EvE W sc d σ M (.Call (.Name (Str.ofString "abs") pf) [e] [] pos) (.int (if a < 0 then -a else a)) M₁ := E_abs O h1 hk he
theorem E_len' {e : Expr} {pf pos : Pos} {p : PV} {l : List PV} (O : W.Ok) (h1 : EvE W sc d σ M e p M₁) (hl : listOfP M₁ p = some l) (hk : sc.names.lookup (Str.ofString "len") = some .globalImplicit)
    (he : ∀ env, starEach [e] env = [(false, eval e env)]) : EvE W sc d σ M (.Call (.Name (Str.ofString "len") pf) [e] [] pos) (.int l.length) M₁ := E_len O h1 hl hk he
theorem E_max' {e₁ e₂ : Expr} {pf pos : Pos} {a b : Int} (O : W.Ok) (h1 : EvE W sc d σ M e₁ (.int a) M₁) (h2 : EvE W sc d σ M₁ e₂ (.int b) M₂) (hk : sc.names.lookup (Str.ofString "max") = some .globalImplicit)
    (he : ∀ env, starEach [e₁, e₂] env = [(false, eval e₁ env), (false, eval e₂ env)]) (he2 : ∀ env, starEach [e₂] env = [(false, eval e₂ env)]) : EvE W sc d σ M (.Call (.Name (Str.ofString "max") pf) [e₁, e₂] [] pos) (.int (if b > a then b else a)) M₂ := E_max O h1 h2 hk he he2
theorem E_toList' {e : Expr} {pf pos : Pos} {p : PV} {l : List PV} (O : W.Ok) (h1 : EvE W sc d σ M e p M₁) (hl : listOfP M₁ p = some l) (hk : sc.names.lookup (Str.ofString "list") = some .globalImplicit)
    (he : ∀ env, starEach [e] env = [(false, eval e env)]) : EvE W sc d σ M (.Call (.Name (Str.ofString "list") pf) [e] [] pos) (.lst l) M₁ := E_toList O h1 hl hk he
theorem E_slice' {value : Expr} {lower upper step : Option Expr} {ps pos : Pos} {p : PV} {l : List PV} {lo hi st : Option Int} {M₄ : Mem} (h1 : EvE W sc d σ M value p M₁) (h2 : EvPart W sc d σ M₁ lower lo M₂) (h3 : EvPart W sc d σ M₂ upper hi M₃) (h4 : EvPart W sc d σ M₃ step st M₄)
    (hl : listOfP M₄ p = some l) (hst : st = none ∨ (lo = none ∧ hi = none ∧ st = some (-1))) : EvE W sc d σ M (.Subscript value (.Slice lower upper step ps) pos) (.lst (pySlice l lo hi st)) M₄ := E_slice h1 h2 h3 h4 hl hst
theorem T_cmpI' {l r : Expr} {pos : Pos} {a b : Int} {op : CmpOp} {c : Bool} (h1 : EvE W sc d σ M l (.int a) M₁) (h2 : EvE W sc d σ M₁ r (.int b) M₂) (h : cmpI op a b = some c) (hm : behindInMarks op r = false) :
    EvT W sc d σ M (.Compare l [op] [r] pos) c M₂ := T_cmpI h1 h2 h hm
theorem E_cmpI' {l r : Expr} {pos : Pos} {a b : Int} {op : CmpOp} {c : Bool} (h1 : EvE W sc d σ M l (.int a) M₁) (h2 : EvE W sc d σ M₁ r (.int b) M₂) (h : cmpI op a b = some c) (hm : behindInMarks op r = false) :
    EvE W sc d σ M (.Compare l [op] [r] pos) (.bool c) M₂ := E_cmpI h1 h2 h hm
theorem env_all {P : Env → Prop} (h : ∀ l g c q f co fr b, P ⟨sc, l, g, c, q, f, co, fr, b⟩) : ∀ env, EnvOk sc env → P env := by
  rintro ⟨_, _, _, _, _, _, _, _, _⟩ ⟨rfl, _, _, _⟩
  exact h ..
theorem WhileRun.some_done {test : Expr} {body : List Stmt} (h : EvT W sc d σ M test false M₁) : ∃ n, WhileRun W sc d test body n σ M .nx σ M₁ := ⟨0, .done h⟩
theorem WhileRun.some_step {test : Expr} {body : List Stmt} {f : Fl} {σ₃ : Vars} (h1 : EvT W sc d σ M test true M₁) (h2 : EvB W sc d σ M₁ body .nx σ₂ M₂) (h3 : ∃ n, WhileRun W sc d test body n σ₂ M₂ f σ₃ M₃) : ∃ n, WhileRun W sc d test body n σ M f σ₃ M₃ := by
  obtain ⟨n, h⟩ := h3; exact ⟨n + 1, .step h1 h2 h⟩
theorem S_whileX {test : Expr} {body : List Stmt} {f : Fl} {pos : Pos} (h : ∃ n, WhileRun W sc d test body n σ M f σ₁ M₁) : EvS W sc d σ M (.While test body [] pos) f σ₁ M₁ := by obtain ⟨n, h⟩ := h; exact S_while h
theorem EvB.sub {st : List Stmt} {f : Fl} (h : EvB W sc d σ M st f σ₁ M₁) (s : SubV σ₂ σ₁) : EvB W sc d σ M st f σ₂ M₁ := Ev.post h s
theorem B_assign {x : Str} {e : Expr} {p : PV} {px pos : Pos} {sts : List Stmt} {f : Fl} (h : EvE W sc d σ M e p M₁) (hx : sc.names.lookup x = some .local ∨ sc.names.lookup x = some .cell)
    (hs : ∀ env, EnvOk sc env → swapsWith e (some (.Name x px)) pos.line env = pure false) (hb : EvB W sc d (setV x p σ) M₁ sts f σ₂ M₂) : EvB W sc d σ M (.Assign [.Name x px] e pos :: sts) f σ₂ M₂ :=
  B_cons (S_assign h hx hs) hb
theorem B_retE {e : Expr} {p : PV} {pos : Pos} {sts : List Stmt} (h : EvE W sc d σ M e p M₁) : EvB W sc d σ M (.Return (some e) pos :: sts) (.rt p) σ M₁ := B_ret (S_ret h)
theorem B_ifF {test : Expr} {body : List Stmt} {pos : Pos} {sts : List Stmt} {f : Fl} (ht : EvT W sc d σ M test false M₁) (hb : EvB W sc d σ M₁ sts f σ₂ M₂) : EvB W sc d σ M (.If test body [] pos :: sts) f σ₂ M₂ :=
  B_cons (S_if_f ht B_nil) hb
theorem B_ifR {test : Expr} {body orelse : List Stmt} {pos : Pos} {sts : List Stmt} {p : PV} (ht : EvT W sc d σ M test true M₁) (hb : EvB W sc d σ M₁ body (.rt p) σ₂ M₂) : EvB W sc d σ M (.If test body orelse pos :: sts) (.rt p) σ₂ M₂ :=
  B_ret (S_if_t ht hb)
theorem B_ifT {test : Expr} {body orelse : List Stmt} {pos : Pos} {sts : List Stmt} {f : Fl} (ht : EvT W sc d σ M test true M₁) (h : EvB W sc d σ M₁ body .nx σ₁ M₂) (hb : EvB W sc d σ₁ M₂ sts f σ₂ M₃) : EvB W sc d σ M (.If test body orelse pos :: sts) f σ₂ M₃ :=
  B_cons (S_if_t ht h) hb
theorem B_while {test : Expr} {body : List Stmt} {pos : Pos} {sts : List Stmt} {f : Fl} (h : ∃ n, WhileRun W sc d test body n σ M .nx σ₁ M₁) (hb : EvB W sc d σ₁ M₁ sts f σ₂ M₂) : EvB W sc d σ M (.While test body [] pos :: sts) f σ₂ M₂ :=
  B_cons (S_whileX h) hb
theorem B_for {target iter : Expr} {body : List Stmt} {items : List PV} {pos : Pos} {sts : List Stmt} {f : Fl} (hi : EvI W sc d σ M target iter items M₁) (hs : ∀ x env, foldedSetIterable iter env x = pure x) (run : ForRun W sc d target body items σ M₁ .nx σ₁ M₂)
    (hb : EvB W sc d σ₁ M₂ sts f σ₂ M₃) : EvB W sc d σ M (.For target iter body [] pos :: sts) f σ₂ M₃ := B_cons (S_for hi run hs) hb
theorem ForRun.fold {target : Expr} {body : List Stmt} {α β : Type} (inj : α → PV) (st : β → Vars) (mm : β → Mem) (step : β → α → Option β)
    (h : ∀ b a b', step b a = some b' → ∃ σ₁, EvA W sc d false (st b) (mm b) target (inj a) σ₁ (mm b) ∧ EvB W sc d σ₁ (mm b) body .nx (st b') (mm b')) :
    ∀ (l : List α) (b r : β), F.foldO step b l = some r → ForRun W sc d target body (l.map inj) (st b) (mm b) .nx (st r) (mm r)
  | [], b, r, e => by cases e; exact .nil
  | a :: l, b, r, e => by
    obtain ⟨b', hb, e⟩ := F.ob_some e
    obtain ⟨σ₁, h1, h2⟩ := h b a b' hb
    exact .step h1 h2 (ForRun.fold inj st mm step h l b' r e)
end
end Mine
end
section
open PySem PySem.W PyProof.Rows PySem.Calls
set_option Elab.async false
set_option maxRecDepth 100000
set_option linter.unusedVariables false
set_option linter.unusedSimpArgs false
namespace Mine
open F in
noncomputable def qv (a : Q) : PV := .tup [.int a.1, .int (a.2 : Int)]
open F in
noncomputable def pv (p : P) : PV := .lst (p.map qv)
open F in
noncomputable def rv (f : R) : PV := .tup [pv f.1, pv f.2]
noncomputable def zv (z : List Int) : PV := .lst (z.map .int)

section
open F
variable {W : Wd} {sc : Scope} {d : Nat} {σ σ₁ σ₂ σc : Vars} {M M₁ M₂ M₃ : Mem} {e : Expr}
theorem noMtL_map {α : Type} {f : α → PV} (h : ∀ x, noMt (f x) = true) : ∀ l : List α, noMtL (l.map f) = true
  | [] => rfl
  | x :: l => by
    simp only [List.map_cons, noMtL, Bool.and_eq_true]
    exact ⟨h x, noMtL_map h l⟩
theorem noMt_zv (z : List Int) : noMt (zv z) = true := by unfold zv; simp only [noMt]; exact noMtL_map (fun _ => rfl) z
theorem noMt_qv (a : Q) : noMt (qv a) = true := rfl
theorem noMt_pv (p : P) : noMt (pv p) = true := by unfold pv; simp only [noMt]; exact noMtL_map noMt_qv p
theorem noMt_rv (f : R) : noMt (rv f) = true := by unfold rv; simp [noMt, noMtL, noMt_pv]
theorem plainL_map {α : Type} {f : α → PV} {n : Nat} (h : ∀ x, plainN n (f x) = true) : ∀ l : List α, plainL n (l.map f) = true
  | [] => by simp [plainL]
  | x :: l => by
    simp only [List.map_cons, plainL, Bool.and_eq_true]
    exact ⟨h x, plainL_map h l⟩
theorem plain_pv (p : P) (n : Nat) : plainN (n + 2) (pv p) = true := by unfold pv; simp only [plainN]; exact plainL_map (fun a => by simp [qv, plainN, plainL]) p
theorem plain_qv (a : Q) (n : Nat) : plainN (n + 1) (qv a) = true := by simp [qv, plainN, plainL]
theorem plain_rv (f : R) (n : Nat) : plainN (n + 3) (rv f) = true := by simp [rv, plainN, plainL, plain_pv]

theorem pyGet_nat (l : List PV) (i : Nat) : pyGet l (i : Int) = l[i]? := by
  unfold pyGet
  rw [if_pos (by omega)]; rfl
theorem pyGet_last (l : List PV) : pyGet l (-1) = l.getLast? := by
  unfold pyGet
  rw [if_neg (by omega)]
  cases l with
  | nil => rfl
  | cons x r =>
    rw [if_pos (by simp only [List.length_cons]; omega), List.getLast?_eq_getElem?]
    congr 1
    simp only [List.length_cons]; omega
theorem getLast?_map' {α : Type} (f : α → PV) {l : List α} {x : α} (h : l.getLast? = some x) : (l.map f).getLast? = some (f x) := by
  rw [List.getLast?_map, h]; rfl
theorem get_last {α : Type} (f : α → PV) {l : List α} {x : α} (h : l.getLast? = some x) : pyGet (l.map f) (-1) = some (f x) := by
  rw [pyGet_last, getLast?_map' f h]
theorem get_nat {α : Type} (f : α → PV) {l : List α} {x : α} {i : Nat} (h : l[i]? = some x) : pyGet (l.map f) (i : Int) = some (f x) := by
  rw [pyGet_nat, List.getElem?_map, h]; rfl
theorem pySlice_to (l : List PV) {k : Nat} (h : k ≤ l.length) : pySlice l none (some (k : Int)) none = l.take k := by
  simp only [pySlice, Option.elim]
  rw [clipAt_nat, Nat.min_eq_left h]; rfl
theorem pySlice_1 (l : List PV) : pySlice l (some 1) none none = l.drop 1 := by
  simp only [pySlice, Option.elim]
  rw [show (1 : Int) = ((1 : Nat) : Int) from rfl, clipAt_nat]
  cases l with
  | nil => rfl
  | cons x r => simp
theorem pySlice_m1 (l : List PV) : pySlice l none (some (-1)) none = l.dropLast := by
  simp only [pySlice, Option.elim]
  rw [show (-1 : Int) = -((1 : Nat) : Int) from rfl, clipAt_neg _ _ (by omega), List.drop_zero, Nat.sub_zero, List.dropLast_eq_take]
theorem pySlice_rev (l : List PV) : pySlice l none none (some (-1)) = l.reverse := rfl

theorem Ev.bound {α : Type} {fr : Bool} {t : Env → Sem α} {R} {x : Str} {l : List PV} (hx : σ.lookup x = some (.lst l)) (h : l.length ≤ 1048576 → Ev W sc d σ M fr t R σ₁ M₁) : Ev W sc d σ M fr t R σ₁ M₁ := by
  refine ⟨fun A env s as Q E hA hE I post => ?_⟩
  obtain ⟨v, _, r⟩ := I.vars x _ hx
  obtain ⟨a, vs, n, _, _, _, _, hz⟩ := r
  exact (h hz).run A env s as Q E hA hE I post

theorem E_comp' {elt target iter : Expr} {ifs : List Expr} {scope : Scope} {pos : Pos} {items qs : List PV} (hi : EvI W sc d σ M target iter items M₁) (hc : CompOk scope sc) (hσ : SubV σc σ) (hσk : SeenC scope sc σc)
    (hs : ∀ x env, foldedSetIterable iter env x = pure x) (run : CompRun W (relab scope sc) d σc M₁ target ifs elt items qs) : EvE W sc d σ M (.ListComp elt [⟨target, iter, ifs, 0⟩] scope pos) (.lst qs) M₁ := E_comp hi hc hσ hσk run hs
theorem CompRun.mapO {target elt : Expr} {α β : Type} (inj : α → PV) (out : β → PV) (f : α → Option β) (hout : ∀ y, noMt (out y) = true)
    (h : ∀ a b, f a = some b → ∃ σ₁, SubV σ σ₁ ∧ ∀ acc, EvA W sc d true σ (M ++ [acc]) target (inj a) σ₁ (M ++ [acc]) ∧ EvE W sc d σ₁ (M ++ [acc]) elt (out b) (M ++ [acc])) :
    ∀ (l : List α) (r : List β), F.mapO f l = some r → CompRun W sc d σ M target [] elt (l.map inj) (r.map out)
  | [], r, e => by cases e; exact .nil
  | a :: l, r, e => by
    obtain ⟨b, hb, e⟩ := ob_some e
    obtain ⟨t, ht, e⟩ := ob_some e
    cases e
    obtain ⟨σ₁, hs, h'⟩ := h a b hb
    exact .keep σ₁ (fun acc => (h' acc).1) hs (fun acc => .inl ⟨rfl, rfl⟩) (fun acc => (h' acc).2) (hout b) (CompRun.mapO inj out f hout h l t ht)
theorem ForRun.rel {target : Expr} {body : List Stmt} {α β : Type} (inj : α → PV) (st : β → Vars) (mm : β → Mem) (S : β → α → β → Prop)
    (h : ∀ b a b', S b a b' → ∃ σ₁, EvA W sc d false (st b) (mm b) target (inj a) σ₁ (mm b) ∧ EvB W sc d σ₁ (mm b) body .nx (st b') (mm b')) :
    ∀ {l : List α} {b r : β}, Chain S b l r → ForRun W sc d target body (l.map inj) (st b) (mm b) .nx (st r) (mm r) := by
  intro l b r c
  induction c with
  | nil => exact .nil
  | cons h1 _ ih =>
    obtain ⟨σ₁, e1, e2⟩ := h _ _ _ h1
    exact .step e1 e2 ih
theorem mem_last (M : Mem) (l : List PV) : (M ++ [l])[M.length]? = some l := by simp
theorem mem_set (M : Mem) (l l' : List PV) : (M ++ [l]).set M.length l' = M ++ [l'] := by simp
theorem EvS.mem {st : Stmt} {f : Fl} (h : EvS W sc d σ M st f σ₁ M₁) (e : M₁ = M₂) : EvS W sc d σ M st f σ₁ M₂ := e ▸ h
theorem Ev.pre' {α : Type} {fr : Bool} {t : Env → Sem α} {R} (s : SubV σ₁ σ) (h : Ev W sc d σ₁ M fr t R σ₂ M₁) : Ev W sc d σ M fr t R σ₂ M₁ := Ev.pre h s
theorem EvB.fin {st : List Stmt} {f : Fl} (h : EvB W sc d σ M st f σ₁ M₁) : EvB W sc d σ M st f [] M₁ := Ev.post h trivial
theorem setV_sub {x : Str} {p : PV} : ∀ {τ σ : Vars}, SubV τ σ → τ.lookup x = none → SubV τ (setV x p σ)
  | [], _, _, _ => trivial
  | (y, q) :: r, σ, ⟨h, hr⟩, hx => by
    rw [List.lookup_cons] at hx
    cases hb : x == y with
    | true => rw [hb] at hx; cases hx
    | false =>
      rw [hb] at hx
      refine ⟨?_, setV_sub hr hx⟩
      rw [lookup_setV, if_neg (fun e => by rw [e] at hb; simp at hb)]
      exact h
end
end Mine
end
section
open PySem PySem.W PyProof.Rows PySem.Calls
set_option Elab.async false
set_option maxRecDepth 100000
set_option linter.unusedVariables false
set_option linter.unusedSimpArgs false
namespace Mine
section
variable {W : Wd} {sc : Scope} {d : Nat} {σ : Vars} {M : Mem}
theorem ints_rep {h : Heap} {as : List Addr} : ∀ {vs : List Value} {ns : List Int}, IntsAre vs ns → RepL h as (ns.map .int) vs
  | _, _, .nil => rfl
  | _, _, .cons n t r => ⟨_, _, rfl, ⟨t, rfl⟩, ints_rep r⟩
theorem E_sliceI {M₁ M₂ M₃ M₄ : Mem} {value : Expr} {lower upper step : Option Expr} {ps pos : Pos} {ns : List Int} {lo hi st : Option Int} (h1 : EvE W sc d σ M value (.ils ns) M₁) (h2 : EvPart W sc d σ M₁ lower lo M₂) (h3 : EvPart W sc d σ M₂ upper hi M₃) (h4 : EvPart W sc d σ M₃ step st M₄)
    (hn : ns.length ≤ 1000) (hst : st = none ∨ (lo = none ∧ hi = none ∧ st = some (-1))) : EvE W sc d σ M (.Subscript value (.Slice lower upper step ps) pos) (.lst (pySlice (ns.map .int) lo hi st)) M₄ := by
  refine ⟨fun A env s as Q E hA hE I post => ?_⟩
  refine Subscript_ (h1.run A env s as _ E hA hE I fun v h' tk as' I' S rr => ?_)
  refine wpAny_Slice (h2.wp hA hE I' fun v2 h2' tk2 as2 p2 I2 S2 => h3.wp hA hE I2 fun v3 h3' tk3 as3 p3 I3 S3 => h4.wp hA hE I3 fun v4 h4' tk4 as4 p4 I4 S4 => ?_)
  have k1 := push_keeps h4' { cls := .type "slice", data := .fields #[v2, v3, v4] }
  have T1 : Step [] as4 h4' as4 (h4'.push { cls := .type "slice", data := .fields #[v2, v3, v4] }) := Step.of_keeps k1
  have I5 := I4.grow k1
  have r5 := (((rr.mono S2 (NoSeq.nil _)).mono S3 (NoSeq.nil _)).mono S4 (NoSeq.nil _)).mono T1 (NoSeq.nil _)
  obtain ⟨a, vs, rfl, _, hL, hia⟩ := r5
  have rl : RepL (h4'.push { cls := .type "slice", data := .fields #[v2, v3, v4] }) as4 (ns.map .int) vs := ints_rep hia
  have hlen := rl.length
  rw [List.length_map] at hlen
  have hne : st ≠ some 0 := by rcases hst with rfl | ⟨_, _, rfl⟩ <;> simp
  have hsl : Heap.IsSliceOf (h4'.push { cls := .type "slice", data := .fields #[v2, v3, v4] }) h4'.objs.size v2 v3 v4 := Heap.IsSliceOf.new _ _ _ _
  have hg := wpAny_getItem_list_slice (prog := W.prog) (w := W.w) (A := A) (E := E) (s := { s with heap := h4'.push { cls := .type "slice", data := .fields #[v2, v3, v4] }, toks := tk4 }) (Q := Q) hL hsl p2 p3 p4 hne ?_ (by simp; rw [sizeLine_eq]; omega)
  · refine tail_any (ops := match step with | .none => [.ref h4'.objs.size, .ref a] | .some _ => [.ref a, .ref h4'.objs.size]) hL.typeIs slot_list_getitem.lookup hg ?_
    cases step <;> rfl
  · have k2 := push_keeps (h4'.push { cls := .type "slice", data := .fields #[v2, v3, v4] }) { cls := .type "list", data := .seq (slicePick vs.toArray lo hi st) }
    have T2 : Step [] as4 (h4'.push { cls := .type "slice", data := .fields #[v2, v3, v4] }) as4 ((h4'.push { cls := .type "slice", data := .fields #[v2, v3, v4] }).push { cls := .type "list", data := .seq (slicePick vs.toArray lo hi st) }) := Step.of_keeps k2
    refine post _ _ tk4 as4 (I5.grow k2) (((((S.trans S2).trans S3).trans S4).trans T1).trans T2) ⟨_, (slicePick vs.toArray lo hi st).toList, 0, rfl, fresh_notin I5, ?_, ?_, ?_⟩
    · simpa using push_get (h := h4'.push { cls := .type "slice", data := .fields #[v2, v3, v4] }) (o := { cls := .type "list", data := .seq (slicePick vs.toArray lo hi st) })
    · exact (slice_rep rl lo hi st hst).mono T2 (NoSeq.nil _)
    · have := pySlice_length (ns.map .int) lo hi st
      rw [List.length_map] at this; omega

end
end Mine
end
section
open PySem PySem.W PyProof.Rows PySem.Calls
set_option Elab.async false
set_option maxRecDepth 100000
set_option linter.unusedVariables false
set_option linter.unusedSimpArgs false
namespace Mine
section
variable {W : Wd} {sc : Scope} {d : Nat} {σ : Vars} {M : Mem}
-- the same rules with nothing left to a default: they are tried in a narrow unfolding
theorem E_var' {x : Str} {p : PV} {pos : Pos} (hx : σ.lookup x = some p) (hd : (x == ("__debug__" : Str)) = false) (hc : (x == ("__classdict__" : Str)) = false) : EvE W sc d σ M (.Name x pos) p M := E_var hx hd hc
theorem E_glob' {x : Str} {p : PV} {pos : Pos} (O : W.Ok) (hx : gconsts.lookup x = some p) (hk : sc.names.lookup x = some .globalImplicit) (hd : (x == ("__debug__" : Str)) = false) : EvE W sc d σ M (.Name x pos) p M := E_glob O hx hk hd
end
end Mine
end
section
open PySem PySem.W PyProof.Rows PySem.Calls
set_option Elab.async false
set_option maxRecDepth 100000
set_option linter.unusedVariables false
set_option linter.unusedSimpArgs false
namespace Mine

local macro_rules | `(tactic| walk_at "bind") => `(tactic| first
  | (intro vals pm code doc h; match vals, h with | [_], _ => rfl)
  | (intro vals pm code doc h; match vals, h with | [_, _], _ => rfl)
  | (intro vals pm code doc h; match vals, h with | [_, _, _], _ => rfl)
  | (intro vals pm code doc h; match vals, h with | [_, _, _, _], _ => rfl))
local macro_rules | `(tactic| walk_at "env") => `(tactic| first | (refine env_all ?_; intro _ _ _ _ _ _ _ _; rfl) | (intro _ _; rfl))
local macro_rules | `(tactic| walk_at "get") => `(tactic| first | rfl | assumption)
local macro_rules | `(tactic| walk_at "small") => `(tactic| first | exact Nat.le_of_ble_eq_true rfl | assumption | omega)
local macro_rules | `(tactic| walk_at "ev") => `(tactic| first
  | with_reducible exact E_int
  | ((with_reducible apply E_var'); (· rfl); (· rfl); (· rfl))
  | with_reducible exact E_none
  | with_reducible exact E_bool
  | ((with_reducible apply E_glob' (by assumption)); (· rfl); (· rfl); (· rfl))
  | ((with_reducible apply E_add) <;> walk_at "ev")
  | ((with_reducible apply E_sub) <;> walk_at "ev")
  | ((with_reducible apply E_neg) <;> walk_at "ev")
  | ((with_reducible apply E_abs' (by assumption)); (· walk_at "ev"); (· rfl); (· intro _; rfl))
  | ((with_reducible apply E_len' (by assumption)); (· walk_at "ev"); (· walk_at "get"); (· rfl); (· intro _; rfl))
  | ((with_reducible apply E_toList' (by assumption)); (· walk_at "ev"); (· walk_at "get"); (· rfl); (· intro _; rfl))
  | ((with_reducible apply E_max' (by assumption)); (· walk_at "ev"); (· walk_at "ev"); (· rfl); (· intro _; rfl); (· intro _; rfl))
  | ((with_reducible apply E_tuple'); (· walk_at "evl"); (· walk_at "small"))
  | ((with_reducible apply E_list'); (· walk_at "evl"); (· walk_at "small"))
  | ((with_reducible apply E_slice'); (· walk_at "ev"); (· walk_at "part"); (· walk_at "part"); (· walk_at "part"); (· walk_at "get"); (· first | exact .inl rfl | exact .inr ⟨rfl, rfl, rfl⟩))
  | ((with_reducible apply E_idx'); (· walk_at "ev"); (· walk_at "ev"); (· walk_at "get"); (· walk_at "get"); (· intro _ _; rfl))
  | ((with_reducible apply E_callR (by assumption)); (· walk_at "evl"); (· walk_at "callee"); (· rfl); (· rfl); (· intro _; rfl))
  | ((with_reducible apply E_mul); (· walk_at "ev"); (· walk_at "ev"); (· walk_at "mulok"))
  | ((with_reducible apply E_fdiv); (· walk_at "ev"); (· walk_at "ev"); (· walk_at "divok"); (· walk_at "divok2"))
  | ((with_reducible apply E_pow); (· walk_at "ev"); (· walk_at "ev"); (· first | assumption | omega); (· first | assumption | omega))
  | ((with_reducible apply E_fmod); (· walk_at "ev"); (· walk_at "ev"); (· walk_at "divok"))
  | assumption
  | exact E_int
  | exact E_var rfl
  | (apply E_tuple'; (· walk_at "evl"); (· walk_at "small"))
  | (apply E_list'; (· walk_at "evl"); (· walk_at "small")))
local macro_rules | `(tactic| walk_at "evl") => `(tactic| first
  | with_reducible exact L_nil
  | ((with_reducible apply L_cons'); (· walk_at "ev"); (· walk_at "evl"); (· intro _; rfl))
  | exact L_nil
  | (apply L_cons'; (· walk_at "ev"); (· walk_at "evl"); (· intro _; rfl)))
local macro_rules | `(tactic| walk_at "part") => `(tactic| first
  | exact EvPart.none
  | (apply EvPart.some; (· walk_at "ev")))
local macro_rules | `(tactic| walk_at "callee") => `(tactic| assumption)
local macro_rules | `(tactic| walk_at "divok") => `(tactic| first | assumption | decide | omega)
local macro_rules | `(tactic| walk_at "divok2") => `(tactic| first | assumption | decide | omega)
local macro_rules | `(tactic| walk_at "mulok") => `(tactic| first | assumption | decide)
local macro_rules | `(tactic| walk_at "evt") => `(tactic| first
  | (apply T_cmpI'; (· walk_at "ev"); (· walk_at "ev"); (· rfl); (· with_unfolding_all rfl)))
local macro_rules | `(tactic| walk_at "sub") => `(tactic| first | trivial | exact ⟨rfl, trivial⟩ | exact ⟨rfl, rfl, trivial⟩ | exact ⟨rfl, rfl, rfl, trivial⟩ | exact ⟨rfl, rfl, rfl, rfl, trivial⟩ | exact ⟨rfl, rfl, rfl, rfl, rfl, trivial⟩ | exact ⟨rfl, rfl, rfl, rfl, rfl, rfl, trivial⟩)
local macro_rules | `(tactic| walk_at "body") => `(tactic| (conv => pattern Fn.body (fnAt _); whnf))
local macro_rules | `(tactic| walk_at "loc") => `(tactic| first | exact .inl rfl | exact .inr rfl)
local macro_rules | `(tactic| walk_at "ass") => `(tactic| (apply B_assign; (· walk_at "ev"); (· walk_at "loc"); (· walk_at "env")))
local macro_rules | `(tactic| walk_at "ret") => `(tactic| (apply B_retE; walk_at "ev"))
local macro_rules | `(tactic| walk_at "seen") => `(tactic| first | trivial | exact ⟨⟨rfl, rfl, rfl⟩, trivial⟩ | exact ⟨⟨rfl, rfl, rfl⟩, ⟨rfl, rfl, rfl⟩, trivial⟩ | exact ⟨⟨rfl, rfl, rfl⟩, ⟨rfl, rfl, rfl⟩, ⟨rfl, rfl, rfl⟩, trivial⟩)
local macro_rules | `(tactic| walk_at "compok") => `(tactic| exact ⟨rfl, by decide, by decide, by decide⟩)
local macro_rules | `(tactic| walk_at "swap2") => `(tactic| ((· walk_at "ev"); (· walk_at "env"); (· rfl); (· decide); (· walk_at "env")))
section
open F
variable {W : Wd} {d : Nat} {M : Mem}
theorem fn_gcd {W : Wd} (G : Good W) {d : Nat} (hd : 1 ≤ d) {M : Mem} (a b : Int) : CallR W d "gcd" [.int a, .int b] M (.int (Nat.gcd a.natAbs b.natAbs)) M := by
  have O := G.ok
  refine callS G 3 _ rfl (by decide) ["a", "b"] (by walk_at "bind") rfl (by decide) (by decide) (by decide) rfl rfl rfl hd rfl ?_
  conv => 
    pattern (fnAt 3).body
    whnf
  refine ⟨[("a", .int (Nat.gcd a.natAbs b.natAbs)), ("b", .int 0)], ?_⟩
  apply B_cons
  · apply S_swap (names := ["a", "b"])
    · walk_at "ev"
    · walk_at "env"
    · rfl
    · decide
    · walk_at "env"
  refine Ev.pre (σ₁ := [("a", .int a.natAbs), ("b", .int b.natAbs)]) ?_ ⟨?_, ?_, trivial⟩
  rotate_left
  · show some (PV.int _) = _; congr 2; split <;> omega
  · show some (PV.int _) = _; congr 2; split <;> omega
  generalize a.natAbs = x
  generalize b.natAbs = y
  apply B_cons (σ₁ := [("a", .int (Nat.gcd x y)), ("b", .int 0)]) (M₁ := M)
  · apply S_whileX
    induction y using Nat.strongRecOn generalizing x with
    | ind y ih =>
      by_cases hy : y = 0
      · subst hy
        rw [Nat.gcd_zero_right]
        apply WhileRun.some_done
        walk_at "evt"
      · have e : Nat.gcd x y = Nat.gcd y (x % y) := by rw [Nat.gcd_comm x y, Nat.gcd_rec y x, Nat.gcd_comm]
        rw [e]
        apply WhileRun.some_step _ _ (ih (x % y) (Nat.mod_lt _ (by omega)) y)
        · exact M
        · apply EvT.to
          · walk_at "evt"
          · simp; omega
        · apply EvB.sub
          · apply B_cons
            · apply S_swap (names := ["a", "b"])
              · walk_at "ev"
              · walk_at "env"
              · rfl
              · decide
              · walk_at "env"
            · exact B_nil
          · refine ⟨rfl, ?_, trivial⟩
            show some (PV.int _) = _
            congr 2
            exact Int.fmod_eq_emod_of_nonneg _ (by omega)
  · apply B_ret; apply S_ret; walk_at "ev"
theorem log_of_big {n : Nat} (h : n < big) : n.log2 < 9000 := by
  rcases Nat.eq_zero_or_pos n with h0 | hp
  · subst h0; decide
  · refine (Nat.log2_lt (Nat.ne_of_gt hp)).mpr (Nat.lt_of_lt_of_le h ?_)
    exact Nat.le_of_ble_eq_true (by decide +kernel)
theorem bits_big {k : Int} (h : k.natAbs < big) : Builtin.Int.intBits k ≤ 2 ^ 20 := by
  unfold Builtin.Int.intBits
  split
  · exact Nat.zero_le _
  · have := log_of_big h
    omega
theorem mul_ok {a b : Int} (ha : a.natAbs < big) (hb : b.natAbs < big) : IntMulOk a b := .of_bits (bits_big ha) (bits_big hb)
theorem fn_gcd_all {W : Wd} (G : Good W) {d : Nat} (hd : 2 ≤ d) {M : Mem} (ns : List Int) : CallR W d "gcd_all" [zv ns] M (.int (gcdAll ns : Nat)) M := by
  have O := G.ok
  refine callS G 4 _ rfl (by decide) ["numbers"] (by walk_at "bind") rfl (by decide) (by decide) (by decide) rfl rfl rfl (by omega) rfl ?_
  walk_at "body"
  apply Exists.intro
  walk_at "ass"
  apply B_for
  · apply I_list; walk_at "ev"
  · intro _ _; rfl
  · refine ForRun.fold (W := W) (α := Int) (β := Nat) .int (fun g => [("numbers", zv ns), ("found", .int g)]) (fun _ => M) (fun g n => some (Nat.gcd g n.natAbs)) ?_ ns 0 _ (foldO_pure _ _ _)
    intro g n g' e
    cases e
    have c1 := fn_gcd G (d := d - 1) (by omega) (M := M) g n
    refine ⟨_, A_name (.inl rfl), ?_⟩
    apply EvB.sub
    · walk_at "ass"
      exact B_nil
    · walk_at "sub"
  · walk_at "ret"
theorem fn_rat {W : Wd} (G : Good W) {d : Nat} (hd : 2 ≤ d) {M : Mem} {t b : Int} {r : Q} (hr : IsRat t b r) (hb : b.natAbs < big) : CallR W d "rat" [.int t, .int b] M (qv r) M := by
  have O := G.ok
  have c1 := fn_gcd G (d := d - 1) (by omega) (M := M) t b
  refine callS G 8 _ rfl (by decide) ["top", "bottom"] (by walk_at "bind") rfl (by decide) (by decide) (by decide) rfl rfl rfl (by omega) rfl ?_
  walk_at "body"
  apply Exists.intro
  apply B_ifF
  · apply EvT.to
    · walk_at "evt"
    · simp [hr.ne]
  apply B_assign (p := .int (gOf t b))
  · apply E_ite
    · walk_at "evt"
    · intro h
      have h : b > 0 := by simpa using h
      apply EvE.to
      · walk_at "ev"
      · unfold gOf; rw [if_pos h]
    · intro h
      have h : ¬ b > 0 := by simpa using h
      apply EvE.to
      · walk_at "ev"
      · unfold gOf; rw [if_neg h]
  · walk_at "loc"
  · walk_at "env"
  have h0 := hr.g0
  have h1 := log_of_big (Nat.lt_of_le_of_lt hr.size hb)
  apply EvB.rt
  · walk_at "ret"
  · unfold qv; rw [hr.top, hr.bot]
theorem F.Sm.top' {a : Q} (h : Sm a) : a.1.natAbs < big := le_big h.top
theorem F.Sm.bot' {a : Q} (h : Sm a) : ((a.2 : Int)).natAbs < big := le_big h.bot
theorem fn_radd {W : Wd} (G : Good W) {d : Nat} (hd : 3 ≤ d) {M : Mem} {a b r : Q} (h : radd a b = some r) : CallR W d "radd" [qv a, qv b] M (qv r) M := by
  have O := G.ok
  obtain ⟨ha, hb, hr⟩ := radd_is h
  have c1 := fn_rat G (d := d - 1) (by omega) (M := M) hr (by rw [Int.natAbs_mul]; exact mul_big ha.bot hb.bot)
  have m1 := mul_ok ha.top' hb.bot'
  have m2 := mul_ok hb.top' ha.bot'
  have m3 := mul_ok ha.bot' hb.bot'
  refine callS G 9 _ rfl (by decide) ["a", "b"] (by walk_at "bind") rfl (by decide) (by decide) (by decide) rfl rfl rfl (by omega) rfl ?_
  walk_at "body"
  apply Exists.intro
  walk_at "ret"
theorem fn_rmul {W : Wd} (G : Good W) {d : Nat} (hd : 3 ≤ d) {M : Mem} {a b r : Q} (h : rmul a b = some r) : CallR W d "rmul" [qv a, qv b] M (qv r) M := by
  have O := G.ok
  obtain ⟨ha, hb, hr⟩ := rmul_is h
  have c1 := fn_rat G (d := d - 1) (by omega) (M := M) hr (by rw [Int.natAbs_mul]; exact mul_big ha.bot hb.bot)
  have m1 := mul_ok ha.top' hb.top'
  have m3 := mul_ok ha.bot' hb.bot'
  refine callS G 10 _ rfl (by decide) ["a", "b"] (by walk_at "bind") rfl (by decide) (by decide) (by decide) rfl rfl rfl (by omega) rfl ?_
  walk_at "body"
  apply Exists.intro
  walk_at "ret"
theorem fn_rdiv {W : Wd} (G : Good W) {d : Nat} (hd : 3 ≤ d) {M : Mem} {a b r : Q} (h : rdiv a b = some r) : CallR W d "rdiv" [qv a, qv b] M (qv r) M := by
  have O := G.ok
  obtain ⟨ha, hb, hr⟩ := rdiv_is h
  have c1 := fn_rat G (d := d - 1) (by omega) (M := M) hr (by rw [Int.natAbs_mul]; exact mul_big ha.bot hb.top)
  have m1 := mul_ok ha.top' hb.bot'
  have m3 := mul_ok ha.bot' hb.top'
  refine callS G 11 _ rfl (by decide) ["a", "b"] (by walk_at "bind") rfl (by decide) (by decide) (by decide) rfl rfl rfl (by omega) rfl ?_
  walk_at "body"
  apply Exists.intro
  walk_at "ret"
theorem fn_rneg {W : Wd} (G : Good W) {d : Nat} (hd : 3 ≤ d) {M : Mem} (a : Q) : CallR W d "rneg" [qv a] M (qv (rneg a)) M := by
  have O := G.ok
  refine callS G 12 _ rfl (by decide) ["a"] (by walk_at "bind") rfl (by decide) (by decide) (by decide) rfl rfl rfl (by omega) rfl ?_
  walk_at "body"
  apply Exists.intro
  apply EvB.rt
  · walk_at "ret"
  · rw [rneg_is]; rfl
theorem fn_rinv {W : Wd} (G : Good W) {d : Nat} (hd : 3 ≤ d) {M : Mem} {a r : Q} (h : rinv a = some r) : CallR W d "rinv" [qv a] M (qv r) M := by
  have O := G.ok
  obtain ⟨ha, hr⟩ := rinv_is h
  have c1 := fn_rat G (d := d - 1) (by omega) (M := M) hr ha.top'
  refine callS G 13 _ rfl (by decide) ["a"] (by walk_at "bind") rfl (by decide) (by decide) (by decide) rfl rfl rfl (by omega) rfl ?_
  walk_at "body"
  apply Exists.intro
  walk_at "ret"
end
section
open F
variable {W : Wd} {d : Nat} {M : Mem}
theorem get_nat1 {α : Type} (f : α → PV) {l : List α} {x : α} {s : Nat} (hs : 0 < s) (h : l[s - 1]? = some x) : pyGet (l.map f) ((s : Int) - 1) = some (f x) := by
  rw [show (s : Int) - 1 = ((s - 1 : Nat) : Int) by omega]; exact get_nat f h
theorem fn_ztrimP {W : Wd} (G : Good W) {d : Nat} (hd : 1 ≤ d) {M : Mem} {pr : PV} {l : List Int} (hp1 : listOfP M pr = some (l.map .int)) (hp2 : itemsOf M pr = some (l.map .int)) : CallR W d "ztrim" [pr] M (zv (ztrim l)) M := by
  have O := G.ok
  obtain ⟨h1, h2, h3, h4⟩ := trim_spec (fun x => intB x 0) l
  refine callS G 15 _ rfl (by decide) ["row"] (by walk_at "bind") rfl (by decide) (by decide) (by decide) rfl rfl rfl (by omega) (noMt_zv _) ?_
  walk_at "body"
  apply Exists.intro
  walk_at "ass"
  apply B_while (σ₁ := [("row", pr), ("size", .int ((ztrim l).length : Nat))]) (M₁ := M)
  · show ∃ n, WhileRun W (fnAt 15).scope (d - 1) _ _ n [("row", pr), ("size", .int (((l.map PV.int).length : Nat) : Int))] M _ _ _
    rw [List.length_map]
    show ∃ n, WhileRun W (fnAt 15).scope (d - 1) _ _ n [("row", pr), ("size", .int ((l.length : Nat) : Int))] M _ [("row", pr), ("size", .int ((trim (fun x => intB x 0) l).length : Nat))] M
    generalize (trim (fun x => intB x 0) l).length = k at h1 h2 h3 h4
    have hsz := Nat.le_refl l.length
    generalize hsd : l.length = sz at hsz
    rw [hsd] at h1 h3
    have hkn : k ≤ sz := h1
    clear h1 hsd
    induction hn : sz - k generalizing sz with
    | zero =>
      have : sz = k := by omega
      subst this
      apply WhileRun.some_done
      by_cases h0 : sz = 0
      · subst h0
        apply T_and_f
        walk_at "evt"
      · apply T_and_t
        · apply EvT.to
          · walk_at "evt"
          · simp; omega
        · apply T_and_f
          obtain ⟨x, hx, hz⟩ := h4 (by omega)
          have hg := get_nat1 PV.int (by omega) hx
          apply EvT.to
          · walk_at "evt"
          · have := (not_congr (intB_eq x 0)).mp (by simp [hz]); simpa using this
    | succ n ih =>
      obtain ⟨x, hx, hz⟩ := h3 (sz - 1) (by omega) (by omega)
      have hg := get_nat1 PV.int (by omega) hx
      apply WhileRun.some_step (σ₂ := [("row", pr), ("size", .int ((sz - 1 : Nat) : Int))]) (M₁ := M) (M₂ := M)
      · apply T_and_t
        · apply EvT.to
          · walk_at "evt"
          · simp; omega
        · apply T_and_t
          · apply EvT.to
            · walk_at "evt"
            · have := (intB_eq x 0).mp hz; simpa using this
          · exact T_and_nil
      · apply EvB.sub
        · apply B_cons
          · apply S_augI (c := ((sz - 1 : Nat) : Int)) (a := (sz : Int)) (b := 1)
            · rfl
            · walk_at "ev"
            · right; refine ⟨rfl, ?_⟩; omega
          · exact B_nil
        · walk_at "sub"
      · refine ih (sz - 1) ?_ ?_ ?_ ?_
        all_goals first | omega | exact fun i hi hlt => h3 i hi (by omega)
  · have hs := pySlice_to (l.map PV.int) (k := (ztrim l).length) (by rw [List.length_map]; exact h1)
    apply EvB.rt
    · walk_at "ret"
    · rw [hs, ← List.map_take]
      show PV.lst _ = PV.lst _
      congr 2
      exact h2.symm

theorem fn_ztrim {W : Wd} (G : Good W) {d : Nat} (hd : 1 ≤ d) {M : Mem} (l : List Int) : CallR W d "ztrim" [zv l] M (zv (ztrim l)) M := fn_ztrimP G hd rfl rfl
theorem fn_zdegree {W : Wd} (G : Good W) {d : Nat} (hd : 1 ≤ d) {M : Mem} (l : List Int) : CallR W d "zdegree" [zv l] M (.int ((l.length : Int) - 1)) M := by
  have O := G.ok
  refine callS G 16 _ rfl (by decide) ["p"] (by walk_at "bind") rfl (by decide) (by decide) (by decide) rfl rfl rfl (by omega) rfl ?_
  walk_at "body"
  apply Exists.intro
  apply EvB.rt
  · walk_at "ret"
  · rw [List.length_map]
theorem fn_zlead {W : Wd} (G : Good W) {d : Nat} (hd : 1 ≤ d) {M : Mem} {l : List Int} {x : Int} (hx : l.getLast? = some x) : CallR W d "zlead" [zv l] M (.int x) M := by
  have O := G.ok
  have hg := get_last PV.int hx
  refine callS G 17 _ rfl (by decide) ["p"] (by walk_at "bind") rfl (by decide) (by decide) (by decide) rfl rfl rfl (by omega) rfl ?_
  walk_at "body"
  apply Exists.intro
  apply B_retE
  apply E_ite_t
  · apply EvT.to
    · walk_at "evt"
    · cases l with
      | nil => cases hx
      | cons y r => simp <;> omega
  · walk_at "ev"
theorem fn_zneg {W : Wd} (G : Good W) {d : Nat} (hd : 1 ≤ d) {M : Mem} (l : List Int) : CallR W d "zneg" [zv l] M (zv (zneg l)) M := by
  have O := G.ok
  refine callS G 19 _ rfl (by decide) ["p"] (by walk_at "bind") rfl (by decide) (by decide) (by decide) rfl rfl rfl (by omega) (noMt_zv _) ?_
  walk_at "body"
  apply Exists.intro
  apply B_retE
  apply E_comp' (σc := [])
  · apply I_list; walk_at "ev"
  · exact ⟨rfl, by decide, by decide, by decide⟩
  · walk_at "sub"
  · trivial
  · intro _ _; rfl
  · refine CompRun.mapO PV.int PV.int (fun x : Int => some (-x)) (fun _ => rfl) ?_ l (zneg l) (mapO_pure _ l)
    rintro a b ⟨⟩
    refine ⟨_, trivial, fun acc => ⟨A_nameL rfl, ?_⟩⟩
    walk_at "ev"
theorem get_at {α : Type} (f : α → PV) {l : List α} {i : Nat} (z : α) (h : i < l.length) : pyGet (l.map f) (0 + (i : Int) * 1) = some (f (l.getD i z)) := by
  rw [show 0 + (i : Int) * 1 = (i : Int) by omega, pyGet_nat, List.getElem?_map]
  simp [h, List.getD]
theorem getD_out {α : Type} (l : List α) {i : Nat} (z : α) (h : l.length ≤ i) : l.getD i z = z := by
  simp [List.getD, h]
theorem fn_zadd {W : Wd} (G : Good W) {d : Nat} (hd : 2 ≤ d) {M : Mem} {a b r : List Int} (h : zadd a b = some r) : CallR W d "zadd" [zv a, zv b] M (zv r) M := by
  have O := G.ok
  obtain ⟨t, ht, h⟩ := ob_some h
  cases h
  rw [zipLong_range] at ht
  refine callS G 18 _ rfl (by decide) ["a", "b"] (by walk_at "bind") rfl (by decide) (by decide) (by decide) rfl rfl rfl (by omega) (noMt_zv _) ?_
  walk_at "body"
  refine ⟨[], ?_⟩
  refine Ev.bound (x := "a") (l := a.map .int) rfl fun ha => ?_
  refine Ev.bound (x := "b") (l := b.map .int) rfl fun hb => ?_
  rw [List.length_map] at ha hb
  have c1 := fn_ztrim G (d := d - 1) (by omega) (M := M) t
  apply EvB.sub (σ₂ := [])
  · apply B_assign (p := .int ((max a.length b.length : Nat) : Int))
    · apply EvE.to
      · walk_at "ev"
      · simp only [List.length_map]; congr 1; split <;> omega
    · walk_at "loc"
    · walk_at "env"
    apply B_retE
    apply E_callR (by assumption)
    · apply L_cons'
      · apply E_comp' (σc := [("a", zv a), ("b", zv b)]) (qs := t.map .int)
        · apply I_range1 (by assumption)
          · walk_at "ev"
          · omega
          · omega
        · walk_at "compok"
        · walk_at "sub"
        · walk_at "seen"
        · intro _ _; rfl
        · refine CompRun.mapO (fun i : Nat => PV.int (0 + (i : Int) * 1)) PV.int (fun i => some (a.getD i 0 + b.getD i 0)) (fun _ => rfl) ?_ (List.range (max a.length b.length)) t ht
          rintro i c ⟨⟩
          refine ⟨_, setV_sub (by walk_at "sub") rfl, fun acc => ⟨A_nameL rfl, ?_⟩⟩
          apply E_add
          · apply E_ite
            · walk_at "evt"
            · intro hlt
              have hg := get_at PV.int (l := a) (i := i) 0 (by simpa using hlt)
              walk_at "ev"
            · intro hlt
              apply EvE.to
              · walk_at "ev"
              · rw [getD_out a 0 (by simpa using hlt)]
          · apply E_ite
            · walk_at "evt"
            · intro hlt
              have hg := get_at PV.int (l := b) (i := i) 0 (by simpa using hlt)
              walk_at "ev"
            · intro hlt
              apply EvE.to
              · walk_at "ev"
              · rw [getD_out b 0 (by simpa using hlt)]
      · exact L_nil
      · intro _; rfl
    · walk_at "callee"
    · rfl
    · rfl
    · intro _; rfl
  · trivial
end
section
open F
variable {W : Wd} {d : Nat} {M : Mem}
theorem fn_zsub {W : Wd} (G : Good W) {d : Nat} (hd : 3 ≤ d) {M : Mem} {a b r : List Int} (h : zsub a b = some r) : CallR W d "zsub" [zv a, zv b] M (zv r) M := by
  have O := G.ok
  have c1 := fn_zneg G (d := d - 1) (by omega) (M := M) b
  have c2 := fn_zadd G (d := d - 1) (by omega) (M := M) h
  refine callS G 20 _ rfl (by decide) ["a", "b"] (by walk_at "bind") rfl (by decide) (by decide) (by decide) rfl rfl rfl (by omega) (noMt_zv _) ?_
  walk_at "body"
  apply Exists.intro
  walk_at "ret"
theorem fn_zscale {W : Wd} (G : Good W) {d : Nat} (hd : 1 ≤ d) {M : Mem} {p r : List Int} {k : Int} (h : zscale p k = some r) : CallR W d "zscale" [zv p, .int k] M (zv r) M := by
  have O := G.ok
  refine callS G 21 _ rfl (by decide) ["p", "k"] (by walk_at "bind") rfl (by decide) (by decide) (by decide) rfl rfl rfl (by omega) (noMt_zv _) ?_
  walk_at "body"
  apply Exists.intro
  apply B_retE
  unfold zscale at h
  cases hk : intB k 0 with
  | true =>
    rw [hk] at h; cases h
    apply E_ite_f
    · apply EvT.to
      · walk_at "evt"
      · simpa using (intB_eq k 0).mp hk
    · walk_at "ev"
  | false =>
    rw [hk] at h
    obtain ⟨h1, h⟩ := gd_some h
    apply E_ite_t
    · apply EvT.to
      · walk_at "evt"
      · have := (not_congr (intB_eq k 0)).mp (by simp [hk]); simpa using this
    · apply E_comp' (σc := [("k", .int k)])
      · apply I_list; walk_at "ev"
      · walk_at "compok"
      · walk_at "sub"
      · walk_at "seen"
      · intro _ _; rfl
      · refine CompRun.mapO PV.int PV.int (fun x : Int => gd (okI x) (some (x * k))) (fun _ => rfl) ?_ p r h
        intro a b e
        obtain ⟨h2, e⟩ := gd_some e
        cases e
        have m1 := mul_ok (okI_big h2) (okI_big h1)
        refine ⟨_, setV_sub (by walk_at "sub") rfl, fun acc => ⟨A_nameL rfl, ?_⟩⟩
        walk_at "ev"
theorem fn_zraise {W : Wd} (G : Good W) {d : Nat} (hd : 1 ≤ d) {M : Mem} {p r : List Int} {many : Nat} (h : zraise p many = some r) : CallR W d "zraise" [zv p, .int many] M (zv r) M := by
  have O := G.ok
  refine callS G 22 _ rfl (by decide) ["p", "many"] (by walk_at "bind") rfl (by decide) (by decide) (by decide) rfl rfl rfl (by omega) (noMt_zv _) ?_
  walk_at "body"
  apply Exists.intro
  apply B_retE
  unfold zraise at h
  split at h
  · cases h
    apply E_ite_f
    · apply EvT.to
      · walk_at "evt"
      · rfl
    · walk_at "ev"
  · rename_i x l
    obtain ⟨h1, h⟩ := gd_some h
    obtain ⟨h2, h⟩ := gd_some h
    have h1 := Nat.le_of_ble_eq_true h1
    have h2 := Nat.le_of_ble_eq_true h2
    cases h
    apply E_ite_t
    · apply EvT.to
      · walk_at "evt"
      · simp <;> omega
    · apply EvE.to
      · apply E_cat
        · apply E_rep
          · walk_at "ev"
          · walk_at "ev"
          · omega
          · omega
        · walk_at "ev"
        · rfl
        · rfl
        · simp at h2 ⊢; omega
      · unfold zv; simp [List.map_replicate]
theorem fn_zcontent {W : Wd} (G : Good W) {d : Nat} (hd : 3 ≤ d) {M : Mem} (p : List Int) : CallR W d "zcontent" [zv p] M (.int (gcdAll p : Nat)) M := by
  have O := G.ok
  have c1 := fn_gcd_all G (d := d - 1) (by omega) (M := M) p
  refine callS G 23 _ rfl (by decide) ["p"] (by walk_at "bind") rfl (by decide) (by decide) (by decide) rfl rfl rfl (by omega) rfl ?_
  walk_at "body"
  apply Exists.intro
  walk_at "ret"
theorem fn_zdivided {W : Wd} (G : Good W) {d : Nat} (hd : 1 ≤ d) {M : Mem} {p r : List Int} {k : Int} (h : zdivided p k = some r) : CallR W d "zdivided" [zv p, .int k] M (zv r) M := by
  have O := G.ok
  refine callS G 24 _ rfl (by decide) ["p", "k"] (by walk_at "bind") rfl (by decide) (by decide) (by decide) rfl rfl rfl (by omega) (noMt_zv _) ?_
  walk_at "body"
  apply Exists.intro
  apply B_retE
  unfold zdivided at h
  cases hk : intB k 0 with
  | true => rw [hk] at h; cases h
  | false =>
    rw [hk] at h
    obtain ⟨h1, h⟩ := gd_some h
    have hne : k ≠ 0 := (not_congr (intB_eq k 0)).mp (by simp [hk])
    have hlog := log_of_big (okI_big h1)
    cases h
    apply E_comp' (σc := [("k", .int k)])
    · apply I_list; walk_at "ev"
    · walk_at "compok"
    · walk_at "sub"
    · walk_at "seen"
    · intro _ _; rfl
    · refine CompRun.mapO PV.int PV.int (fun x : Int => some (x.fdiv k)) (fun _ => rfl) ?_ p _ (mapO_pure _ p)
      rintro a b ⟨⟩
      refine ⟨_, setV_sub (by walk_at "sub") rfl, fun acc => ⟨A_nameL rfl, ?_⟩⟩
      walk_at "ev"
theorem fn_zprimitive {W : Wd} (G : Good W) {d : Nat} (hd : 4 ≤ d) {M : Mem} {p r : List Int} (h : zprimitive p = some r) : CallR W d "zprimitive" [zv p] M (zv r) M := by
  have O := G.ok
  have c1 := fn_zcontent G (d := d - 1) (by omega) (M := M) p
  refine callS G 25 _ rfl (by decide) ["p"] (by walk_at "bind") rfl (by decide) (by decide) (by decide) rfl rfl rfl (by omega) (noMt_zv _) ?_
  walk_at "body"
  unfold zprimitive at h
  split at h
  · cases h
    apply Exists.intro
    apply B_ifR
    · apply EvT.to
      · walk_at "evt"
      · rfl
    · walk_at "ret"
  · rename_i hp
    obtain ⟨l, hl, h⟩ := ob_some h
    have c2 := fn_zdivided G (d := d - 1) (by omega) (M := M) h
    have hg := get_last PV.int hl
    apply Exists.intro
    apply B_ifF
    · apply EvT.to
      · walk_at "evt"
      · cases p with
        | nil => cases hl
        | cons x r => simp; omega
    walk_at "ass"
    apply B_retE
    apply E_callR (by assumption)
    · apply L_cons'
      · walk_at "ev"
      · apply L_cons' (p := .int (sgnContent p l))
        · unfold sgnContent
          apply E_ite
          · walk_at "evt"
          · intro hb
            have hb : l > 0 := by simpa using hb
            apply EvE.to
            · walk_at "ev"
            · rw [show decide (0 < l) = true from decide_eq_true hb]
          · intro hb
            have hb : ¬ l > 0 := by simpa using hb
            apply EvE.to
            · walk_at "ev"
            · rw [show decide (0 < l) = false from decide_eq_false hb]
        · exact L_nil
        · intro _; rfl
      · intro _; rfl
    · walk_at "callee"
    · rfl
    · rfl
    · intro _; rfl
end
section
open F
variable {W : Wd} {d : Nat} {M : Mem}
theorem enum_map {α : Type} (f : α → PV) (l : List α) : enumP (l.map f) = l.zipIdx.map fun x => .tup [.int (x.2 : Nat), f x.1] := by
  unfold enumP
  rw [List.zipIdx_map, List.map_map]
  rfl
theorem fn_zderive {W : Wd} (G : Good W) {d : Nat} (hd : 1 ≤ d) {M : Mem} {p r : List Int} (h : zderive p = some r) : CallR W d "zderive" [zv p] M (zv r) M := by
  have O := G.ok
  obtain ⟨t, ht, h⟩ := ob_some h
  cases h
  refine callS G 26 _ rfl (by decide) ["p"] (by walk_at "bind") rfl (by decide) (by decide) (by decide) rfl rfl rfl (by omega) (noMt_zv _) ?_
  walk_at "body"
  apply Exists.intro
  apply EvB.rt
  · apply B_retE
    apply E_slice' (l := t.map .int)
    · apply E_comp' (σc := []) (qs := t.map .int)
      · apply I_enum (by assumption) (l := p.map .int)
        · walk_at "ev"
      · walk_at "compok"
      · walk_at "sub"
      · walk_at "seen"
      · intro _ _; rfl
      · rw [enum_map]
        refine CompRun.mapO (fun x : Int × Nat => PV.tup [.int (x.2 : Nat), .int x.1]) PV.int _ (fun _ => rfl) ?_ _ t ht
        intro a b e
        obtain ⟨h1, e⟩ := gd_some e
        obtain ⟨h2, e⟩ := gd_some e
        cases e
        have m1 := mul_ok (a := a.1) (b := (a.2 : Int)) (okI_big h1) (le_big (Nat.le_trans (Nat.le_of_ble_eq_true h2) (Nat.le_of_ble_eq_true rfl)))
        refine ⟨_, trivial, fun acc => ⟨A_tuple (.cons (A_nameL rfl) (.cons (A_nameL rfl) .nil ?_) ?_), ?_⟩⟩
        · intro _; rfl
        · intro _; rfl
        · walk_at "ev"
    · walk_at "part"
    · walk_at "part"
    · walk_at "part"
    · rfl
    · exact .inl rfl
  · rw [pySlice_1, ← List.map_drop]; rfl
theorem fn_qtrim {W : Wd} (G : Good W) {d : Nat} (hd : 1 ≤ d) {M : Mem} {pr : PV} {l : P} (hp1 : listOfP M pr = some (l.map qv)) (hp2 : itemsOf M pr = some (l.map qv)) : CallR W d "qtrim" [pr] M (pv (qtrim l)) M := by
  have O := G.ok
  obtain ⟨h1, h2, h3, h4⟩ := trim_spec (fun x : Q => intB x.1 0) l
  refine callS G 28 _ rfl (by decide) ["row"] (by walk_at "bind") rfl (by decide) (by decide) (by decide) rfl rfl rfl (by omega) (noMt_pv _) ?_
  walk_at "body"
  apply Exists.intro
  walk_at "ass"
  apply B_while (σ₁ := [("row", pr), ("size", .int ((qtrim l).length : Nat))]) (M₁ := M)
  · show ∃ n, WhileRun W (fnAt 28).scope (d - 1) _ _ n [("row", pr), ("size", .int (((l.map qv).length : Nat) : Int))] M _ _ _
    rw [List.length_map]
    show ∃ n, WhileRun W (fnAt 28).scope (d - 1) _ _ n [("row", pr), ("size", .int ((l.length : Nat) : Int))] M _ [("row", pr), ("size", .int ((trim (fun x : Q => intB x.1 0) l).length : Nat))] M
    generalize (trim (fun x : Q => intB x.1 0) l).length = k at h1 h2 h3 h4
    have hsz := Nat.le_refl l.length
    generalize hsd : l.length = sz at hsz
    rw [hsd] at h1 h3
    have hkn : k ≤ sz := h1
    clear h1 hsd
    induction hn : sz - k generalizing sz with
    | zero =>
      have : sz = k := by omega
      subst this
      apply WhileRun.some_done
      by_cases h0 : sz = 0
      · subst h0
        apply T_and_f
        walk_at "evt"
      · apply T_and_t
        · apply EvT.to
          · walk_at "evt"
          · simp; omega
        · apply T_and_f
          obtain ⟨x, hx, hz⟩ := h4 (by omega)
          have hg := get_nat1 qv (by omega) hx
          apply EvT.to
          · walk_at "evt"
          · have := (not_congr (intB_eq x.1 0)).mp (by simp [hz]); simpa using this
    | succ n ih =>
      obtain ⟨x, hx, hz⟩ := h3 (sz - 1) (by omega) (by omega)
      have hg := get_nat1 qv (by omega) hx
      apply WhileRun.some_step (σ₂ := [("row", pr), ("size", .int ((sz - 1 : Nat) : Int))]) (M₁ := M) (M₂ := M)
      · apply T_and_t
        · apply EvT.to
          · walk_at "evt"
          · simp; omega
        · apply T_and_t
          · apply EvT.to
            · walk_at "evt"
            · have := (intB_eq x.1 0).mp hz; simpa using this
          · exact T_and_nil
      · apply EvB.sub
        · apply B_cons
          · apply S_augI (c := ((sz - 1 : Nat) : Int)) (a := (sz : Int)) (b := 1)
            · rfl
            · walk_at "ev"
            · right; refine ⟨rfl, ?_⟩; omega
          · exact B_nil
        · walk_at "sub"
      · refine ih (sz - 1) ?_ ?_ ?_ ?_
        all_goals first | omega | exact fun i hi hlt => h3 i hi (by omega)
  · have hs := pySlice_to (l.map qv) (k := (qtrim l).length) (by rw [List.length_map]; exact h1)
    apply EvB.rt
    · walk_at "ret"
    · rw [hs, ← List.map_take]
      show PV.lst _ = PV.lst _
      congr 2
      exact h2.symm
theorem fn_qdegree {W : Wd} (G : Good W) {d : Nat} (hd : 1 ≤ d) {M : Mem} (l : P) : CallR W d "qdegree" [pv l] M (.int ((l.length : Int) - 1)) M := by
  have O := G.ok
  refine callS G 29 _ rfl (by decide) ["p"] (by walk_at "bind") rfl (by decide) (by decide) (by decide) rfl rfl rfl (by omega) rfl ?_
  walk_at "body"
  apply Exists.intro
  apply EvB.rt
  · walk_at "ret"
  · rw [List.length_map]
theorem fn_qlead {W : Wd} (G : Good W) {d : Nat} (hd : 1 ≤ d) {M : Mem} {l : P} {x : Q} (hx : l.getLast? = some x) : CallR W d "qlead" [pv l] M (qv x) M := by
  have O := G.ok
  have hg := get_last qv hx
  refine callS G 30 _ rfl (by decide) ["p"] (by walk_at "bind") rfl (by decide) (by decide) (by decide) rfl rfl rfl (by omega) rfl ?_
  walk_at "body"
  apply Exists.intro
  apply B_retE
  apply E_ite_t
  · apply EvT.to
    · walk_at "evt"
    · cases l with
      | nil => cases hx
      | cons y r => simp <;> omega
  · walk_at "ev"
theorem fn_qadd {W : Wd} (G : Good W) {d : Nat} (hd : 4 ≤ d) {M : Mem} {a b r : P} (h : qadd a b = some r) : CallR W d "qadd" [pv a, pv b] M (pv r) M := by
  have O := G.ok
  obtain ⟨t, ht, h⟩ := ob_some h
  cases h
  rw [zipLong_range] at ht
  refine callS G 31 _ rfl (by decide) ["a", "b"] (by walk_at "bind") rfl (by decide) (by decide) (by decide) rfl rfl rfl (by omega) (noMt_pv _) ?_
  walk_at "body"
  refine ⟨[], ?_⟩
  refine Ev.bound (x := "a") (l := a.map qv) rfl fun ha => ?_
  refine Ev.bound (x := "b") (l := b.map qv) rfl fun hb => ?_
  rw [List.length_map] at ha hb
  have c1 := fn_qtrim G (d := d - 1) (by omega) (M := M) (pr := pv t) (l := t) rfl rfl
  apply EvB.sub (σ₂ := [])
  · apply B_assign (p := .int ((max a.length b.length : Nat) : Int))
    · apply EvE.to
      · walk_at "ev"
      · simp only [List.length_map]; congr 1; split <;> omega
    · walk_at "loc"
    · walk_at "env"
    apply B_retE
    apply E_callR (by assumption)
    · apply L_cons'
      · apply E_comp' (σc := [("a", pv a), ("b", pv b)]) (qs := t.map qv)
        · apply I_range1 (by assumption)
          · walk_at "ev"
          · omega
          · omega
        · walk_at "compok"
        · walk_at "sub"
        · walk_at "seen"
        · intro _ _; rfl
        · refine CompRun.mapO (fun i : Nat => PV.int (0 + (i : Int) * 1)) qv (fun i => radd (a.getD i (0, 1)) (b.getD i (0, 1))) (fun _ => rfl) ?_ (List.range (max a.length b.length)) t ht
          intro i c hic
          refine ⟨_, setV_sub (by walk_at "sub") rfl, fun acc => ⟨A_nameL rfl, ?_⟩⟩
          have c1 := fn_radd G (d := d - 1) (by omega) (M := M ++ [acc]) hic
          apply E_callR (by assumption)
          · apply L_cons'
            · apply E_ite
              · walk_at "evt"
              · intro hlt
                have hg := get_at qv (l := a) (i := i) (0, 1) (by simpa using hlt)
                walk_at "ev"
              · intro hlt
                apply EvE.to
                · walk_at "ev"
                · rw [getD_out a (0, 1) (by simpa using hlt)]; rfl
            · apply L_cons'
              · apply E_ite
                · walk_at "evt"
                · intro hlt
                  have hg := get_at qv (l := b) (i := i) (0, 1) (by simpa using hlt)
                  walk_at "ev"
                · intro hlt
                  apply EvE.to
                  · walk_at "ev"
                  · rw [getD_out b (0, 1) (by simpa using hlt)]; rfl
              · exact L_nil
              · intro _; rfl
            · intro _; rfl
          · walk_at "callee"
          · rfl
          · rfl
          · intro _; rfl
      · exact L_nil
      · intro _; rfl
    · walk_at "callee"
    · rfl
    · rfl
    · intro _; rfl
  · trivial
theorem fn_qneg {W : Wd} (G : Good W) {d : Nat} (hd : 4 ≤ d) {M : Mem} (l : P) : CallR W d "qneg" [pv l] M (pv (qneg l)) M := by
  have O := G.ok
  refine callS G 32 _ rfl (by decide) ["p"] (by walk_at "bind") rfl (by decide) (by decide) (by decide) rfl rfl rfl (by omega) (noMt_pv _) ?_
  walk_at "body"
  apply Exists.intro
  apply B_retE
  apply E_comp' (σc := [])
  · apply I_list; walk_at "ev"
  · walk_at "compok"
  · walk_at "sub"
  · walk_at "seen"
  · intro _ _; rfl
  · refine CompRun.mapO qv qv (fun x : Q => some (rneg x)) (fun _ => rfl) ?_ l (qneg l) (mapO_pure _ l)
    rintro a b ⟨⟩
    refine ⟨_, trivial, fun acc => ⟨A_nameL rfl, ?_⟩⟩
    have c1 := fn_rneg G (d := d - 1) (by omega) (M := M ++ [acc]) a
    walk_at "ev"
theorem fn_qsub {W : Wd} (G : Good W) {d : Nat} (hd : 5 ≤ d) {M : Mem} {a b r : P} (h : qsub a b = some r) : CallR W d "qsub" [pv a, pv b] M (pv r) M := by
  have O := G.ok
  have c1 := fn_qneg G (d := d - 1) (by omega) (M := M) b
  have c2 := fn_qadd G (d := d - 1) (by omega) (M := M) h
  refine callS G 33 _ rfl (by decide) ["a", "b"] (by walk_at "bind") rfl (by decide) (by decide) (by decide) rfl rfl rfl (by omega) (noMt_pv _) ?_
  walk_at "body"
  apply Exists.intro
  walk_at "ret"
theorem fn_qscale {W : Wd} (G : Good W) {d : Nat} (hd : 4 ≤ d) {M : Mem} {p r : P} {k : Q} (h : qscale p k = some r) : CallR W d "qscale" [pv p, qv k] M (pv r) M := by
  have O := G.ok
  refine callS G 34 _ rfl (by decide) ["p", "r"] (by walk_at "bind") rfl (by decide) (by decide) (by decide) rfl rfl rfl (by omega) (noMt_pv _) ?_
  walk_at "body"
  apply Exists.intro
  apply B_retE
  unfold qscale at h
  cases hk : intB k.1 0 with
  | true =>
    rw [hk] at h; cases h
    apply E_ite_f
    · apply EvT.to
      · walk_at "evt"
      · simpa using (intB_eq k.1 0).mp hk
    · walk_at "ev"
  | false =>
    rw [hk] at h
    apply E_ite_t
    · apply EvT.to
      · walk_at "evt"
      · have := (not_congr (intB_eq k.1 0)).mp (by simp [hk]); simpa using this
    · apply E_comp' (σc := [("r", qv k)])
      · apply I_list; walk_at "ev"
      · walk_at "compok"
      · walk_at "sub"
      · walk_at "seen"
      · intro _ _; rfl
      · refine CompRun.mapO qv qv _ (fun _ => rfl) ?_ p r h
        intro a b e
        refine ⟨_, setV_sub (by walk_at "sub") rfl, fun acc => ⟨A_nameL rfl, ?_⟩⟩
        have c1 := fn_rmul G (d := d - 1) (by omega) (M := M ++ [acc]) e
        walk_at "ev"
theorem fn_qraise {W : Wd} (G : Good W) {d : Nat} (hd : 1 ≤ d) {M : Mem} {p r : P} {many : Nat} (h : qraise p many = some r) : CallR W d "qraise" [pv p, .int many] M (pv r) M := by
  have O := G.ok
  refine callS G 35 _ rfl (by decide) ["p", "many"] (by walk_at "bind") rfl (by decide) (by decide) (by decide) rfl rfl rfl (by omega) (noMt_pv _) ?_
  walk_at "body"
  apply Exists.intro
  apply B_retE
  unfold qraise at h
  split at h
  · cases h
    apply E_ite_f
    · apply EvT.to
      · walk_at "evt"
      · rfl
    · walk_at "ev"
  · rename_i x l
    obtain ⟨h1, h⟩ := gd_some h
    obtain ⟨h2, h⟩ := gd_some h
    have h1 := Nat.le_of_ble_eq_true h1
    have h2 := Nat.le_of_ble_eq_true h2
    cases h
    apply E_ite_t
    · apply EvT.to
      · walk_at "evt"
      · simp <;> omega
    · apply EvE.to
      · apply E_cat
        · apply E_rep
          · walk_at "ev"
          · walk_at "ev"
          · omega
          · omega
        · walk_at "ev"
        · rfl
        · rfl
        · simp at h2 ⊢; omega
      · unfold pv; simp [List.map_replicate]; exact .inr rfl
end
section
open F
variable {W : Wd} {d : Nat} {M : Mem}
theorem fn_qmul {W : Wd} (G : Good W) {d : Nat} (hd : 4 ≤ d) {M : Mem} {a b r : P} (h : qmul a b = some r) : CallR W d "qmul" [pv a, pv b] M (pv r) M := by
  have O := G.ok
  by_cases h0 : a = [] ∨ b = []
  · have hr : r = [] := by
      unfold qmul at h
      rcases h0 with rfl | rfl
      · simpa using h.symm
      · split at h
        · simpa using h.symm
        · simpa using h.symm
    subst hr
    refine callS G 36 _ rfl (by decide) ["a", "b"] (by walk_at "bind") rfl (by decide) (by decide) (by decide) rfl rfl rfl (by omega) (noMt_pv _) ?_
    walk_at "body"
    apply Exists.intro
    apply B_ifR
    · by_cases ha : a = []
      · subst ha
        apply T_or_t
        apply EvT.to
        · walk_at "evt"
        · rfl
      · apply T_or_f
        · apply EvT.to
          · walk_at "evt"
          · cases a with
            | nil => exact absurd rfl ha
            | cons x l => simp <;> omega
        · apply T_or_t
          rcases h0 with rfl | rfl
          · exact absurd rfl ha
          · apply EvT.to
            · walk_at "evt"
            · rfl
    · walk_at "ret"
  · have hm : (Nat.ble (a.length + b.length) 1000 = true) ∧ mulRows b a (List.replicate (a.length + b.length - 1) (0, 1)) = some r := by
      unfold qmul at h
      split at h
      · exact absurd (.inl rfl) h0
      · split at h
        · exact absurd (.inr rfl) h0
        · exact gd_some h
    obtain ⟨hz, hm⟩ := hm
    have hz := Nat.le_of_ble_eq_true hz
    have ch := mulRows_chain (i := 0) (pre := []) hm rfl
    refine callR G 36 _ rfl (by decide) ["a", "b"] [r.map qv] (by walk_at "bind") rfl (by decide) (by decide) (by decide) rfl rfl rfl (by omega) rfl (q := .mt M.length) (q' := pv r) (.list (i := 0) (l := r.map qv) rfl (noMtL_map noMt_qv _)) ?_
    walk_at "body"
    refine ⟨[("a", pv a), ("b", pv b), ("found", .mt M.length)], ?_⟩
    apply B_ifF
    · apply T_or_f
      · apply EvT.to
        · walk_at "evt"
        · cases a with
          | nil => exact absurd (.inl rfl) h0
          | cons x l => simp <;> omega
      · apply T_or_f
        · apply EvT.to
          · walk_at "evt"
          · cases b with
            | nil => exact absurd (.inr rfl) h0
            | cons x l => simp <;> omega
        · exact T_or_nil
    apply B_assign
    · apply E_repM
      · walk_at "ev"
      · walk_at "ev"
      · simp; omega
      · simp; omega
      · rfl
    · walk_at "loc"
    · walk_at "env"
    apply B_for (σ₁ := [("a", pv a), ("b", pv b), ("found", .mt M.length)]) (M₂ := M ++ [r.map qv])
    · apply I_enum (by assumption) (l := a.map qv)
      · walk_at "ev"
    · intro _ _; rfl
    · rw [enum_map]
      have e : (List.replicate ((((a.map qv).length : Nat) : Int) + (((b.map qv).length : Nat) : Int) - 1).toNat (PV.tup [.int 0, .int 1])) = (List.replicate (a.length + b.length - 1) ((0, 1) : Q)).map qv := by
        rw [List.map_replicate, List.length_map, List.length_map]
        rw [show ((a.length : Int) + (b.length : Int) - 1).toNat = a.length + b.length - 1 by omega]
        rfl
      rw [e]
      refine ForRun.rel (fun x : Q × Nat => PV.tup [.int (x.2 : Nat), qv x.1]) (fun _ : P => [("a", pv a), ("b", pv b), ("found", .mt M.length)]) (fun f => M ++ [f.map qv]) (RowStep b) ?_ ch
      rintro found x found' ⟨pre, t, r', rfl, hp, hr, rfl⟩
      refine ⟨_, A_tuple (.cons (A_name (by walk_at "loc")) (.cons (A_name (by walk_at "loc")) .nil ?_) ?_), ?_⟩
      · intro _; rfl
      · intro _; rfl
      have ch2 := mulRow_chain (j := 0) hr (by rw [hp]; rfl)
      apply EvB.sub
      · apply B_for (σ₁ := [("a", pv a), ("b", pv b), ("found", .mt M.length), ("one", .int (x.2 : Nat)), ("left", qv x.1)]) (M₂ := M ++ [(pre ++ r').map qv])
        · apply I_enum (by assumption) (l := b.map qv)
          · walk_at "ev"
        · intro _ _; rfl
        · rw [enum_map]
          refine ForRun.rel (fun y : Q × Nat => PV.tup [.int (y.2 : Nat), qv y.1]) (fun _ : P => [("a", pv a), ("b", pv b), ("found", .mt M.length), ("one", .int (x.2 : Nat)), ("left", qv x.1)]) (fun f => M ++ [f.map qv]) (CellStep x.1 x.2) ?_ ch2
          rintro found y found' ⟨f, m, s, hf, hm, hs, rfl⟩
          refine ⟨_, A_tuple (.cons (A_name (by walk_at "loc")) (.cons (A_name (by walk_at "loc")) .nil ?_) ?_), ?_⟩
          · intro _; rfl
          · intro _; rfl
          have c1 := fn_rmul G (d := d - 1) (by omega) (M := M ++ [found.map qv]) hm
          have c2 := fn_radd G (d := d - 1) (by omega) (M := M ++ [found.map qv]) hs
          have hlt : x.2 + y.2 < found.length := (List.getElem?_eq_some_iff.mp hf).1
          have hit : itemsOf (M ++ [found.map qv]) (.mt M.length) = some (found.map qv) := mem_last _ _
          have hg : pyGet (found.map qv) ((x.2 : Int) + (y.2 : Int)) = some (qv f) := by
            rw [show (x.2 : Int) + (y.2 : Int) = ((x.2 + y.2 : Nat) : Int) by omega]; exact get_nat qv hf
          apply EvB.sub
          · apply B_cons
            · apply EvS.mem
              · apply S_setItem (k := ((x.2 : Nat) : Int) + ((y.2 : Nat) : Int)) (l := found.map qv)
                · walk_at "ev"
                · walk_at "ev"
                · walk_at "ev"
                · exact mem_last _ _
                · omega
                · rw [List.length_map]; omega
                · rw [← List.map_set]; exact noMtL_map noMt_qv _
              · rw [mem_set, show (((x.2 : Nat) : Int) + ((y.2 : Nat) : Int)).toNat = x.2 + y.2 by omega, ← List.map_set]
            · exact B_nil
          · walk_at "sub"
        · exact B_nil
      · walk_at "sub"
    · apply EvB.sub
      · walk_at "ret"
      · walk_at "sub"
end
section
open F
variable {W : Wd} {d : Nat} {M : Mem}
theorem fn_qpower {W : Wd} (G : Good W) {d : Nat} (hd : 5 ≤ d) {M : Mem} {p r : P} {many : Nat} (h : qpower p many = some r) : CallR W d "qpower" [pv p, .int many] M (pv r) M := by
  have O := G.ok
  obtain ⟨hz, h⟩ := gd_some h
  have hz := Nat.le_of_ble_eq_true hz
  refine callS G 37 _ rfl (by decide) ["p", "many"] (by walk_at "bind") rfl (by decide) (by decide) (by decide) rfl rfl rfl (by omega) (noMt_pv _) ?_
  walk_at "body"
  apply Exists.intro
  walk_at "ass"
  apply B_for (σ₁ := [("p", pv p), ("many", .int many), ("found", pv r)]) (M₂ := M)
  · apply I_range1 (by assumption)
    · walk_at "ev"
    · omega
    · omega
  · intro _ _; rfl
  · refine ForRun.fold (W := W) (fun i : Nat => PV.int (0 + (i : Int) * 1)) (fun f : P => [("p", pv p), ("many", .int many), ("found", pv f)]) (fun _ => M) (fun f _ => qmul f p) ?_ (List.range many) [(1, 1)] r h
    intro f i g e
    have c1 := fn_qmul G (d := d - 1) (by omega) (M := M) e
    refine ⟨_, A_name (.inl rfl), ?_⟩
    apply EvB.sub
    · walk_at "ass"
      exact B_nil
    · walk_at "sub"
  · walk_at "ret"
theorem fn_qdivmod {W : Wd} (G : Good W) {d : Nat} (hd : 6 ≤ d) {M : Mem} {a b : P} {x : P × P} (h : qdivmod a b = some x) : CallR W d "qdivmod" [pv a, pv b] M (.tup [pv x.1, pv x.2]) M := by
  have O := G.ok
  obtain ⟨bl, hbl, h⟩ := ob_some h
  obtain ⟨hz, h⟩ := gd_some h
  have hz := Nat.le_of_ble_eq_true hz
  obtain ⟨⟨q, r⟩, hdl, h⟩ := ob_some h
  cases h
  have hb0 : b ≠ [] := by rintro rfl; cases hbl
  have hb1 : 0 < b.length := List.length_pos_iff.mpr hb0
  have hgb := get_last qv hbl
  refine callR G 38 _ rfl (by decide) ["a", "b"] [q.map qv] (by walk_at "bind") rfl (by decide) (by decide) (by decide) rfl rfl rfl (by omega) rfl (q := .tup [pv (qtrim q), pv r]) (.same (by simp [noMt, noMtL, noMt_pv])) ?_
  walk_at "body"
  refine ⟨[], ?_⟩
  apply B_ifF
  · apply EvT.to
    · walk_at "evt"
    · simp; omega
  apply B_cons
  · apply S_swap (names := ["rest", "found"])
    · apply E_tuple'
      · apply L_cons'
        · walk_at "ev"
        · apply L_cons'
          · apply E_repM
            · walk_at "ev"
            · apply EvE.to (q := .int ((a.length + 1 - b.length : Nat) : Int))
              · walk_at "ev"
              · simp only [List.length_map]; congr 1; split <;> omega
            · omega
            · omega
            · rfl
          · exact L_nil
          · intro _; rfl
        · intro _; rfl
      · exact Nat.le_of_ble_eq_true rfl
    · walk_at "env"
    · rfl
    · decide
    · walk_at "env"
  have e : List.replicate (((a.length + 1 - b.length : Nat) : Int)).toNat (PV.tup [.int 0, .int 1]) = (List.replicate (Nat.sub (Nat.succ a.length) b.length) ((0, 1) : Q)).map qv := by
    rw [List.map_replicate]; rfl
  rw [e]
  refine Ev.pre (σ₁ := [("b", pv b), ("rest", pv a), ("found", .mt M.length)]) ?_ (by walk_at "sub")
  generalize List.replicate (Nat.sub (Nat.succ a.length) b.length) ((0, 1) : Q) = found at hdl
  generalize Nat.succ a.length = n at hdl
  apply EvB.sub (σ₂ := [])
  · apply B_while (σ₁ := [("b", pv b), ("rest", pv r), ("found", .mt M.length)]) (M₁ := M ++ [q.map qv])
    · clear e hz
      generalize a = rest at hdl
      induction n generalizing rest found with
      | zero => cases hdl
      | succ n ih =>
        unfold divLoop at hdl
        split at hdl
        · rename_i hlt
          cases hdl
          apply WhileRun.some_done
          apply EvT.to
          · walk_at "evt"
          · have : ¬ b.length ≤ r.length := fun h => by rw [Nat.ble_eq_true_of_le h] at hlt; cases hlt
            simp only [List.length_map, decide_eq_false_iff_not]; omega
        · rename_i hle
          have hle := Nat.le_of_ble_eq_true hle
          obtain ⟨l, hl, hdl⟩ := ob_some hdl
          obtain ⟨k, hk, hdl⟩ := ob_some hdl
          obtain ⟨s, hs, hdl⟩ := ob_some hdl
          obtain ⟨s', hs', hdl⟩ := ob_some hdl
          obtain ⟨lower, hlo, hdl⟩ := ob_some hdl
          obtain ⟨hpw, hdl⟩ := gd_some hdl
          have hpw : rest.length - b.length + 1 ≤ found.length := Nat.le_of_ble_eq_true hpw
          have hgl := get_last qv hl
          have c1 := fn_rdiv G (d := d - 1) (by omega) (M := M ++ [found.map qv]) hk
          have c2 := fn_qscale G (d := d - 1) (by omega) (M := M ++ [(found.set (rest.length - b.length) k).map qv]) hs
          have c3 := fn_qraise G (d := d - 1) (by omega) (M := M ++ [(found.set (rest.length - b.length) k).map qv]) hs'
          have c4 := fn_qsub G (d := d - 1) (by omega) (M := M ++ [(found.set (rest.length - b.length) k).map qv]) hlo
          have e1 : PV.lst (pySlice (b.map qv) none (some (-1)) none) = pv b.dropLast := by rw [pySlice_m1, ← List.map_dropLast]; rfl
          have e2 : PV.lst (pySlice (rest.map qv) none (some (-1)) none) = pv rest.dropLast := by rw [pySlice_m1, ← List.map_dropLast]; rfl
          rw [← e1] at c2
          rw [← e2] at c4
          refine WhileRun.some_step (M₁ := M ++ [found.map qv]) ?_ ?_ (ih _ _ hdl)
          · apply EvT.to
            · walk_at "evt"
            · simp only [List.length_map, decide_eq_true_eq]; omega
          · apply EvB.sub
            · apply B_cons
              · apply S_swap (names := ["number", "power"])
                · walk_at "ev"
                · walk_at "env"
                · rfl
                · decide
                · walk_at "env"
              apply Ev.pre' (σ₁ := [("b", pv b), ("rest", pv rest), ("found", .mt M.length), ("number", qv k), ("power", .int ((Nat.sub rest.length b.length : Nat) : Int))])
              · refine ⟨rfl, rfl, rfl, rfl, ?_, trivial⟩
                show some (PV.int _) = _
                simp only [List.length_map]
                congr 2
                show (rest.length : Int) - (b.length : Int) = ((rest.length - b.length : Nat) : Int)
                omega
              apply B_cons
              · apply EvS.mem
                · apply S_setItem (k := ((Nat.sub rest.length b.length : Nat) : Int)) (l := found.map qv)
                  · walk_at "ev"
                  · walk_at "ev"
                  · walk_at "ev"
                  · exact mem_last _ _
                  · omega
                  · rw [List.length_map]; show ((rest.length - b.length : Nat) : Int) < _; omega
                  · rw [← List.map_set]; exact noMtL_map noMt_qv _
                · rw [mem_set, Int.toNat_natCast, ← List.map_set]
              walk_at "ass"
              walk_at "ass"
              exact B_nil
            · walk_at "sub"
    · have c1 := fn_qtrim G (d := d - 1) (by omega) (M := M ++ [q.map qv]) (pr := .mt M.length) (l := q) (mem_last _ _) (mem_last _ _)
      walk_at "ret"
  · trivial
theorem fn_qmonic {W : Wd} (G : Good W) {d : Nat} (hd : 5 ≤ d) {M : Mem} {p r : P} (h : qmonic p = some r) : CallR W d "qmonic" [pv p] M (pv r) M := by
  have O := G.ok
  refine callS G 39 _ rfl (by decide) ["p"] (by walk_at "bind") rfl (by decide) (by decide) (by decide) rfl rfl rfl (by omega) (noMt_pv _) ?_
  walk_at "body"
  apply Exists.intro
  apply B_retE
  unfold qmonic at h
  split at h
  · cases h
    apply E_ite_f
    · apply EvT.to
      · walk_at "evt"
      · rfl
    · walk_at "ev"
  · rename_i y t
    obtain ⟨l, hl, h⟩ := ob_some h
    obtain ⟨i, hi, h⟩ := ob_some h
    have hg := get_last qv hl
    have c1 := fn_rinv G (d := d - 1) (by omega) (M := M) hi
    have c2 := fn_qscale G (d := d - 1) (by omega) (M := M) h
    apply E_ite_t
    · apply EvT.to
      · walk_at "evt"
      · simp <;> omega
    · walk_at "ev"
end
section
open F
variable {W : Wd} {d : Nat} {M : Mem}
noncomputable def t3v (x : T3) : PV := .tup [pv x.1, pv x.2.1, pv x.2.2]
theorem fn_qgcd {W : Wd} (G : Good W) {d : Nat} (hd : 7 ≤ d) {M : Mem} {a b r : P} (h : qgcd a b = some r) : CallR W d "qgcd" [pv a, pv b] M (pv r) M := by
  have O := G.ok
  obtain ⟨g, hg0, h'⟩ := ob_some h
  clear h
  obtain ⟨n, hg⟩ : ∃ n, gcdLoop n a b = some g := ⟨_, hg0⟩
  clear hg0
  have c0 := fn_qmonic G (d := d - 1) (by omega) (M := M) h'
  clear h' 
  refine callS G 40 _ rfl (by decide) ["a", "b"] (by walk_at "bind") rfl (by decide) (by decide) (by decide) rfl rfl rfl (by omega) (noMt_pv _) ?_
  walk_at "body"
  refine ⟨[], ?_⟩
  apply EvB.fin
  apply B_while (σ₁ := [("a", pv g), ("b", pv [])]) (M₁ := M)
  · show ∃ n, WhileRun W (fnAt 40).scope (d - 1) _ _ n [("a", pv a), ("b", pv b)] M .nx [("a", pv g), ("b", pv [])] M
    induction n generalizing a b with
    | zero => cases hg
    | succ n ih =>
      unfold gcdLoop at hg
      split at hg
      · cases hg
        apply WhileRun.some_done
        apply EvT.to
        · walk_at "evt"
        · rfl
      · rename_i x t
        obtain ⟨y, hy, hg⟩ := ob_some hg
        obtain ⟨m, hm, hg⟩ := ob_some hg
        have c1 := fn_qdivmod G (d := d - 1) (by omega) (M := M) hy
        have c2 := fn_qmonic G (d := d - 1) (by omega) (M := M) hm
        refine WhileRun.some_step (M₁ := M) ?_ ?_ (ih hg)
        · apply EvT.to
          · walk_at "evt"
          · simp <;> omega
        · apply EvB.sub
          · apply B_cons
            · apply S_swap (names := ["a", "b"])
              · walk_at "ev"
              · walk_at "env"
              · rfl
              · decide
              · walk_at "env"
            · exact B_nil
          · walk_at "sub"
  · walk_at "ret"
theorem ext_run {W : Wd} {sc : Scope} {d : Nat} {M : Mem} {one : T3} : ∀ {n : Nat} {one0 other : T3}, extLoop n one0 other = some one → ∃ other' : T3, ∀ test body, (∀ one0 other : T3, other.1 = [] → EvT W sc d [("one", t3v one0), ("other", t3v other)] M test false M) →
      (∀ one0 other : T3, other.1 ≠ [] → EvT W sc d [("one", t3v one0), ("other", t3v other)] M test true M) →
      (∀ (one0 other : T3) (y : P × P) (m1 left m2 right : P), qdivmod one0.1 other.1 = some y → qmul y.1 other.2.1 = some m1 → qsub one0.2.1 m1 = some left → qmul y.1 other.2.2 = some m2 → qsub one0.2.2 m2 = some right →
        EvB W sc d [("one", t3v one0), ("other", t3v other)] M body .nx [("one", t3v other), ("other", t3v (y.2, left, right))] M) →
      ∃ n, WhileRun W sc d test body n [("one", t3v one0), ("other", t3v other)] M .nx [("one", t3v one), ("other", t3v other')] M := by
  intro n
  induction n with
  | zero => intro _ _ ho; cases ho
  | succ n ih =>
    intro one0 other ho
    unfold extLoop at ho
    split at ho
    · rename_i hz
      cases ho
      exact ⟨other, fun test body h1 h2 h3 => WhileRun.some_done (h1 _ _ hz)⟩
    · rename_i hz
      obtain ⟨y, hy, ho⟩ := ob_some ho
      obtain ⟨m1, hm1, ho⟩ := ob_some ho
      obtain ⟨left, hleft, ho⟩ := ob_some ho
      obtain ⟨m2, hm2, ho⟩ := ob_some ho
      obtain ⟨right, hright, ho⟩ := ob_some ho
      obtain ⟨o', ih⟩ := ih ho
      exact ⟨o', fun test body h1 h2 h3 => WhileRun.some_step (h2 _ _ (by rw [hz]; simp)) (h3 _ _ _ _ _ _ _ hy hm1 hleft hm2 hright) (ih test body h1 h2 h3)⟩
theorem fn_qextended {W : Wd} (G : Good W) {d : Nat} (hd : 7 ≤ d) {M : Mem} {a b : P} {r : T3} (h : qextended a b = some r) : CallR W d "qextended" [pv a, pv b] M (t3v r) M := by
  have O := G.ok
  obtain ⟨one, ho, h⟩ := ob_some h
  obtain ⟨l, hl, h⟩ := ob_some h
  obtain ⟨k, hk, h⟩ := ob_some h
  obtain ⟨x, hx, h⟩ := ob_some h
  obtain ⟨y, hy, h⟩ := ob_some h
  obtain ⟨z, hz, h⟩ := ob_some h
  cases h
  have hgl := get_last qv hl
  have k1 := fn_rinv G (d := d - 1) (by omega) (M := M) hk
  have k2 := fn_qscale G (d := d - 1) (by omega) (M := M) hx
  have k3 := fn_qscale G (d := d - 1) (by omega) (M := M) hy
  have k4 := fn_qscale G (d := d - 1) (by omega) (M := M) hz
  refine callS G 41 _ rfl (by decide) ["a", "b"] (by walk_at "bind") rfl (by decide) (by decide) (by decide) rfl rfl rfl (by omega) (by simp [t3v, noMt, noMtL, noMt_pv]) ?_
  walk_at "body"
  refine ⟨[], ?_⟩
  apply B_cons
  · apply S_swap (names := ["one", "other"])
    · walk_at "ev"
    · walk_at "env"
    · rfl
    · decide
    · walk_at "env"
  apply Ev.pre' (σ₁ := [("one", t3v (a, [(1, 1)], [])), ("other", t3v (b, [], [(1, 1)]))])
  · walk_at "sub"
  obtain ⟨other', hrun⟩ := ext_run (W := W) (sc := (fnAt 41).scope) (d := d - 1) (M := M) ho
  apply EvB.fin
  apply B_while (σ₁ := [("one", t3v one), ("other", t3v other')]) (M₁ := M)
  · apply hrun
    · intro one other hz
      apply EvT.to
      · walk_at "evt"
      · rw [hz]; rfl
    · intro one other hz
      apply EvT.to
      · walk_at "evt"
      · have := List.length_pos_iff.mpr hz
        simp only [List.length_map, decide_eq_true_eq]; omega
    · intro one other y m1 left m2 right hy hm1 hleft hm2 hright
      have c1 := fn_qdivmod G (d := d - 1) (by omega) (M := M) hy
      have c2 := fn_qmul G (d := d - 1) (by omega) (M := M) hm1
      have c3 := fn_qsub G (d := d - 1) (by omega) (M := M) hleft
      have c4 := fn_qmul G (d := d - 1) (by omega) (M := M) hm2
      have c5 := fn_qsub G (d := d - 1) (by omega) (M := M) hright
      apply EvB.sub
      · apply B_cons
        · apply S_unpack
          · walk_at "ev"
          · refine .cons (A_name (by walk_at "loc")) (.cons (A_name (by walk_at "loc")) .nil ?_) ?_
            · intro _; rfl
            · intro _; rfl
          · walk_at "env"
          · walk_at "env"
        walk_at "ass"
        walk_at "ass"
        apply B_cons
        · apply S_swap (names := ["one", "other"])
          · walk_at "ev"
          · walk_at "env"
          · rfl
          · decide
          · walk_at "env"
        · exact B_nil
      · walk_at "sub"
  · apply B_ifF
    · apply EvT.to
      · walk_at "evt"
      · cases e : one.1 with
        | nil => rw [e] at hl; cases hl
        | cons x r => simp <;> omega
    walk_at "ass"
    walk_at "ret"
theorem fn_qderive {W : Wd} (G : Good W) {d : Nat} (hd : 4 ≤ d) {M : Mem} {p r : P} (h : qderive p = some r) : CallR W d "qderive" [pv p] M (pv r) M := by
  have O := G.ok
  obtain ⟨t, ht, h⟩ := ob_some h
  cases h
  refine callS G 42 _ rfl (by decide) ["p"] (by walk_at "bind") rfl (by decide) (by decide) (by decide) rfl rfl rfl (by omega) (noMt_pv _) ?_
  walk_at "body"
  apply Exists.intro
  apply EvB.rt
  · apply B_retE
    apply E_slice' (l := t.map qv)
    · apply E_comp' (σc := []) (qs := t.map qv)
      · apply I_enum (by assumption) (l := p.map qv)
        · walk_at "ev"
      · walk_at "compok"
      · walk_at "sub"
      · walk_at "seen"
      · intro _ _; rfl
      · rw [enum_map]
        refine CompRun.mapO (fun x : Q × Nat => PV.tup [.int (x.2 : Nat), qv x.1]) qv _ (fun _ => rfl) ?_ _ t ht
        intro a b e
        refine ⟨_, trivial, fun acc => ⟨A_tuple (.cons (A_nameL rfl) (.cons (A_nameL rfl) .nil ?_) ?_), ?_⟩⟩
        · intro _; rfl
        · intro _; rfl
        · have c1 := fn_rmul G (d := d - 1) (by omega) (M := M ++ [acc]) e
          walk_at "ev"
    · walk_at "part"
    · walk_at "part"
    · walk_at "part"
    · rfl
    · exact .inl rfl
  · rw [pySlice_1, ← List.map_drop]; rfl
theorem fn_qintegral {W : Wd} (G : Good W) {d : Nat} (hd : 4 ≤ d) {M : Mem} {p r : P} (h : qintegral p = some r) : CallR W d "qintegral" [pv p] M (pv r) M := by
  have O := G.ok
  obtain ⟨hz, h⟩ := gd_some h
  have hz := Nat.le_of_ble_eq_true hz
  obtain ⟨t, ht, h⟩ := ob_some h
  have hlen : t.length ≤ 1000 := by
    have : ∀ (l : List (Q × Nat)) (t : P), mapO (fun x : Q × Nat => rdiv x.1 (Int.ofNat (Nat.succ x.2), 1)) l = some t → t.length = l.length := by
      intro l
      induction l with
      | nil => intro t e; cases e; rfl
      | cons x l ih =>
        intro t e
        obtain ⟨y, _, e⟩ := ob_some e
        obtain ⟨t', h', e⟩ := ob_some e
        cases e
        simp [ih _ h']
    rw [this _ _ ht, List.length_zipIdx]; exact hz
  refine callS G 43 _ rfl (by decide) ["p"] (by walk_at "bind") rfl (by decide) (by decide) (by decide) rfl rfl rfl (by omega) (noMt_pv _) ?_
  walk_at "body"
  apply Exists.intro
  apply B_cons
  · apply S_comp (σc := []) (qs := t.map qv)
    · apply I_enum (by assumption) (l := p.map qv)
      · walk_at "ev"
    · walk_at "compok"
    · walk_at "sub"
    · walk_at "seen"
    · rw [enum_map]
      refine CompRun.mapO (fun x : Q × Nat => PV.tup [.int (x.2 : Nat), qv x.1]) qv _ (fun _ => rfl) ?_ _ t ht
      intro a b e
      refine ⟨_, trivial, fun acc => ⟨A_tuple (.cons (A_nameL rfl) (.cons (A_nameL rfl) .nil ?_) ?_), ?_⟩⟩
      · intro _; rfl
      · intro _; rfl
      · have c1 := fn_rdiv G (d := d - 1) (by omega) (M := M ++ [acc]) e
        walk_at "ev"
    · rfl
    · walk_at "env"
  apply B_retE
  split at h
  · cases h
    apply E_ite_f
    · apply EvT.to
      · walk_at "evt"
      · rfl
    · walk_at "ev"
  · rename_i x t
    cases h
    apply E_ite_t
    · apply EvT.to
      · walk_at "evt"
      · simp <;> omega
    · apply EvE.to
      · apply E_cat
        · walk_at "ev"
        · walk_at "ev"
        · rfl
        · rfl
        · simp at hlen ⊢; omega
      · rfl
theorem fn_qat {W : Wd} (G : Good W) {d : Nat} (hd : 4 ≤ d) {M : Mem} {p : P} {k r : Q} (h : qat p k = some r) : CallR W d "qat" [pv p, qv k] M (qv r) M := by
  have O := G.ok
  refine callS G 44 _ rfl (by decide) ["p", "r"] (by walk_at "bind") rfl (by decide) (by decide) (by decide) rfl rfl rfl (by omega) (noMt_qv _) ?_
  walk_at "body"
  apply Exists.intro
  walk_at "ass"
  apply B_for (σ₁ := [("p", pv p), ("r", qv k), ("found", qv r)]) (M₂ := M)
  · apply I_rev (by assumption) (l := p.map qv)
    walk_at "ev"
  · intro _ _; rfl
  · rw [← List.map_reverse]
    refine ForRun.fold (W := W) qv (fun f : Q => [("p", pv p), ("r", qv k), ("found", qv f)]) (fun _ => M) (fun f x => ob (rmul f k) fun m => radd m x) ?_ p.reverse (0, 1) r h
    intro f x g e
    obtain ⟨m, hm, e⟩ := ob_some e
    have c1 := fn_rmul G (d := d - 1) (by omega) (M := M) hm
    have c2 := fn_radd G (d := d - 1) (by omega) (M := M) e
    refine ⟨_, A_name (.inl rfl), ?_⟩
    apply EvB.sub
    · walk_at "ass"
      exact B_nil
    · walk_at "sub"
  · walk_at "ret"
theorem fn_from_z {W : Wd} (G : Good W) {d : Nat} (hd : 1 ≤ d) {M : Mem} (z : List Int) : CallR W d "from_z" [zv z] M (pv (fromZ z)) M := by
  have O := G.ok
  refine callS G 46 _ rfl (by decide) ["z"] (by walk_at "bind") rfl (by decide) (by decide) (by decide) rfl rfl rfl (by omega) (noMt_pv _) ?_
  walk_at "body"
  apply Exists.intro
  apply B_retE
  apply E_comp' (σc := [])
  · apply I_list; walk_at "ev"
  · walk_at "compok"
  · walk_at "sub"
  · walk_at "seen"
  · intro _ _; rfl
  · refine CompRun.mapO PV.int qv (fun n : Int => some (n, 1)) (fun _ => rfl) ?_ z (fromZ z) (mapO_pure _ z)
    rintro a b ⟨⟩
    refine ⟨_, trivial, fun acc => ⟨A_nameL rfl, ?_⟩⟩
    walk_at "ev"
end
section
open F
variable {W : Wd} {d : Nat} {M : Mem}
theorem gcd_le_add (b m : Nat) : Nat.gcd b m ≤ b + m := by
  rcases Nat.eq_zero_or_pos b with h | h
  · subst h; simp
  · have := Nat.le_of_dvd h (Nat.gcd_dvd_left b m); omega
theorem fdiv_nat (b m : Nat) : (b : Int).fdiv (m : Int) = ((b / m : Nat) : Int) := by
  rw [Int.fdiv_eq_ediv_of_nonneg _ (by omega)]; rfl
theorem fn_to_z {W : Wd} (G : Good W) {d : Nat} (hd : 5 ≤ d) {M : Mem} {q : P} {z : List Int × Q} (h : toZ q = some z) : CallR W d "to_z" [pv q] M (.tup [zv z.1, qv z.2]) M := by
  have O := G.ok
  refine callS G 45 _ rfl (by decide) ["q"] (by walk_at "bind") rfl (by decide) (by decide) (by decide) rfl rfl rfl (by omega) (by simp [noMt, noMtL, noMt_zv, noMt_qv]) ?_
  walk_at "body"
  unfold toZ at h
  split at h
  · cases h
    apply Exists.intro
    apply B_ifR
    · apply EvT.to
      · walk_at "evt"
      · rfl
    · walk_at "ret"
  · rename_i x0 r0
    generalize hq : x0 :: r0 = q at h ⊢
    obtain ⟨b, hb, h⟩ := ob_some h
    obtain ⟨w, hw, h⟩ := ob_some h
    obtain ⟨p, hp, h⟩ := ob_some h
    obtain ⟨l, hl, h⟩ := ob_some h
    obtain ⟨s, hs, h⟩ := ob_some h
    cases h
    have hgl := get_last PV.int hl
    apply Exists.intro
    apply B_ifF
    · apply EvT.to
      · walk_at "evt"
      · rw [← hq]; simp <;> omega
    walk_at "ass"
    apply B_for (σ₁ := [("q", pv q), ("bottom", .int (b : Nat))]) (M₂ := M)
    · apply I_list; walk_at "ev"
    · intro _ _; rfl
    · refine ForRun.fold (W := W) qv (fun f : Nat => [("q", pv q), ("bottom", .int (f : Nat))]) (fun _ => M) _ ?_ q 1 b hb
      intro f x g e
      obtain ⟨h1, e⟩ := gd_some e
      have h1 : f + x.2 ≤ lim := Nat.le_of_ble_eq_true h1
      split at e
      · cases e
      · rename_i g' hg'
        cases e
        have c1 := fn_gcd G (d := d - 1) (by omega) (M := M) (f : Int) (x.2 : Int)
        rw [Int.natAbs_natCast, Int.natAbs_natCast, hg'] at c1
        have hle := gcd_le_add f x.2
        have n1 : ((Nat.succ g' : Nat) : Int) ≠ 0 := by omega
        have n2 : ((Nat.succ g' : Nat) : Int).natAbs.log2 < 9000 := log_of_big (le_big (by rw [Int.natAbs_natCast]; omega))
        have m1 : IntMulOk ((f : Int).fdiv ((Nat.succ g' : Nat) : Int)) (x.2 : Int) := by
          refine mul_ok (le_big ?_) (le_big ?_)
          · rw [fdiv_nat, Int.natAbs_natCast]
            have := Nat.div_le_self f (Nat.succ g'); omega
          · rw [Int.natAbs_natCast]; omega
        refine ⟨_, A_name (by walk_at "loc"), ?_⟩
        apply EvB.sub
        · apply B_assign (p := .int ((Nat.mul (Nat.div f (Nat.succ g')) x.2 : Nat) : Int))
          · apply EvE.to
            · walk_at "ev"
            · rw [fdiv_nat]; show PV.int _ = PV.int ((f / (Nat.succ g') * x.2 : Nat) : Int); rw [Int.natCast_mul]
          · walk_at "loc"
          · walk_at "env"
          exact B_nil
        · walk_at "sub"
    have k1 := fn_zcontent G (d := d - 1) (by omega) (M := M) w
    have k2 := fn_zprimitive G (d := d - 1) (by omega) (M := M) hp
    obtain ⟨hs1, hs2⟩ := ratI_is hs
    have k3 := fn_rat G (d := d - 1) (by omega) (M := M) hs2 (le_big hs1)
    apply B_cons
    · apply S_comp (σc := [("bottom", .int (b : Nat))]) (qs := w.map .int)
      · apply I_list; walk_at "ev"
      · walk_at "compok"
      · walk_at "sub"
      · walk_at "seen"
      · refine CompRun.mapO qv PV.int _ (fun _ => rfl) ?_ q w hw
        intro x y e
        split at e
        · cases e
        · rename_i m hm
          obtain ⟨h1, e⟩ := gd_some e
          obtain ⟨h2, e⟩ := gd_some e
          have h2 : b + m ≤ lim := Nat.le_of_ble_eq_true h2
          cases e
          have hm' : x.2 = m + 1 := hm
          have n1 : (x.2 : Int) ≠ 0 := by omega
          have n2 : (x.2 : Int).natAbs.log2 < 9000 := log_of_big (le_big (by rw [Int.natAbs_natCast]; omega))
          have m1 : IntMulOk x.1 ((b : Int).fdiv (x.2 : Int)) := by
            refine mul_ok (okI_big h1) (le_big ?_)
            rw [fdiv_nat, Int.natAbs_natCast]
            have := Nat.div_le_self b x.2; omega
          refine ⟨_, setV_sub (by walk_at "sub") rfl, fun acc => ⟨A_nameL rfl, ?_⟩⟩
          apply EvE.to
          · walk_at "ev"
          · rw [fdiv_nat, hm']; rfl
      · rfl
      · walk_at "env"
    walk_at "ass"
    apply B_retE
    apply E_tuple'
    · apply L_cons'
      · walk_at "ev"
      · apply L_cons'
        · apply E_callR (by assumption)
          · apply L_cons' (p := .int (sgnContent w l))
            · unfold sgnContent
              apply E_ite
              · walk_at "evt"
              · intro hb
                have hb : l > 0 := by simpa using hb
                apply EvE.to
                · walk_at "ev"
                · rw [show decide (0 < l) = true from decide_eq_true hb]
              · intro hb
                have hb : ¬ l > 0 := by simpa using hb
                apply EvE.to
                · walk_at "ev"
                · rw [show decide (0 < l) = false from decide_eq_false hb]
            · walk_at "evl"
            · intro _; rfl
          · walk_at "callee"
          · rfl
          · rfl
          · intro _; rfl
        · exact L_nil
        · intro _; rfl
      · intro _; rfl
    · exact Nat.le_of_ble_eq_true rfl
end
section
open F
variable {W : Wd} {d : Nat} {M : Mem}
theorem eqD_nil : eqD (pv []) (.lst []) = true := by simp [eqD, pv, toD, toDL, PyData.eqv, PyData.eqvAll]
theorem eqD_cons (x : Q) (r : P) : eqD (pv (x :: r)) (.lst []) = false := by simp [eqD, pv, toD, toDL, PyData.eqv, PyData.eqvAll]
theorem T_eqD' {sc : Scope} {σ : Vars} {M₁ M₂ : Mem} {l r : Expr} {pos : Pos} {p q : PV} (h1 : EvE W sc d σ M l p M₁) (h2 : EvE W sc d σ M₁ r q M₂) (hp : plainN 8 p = true) (hq : plainN 8 q = true) (hm : behindInMarks .Eq r = false) :
    EvT W sc d σ M (.Compare l [.Eq] [r] pos) (eqD p q) M₂ := T_eqD h1 h2 hp hq hm
theorem fn_fmake {W : Wd} (G : Good W) {d : Nat} (hd : 8 ≤ d) {M : Mem} {t b : P} {r : R} (h : fmake t b = some r) : CallR W d "fmake" [pv t, pv b] M (rv r) M := by
  have O := G.ok
  refine callS G 49 _ rfl (by decide) ["top", "bottom"] (by walk_at "bind") rfl (by decide) (by decide) (by decide) rfl rfl rfl (by omega) (noMt_rv _) ?_
  walk_at "body"
  unfold fmake at h
  split at h
  · cases h
  · rename_i y b
    refine ⟨[], ?_⟩
    apply B_ifF
    · apply EvT.to
      · apply T_eqD'
        · walk_at "ev"
        · walk_at "ev"
        · exact plain_pv _ _
        · rfl
        · rfl
      · exact eqD_cons _ _
    split at h
    · cases h
      apply EvB.fin
      apply B_ifR
      · apply EvT.to
        · apply T_eqD'
          · walk_at "ev"
          · walk_at "ev"
          · exact plain_pv _ _
          · rfl
          · rfl
        · exact eqD_nil
      · walk_at "ret"
    · rename_i x t
      obtain ⟨c, hc, h⟩ := ob_some h
      have c1 := fn_qgcd G (d := d - 1) (by omega) (M := M) hc
      have c2 := fn_qdegree G (d := d - 1) (by omega) (M := M) c
      apply B_ifF
      · apply EvT.to
        · apply T_eqD'
          · walk_at "ev"
          · walk_at "ev"
          · exact plain_pv _ _
          · rfl
          · rfl
        · exact eqD_cons _ _
      walk_at "ass"
      split at h
      · rename_i hle
        have hle := Nat.le_of_ble_eq_true hle
        obtain ⟨u, hu, h⟩ := ob_some h
        obtain ⟨v, hv, h⟩ := ob_some h
        obtain ⟨l, hl, h⟩ := ob_some h
        obtain ⟨s, hs, h⟩ := ob_some h
        obtain ⟨t', ht', h⟩ := ob_some h
        obtain ⟨b', hb', h⟩ := ob_some h
        cases h
        have k1 := fn_qdivmod G (d := d - 1) (by omega) (M := M) hu
        have k2 := fn_qdivmod G (d := d - 1) (by omega) (M := M) hv
        have k3 := fn_qlead G (d := d - 1) (by omega) (M := M) hl
        have k4 := fn_rinv G (d := d - 1) (by omega) (M := M) hs
        have k5 := fn_qscale G (d := d - 1) (by omega) (M := M) ht'
        have k6 := fn_qscale G (d := d - 1) (by omega) (M := M) hb'
        apply B_ifT
        · apply EvT.to
          · walk_at "evt"
          · simp; omega
        · apply B_cons
          · apply S_swap (names := ["top", "bottom"])
            · walk_at "ev"
            · walk_at "env"
            · rfl
            · decide
            · walk_at "env"
          · exact B_nil
        apply EvB.fin
        walk_at "ass"
        walk_at "ret"
      · rename_i hle
        have hle : ¬ 2 ≤ c.length := fun h => by rw [Nat.ble_eq_true_of_le h] at hle; cases hle
        obtain ⟨l, hl, h⟩ := ob_some h
        obtain ⟨s, hs, h⟩ := ob_some h
        obtain ⟨t', ht', h⟩ := ob_some h
        obtain ⟨b', hb', h⟩ := ob_some h
        cases h
        have k3 := fn_qlead G (d := d - 1) (by omega) (M := M) hl
        have k4 := fn_rinv G (d := d - 1) (by omega) (M := M) hs
        have k5 := fn_qscale G (d := d - 1) (by omega) (M := M) ht'
        have k6 := fn_qscale G (d := d - 1) (by omega) (M := M) hb'
        apply B_ifF
        · apply EvT.to
          · walk_at "evt"
          · simp; omega
        apply EvB.fin
        walk_at "ass"
        walk_at "ret"
theorem fn_fpoly {W : Wd} (G : Good W) {d : Nat} (hd : 1 ≤ d) {M : Mem} (p : P) : CallR W d "fpoly" [pv p] M (rv (fpoly p)) M := by
  have O := G.ok
  refine callS G 50 _ rfl (by decide) ["p"] (by walk_at "bind") rfl (by decide) (by decide) (by decide) rfl rfl rfl (by omega) (noMt_rv _) ?_
  walk_at "body"
  apply Exists.intro
  apply EvB.rt
  · walk_at "ret"
  · rfl
theorem fn_fadd {W : Wd} (G : Good W) {d : Nat} (hd : 9 ≤ d) {M : Mem} {f g r : R} (h : fadd f g = some r) : CallR W d "fadd" [rv f, rv g] M (rv r) M := by
  have O := G.ok
  obtain ⟨x, hx, h⟩ := ob_some h
  obtain ⟨y, hy, h⟩ := ob_some h
  obtain ⟨z, hz, h⟩ := ob_some h
  obtain ⟨b, hb, h⟩ := ob_some h
  have k1 := fn_qmul G (d := d - 1) (by omega) (M := M) hx
  have k2 := fn_qmul G (d := d - 1) (by omega) (M := M) hy
  have k3 := fn_qadd G (d := d - 1) (by omega) (M := M) hz
  have k4 := fn_qmul G (d := d - 1) (by omega) (M := M) hb
  have k5 := fn_fmake G (d := d - 1) (by omega) (M := M) h
  refine callS G 51 _ rfl (by decide) ["f", "g"] (by walk_at "bind") rfl (by decide) (by decide) (by decide) rfl rfl rfl (by omega) (noMt_rv _) ?_
  walk_at "body"
  apply Exists.intro
  walk_at "ret"
theorem fn_fneg {W : Wd} (G : Good W) {d : Nat} (hd : 5 ≤ d) {M : Mem} (f : R) : CallR W d "fneg" [rv f] M (rv (fneg f)) M := by
  have O := G.ok
  have k1 := fn_qneg G (d := d - 1) (by omega) (M := M) f.1
  refine callS G 52 _ rfl (by decide) ["f"] (by walk_at "bind") rfl (by decide) (by decide) (by decide) rfl rfl rfl (by omega) (noMt_rv _) ?_
  walk_at "body"
  apply Exists.intro
  apply EvB.rt
  · walk_at "ret"
  · rfl
theorem fn_fsub {W : Wd} (G : Good W) {d : Nat} (hd : 10 ≤ d) {M : Mem} {f g r : R} (h : fsub f g = some r) : CallR W d "fsub" [rv f, rv g] M (rv r) M := by
  have O := G.ok
  have k1 := fn_fneg G (d := d - 1) (by omega) (M := M) g
  have k2 := fn_fadd G (d := d - 1) (by omega) (M := M) h
  refine callS G 53 _ rfl (by decide) ["f", "g"] (by walk_at "bind") rfl (by decide) (by decide) (by decide) rfl rfl rfl (by omega) (noMt_rv _) ?_
  walk_at "body"
  apply Exists.intro
  walk_at "ret"
theorem fn_fderive {W : Wd} (G : Good W) {d : Nat} (hd : 9 ≤ d) {M : Mem} {f r : R} (h : fderive f = some r) : CallR W d "fderive" [rv f] M (rv r) M := by
  have O := G.ok
  obtain ⟨dt, hdt, h⟩ := ob_some h
  obtain ⟨x, hx, h⟩ := ob_some h
  obtain ⟨db, hdb, h⟩ := ob_some h
  obtain ⟨y, hy, h⟩ := ob_some h
  obtain ⟨z, hz, h⟩ := ob_some h
  obtain ⟨b, hb, h⟩ := ob_some h
  have k1 := fn_qderive G (d := d - 1) (by omega) (M := M) hdt
  have k2 := fn_qmul G (d := d - 1) (by omega) (M := M) hx
  have k3 := fn_qderive G (d := d - 1) (by omega) (M := M) hdb
  have k4 := fn_qmul G (d := d - 1) (by omega) (M := M) hy
  have k5 := fn_qsub G (d := d - 1) (by omega) (M := M) hz
  have k6 := fn_qmul G (d := d - 1) (by omega) (M := M) hb
  have k7 := fn_fmake G (d := d - 1) (by omega) (M := M) h
  refine callS G 54 _ rfl (by decide) ["f"] (by walk_at "bind") rfl (by decide) (by decide) (by decide) rfl rfl rfl (by omega) (noMt_rv _) ?_
  walk_at "body"
  apply Exists.intro
  apply B_cons
  · apply S_unpack (ps := [pv f.1, pv f.2])
    · exact E_var rfl
    · refine .cons (A_name (by walk_at "loc")) (.cons (A_name (by walk_at "loc")) .nil ?_) ?_
      · intro _; rfl
      · intro _; rfl
  walk_at "ret"
end
section
open F
variable {W : Wd} {d : Nat} {M : Mem}
theorem fn_check_bottom {W : Wd} (G : Good W) {d : Nat} (hd : 1 ≤ d) {M : Mem} {p : List Int} (h : p ≠ []) : CallR W d "check_bottom" [zv p] M .none M := by
  have O := G.ok
  have hl := List.length_pos_iff.mpr h
  refine callN G 56 _ rfl (by decide) ["p"] (by walk_at "bind") rfl (by decide) (by decide) (by decide) rfl rfl rfl (by omega) ?_
  walk_at "body"
  apply Exists.intro
  apply B_ifF
  · apply EvT.to
    · walk_at "evt"
    · simp; omega
  · exact B_nil
theorem fn_zexact {W : Wd} (G : Good W) {d : Nat} (hd : 4 ≤ d) {M : Mem} {a b r : List Int} (h : zexact a b = some r) : CallR W d "zexact" [zv a, zv b] M (zv r) M := by
  have O := G.ok
  obtain ⟨bl, hbl, h⟩ := ob_some h
  split at h
  · cases h
  rename_i hbl0
  have hbn : bl ≠ 0 := (not_congr (intB_eq bl 0)).mp (by simp [hbl0])
  obtain ⟨hbk, h⟩ := gd_some h
  obtain ⟨hz, h⟩ := gd_some h
  have hz := Nat.le_of_ble_eq_true hz
  obtain ⟨q, hdl, h⟩ := ob_some h
  cases h
  have hlog := log_of_big (okI_big hbk)
  have hb0 : b ≠ [] := by rintro rfl; cases hbl
  have hb1 : 0 < b.length := List.length_pos_iff.mpr hb0
  have hgb := get_last PV.int hbl
  have k0 := fn_check_bottom G (d := d - 1) (by omega) (M := M) hb0
  refine callR G 57 _ rfl (by decide) ["a", "b"] [q.map .int] (by walk_at "bind") rfl (by decide) (by decide) (by decide) rfl rfl rfl (by omega) rfl (q := zv (ztrim q)) (.same (noMt_zv _)) ?_
  walk_at "body"
  refine ⟨[], ?_⟩
  apply B_cons
  · apply S_call
    · walk_at "ev"
    · intro _; rfl
  apply B_cons
  · apply S_swap (names := ["rest", "found"])
    · apply E_tuple'
      · apply L_cons'
        · walk_at "ev"
        · apply L_cons'
          · apply E_repM
            · walk_at "ev"
            · apply EvE.to (q := .int ((a.length + 1 - b.length : Nat) : Int))
              · walk_at "ev"
              · simp only [List.length_map]; congr 1; split <;> omega
            · omega
            · omega
            · rfl
          · exact L_nil
          · intro _; rfl
        · intro _; rfl
      · exact Nat.le_of_ble_eq_true rfl
    · walk_at "env"
    · rfl
    · decide
    · walk_at "env"
  have e : List.replicate (((a.length + 1 - b.length : Nat) : Int)).toNat (PV.int 0) = (List.replicate (Nat.sub (Nat.succ a.length) b.length) (0 : Int)).map .int := by
    rw [List.map_replicate]; rfl
  rw [e]
  refine Ev.pre (σ₁ := [("b", zv b), ("rest", zv a), ("found", .mt M.length)]) ?_ (by walk_at "sub")
  generalize List.replicate (Nat.sub (Nat.succ a.length) b.length) (0 : Int) = found at hdl
  generalize Nat.succ a.length = n at hdl
  apply EvB.sub (σ₂ := [])
  · apply B_while (σ₁ := [("b", zv b), ("rest", zv []), ("found", .mt M.length)]) (M₁ := M ++ [q.map .int])
    · clear e hz
      generalize a = rest at hdl
      induction n generalizing rest found with
      | zero => cases hdl
      | succ n ih =>
        unfold zexLoop at hdl
        split at hdl
        · rename_i hlt
          split at hdl
          · cases hdl
            apply WhileRun.some_done
            apply EvT.to
            · walk_at "evt"
            · simp only [List.length_map, decide_eq_false_iff_not, List.length_nil]; omega
          · cases hdl
        · rename_i hle
          have hle := Nat.le_of_ble_eq_true hle
          obtain ⟨l, hl, hdl⟩ := ob_some hdl
          obtain ⟨hm0, hdl⟩ := gd_some hdl
          have hm0 := (intB_eq _ _).mp hm0
          obtain ⟨s, hs, hdl⟩ := ob_some hdl
          obtain ⟨s', hs', hdl⟩ := ob_some hdl
          obtain ⟨rest', hlo, hdl⟩ := ob_some hdl
          obtain ⟨hpw, hdl⟩ := gd_some hdl
          have hpw : rest.length - b.length + 1 ≤ found.length := Nat.le_of_ble_eq_true hpw
          have hgl := get_last PV.int hl
          have c2 := fn_zscale G (d := d - 1) (by omega) (M := M ++ [(found.set (rest.length - b.length) (l.fdiv bl)).map .int]) hs
          have c3 := fn_zraise G (d := d - 1) (by omega) (M := M ++ [(found.set (rest.length - b.length) (l.fdiv bl)).map .int]) hs'
          have c4 := fn_zsub G (d := d - 1) (by omega) (M := M ++ [(found.set (rest.length - b.length) (l.fdiv bl)).map .int]) hlo
          refine WhileRun.some_step (M₁ := M ++ [found.map .int]) ?_ ?_ (ih _ _ hdl)
          · apply EvT.to
            · walk_at "evt"
            · simp only [List.length_map, decide_eq_true_eq]; omega
          · apply EvB.sub
            · apply B_ifF
              · apply EvT.to
                · walk_at "evt"
                · rw [hm0]; rfl
              apply B_cons
              · apply S_swap (names := ["number", "power"])
                · walk_at "ev"
                · walk_at "env"
                · rfl
                · decide
                · walk_at "env"
              apply Ev.pre' (σ₁ := [("b", zv b), ("rest", zv rest), ("found", .mt M.length), ("number", .int (l.fdiv bl)), ("power", .int ((Nat.sub rest.length b.length : Nat) : Int))])
              · refine ⟨rfl, rfl, rfl, rfl, ?_, trivial⟩
                show some (PV.int _) = _
                simp only [List.length_map]
                congr 2
                show (rest.length : Int) - (b.length : Int) = ((rest.length - b.length : Nat) : Int)
                omega
              apply B_cons
              · apply EvS.mem
                · apply S_setItem (k := ((Nat.sub rest.length b.length : Nat) : Int)) (l := found.map .int)
                  · walk_at "ev"
                  · walk_at "ev"
                  · walk_at "ev"
                  · exact mem_last _ _
                  · omega
                  · rw [List.length_map]; show ((rest.length - b.length : Nat) : Int) < _; omega
                  · rw [← List.map_set]; exact noMtL_map (fun _ => rfl) _
                · rw [mem_set, Int.toNat_natCast, ← List.map_set]
              walk_at "ass"
              exact B_nil
            · walk_at "sub"
    · have c1 := fn_ztrimP G (d := d - 1) (by omega) (M := M ++ [q.map .int]) (pr := .mt M.length) (l := q) (mem_last _ _) (mem_last _ _)
      apply B_retE
      apply E_ite_t
      · apply EvT.to
        · walk_at "evt"
        · rfl
      · walk_at "ev"
  · trivial
end
section
open F
variable {W : Wd} {d : Nat} {M : Mem}
theorem bits_ok {k : Int} (h : okI k = true) : Builtin.Int.intBits k ≤ 9000 := by
  unfold Builtin.Int.intBits
  split
  · exact Nat.zero_le _
  · have := log_of_big (okI_big h)
    omega
theorem pow_fit {k : Int} (h : okI k = true) {n : Nat} (hn : n ≤ 1000) : (Builtin.Int.intBits k : Int) * (n : Int) ≤ 2 ^ 27 := by
  have h1 := bits_ok h
  have h2 : Builtin.Int.intBits k * n ≤ 9000 * 1000 := Nat.mul_le_mul h1 hn
  have : ((Builtin.Int.intBits k * n : Nat) : Int) ≤ ((9000 * 1000 : Nat) : Int) := by exact_mod_cast h2
  rw [Int.natCast_mul] at this
  omega
noncomputable def psSt (b : List Int) (many : Nat) (first : Int) (rest found : List Int) (left : Nat) : Vars := [("b", zv b), ("many", .int (many : Nat)), ("rest", zv rest), ("found", zv found), ("left", .int (left : Nat)), ("first", .int first)]
structure PsStep (b : List Int) (first : Int) (rest found : List Int) (l : Int) (f1 f2 f3 r1 s s' r3 : List Int) : Prop where
  hl : rest.getLast? = some l
  hle : b.length ≤ rest.length
  h1 : zscale found first = some f1
  h2 : zraise [-l] (Nat.sub rest.length b.length) = some f2
  h3 : zsub f1 f2 = some f3
  h4 : zscale rest first = some r1
  h5 : zscale b l = some s
  h6 : zraise s (Nat.sub rest.length b.length) = some s'
  h7 : zsub r1 s' = some r3
theorem ps_run {W : Wd} {sc : Scope} {d : Nat} {M : Mem} {b : List Int} {many : Nat} {first : Int} {r : List Int × List Int × Nat} : ∀ {n : Nat} {rest found : List Int} {left : Nat}, psLoop b first n rest found left = some r → ∀ test body,
      (∀ rest found left, ¬ b.length ≤ rest.length → EvT W sc d (psSt b many first rest found left) M test false M) →
      (∀ rest found left, b.length ≤ rest.length → EvT W sc d (psSt b many first rest found left) M test true M) →
      (∀ rest found left l f1 f2 f3 r1 s s' r3, PsStep b first rest found l f1 f2 f3 r1 s s' r3 → EvB W sc d (psSt b many first rest found (Nat.succ left)) M body .nx (psSt b many first r3 f3 left) M) →
      ∃ n, WhileRun W sc d test body n (psSt b many first rest found left) M .nx (psSt b many first r.1 r.2.1 r.2.2) M := by
  intro n
  induction n with
  | zero => intro _ _ _ ho; cases ho
  | succ n ih =>
    intro rest found left ho test body t1 t2 t3
    unfold psLoop at ho
    split at ho
    · rename_i hlt
      cases ho
      exact WhileRun.some_done (t1 _ _ _ fun h => by rw [Nat.ble_eq_true_of_le h] at hlt; cases hlt)
    · rename_i hle
      have hle := Nat.le_of_ble_eq_true hle
      obtain ⟨l, hl, ho⟩ := ob_some ho
      obtain ⟨f1, h1, ho⟩ := ob_some ho
      obtain ⟨f2, h2, ho⟩ := ob_some ho
      obtain ⟨f3, h3, ho⟩ := ob_some ho
      obtain ⟨r1, h4, ho⟩ := ob_some ho
      obtain ⟨s, h5, ho⟩ := ob_some ho
      obtain ⟨s', h6, ho⟩ := ob_some ho
      obtain ⟨r3, h7, ho⟩ := ob_some ho
      split at ho
      · cases ho
      · exact WhileRun.some_step (t2 _ _ _ hle) (t3 _ _ _ _ _ _ _ _ _ _ _ ⟨hl, hle, h1, h2, h3, h4, h5, h6, h7⟩) (ih ho test body t1 t2 t3)
theorem fn_pseudo {W : Wd} (G : Good W) {d : Nat} (hd : 4 ≤ d) {M : Mem} {a b : List Int} {r : Z3} (h : pseudo a b = some r) : CallR W d "pseudo" [zv a, zv b] M (.tup [zv r.1, zv r.2.1, .int (r.2.2 : Nat)]) M := by
  have O := G.ok
  obtain ⟨first, hf, h1⟩ := ob_some h
  obtain ⟨hz, h2⟩ := gd_some h1
  have hz := Nat.le_of_ble_eq_true hz
  obtain ⟨hfk, h3⟩ := gd_some h2
  obtain ⟨⟨rest, found, left⟩, hps, h4⟩ := ob_some h3
  obtain ⟨hleft, h5⟩ := gd_some h4
  have hleft : left ≤ 1000 := Nat.le_of_ble_eq_true hleft
  obtain ⟨y, hy, h6⟩ := ob_some h5
  obtain ⟨z, hz', h7⟩ := ob_some h6
  cases h7
  clear h h1 h2 h3 h4 h5 h6
  have hb0 : b ≠ [] := by rintro rfl; cases hf
  have hb1 : 0 < b.length := List.length_pos_iff.mpr hb0
  have k0 := fn_check_bottom G (d := d - 1) (by omega) (M := M) hb0
  have k1 := fn_zlead G (d := d - 1) (by omega) (M := M) hf
  have k2 := fn_zscale G (d := d - 1) (by omega) (M := M) hy
  have k3 := fn_zscale G (d := d - 1) (by omega) (M := M) hz'
  have p1 := pow_fit hfk hleft
  refine callS G 58 _ rfl (by decide) ["a", "b"] (by walk_at "bind") rfl (by decide) (by decide) (by decide) rfl rfl rfl (by omega) (by simp [noMt, noMtL, noMt_zv]) ?_
  walk_at "body"
  refine ⟨[], ?_⟩
  apply B_cons
  · apply S_call
    · walk_at "ev"
    · intro _; rfl
  apply B_assign (p := .int ((Nat.sub (Nat.succ a.length) b.length : Nat) : Int))
  · apply EvE.to
    · walk_at "ev"
    · simp only [List.length_map]; congr 1
      show _ = ((a.length + 1 - b.length : Nat) : Int)
      split <;> omega
  · walk_at "loc"
  · walk_at "env"
  apply B_cons
  · apply S_unpack
    · walk_at "ev"
    · refine .cons (A_name (by walk_at "loc")) (.cons (A_name (by walk_at "loc")) (.cons (A_name (by walk_at "loc")) (.cons (A_name (by walk_at "loc")) .nil ?_) ?_) ?_) ?_
      all_goals (intro _; rfl)
    · walk_at "env"
    · walk_at "env"
  apply Ev.pre' (σ₁ := [("b", zv b), ("many", .int ((Nat.sub (Nat.succ a.length) b.length : Nat) : Int)), ("rest", zv a), ("found", zv []), ("left", .int ((Nat.sub (Nat.succ a.length) b.length : Nat) : Int)), ("first", .int first)])
  · walk_at "sub"
  apply EvB.fin
  apply B_while (σ₁ := psSt b (Nat.sub (Nat.succ a.length) b.length) first rest found left) (M₁ := M)
  · apply ps_run (r := (rest, found, left)) (many := Nat.sub (Nat.succ a.length) b.length) hps
    · intro rest found left hlt
      apply EvT.to
      · walk_at "evt"
      · simp only [List.length_map, decide_eq_false_iff_not]; omega
    · intro rest found left hlt
      apply EvT.to
      · walk_at "evt"
      · simp only [List.length_map, decide_eq_true_eq]; omega
    · intro rest found left l f1 f2 f3 r1 s s' r3 p
      have hgl := get_last PV.int p.hl
      have c1 := fn_zscale G (d := d - 1) (by omega) (M := M) p.h1
      have c2 := fn_zraise G (d := d - 1) (by omega) (M := M) p.h2
      have c3 := fn_zsub G (d := d - 1) (by omega) (M := M) p.h3
      have c4 := fn_zscale G (d := d - 1) (by omega) (M := M) p.h4
      have c5 := fn_zscale G (d := d - 1) (by omega) (M := M) p.h5
      have c6 := fn_zraise G (d := d - 1) (by omega) (M := M) p.h6
      have c7 := fn_zsub G (d := d - 1) (by omega) (M := M) p.h7
      have hle := p.hle
      apply EvB.sub
      · apply B_cons
        · apply S_swap (names := ["number", "power"])
          · walk_at "ev"
          · walk_at "env"
          · rfl
          · decide
          · walk_at "env"
        apply Ev.pre' (σ₁ := psSt b (Nat.sub (Nat.succ a.length) b.length) first rest found (Nat.succ left) ++ ([("number", .int l), ("power", .int ((Nat.sub rest.length b.length : Nat) : Int))] : Vars))
        · refine ⟨rfl, rfl, rfl, rfl, rfl, rfl, rfl, ?_, trivial⟩
          show some (PV.int _) = _
          simp only [List.length_map]
          congr 2
          show (rest.length : Int) - (b.length : Int) = ((rest.length - b.length : Nat) : Int)
          omega
        walk_at "ass"
        walk_at "ass"
        apply B_cons
        · apply S_augI (c := (left : Int)) (a := ((Nat.succ left : Nat) : Int)) (b := 1)
          · rfl
          · walk_at "ev"
          · right; refine ⟨rfl, ?_⟩; omega
        · exact B_nil
      · walk_at "sub"
  · apply B_assign (p := .int (first ^ left))
    · apply EvE.to
      · walk_at "ev"
      · rw [Int.toNat_natCast]
    · walk_at "loc"
    · walk_at "env"
    walk_at "ret"
theorem fn_zpseudo_rest {W : Wd} (G : Good W) {d : Nat} (hd : 5 ≤ d) {M : Mem} {a b : List Int} {r : Z3} (h : pseudo a b = some r) : CallR W d "zpseudo_rest" [zv a, zv b] M (zv r.2.1) M := by
  have O := G.ok
  have k1 := fn_pseudo G (d := d - 1) (by omega) (M := M) h
  refine callS G 59 _ rfl (by decide) ["a", "b"] (by walk_at "bind") rfl (by decide) (by decide) (by decide) rfl rfl rfl (by omega) (noMt_zv _) ?_
  walk_at "body"
  apply Exists.intro
  walk_at "ret"
theorem fn_next_height {W : Wd} (G : Good W) {d : Nat} (hd : 1 ≤ d) {M : Mem} {front height r : Int} {step : Nat} (h : nextHeight front step height = some r) : CallR W d "next_height" [.int front, .int step, .int height] M (.int r) M := by
  have O := G.ok
  refine callS G 61 _ rfl (by decide) ["front", "step", "height"] (by walk_at "bind") rfl (by decide) (by decide) (by decide) rfl rfl rfl (by omega) rfl ?_
  walk_at "body"
  unfold nextHeight at h
  split at h
  · cases h
    apply Exists.intro
    apply B_ifR
    · apply EvT.to
      · walk_at "evt"
      · rfl
    · walk_at "ret"
  · rename_i s
    split at h
    · cases h
    rename_i hb0
    obtain ⟨h1, h⟩ := gd_some h
    obtain ⟨h2, h⟩ := gd_some h
    obtain ⟨h3, h⟩ := gd_some h
    obtain ⟨h4, h⟩ := gd_some h
    have h3 : s + 1 ≤ 10 := Nat.le_of_ble_eq_true h3
    cases h
    have e2 : ((s + 1 : Nat) : Int) - 1 = (s : Int) := by omega
    have n1 : height ^ (((s + 1 : Nat) : Int) - 1).toNat ≠ 0 := by rw [e2]; exact (not_congr (intB_eq _ 0)).mp (by simp [hb0])
    have n2 : (height ^ (((s + 1 : Nat) : Int) - 1).toNat).natAbs.log2 < 9000 := by rw [e2]; exact log_of_big (okI_big h4)
    have p1 := pow_fit h1 (n := s + 1) (by omega)
    have p2 := pow_fit h2 (n := s) (by omega)
    rw [← e2] at p2
    apply Exists.intro
    apply B_ifF
    · apply EvT.to
      · walk_at "evt"
      · exact beq_eq_false_iff_ne.mpr (by omega)
    apply EvB.rt
    · walk_at "ret"
    · rw [e2]; rfl
end
section
open F
variable {W : Wd} {d : Nat} {M : Mem}
noncomputable def subSt (a b : List Int) (front height : Int) (k : Nat) : Vars := [("row", .mt k), ("front", .int front), ("height", .int height), ("a", zv a), ("b", zv b)]
structure SubStep (row : List (List Int)) (a b : List Int) (front height : Int) (x : Z3) (b' : List Int) (fr h' : Int) : Prop where
  hb : 2 ≤ b.length
  hps : pseudo a b = some x
  hne : x.2.1 ≠ []
  hle : b.length ≤ a.length
  hst : a.length - b.length ≤ 10
  k1 : okI front = true
  k2 : okI height = true
  k3 : okI (height ^ (a.length - b.length)) = true
  hrow : row.length ≤ 1000
  hdv : zdivided x.2.1 (front * height ^ (a.length - b.length)) = some b'
  hfr : b.getLast? = some fr
  hnh : nextHeight fr (a.length - b.length) height = some h'
theorem sub_run {W : Wd} {sc : Scope} {d : Nat} {M : Mem} {r : List (List Int)} : ∀ {n : Nat} {row : List (List Int)} {a b : List Int} {front height : Int}, subLoop n row a b front height = some r → ∀ test body,
      (∀ (row : List (List Int)) a b front height, ¬ 2 ≤ b.length → EvT W sc d (subSt a b front height M.length) (M ++ [row.map zv]) test false (M ++ [row.map zv])) →
      (∀ (row : List (List Int)) a b front height, 2 ≤ b.length → EvT W sc d (subSt a b front height M.length) (M ++ [row.map zv]) test true (M ++ [row.map zv])) →
      (∀ (row : List (List Int)) a b front height x, 2 ≤ b.length → pseudo a b = some x → x.2.1 = [] → EvB W sc d (subSt a b front height M.length) (M ++ [row.map zv]) body (.rt (.mt M.length)) [] (M ++ [row.map zv])) →
      (∀ (row : List (List Int)) a b front height x b' fr h', SubStep row a b front height x b' fr h' → EvB W sc d (subSt a b front height M.length) (M ++ [row.map zv]) body .nx (subSt b b' fr h' M.length) (M ++ [(row ++ [b']).map zv])) →
      (∃ n, WhileRun W sc d test body n (subSt a b front height M.length) (M ++ [row.map zv]) (.rt (.mt M.length)) [] (M ++ [r.map zv])) ∨
      (∃ a' b' f' h', ∃ n, WhileRun W sc d test body n (subSt a b front height M.length) (M ++ [row.map zv]) .nx (subSt a' b' f' h' M.length) (M ++ [r.map zv])) := by
  intro n
  induction n with
  | zero => intro _ _ _ _ _ ho; cases ho
  | succ n ih =>
    intro row a b front height ho test body t1 t2 t3 t4
    unfold subLoop at ho
    split at ho
    · rename_i hlt
      cases ho
      exact .inr ⟨_, _, _, _, WhileRun.some_done (t1 _ _ _ _ _ fun h => by rw [Nat.ble_eq_true_of_le h] at hlt; cases hlt)⟩
    · rename_i hle
      have hle := Nat.le_of_ble_eq_true hle
      obtain ⟨x, hx, ho⟩ := ob_some ho
      split at ho
      · rename_i hz
        cases ho
        exact .inl ⟨0, .ret (t2 _ _ _ _ _ hle) (t3 _ _ _ _ _ _ hle hx hz)⟩
      · rename_i y rest hz
        obtain ⟨g1, ho⟩ := gd_some ho
        obtain ⟨g2, ho⟩ := gd_some ho
        obtain ⟨g3, ho⟩ := gd_some ho
        obtain ⟨g4, ho⟩ := gd_some ho
        obtain ⟨g5, ho⟩ := gd_some ho
        obtain ⟨g6, ho⟩ := gd_some ho
        obtain ⟨b', hb', ho⟩ := ob_some ho
        obtain ⟨fr, hfr, ho⟩ := ob_some ho
        obtain ⟨h', hh', ho⟩ := ob_some ho
        have st := t4 row a b front height x b' fr h' ⟨hle, hx, by rw [hz]; simp, Nat.le_of_ble_eq_true g1, Nat.le_of_ble_eq_true g2, g3, g4, g5, Nat.le_of_ble_eq_true g6, by rw [hz]; exact hb', hfr, hh'⟩
        rcases ih ho test body t1 t2 t3 t4 with ⟨m, hm⟩ | ⟨a1, b1, f1, h1, m, hm⟩
        · exact .inl ⟨m + 1, .step (t2 _ _ _ _ _ hle) st hm⟩
        · exact .inr ⟨a1, b1, f1, h1, m + 1, .step (t2 _ _ _ _ _ hle) st hm⟩
theorem pow_e (h : Int) (a b : Nat) (hle : b ≤ a) : ((a : Int) - (b : Int)).toNat = a - b := by omega
theorem B_subOr {W : Wd} {sc : Scope} {d : Nat} {M : Mem} {M₁ : Mem} {k : Nat} {σ : Vars} {test : Expr} {body sts : List Stmt} {pos : Pos} {p : PV}
    (h : (∃ n, WhileRun W sc d test body n σ M (.rt p) [] M₁) ∨ (∃ a' b' f' h', ∃ n, WhileRun W sc d test body n σ M .nx (subSt a' b' f' h' k) M₁))
    (hb : ∀ a' b' f' h', EvB W sc d (subSt a' b' f' h' k) M₁ sts (.rt p) [] M₁) : EvB W sc d σ M (.While test body [] pos :: sts) (.rt p) [] M₁ := by
  rcases h with h | ⟨a', b', f', h', h⟩
  · exact B_ret (S_whileX h)
  · exact B_while h (hb a' b' f' h')
theorem fn_subresultants {W : Wd} (G : Good W) {d : Nat} (hd : 6 ≤ d) {M : Mem} {a b : List Int} {r : List (List Int)} (h : subres a b = some r) : CallR W d "subresultants" [zv a, zv b] M (.lst (r.map zv)) M := by
  have O := G.ok
  refine callR G 62 _ rfl (by decide) ["a", "b"] [r.map zv] (by walk_at "bind") rfl (by decide) (by decide) (by decide) rfl rfl rfl (by omega) rfl (q := .mt M.length) (.list (i := 0) rfl (noMtL_map noMt_zv _)) ?_
  walk_at "body"
  have main : ∀ (a b : List Int), subLoop 50 [a, b] a b 1 1 = some r → ∀ (sts : List Stmt), sts = ((fnAt 62).body.drop 1) → EvB W (fnAt 62).scope (d - 1) [("a", zv a), ("b", zv b)] M sts (.rt (.mt M.length)) [] (M ++ [r.map zv]) := by
    clear h
    intro a b h sts hs
    subst hs
    conv => pattern List.drop 1 _; whnf
    apply B_cons
    · apply S_swap (names := ["row", "front", "height"])
      · apply E_tuple'
        · apply L_cons'
          · apply E_listM
            · walk_at "evl"
            · exact Nat.le_of_ble_eq_true rfl
            · exact noMtL_map noMt_zv [a, b]
          · walk_at "evl"
          · intro _; rfl
        · exact Nat.le_of_ble_eq_true rfl
      · walk_at "env"
      · rfl
      · decide
      · walk_at "env"
    apply Ev.pre' (σ₁ := subSt a b 1 1 M.length)
    · walk_at "sub"
    apply B_subOr (k := M.length)
    · apply sub_run (row := [a, b]) h
      · intro row a b front height hlt
        apply EvT.to
        · walk_at "evt"
        · simp only [List.length_map, decide_eq_false_iff_not]; omega
      · intro row a b front height hlt
        apply EvT.to
        · walk_at "evt"
        · simp only [List.length_map, decide_eq_true_eq]; omega
      · intro row a b front height x hb hx hz
        have c1 := fn_zpseudo_rest G (d := d - 1) (by omega) (M := M ++ [row.map zv]) hx
        apply EvB.fin
        walk_at "ass"
        walk_at "ass"
        apply B_ifR
        · apply EvT.to
          · walk_at "evt"
          · rw [hz]; rfl
        · walk_at "ret"
      · intro row a b front height x b' fr h' p
        have c1 := fn_zpseudo_rest G (d := d - 1) (by omega) (M := M ++ [row.map zv]) p.hps
        have hdv := p.hdv
        have hnh := p.hnh
        have p1 := pow_fit p.k2 (n := a.length - b.length) (by have := p.hst; omega)
        have p2 := mul_ok (okI_big p.k1) (okI_big p.k3)
        rw [← Int.toNat_natCast (a.length - b.length)] at hdv p2
        have c2 := fn_zdivided G (d := d - 1) (by omega) (M := M ++ [row.map zv]) hdv
        have c3 := fn_zlead G (d := d - 1) (by omega) (M := M ++ [(row ++ [b']).map zv]) p.hfr
        have c4 := fn_next_height G (d := d - 1) (by omega) (M := M ++ [(row ++ [b']).map zv]) hnh
        have hle := p.hle
        have hrow := p.hrow
        apply EvB.sub
        · apply B_assign (p := .int ((a.length - b.length : Nat) : Int))
          · apply EvE.to
            · walk_at "ev"
            · simp only [List.length_map]; congr 1; omega
          · walk_at "loc"
          · walk_at "env"
          walk_at "ass"
          apply B_ifF
          · apply EvT.to
            · walk_at "evt"
            · have := List.length_pos_iff.mpr p.hne
              exact beq_eq_false_iff_ne.mpr (by simp only [List.length_map]; omega)
          apply B_cons
          · apply S_swap (names := ["a", "b"])
            · walk_at "ev"
            · walk_at "env"
            · rfl
            · decide
            · walk_at "env"
          apply B_cons
          · apply EvS.mem (M₂ := M ++ [(row ++ [b']).map zv])
            · apply S_append (l := row.map zv) (j := M.length) (p := zv b')
              · walk_at "ev"
              · walk_at "ev"
              · exact mem_last _ _
              · rw [List.length_map]; omega
              · exact noMtL_append (noMtL_map noMt_zv _) (noMtL_map noMt_zv [b'])
            · rw [mem_set, List.map_append]; rfl
          apply Ev.pre' (σ₁ := subSt b b' front height M.length ++ ([("step", .int ((a.length - b.length : Nat) : Int))] : Vars))
          · walk_at "sub"
          walk_at "ass"
          walk_at "ass"
          exact B_nil
        · walk_at "sub"
    · intro a' b' f' h'
      apply EvB.fin
      walk_at "ret"
  refine ⟨[], ?_⟩
  unfold subres at h
  split at h
  · rename_i hle
    have hle := Nat.le_of_ble_eq_true hle
    apply B_ifF
    · apply EvT.to
      · walk_at "evt"
      · simp only [List.length_map, decide_eq_false_iff_not]; omega
    exact main a b h _ rfl
  · rename_i hle
    apply B_ifT
    · apply EvT.to
      · walk_at "evt"
      · have : ¬ b.length ≤ a.length := fun h => by rw [Nat.ble_eq_true_of_le h] at hle; cases hle
        simp only [List.length_map, decide_eq_true_eq]; omega
    · apply B_cons
      · apply S_swap (names := ["a", "b"])
        · walk_at "ev"
        · walk_at "env"
        · rfl
        · decide
        · walk_at "env"
      · exact B_nil
    exact Ev.pre' (by walk_at "sub") (main b a h _ rfl)
end
section
open F
variable {W : Wd} {d : Nat} {M : Mem}
theorem fn_zgcd {W : Wd} (G : Good W) {d : Nat} (hd : 7 ≤ d) {M : Mem} {a b r : List Int} (h : zgcd a b = some r) : CallR W d "zgcd" [zv a, zv b] M (zv r) M := by
  have O := G.ok
  refine callS G 63 _ rfl (by decide) ["a", "b"] (by walk_at "bind") rfl (by decide) (by decide) (by decide) rfl rfl rfl (by omega) (noMt_zv _) ?_
  walk_at "body"
  refine ⟨[], ?_⟩
  unfold zgcd at h
  split at h
  · obtain ⟨p, hp, hs⟩ := ob_some h
    have c1 := fn_zprimitive G (d := d - 1) (by omega) (M := M) hp
    have c2 := fn_zcontent G (d := d - 1) (by omega) (M := M) b
    have c3 := fn_zscale G (d := d - 1) (by omega) (M := M) hs
    apply EvB.fin
    apply B_ifR
    · apply T_or_t
      apply EvT.to
      · walk_at "evt"
      · rfl
    · apply B_assign (p := zv b)
      · apply E_ite_t
        · apply EvT.to
          · walk_at "evt"
          · rfl
        · walk_at "ev"
      · walk_at "loc"
      · walk_at "env"
      walk_at "ret"
  · rename_i x a'
    split at h
    · obtain ⟨p, hp, hs⟩ := ob_some h
      have c1 := fn_zprimitive G (d := d - 1) (by omega) (M := M) hp
      have c2 := fn_zcontent G (d := d - 1) (by omega) (M := M) (x :: a')
      have c3 := fn_zscale G (d := d - 1) (by omega) (M := M) hs
      have e0 : (((List.map PV.int (x :: a')).length : Nat) : Int) ≠ 0 := by simp only [List.length_map, List.length_cons]; omega
      apply EvB.fin
      apply B_ifR
      · apply T_or_f (M₁ := M)
        · apply EvT.to
          · walk_at "evt"
          · exact beq_eq_false_iff_ne.mpr e0
        apply T_or_t
        apply EvT.to
        · walk_at "evt"
        · rfl
      · apply B_assign (p := zv (x :: a'))
        · apply E_ite_f
          · apply EvT.to
            · walk_at "evt"
            · exact beq_eq_false_iff_ne.mpr e0
          · walk_at "ev"
        · walk_at "loc"
        · walk_at "env"
        walk_at "ret"
    · rename_i y b'
      obtain ⟨pa, hpa, h⟩ := ob_some h
      obtain ⟨pb, hpb, h⟩ := ob_some h
      obtain ⟨rows, hrows, h⟩ := ob_some h
      obtain ⟨last, hlast, h⟩ := ob_some h
      generalize hA : x :: a' = A at *
      generalize hB : y :: b' = B at *
      have e0 : (((List.map PV.int A).length : Nat) : Int) ≠ 0 := by subst hA; simp only [List.length_map, List.length_cons]; omega
      have e1 : (((List.map PV.int B).length : Nat) : Int) ≠ 0 := by subst hB; simp only [List.length_map, List.length_cons]; omega
      have c1 := fn_zcontent G (d := d - 1) (by omega) (M := M) A
      have c2 := fn_zcontent G (d := d - 1) (by omega) (M := M) B
      have c3 := fn_gcd G (d := d - 1) (by omega) (M := M) (gcdAll A : Nat) (gcdAll B : Nat)
      rw [Int.natAbs_natCast, Int.natAbs_natCast] at c3
      have c4 := fn_zprimitive G (d := d - 1) (by omega) (M := M) hpa
      have c5 := fn_zprimitive G (d := d - 1) (by omega) (M := M) hpb
      have c6 := fn_subresultants G (d := d - 1) (by omega) (M := M) hrows
      have hg := get_last zv hlast
      apply EvB.fin
      apply B_ifF
      · apply T_or_f (M₁ := M)
        · apply EvT.to
          · walk_at "evt"
          · exact beq_eq_false_iff_ne.mpr e0
        apply T_or_f (M₁ := M)
        · apply EvT.to
          · walk_at "evt"
          · exact beq_eq_false_iff_ne.mpr e1
        exact T_or_nil
      walk_at "ass"
      walk_at "ass"
      split at h
      · rename_i hl
        have hl := Nat.le_of_ble_eq_true hl
        obtain ⟨p, hp, hs⟩ := ob_some h
        have c7 := fn_zprimitive G (d := d - 1) (by omega) (M := M) hp
        have c8 := fn_zscale G (d := d - 1) (by omega) (M := M) hs
        apply B_retE
        apply E_ite_t
        · apply EvT.to
          · walk_at "evt"
          · simp only [List.length_map, decide_eq_true_eq]; omega
        · walk_at "ev"
      · rename_i hl
        cases h
        apply B_retE
        apply E_ite_f
        · apply EvT.to
          · walk_at "evt"
          · have : ¬ 2 ≤ last.length := fun h => by rw [Nat.ble_eq_true_of_le h] at hl; cases hl
            simp only [List.length_map, decide_eq_false_iff_not]; omega
        · walk_at "ev"
end
section
open F
variable {W : Wd} {d : Nat} {M : Mem}
noncomputable def yv (x : List Int × Nat) : PV := .tup [zv x.1, .int (x.2 : Nat)]
theorem noMt_yv (x : List Int × Nat) : noMt (yv x) = true := by simp [yv, noMt, noMtL, noMt_zv]
noncomputable def yunSt (k : Nat) (many : Nat) (left rest : List Int) : Vars := [("found", .mt k), ("left", zv left), ("rest", zv rest), ("many", .int (many : Nat))]
structure YunStep (left rest part left' e dl rest' : List Int) : Prop where
  hb : 2 ≤ left.length
  h1 : zgcd left rest = some part
  h2 : zexact left part = some left'
  h3 : zexact rest part = some e
  h4 : zderive left' = some dl
  h5 : zsub e dl = some rest'
theorem yun_run {W : Wd} {sc : Scope} {d : Nat} {M : Mem} {r : List (List Int × Nat)} : ∀ {n : Nat} {many : Nat} {left rest : List Int} {found : List (List Int × Nat)}, yunLoop n many left rest found = some r → ∀ test body,
      (∀ many left rest (found : List (List Int × Nat)), ¬ 2 ≤ left.length → EvT W sc d (yunSt M.length many left rest) (M ++ [found.map yv]) test false (M ++ [found.map yv])) →
      (∀ many left rest (found : List (List Int × Nat)), 2 ≤ left.length → EvT W sc d (yunSt M.length many left rest) (M ++ [found.map yv]) test true (M ++ [found.map yv])) →
      (∀ many left rest (found : List (List Int × Nat)) part left' e dl rest', YunStep left rest part left' e dl rest' → found.length ≤ 1000 → 2 ≤ part.length → EvB W sc d (yunSt M.length many left rest) (M ++ [found.map yv]) body .nx (yunSt M.length (many + 1) left' rest') (M ++ [(found ++ [(part, many)]).map yv])) →
      (∀ many left rest (found : List (List Int × Nat)) part left' e dl rest', YunStep left rest part left' e dl rest' → ¬ 2 ≤ part.length → EvB W sc d (yunSt M.length many left rest) (M ++ [found.map yv]) body .nx (yunSt M.length (many + 1) left' rest') (M ++ [found.map yv])) →
      ∃ many' left' rest', ∃ n, WhileRun W sc d test body n (yunSt M.length many left rest) (M ++ [found.map yv]) .nx (yunSt M.length many' left' rest') (M ++ [r.map yv]) := by
  intro n
  induction n with
  | zero => intro _ _ _ _ ho; cases ho
  | succ n ih =>
    intro many left rest found ho test body t1 t2 t3 t4
    unfold yunLoop at ho
    split at ho
    · rename_i hlt
      cases ho
      exact ⟨_, _, _, WhileRun.some_done (t1 _ _ _ _ fun h => by rw [Nat.ble_eq_true_of_le h] at hlt; cases hlt)⟩
    · rename_i hle
      have hle := Nat.le_of_ble_eq_true hle
      obtain ⟨part, h1, ho⟩ := ob_some ho
      obtain ⟨left', h2, ho⟩ := ob_some ho
      obtain ⟨e, h3, ho⟩ := ob_some ho
      obtain ⟨dl, h4, ho⟩ := ob_some ho
      obtain ⟨rest', h5, ho⟩ := ob_some ho
      obtain ⟨g1, ho⟩ := gd_some ho
      split at ho
      · rename_i hp
        obtain ⟨m1, l1, r1, hw⟩ := ih ho test body t1 t2 t3 t4
        exact ⟨m1, l1, r1, WhileRun.some_step (t2 _ _ _ _ hle) (t3 _ _ _ _ _ _ _ _ _ ⟨hle, h1, h2, h3, h4, h5⟩ (Nat.le_of_ble_eq_true g1) (Nat.le_of_ble_eq_true hp)) hw⟩
      · rename_i hp
        obtain ⟨m1, l1, r1, hw⟩ := ih ho test body t1 t2 t3 t4
        exact ⟨m1, l1, r1, WhileRun.some_step (t2 _ _ _ _ hle) (t4 _ _ _ _ _ _ _ _ _ ⟨hle, h1, h2, h3, h4, h5⟩ fun h => by rw [Nat.ble_eq_true_of_le h] at hp; cases hp) hw⟩
theorem B_whileE {W : Wd} {sc : Scope} {d : Nat} {M : Mem} {M₁ M₂ : Mem} {k : Nat} {σ σ₂ : Vars} {test : Expr} {body sts : List Stmt} {pos : Pos} {f : Fl}
    (h : ∃ many' left' rest', ∃ n, WhileRun W sc d test body n σ M .nx (yunSt k many' left' rest') M₁)
    (hb : ∀ many' left' rest', EvB W sc d (yunSt k many' left' rest') M₁ sts f σ₂ M₂) : EvB W sc d σ M (.While test body [] pos :: sts) f σ₂ M₂ := by
  obtain ⟨a, b, c, h⟩ := h
  exact B_while h (hb a b c)
theorem fn_yun {W : Wd} (G : Good W) {d : Nat} (hd : 8 ≤ d) {M : Mem} {p : List Int} {r : List (List Int × Nat)} (h : yun p = some r) : CallR W d "yun" [zv p] M (.lst (r.map yv)) M := by
  have O := G.ok
  obtain ⟨whole, h1, h⟩ := ob_some h
  obtain ⟨dw, h2, h⟩ := ob_some h
  obtain ⟨common, h3, h⟩ := ob_some h
  obtain ⟨left, h4, h⟩ := ob_some h
  obtain ⟨e, h5, h⟩ := ob_some h
  obtain ⟨dl, h6, h⟩ := ob_some h
  obtain ⟨rest, h7, h⟩ := ob_some h
  refine callR G 65 _ rfl (by decide) ["p"] [r.map yv] (by walk_at "bind") rfl (by decide) (by decide) (by decide) rfl rfl rfl (by omega) rfl (q := .mt M.length) (.list (i := 0) rfl (noMtL_map noMt_yv _)) ?_
  walk_at "body"
  have c1 := fn_zprimitive G (d := d - 1) (by omega) (M := M ++ [[]]) h1
  have c2 := fn_zderive G (d := d - 1) (by omega) (M := M ++ [[]]) h2
  have c3 := fn_zgcd G (d := d - 1) (by omega) (M := M ++ [[]]) h3
  have c4 := fn_zexact G (d := d - 1) (by omega) (M := M ++ [[]]) h4
  have c5 := fn_zexact G (d := d - 1) (by omega) (M := M ++ [[]]) h5
  have c6 := fn_zderive G (d := d - 1) (by omega) (M := M ++ [[]]) h6
  have c7 := fn_zsub G (d := d - 1) (by omega) (M := M ++ [[]]) h7
  refine ⟨[], ?_⟩
  apply B_assign
  · apply E_listM
    · walk_at "evl"
    · exact Nat.le_of_ble_eq_true rfl
    · rfl
  · walk_at "loc"
  · walk_at "env"
  walk_at "ass"
  walk_at "ass"
  walk_at "ass"
  walk_at "ass"
  walk_at "ass"
  apply Ev.pre' (σ₁ := yunSt M.length 1 left rest)
  · walk_at "sub"
  apply B_whileE (k := M.length)
  · apply yun_run (found := []) h
    · intro many left rest found hlt
      have c1 := fn_zdegree G (d := d - 1) (by omega) (M := M ++ [found.map yv]) left
      apply EvT.to
      · walk_at "evt"
      · simp only [decide_eq_false_iff_not]; omega
    · intro many left rest found hlt
      have c1 := fn_zdegree G (d := d - 1) (by omega) (M := M ++ [found.map yv]) left
      apply EvT.to
      · walk_at "evt"
      · simp only [decide_eq_true_eq]; omega
    · intro many left rest found part left' e dl rest' p hfo hpl
      have c1 := fn_zgcd G (d := d - 1) (by omega) (M := M ++ [found.map yv]) p.h1
      have c2 := fn_zdegree G (d := d - 1) (by omega) (M := M ++ [found.map yv]) part
      have c3 := fn_zexact G (d := d - 1) (by omega) (M := M ++ [(found ++ [(part, many)]).map yv]) p.h2
      have c4 := fn_zexact G (d := d - 1) (by omega) (M := M ++ [(found ++ [(part, many)]).map yv]) p.h3
      have c5 := fn_zderive G (d := d - 1) (by omega) (M := M ++ [(found ++ [(part, many)]).map yv]) p.h4
      have c6 := fn_zsub G (d := d - 1) (by omega) (M := M ++ [(found ++ [(part, many)]).map yv]) p.h5
      apply EvB.sub
      · walk_at "ass"
        apply B_ifT
        · apply EvT.to
          · walk_at "evt"
          · simp only [decide_eq_true_eq]; omega
        · apply B_cons
          · apply EvS.mem (M₂ := M ++ [(found ++ [(part, many)]).map yv])
            · apply S_append (l := found.map yv) (j := M.length) (p := yv (part, many))
              · walk_at "ev"
              · walk_at "ev"
              · exact mem_last _ _
              · rw [List.length_map]; omega
              · exact noMtL_append (noMtL_map noMt_yv _) (noMtL_map noMt_yv [(part, many)])
            · rw [mem_set, List.map_append]; rfl
          · exact B_nil
        walk_at "ass"
        walk_at "ass"
        apply B_cons
        · apply S_augI (c := ((many + 1 : Nat) : Int)) (a := (many : Int)) (b := 1)
          · rfl
          · walk_at "ev"
          · left; refine ⟨rfl, ?_⟩; omega
        · exact B_nil
      · walk_at "sub"
    · intro many left rest found part left' e dl rest' p hpl
      have c1 := fn_zgcd G (d := d - 1) (by omega) (M := M ++ [found.map yv]) p.h1
      have c2 := fn_zdegree G (d := d - 1) (by omega) (M := M ++ [found.map yv]) part
      have c3 := fn_zexact G (d := d - 1) (by omega) (M := M ++ [found.map yv]) p.h2
      have c4 := fn_zexact G (d := d - 1) (by omega) (M := M ++ [found.map yv]) p.h3
      have c5 := fn_zderive G (d := d - 1) (by omega) (M := M ++ [found.map yv]) p.h4
      have c6 := fn_zsub G (d := d - 1) (by omega) (M := M ++ [found.map yv]) p.h5
      apply EvB.sub
      · walk_at "ass"
        apply B_ifF
        · apply EvT.to
          · walk_at "evt"
          · simp only [decide_eq_false_iff_not]; omega
        walk_at "ass"
        walk_at "ass"
        apply B_cons
        · apply S_augI (c := ((many + 1 : Nat) : Int)) (a := (many : Int)) (b := 1)
          · rfl
          · walk_at "ev"
          · left; refine ⟨rfl, ?_⟩; omega
        · exact B_nil
      · walk_at "sub"
  · intro a b c
    apply EvB.fin
    walk_at "ret"
end
section
open F
variable {W : Wd} {d : Nat} {M : Mem}
noncomputable def mv (x : P × Nat) : PV := .tup [pv x.1, .int (x.2 : Nat)]
theorem noMt_mv (x : P × Nat) : noMt (mv x) = true := by simp [mv, noMt, noMtL, noMt_pv]
theorem CompRun.mapIf {W : Wd} {sc : Scope} {d : Nat} {σ : Vars} {M : Mem} {target elt c : Expr} {α β : Type} (inj : α → PV) (out : β → PV) (f : α → Option β) (hout : ∀ y, noMt (out y) = true)
    (h : ∀ a b, f a = some b → ∃ σ₁, SubV σ σ₁ ∧ ∀ acc, EvA W sc d true σ (M ++ [acc]) target (inj a) σ₁ (M ++ [acc]) ∧ EvT W sc d σ₁ (M ++ [acc]) c true (M ++ [acc]) ∧ EvE W sc d σ₁ (M ++ [acc]) elt (out b) (M ++ [acc])) :
    ∀ (l : List α) (r : List β), F.mapO f l = some r → CompRun W sc d σ M target [c] elt (l.map inj) (r.map out)
  | [], r, e => by cases e; exact .nil
  | a :: l, r, e => by
    obtain ⟨b, hb, e⟩ := ob_some e
    obtain ⟨t, ht, e⟩ := ob_some e
    cases e
    obtain ⟨σ₁, hs, h'⟩ := h a b hb
    exact .keep σ₁ (fun acc => (h' acc).1) hs (fun acc => .inr ⟨c, rfl, (h' acc).2.1⟩) (fun acc => (h' acc).2.2) (hout b) (CompRun.mapIf inj out f hout h l t ht)
theorem fn_sfp {W : Wd} (G : Good W) {d : Nat} (hd : 9 ≤ d) {M : Mem} {p : P} {r : List (P × Nat)} (h : sfp p = some r) : CallR W d "square_free_parts" [pv p] M (.lst (r.map mv)) M := by
  have O := G.ok
  obtain ⟨z, h1, h⟩ := ob_some h
  obtain ⟨l, h2, h⟩ := ob_some h
  refine callS G 67 _ rfl (by decide) ["p"] (by walk_at "bind") rfl (by decide) (by decide) (by decide) rfl rfl rfl (by omega) (by simp only [noMt]; exact noMtL_map noMt_mv _) ?_
  walk_at "body"
  have c1 := fn_to_z G (d := d - 1) (by omega) (M := M) h1
  have c2 := fn_yun G (d := d - 1) (by omega) (M := M) h2
  apply Exists.intro
  apply B_retE
  apply E_comp' (σc := []) (qs := r.map mv)
  · apply I_list (l := l.map yv)
    walk_at "ev"
  · walk_at "compok"
  · walk_at "sub"
  · walk_at "seen"
  · intro _ _; rfl
  · refine CompRun.mapIf yv mv _ noMt_mv ?_ l r h
    intro a b e
    obtain ⟨g1, e⟩ := gd_some e
    obtain ⟨m, hm, e⟩ := ob_some e
    cases e
    have g1 := Nat.le_of_ble_eq_true g1
    refine ⟨_, trivial, fun acc => ⟨A_tuple (.cons (A_nameL rfl) (.cons (A_nameL rfl) .nil ?_) ?_), ?_, ?_⟩⟩
    · intro _; rfl
    · intro _; rfl
    · apply EvT.to
      · walk_at "evt"
      · simp only [List.length_map, decide_eq_true_eq]; omega
    · have k1 := fn_from_z G (d := d - 1) (by omega) (M := M ++ [acc]) a.1
      have k2 := fn_qmonic G (d := d - 1) (by omega) (M := M ++ [acc]) hm
      walk_at "ev"
theorem fn_solved {W : Wd} (G : Good W) {d : Nat} (hd : 8 ≤ d) {M : Mem} {a b c : P} {r : P × P} (h : solved a b c = some r) : CallR W d "solved" [pv a, pv b, pv c] M (.tup [pv r.1, pv r.2]) M := by
  have O := G.ok
  obtain ⟨x, h1, h⟩ := ob_some h
  obtain ⟨lc, h2, h⟩ := ob_some h
  obtain ⟨y, h3, h⟩ := ob_some h
  obtain ⟨rc, h4, h⟩ := ob_some h
  obtain ⟨wa, h5, h⟩ := ob_some h
  obtain ⟨t, h6, h⟩ := ob_some h
  cases h
  have c1 := fn_qextended G (d := d - 1) (by omega) (M := M) h1
  have c2 := fn_qmul G (d := d - 1) (by omega) (M := M) h2
  have c3 := fn_qdivmod G (d := d - 1) (by omega) (M := M) h3
  have c4 := fn_qmul G (d := d - 1) (by omega) (M := M) h4
  have c5 := fn_qmul G (d := d - 1) (by omega) (M := M) h5
  have c6 := fn_qadd G (d := d - 1) (by omega) (M := M) h6
  refine callS G 68 _ rfl (by decide) ["a", "b", "c"] (by walk_at "bind") rfl (by decide) (by decide) (by decide) rfl rfl rfl (by omega) (by simp [noMt, noMtL, noMt_pv]) ?_
  walk_at "body"
  apply Exists.intro
  apply B_cons
  · apply S_unpack
    · walk_at "ev"
    · refine .cons (A_name (by walk_at "loc")) (.cons (A_name (by walk_at "loc")) (.cons (A_name (by walk_at "loc")) .nil ?_) ?_) ?_
      all_goals (intro _; rfl)
    · walk_at "env"
    · walk_at "env"
  apply B_cons
  · apply S_unpack
    · walk_at "ev"
    · refine .cons (A_name (by walk_at "loc")) (.cons (A_name (by walk_at "loc")) .nil ?_) ?_
      all_goals (intro _; rfl)
    · walk_at "env"
    · walk_at "env"
  walk_at "ret"
theorem range_down (m : Nat) : rangeP ((m : Int) - 1) (-1) ((m : Int) - 1 - 0).toNat = ((List.range (m - 1)).map fun i => m - 1 - i).map fun n : Nat => PV.int (n : Int) := by
  unfold rangeP
  rw [show ((m : Int) - 1 - 0).toNat = m - 1 by omega, List.map_map]
  apply List.map_congr_left
  intro i hi
  have := List.mem_range.mp hi
  show PV.int (((m : Int) - 1) + (i : Int) * (-1)) = PV.int ((m - 1 - i : Nat) : Int)
  congr 1
  omega
noncomputable def lowSt (many : Nat) (slope part other : P) (s : R × P) : Vars := [("many", .int many), ("part", pv part), ("other", pv other), ("slope", pv slope), ("found", rv s.1), ("top", pv s.2)]
theorem fn_lowered {W : Wd} (G : Good W) {d : Nat} (hd : 10 ≤ d) {M : Mem} {top other part : P} {many : Nat} {r : R × P} (h : lowered top other part many = some r) : CallR W d "lowered" [pv top, pv other, pv part, .int many] M (.tup [rv r.1, pv r.2]) M := by
  have O := G.ok
  obtain ⟨dp, h1, h⟩ := ob_some h
  obtain ⟨slope, h2, h⟩ := ob_some h
  obtain ⟨hz, h⟩ := gd_some h
  have hz := Nat.le_of_ble_eq_true hz
  have c1 := fn_qderive G (d := d - 1) (by omega) (M := M) h1
  have c2 := fn_qmul G (d := d - 1) (by omega) (M := M) h2
  refine callS G 69 _ rfl (by decide) ["top", "other", "part", "many"] (by walk_at "bind") rfl (by decide) (by decide) (by decide) rfl rfl rfl (by omega) (by simp [noMt, noMtL, noMt_pv, noMt_rv]) ?_
  walk_at "body"
  refine ⟨[], ?_⟩
  apply EvB.fin
  apply B_cons
  · apply S_swap (names := ["found", "slope"])
    · walk_at "ev"
    · walk_at "env"
    · rfl
    · decide
    · walk_at "env"
  apply Ev.pre' (σ₁ := lowSt many slope part other (F0, top))
  · walk_at "sub"
  apply B_for (σ₁ := lowSt many slope part other r) (M₂ := M) (items := ((List.range (many - 1)).map fun i => many - 1 - i).map fun n : Nat => PV.int (n : Int))
  · rw [← range_down]
    apply I_range3 (by assumption)
    · walk_at "ev"
    · walk_at "ev"
    · walk_at "ev"
    all_goals omega
  · intro _ _; rfl
  · refine ForRun.fold (W := W) (fun n : Nat => PV.int (n : Int)) (lowSt many slope part other) (fun _ => M) (lowStep slope part other) ?_ _ _ _ h
    intro s n s' e
    obtain ⟨r1, e1, e⟩ := ob_some e
    obtain ⟨st, e2, e⟩ := ob_some e
    obtain ⟨x, e3, e⟩ := ob_some e
    obtain ⟨pw, e4, e⟩ := ob_some e
    obtain ⟨fm, e5, e⟩ := ob_some e
    obtain ⟨found', e6, e⟩ := ob_some e
    obtain ⟨r2, e7, e⟩ := ob_some e
    obtain ⟨sr, e8, e⟩ := ob_some e
    obtain ⟨da, e9, e⟩ := ob_some e
    obtain ⟨od, e10, e⟩ := ob_some e
    obtain ⟨top', e11, e⟩ := ob_some e
    cases e
    have k1 := fn_rat G (d := d - 1) (by omega) (M := M) (ratI_is e1).2 (le_big (ratI_is e1).1)
    have k2 := fn_qscale G (d := d - 1) (by omega) (M := M) e2
    have k3 := fn_solved G (d := d - 1) (by omega) (M := M) e3
    have k4 := fn_qpower G (d := d - 1) (by omega) (M := M) e4
    have k5 := fn_fmake G (d := d - 1) (by omega) (M := M) e5
    have k6 := fn_fadd G (d := d - 1) (by omega) (M := M) e6
    have k7 := fn_rat G (d := d - 1) (by omega) (M := M) (ratI_is e7).2 (le_big (ratI_is e7).1)
    have k8 := fn_qscale G (d := d - 1) (by omega) (M := M) e8
    have k9 := fn_qderive G (d := d - 1) (by omega) (M := M) e9
    have k10 := fn_qmul G (d := d - 1) (by omega) (M := M) e10
    have k11 := fn_qsub G (d := d - 1) (by omega) (M := M) e11
    refine ⟨_, A_name (.inl rfl), ?_⟩
    apply EvB.sub
    · apply B_cons
      · apply S_unpack
        · walk_at "ev"
        · refine .cons (A_name (by walk_at "loc")) (.cons (A_name (by walk_at "loc")) .nil ?_) ?_
          all_goals (intro _; rfl)
        · walk_at "env"
        · walk_at "env"
      walk_at "ass"
      walk_at "ass"
      exact B_nil
    · walk_at "sub"
  · walk_at "ret"
end
section
open F
variable {W : Wd} {d : Nat} {M : Mem}
noncomputable def herSt (s : R × P × P) : Vars := [("found", rv s.1), ("bottom", pv s.2.1), ("top", pv s.2.2)]
theorem fn_hermite {W : Wd} (G : Good W) {d : Nat} (hd : 11 ≤ d) {M : Mem} {f : R} {r : R × R} (h : hermite f = some r) : CallR W d "hermite" [rv f] M (.tup [rv r.1, rv r.2]) M := by
  have O := G.ok
  obtain ⟨x, h1, h⟩ := ob_some h
  obtain ⟨qi, h2, h⟩ := ob_some h
  obtain ⟨parts, h3, h⟩ := ob_some h
  obtain ⟨y, h4, h⟩ := ob_some h
  obtain ⟨m, h5, h⟩ := ob_some h
  cases h
  have c1 := fn_qdivmod G (d := d - 1) (by omega) (M := M) h1
  have c2 := fn_qintegral G (d := d - 1) (by omega) (M := M) h2
  have c3 := fn_fpoly G (d := d - 1) (by omega) (M := M) qi
  have c4 := fn_fmake G (d := d - 1) (by omega) (M := M) h5
  have c5 := fn_qdegree G (d := d - 1) (by omega) (M := M) f.2
  refine callS G 70 _ rfl (by decide) ["f"] (by walk_at "bind") rfl (by decide) (by decide) (by decide) rfl rfl rfl (by omega) (by simp [noMt, noMtL, noMt_pv, noMt_rv]) ?_
  walk_at "body"
  refine ⟨[], ?_⟩
  apply EvB.fin
  apply B_cons
  · apply S_unpack
    · walk_at "ev"
    · refine .cons (A_name (by walk_at "loc")) (.cons (A_name (by walk_at "loc")) .nil ?_) ?_
      all_goals (intro _; rfl)
    · walk_at "env"
    · walk_at "env"
  apply B_cons
  · apply S_swap (names := ["found", "bottom"])
    · walk_at "ev"
    · walk_at "env"
    · rfl
    · decide
    · walk_at "env"
  apply Ev.pre' (σ₁ := herSt (fpoly qi, f.2, x.2))
  · walk_at "sub"
  apply B_for (σ₁ := herSt y) (M₂ := M) (items := parts.map mv)
  · apply I_list
    split at h3
    · rename_i hle
      have hle := Nat.le_of_ble_eq_true hle
      have c6 := fn_sfp G (d := d - 1) (by omega) (M := M) h3
      apply E_ite_t
      · apply EvT.to
        · walk_at "evt"
        · simp only [decide_eq_true_eq]; omega
      · walk_at "ev"
    · rename_i hle
      cases h3
      apply E_ite_f
      · apply EvT.to
        · walk_at "evt"
        · have : ¬ 2 ≤ f.2.length := fun h => by rw [Nat.ble_eq_true_of_le h] at hle; cases hle
          simp only [decide_eq_false_iff_not]; omega
      · walk_at "ev"
  · intro _ _; rfl
  · refine ForRun.fold (W := W) mv herSt (fun _ => M) hermStep ?_ _ _ _ h4
    intro s n s' e
    refine ⟨_, A_tuple (.cons (A_name (.inl rfl)) (.cons (A_name (.inl rfl)) .nil ?_) ?_), ?_⟩
    · intro _; rfl
    · intro _; rfl
    unfold hermStep at e
    split at e
    · rename_i hle
      cases e
      apply EvB.sub
      · apply B_ifF
        · apply EvT.to
          · walk_at "evt"
          · have : ¬ 2 ≤ n.2 := fun h => by rw [Nat.ble_eq_true_of_le h] at hle; cases hle
            simp only [decide_eq_false_iff_not]; omega
        · exact B_nil
      · walk_at "sub"
    · rename_i hle
      have hle := Nat.le_of_ble_eq_true hle
      obtain ⟨pw, e1, e⟩ := ob_some e
      obtain ⟨y, e2, e⟩ := ob_some e
      obtain ⟨z, e3, e⟩ := ob_some e
      obtain ⟨found', e4, e⟩ := ob_some e
      obtain ⟨bottom', e5, e⟩ := ob_some e
      cases e
      have k1 := fn_qpower G (d := d - 1) (by omega) (M := M) e1
      have k2 := fn_qdivmod G (d := d - 1) (by omega) (M := M) e2
      have k3 := fn_lowered G (d := d - 1) (by omega) (M := M) e3
      have k4 := fn_fadd G (d := d - 1) (by omega) (M := M) e4
      have k5 := fn_qmul G (d := d - 1) (by omega) (M := M) e5
      apply EvB.sub
      · apply B_ifT
        · apply EvT.to
          · walk_at "evt"
          · simp only [decide_eq_true_eq]; omega
        · walk_at "ass"
          apply B_cons
          · apply S_unpack
            · walk_at "ev"
            · refine .cons (A_name (by walk_at "loc")) (.cons (A_name (by walk_at "loc")) .nil ?_) ?_
              all_goals (intro _; rfl)
            · walk_at "env"
            · walk_at "env"
          apply B_cons
          · apply S_swap (names := ["found", "bottom"])
            · walk_at "ev"
            · walk_at "env"
            · rfl
            · decide
            · walk_at "env"
          exact B_nil
        · exact B_nil
      · walk_at "sub"
  · walk_at "ret"
end
section
open F
variable {W : Wd} {d : Nat} {M : Mem}
theorem eqZ_nil : eqD (zv []) (.lst []) = true := by simp [eqD, zv, toD, toDL, PyData.eqv, PyData.eqvAll]
theorem eqZ_cons (x : Int) (r : List Int) : eqD (zv (x :: r)) (.lst []) = false := by simp [eqD, zv, toD, toDL, PyData.eqv, PyData.eqvAll]
theorem plain_zv (z : List Int) (n : Nat) : plainN (n + 1) (zv z) = true := by unfold zv; simp only [plainN]; exact plainL_map (fun a => by simp [plainN]) z
theorem T_neD' {sc : Scope} {σ : Vars} {M₁ M₂ : Mem} {l r : Expr} {pos : Pos} {p q : PV} (h1 : EvE W sc d σ M l p M₁) (h2 : EvE W sc d σ M₁ r q M₂) (hp : plainN 8 p = true) (hq : plainN 8 q = true) (hm : behindInMarks .NotEq r = false) :
    EvT W sc d σ M (.Compare l [.NotEq] [r] pos) (!eqD p q) M₂ := T_neD h1 h2 hp hq hm
/-- the pool of the law's draws -/
noncomputable def poolM (p0 : Nat) (ns : List Int) (k : Nat) : Mem := [[.int (p0 : Nat), zv ns, .int (k : Nat)]]
theorem noMt_pool (p0 : Nat) (ns : List Int) (k : Nat) : noMtL [PV.int (p0 : Nat), zv ns, .int (k : Nat)] = true := by simp [noMtL, noMt, noMt_zv]
theorem small_mul {a b : Int} (ha : a.natAbs ≤ 1000000) (hb : b.natAbs ≤ 1000000) : IntMulOk a b :=
  mul_ok (le_big (Nat.le_trans ha (Nat.le_of_ble_eq_true rfl))) (le_big (Nat.le_trans hb (Nat.le_of_ble_eq_true rfl)))
theorem fn_draw {W : Wd} (G : Good W) {d : Nat} (hd : 1 ≤ d) (p0 : Nat) (hp0 : p0 < 1009) (ns : List Int) (k : Nat) (many : Nat) (hm : 0 < many) (hm2 : many < 100) :
    ∃ p0' v : Nat, p0' < 1009 ∧ v < many ∧ CallR W d "_law_draw" [.mt 0, .int many] (poolM p0 ns k) (.int v) (poolM p0' ns (k + 1)) := by
  have O := G.ok
  have key : ∀ cell : Int, ∃ p0' v : Nat, p0' < 1009 ∧ v < many ∧ ((31 * (p0 : Int) + cell.fmod 997 + 7).fmod 1009) = (p0' : Int) ∧ ((p0' : Int).fdiv 3).fmod many = (v : Int) := by
    intro cell
    refine ⟨((31 * (p0 : Int) + cell.fmod 997 + 7).fmod 1009).toNat, (((((31 * (p0 : Int) + cell.fmod 997 + 7).fmod 1009).toNat : Int).fdiv 3).fmod many).toNat, ?_, ?_, ?_, ?_⟩
    · have := Int.fmod_lt_of_pos (31 * (p0 : Int) + cell.fmod 997 + 7) (b := 1009) (by omega)
      omega
    · have := Int.fmod_lt_of_pos ((((31 * (p0 : Int) + cell.fmod 997 + 7).fmod 1009).toNat : Int).fdiv 3) (b := (many : Int)) (by omega)
      omega
    · have := Int.fmod_nonneg_of_pos (31 * (p0 : Int) + cell.fmod 997 + 7) (b := 1009) (by omega)
      omega
    · have := Int.fmod_nonneg_of_pos ((((31 * (p0 : Int) + cell.fmod 997 + 7).fmod 1009).toNat : Int).fdiv 3) (b := (many : Int)) (by omega)
      omega
  have step : ∀ cell : Int, (∀ (sc : Scope), sc = (fnAt 72).scope → ∀ (e : Expr), (∃ x pos, (fnAt 72).body[1]? = some (.Assign x e pos)) → EvE W sc (d - 1) [("pool", .mt 0), ("many", .int many), ("script", zv ns)] (poolM p0 ns k) e (.int cell) (poolM p0 ns k)) →
      ∃ p0' v : Nat, p0' < 1009 ∧ v < many ∧ CallR W d "_law_draw" [.mt 0, .int many] (poolM p0 ns k) (.int v) (poolM p0' ns (k + 1)) := by
    intro cell hc
    obtain ⟨p0', v, h1, h2, h3, h4⟩ := key cell
    refine ⟨p0', v, h1, h2, ?_⟩
    have m1 : IntMulOk 31 (p0 : Int) := small_mul (by decide) (by omega)
    have m2 : (many : Int) ≠ 0 := by omega
    refine callR G 72 _ rfl (by decide) ["pool", "many"] [] (by walk_at "bind") rfl (by decide) (by decide) (by decide) rfl rfl rfl (by omega) rfl (.same rfl) ?_
    have hc' := hc _ rfl
    walk_at "body"
    refine ⟨[], ?_⟩
    apply EvB.fin
    walk_at "ass"
    apply B_assign (p := .int cell)
    · exact hc' _ ⟨_, _, rfl⟩
    · walk_at "loc"
    · walk_at "env"
    apply B_cons
    · apply EvS.mem (M₂ := poolM p0 ns (k + 1))
      · apply S_setItem (k := 2) (l := [.int (p0 : Nat), zv ns, .int (k : Nat)])
        · walk_at "ev"
        · walk_at "ev"
        · walk_at "ev"
        · rfl
        · decide
        · show (2 : Int) < ((3 : Nat) : Int); decide
        · exact noMt_pool p0 ns (k + 1)
      · rfl
    apply B_cons
    · apply EvS.mem (M₂ := poolM p0' ns (k + 1))
      · apply S_setItem (k := 0) (l := [.int (p0 : Nat), zv ns, .int ((k + 1 : Nat) : Int)]) (p := .int p0')
        · apply EvE.to
          · walk_at "ev"
          · rw [h3]
        · walk_at "ev"
        · walk_at "ev"
        · rfl
        · decide
        · show (0 : Int) < ((3 : Nat) : Int); decide
        · exact noMt_pool p0' ns (k + 1)
      · rfl
    apply EvB.rt
    · walk_at "ret"
    · rw [h4]
  cases ns with
  | nil =>
    refine step 6 ?_
    rintro sc rfl e ⟨x, pos, he⟩
    cases he
    apply E_ite_f
    · apply EvT.to
      · apply T_neD'
        · walk_at "ev"
        · walk_at "ev"
        · exact plain_zv _ _
        · rfl
        · with_unfolding_all rfl
      · exact congrArg Bool.not eqZ_nil
    · walk_at "ev"
  | cons n r =>
    have hlen : ((((n :: r).map PV.int).length : Nat) : Int) ≠ 0 := by simp only [List.length_map, List.length_cons]; omega
    obtain ⟨i, hi, hi2⟩ : ∃ i : Nat, (k : Int).fmod (((n :: r).map PV.int).length : Nat) = (i : Int) ∧ i < (n :: r).length := by
      rw [List.length_map]
      refine ⟨k % (n :: r).length, ?_, Nat.mod_lt _ (by simp)⟩
      rw [Int.fmod_eq_emod_of_nonneg _ (by omega)]; rfl
    have hg : pyGet ((n :: r).map PV.int) ((k : Int).fmod (((n :: r).map PV.int).length : Nat)) = some (.int ((n :: r)[i])) := by
      rw [hi]; exact get_nat PV.int (by simp [hi2])
    refine step (if (n :: r)[i] < 0 then -(n :: r)[i] else (n :: r)[i]) ?_
    rintro sc rfl e ⟨x, pos, he⟩
    cases he
    apply E_ite_t
    · apply EvT.to
      · apply T_neD'
        · walk_at "ev"
        · walk_at "ev"
        · exact plain_zv _ _
        · rfl
        · with_unfolding_all rfl
      · exact congrArg Bool.not (eqZ_cons n r)
    · walk_at "ev"
end
section
open F
variable {W : Wd} {d : Nat} {M : Mem}
theorem pole_len (root : Int) (b : List Int) : (poleStep root b).length = b.length + 1 := by simp [poleStep]
theorem pole_range (root : Int) (b : List Int) : (List.range (b.length + 1)).map (fun i => (0 :: b).getD i 0 - root * (b ++ [0]).getD i 0) = poleStep root b := by
  apply List.ext_getElem
  · simp [poleStep]
  · intro i h1 h2
    have h3 : i < b.length + 1 := by simpa using h1
    simp only [List.getElem_map, List.getElem_range, poleStep, List.getElem_zipWith]
    simp [List.getD, h3]
theorem fromZ_get (l : List Int) {i : Nat} (h : i < l.length) : (fromZ l)[i]? = some (l.getD i 0, 1) := by
  rw [fromZ, List.getElem?_map, List.getD, List.getElem?_eq_getElem h]; rfl
theorem ok_getD {b : List Int} (h : b.all okI = true) (i : Nat) : okI ((b ++ [0]).getD i 0) = true := by
  by_cases hi : i < (b ++ [0]).length
  · have eg : (b ++ [0]).getD i 0 = (b ++ [0])[i] := by simp only [List.getD, List.getElem?_eq_getElem hi, Option.getD_some]
    rw [eg]
    have : ∀ x ∈ b ++ [0], okI x = true := by
      intro x hx
      rcases List.mem_append.mp hx with hx | hx
      · exact List.all_eq_true.mp h x hx
      · cases List.mem_singleton.mp hx; rfl
    exact this _ (List.getElem_mem hi)
  · rw [getD_out _ _ (by omega)]; rfl
theorem pole_run {W : Wd} {sc : Scope} {d : Nat} {M : Mem} {target : Expr} {body : List Stmt} {root : Int} (inj : Nat → PV) (st : List Int → Vars)
    (h : ∀ i b, b.all okI = true → b.length ≤ 1001 → ∃ σ₁, EvA W sc d false (st b) M target (inj i) σ₁ M ∧ EvB W sc d σ₁ M body .nx (st (poleStep root b)) M) :
    ∀ (l : List Nat) (b r : List Int), poleLoop root l.length b = some r → b.length + l.length ≤ 1001 → ForRun W sc d target body (l.map inj) (st b) M .nx (st r) M
  | [], b, r, e, _ => by cases e; exact .nil
  | i :: l, b, r, e, hl => by
    obtain ⟨h1, e⟩ := gd_some (show gd (b.all okI) (poleLoop root l.length (poleStep root b)) = some r from e)
    simp only [List.length_cons] at hl
    obtain ⟨σ₁, a1, a2⟩ := h i b h1 (by omega)
    exact .step a1 a2 (pole_run inj st h l _ r e (by rw [pole_len]; omega))
theorem fn_pole {W : Wd} (G : Good W) {d : Nat} (hd : 9 ≤ d) {M : Mem} {number root : Int} {many : Nat} {r : R} (h : pole number root many = some r) : CallR W d "_law_pole" [.int number, .int root, .int many] M (rv r) M := by
  have O := G.ok
  obtain ⟨hr, h⟩ := gd_some h
  obtain ⟨hz, h⟩ := gd_some h
  have hz := Nat.le_of_ble_eq_true hz
  obtain ⟨b, hb, h⟩ := ob_some h
  have c1 := fn_fmake G (d := d - 1) (by omega) (M := M) h
  refine callS G 73 _ rfl (by decide) ["number", "root", "many"] (by walk_at "bind") rfl (by decide) (by decide) (by decide) rfl rfl rfl (by omega) (noMt_rv _) ?_
  walk_at "body"
  refine ⟨[], ?_⟩
  apply EvB.fin
  apply B_assign (p := pv (fromZ [1]))
  · walk_at "ev"
  · walk_at "loc"
  · walk_at "env"
  apply Ev.pre' (σ₁ := [("number", .int number), ("root", .int root), ("many", .int many), ("bottom", pv (fromZ [1]))])
  · walk_at "sub"
  apply B_for (σ₁ := [("number", .int number), ("root", .int root), ("many", .int many), ("bottom", pv (fromZ b))]) (M₂ := M)
  · apply I_range1 (by assumption)
    · walk_at "ev"
    · omega
    · omega
  · intro _ _; rfl
  · refine pole_run (root := root) (fun i : Nat => PV.int (0 + (i : Int) * 1)) (fun b => [("number", .int number), ("root", .int root), ("many", .int many), ("bottom", pv (fromZ b))]) ?_ (List.range many) [1] b (by rw [List.length_range]; exact hb) (by simp; omega)
    intro i b ho hl
    refine ⟨_, A_name (.inl rfl), ?_⟩
    apply EvB.sub
    · apply B_assign (p := pv (fromZ (0 :: b)))
      · apply EvE.to
        · apply E_cat
          · walk_at "ev"
          · walk_at "ev"
          · rfl
          · rfl
          · simp [fromZ]; omega
        · rfl
      · walk_at "loc"
      · walk_at "env"
      apply B_assign (p := pv (fromZ (poleStep root b)))
      · apply EvE.to
        · apply E_comp' (σc := [("longer", pv (fromZ (0 :: b))), ("root", .int root), ("bottom", pv (fromZ b))]) (qs := (poleStep root b).map fun x => qv (x, 1))
          · apply I_range1 (by assumption)
            · walk_at "ev"
            · simp [fromZ]; omega
            · simp [fromZ]; omega
          · walk_at "compok"
          · walk_at "sub"
          · walk_at "seen"
          · intro _ _; rfl
          · have e1 : (((fromZ (0 :: b)).map qv).length : Int).toNat = b.length + 1 := by simp [fromZ]
            rw [e1, ← pole_range root b]
            refine CompRun.mapO (fun i : Nat => PV.int (0 + (i : Int) * 1)) (fun x => qv (x, 1)) (fun i => gd (decide (i < b.length + 1)) (some ((0 :: b).getD i 0 - root * (b ++ [0]).getD i 0))) (fun _ => noMt_qv _) ?_ (List.range (b.length + 1)) _ ?_
            · intro i c e
              obtain ⟨hi, e⟩ := gd_some e
              have hi := of_decide_eq_true hi
              cases e
              have g1 : pyGet ((fromZ (0 :: b)).map qv) (0 + (i : Int) * 1) = some (qv ((0 :: b).getD i 0, 1)) := by
                rw [show 0 + (i : Int) * 1 = (i : Int) by omega]
                apply get_nat
                exact fromZ_get _ (by simpa using hi)
              have g2 : pyGet ((fromZ b).map qv ++ [PV.tup [.int 0, .int 1]]) (0 + (i : Int) * 1) = some (qv ((b ++ [0]).getD i 0, 1)) := by
                rw [show (fromZ b).map qv ++ [PV.tup [.int 0, .int 1]] = (fromZ (b ++ [0])).map qv by simp [fromZ]; rfl]
                rw [show 0 + (i : Int) * 1 = (i : Int) by omega]
                apply get_nat
                exact fromZ_get _ (by simpa using hi)
              have m1 : IntMulOk root ((b ++ [0]).getD i 0) := mul_ok (okI_big hr) (okI_big (ok_getD ho i))
              clear e
              generalize (b ++ [0]).getD i 0 = q0 at g2 m1 ⊢
              refine ⟨_, setV_sub (by walk_at "sub") rfl, fun acc => ⟨A_nameL rfl, ?_⟩⟩
              apply E_tuple'
              · apply L_cons'
                · apply E_sub
                  · walk_at "ev"
                  · apply E_mul
                    · walk_at "ev"
                    · apply E_idx' (q := .int q0)
                      · apply E_idx'
                        · apply E_cat
                          · walk_at "ev"
                          · walk_at "ev"
                          · rfl
                          · rfl
                          · simp [fromZ]; omega
                        · walk_at "ev"
                        · rfl
                        · exact g2
                        · intro _ _; rfl
                      · walk_at "ev"
                      · rfl
                      · rfl
                      · intro _ _; rfl
                    · exact m1
                · walk_at "evl"
                · intro _; rfl
              · exact Nat.le_of_ble_eq_true rfl
            · rw [mapO_congr (g := fun i => some ((0 :: b).getD i 0 - root * (b ++ [0]).getD i 0)) (fun i hi => by simp only [gd, List.mem_range.mp hi, decide_true]), mapO_pure]
        · unfold pv fromZ; rw [List.map_map]; rfl
      · walk_at "loc"
      · walk_at "env"
      exact B_nil
    · walk_at "sub"
  · walk_at "ret"
end
section
open F
variable {W : Wd} {d : Nat} {M : Mem}
theorem eqD_zero (v : Q) : eqD (qv v) (.tup [.int 0, .int 1]) = eqQ v (0, 1) := by
  obtain ⟨a, n⟩ := v
  unfold eqQ
  have h1 : intB a 0 = decide (a = 0) := by
    cases h : intB a 0 with
    | true => rw [(intB_eq a 0).mp h]; rfl
    | false => rw [decide_eq_false]; intro e; rw [(intB_eq a 0).mpr e] at h; cases h
  have h2 : Nat.beq n 1 = decide (n = 1) := by
    cases h : Nat.beq n 1 with
    | true => rw [Nat.eq_of_beq_eq_true h]; rfl
    | false => rw [decide_eq_false]; intro e; rw [e] at h; cases h
  show eqD (qv (a, n)) (.tup [.int 0, .int 1]) = match intB a 0 with
    | true => Nat.beq n 1
    | false => false
  rw [h1, h2]
  by_cases ha : a = 0
  · subst ha
    by_cases hn : n = 1
    · subst hn; simp [eqD, qv, toD, toDL, PyData.eqv, PyData.eqvAll]
    · have : ¬ ((n : Int) = 1) := by omega
      simp [eqD, qv, toD, toDL, PyData.eqv, PyData.eqvAll, hn, this]
  · simp [eqD, qv, toD, toDL, PyData.eqv, PyData.eqvAll, ha]
noncomputable def carryOf (root : Int) (x c : Q) : Q := (x.1 * Int.ofNat c.2 + c.1 * root * Int.ofNat x.2, Nat.mul x.2 c.2)
structure CarryOk (root : Int) (x c : Q) : Prop where
  h1 : okI root = true
  h2 : okI x.1 = true
  h3 : okI c.1 = true
  h4 : okI (c.1 * root) = true
  h5 : x.2 + c.2 ≤ lim
theorem ordDiv_run {W : Wd} {sc : Scope} {d : Nat} {M : Mem} {target : Expr} {body : List Stmt} {root : Int} (st : Q → Vars)
    (h : ∀ (x c : Q) (acc : P), CarryOk root x c → acc.length ≤ 1000 → ∃ σ₁, EvA W sc d false (st c) (M ++ [acc.map qv]) target (qv x) σ₁ (M ++ [acc.map qv]) ∧ EvB W sc d σ₁ (M ++ [acc.map qv]) body .nx (st (carryOf root x c)) (M ++ [(acc ++ [carryOf root x c]).map qv])) :
    ∀ (l : P) (c : Q) (acc t : P), ordDiv root l c = some t → acc.length + l.length ≤ 1000 → ∃ c', ForRun W sc d target body (l.map qv) (st c) (M ++ [acc.map qv]) .nx (st c') (M ++ [(acc ++ t).map qv])
  | [], c, acc, t, e, _ => by cases e; exact ⟨c, by rw [List.append_nil]; exact .nil⟩
  | x :: l, c, acc, t, e, hl => by
    obtain ⟨h1, e⟩ := gd_some e
    obtain ⟨h2, e⟩ := gd_some e
    obtain ⟨h3, e⟩ := gd_some e
    obtain ⟨h4, e⟩ := gd_some e
    obtain ⟨h5, e⟩ := gd_some e
    obtain ⟨t', ht, e⟩ := ob_some e
    cases e
    simp only [List.length_cons] at hl
    obtain ⟨σ₁, a1, a2⟩ := h x c acc ⟨h1, h2, h3, h4, Nat.le_of_ble_eq_true h5⟩ (by omega)
    obtain ⟨c', hr⟩ := ordDiv_run st h l (carryOf root x c) (acc ++ [carryOf root x c]) t' ht (by simp; omega)
    refine ⟨c', .step a1 a2 ?_⟩
    rw [List.append_assoc] at hr
    exact hr
noncomputable def ordSt (f : R) (root : Int) (bottom : P) (many : Nat) : Vars := [("f", rv f), ("root", .int root), ("many", .int (many : Nat)), ("bottom", pv bottom)]
theorem ord_run {W : Wd} {sc : Scope} {d : Nat} {M : Mem} {f : R} {root : Int} {r : Nat} : ∀ {n : Nat} {N : Mem} {bottom : P} {many : Nat}, ordLoop root n bottom many = some r → ∃ (N' : Mem) (bottom' : P), ∀ test body,
      (∀ N bottom many, ¬ 2 ≤ bottom.length → EvT W sc d (ordSt f root bottom many) (M ++ N) test false (M ++ N)) →
      (∀ N bottom many v, 2 ≤ bottom.length → qat bottom (root, 1) = some v → EvT W sc d (ordSt f root bottom many) (M ++ N) test (eqQ v (0, 1)) (M ++ N)) →
      (∀ N bottom many l, ordDiv root bottom.reverse (0, 1) = some l → bottom.length ≤ 1000 → EvB W sc d (ordSt f root bottom many) (M ++ N) body .nx (ordSt f root l.dropLast.reverse (many + 1)) (M ++ (N ++ [l.map qv]))) →
      ∃ n, WhileRun W sc d test body n (ordSt f root bottom many) (M ++ N) .nx (ordSt f root bottom' r) (M ++ N') := by
  intro n
  induction n with
  | zero => intro _ _ _ ho; cases ho
  | succ n ih =>
    intro N bottom many ho
    unfold ordLoop at ho
    split at ho
    · rename_i hlt
      cases ho
      exact ⟨N, bottom, fun test body t1 t2 t3 => WhileRun.some_done (t1 _ _ _ fun h => by rw [Nat.ble_eq_true_of_le h] at hlt; cases hlt)⟩
    · rename_i hle
      have hle := Nat.le_of_ble_eq_true hle
      obtain ⟨v, hv, ho⟩ := ob_some ho
      split at ho
      · rename_i hz
        cases ho
        exact ⟨N, bottom, fun test body t1 t2 t3 => WhileRun.some_done (hz ▸ t2 _ _ _ _ hle hv)⟩
      · rename_i hz
        obtain ⟨hb, ho⟩ := gd_some ho
        obtain ⟨l, hl, ho⟩ := ob_some ho
        obtain ⟨N', b', hw⟩ := ih (N := N ++ [l.map qv]) ho
        exact ⟨N', b', fun test body t1 t2 t3 => WhileRun.some_step (hz ▸ t2 _ _ _ _ hle hv) (t3 _ _ _ _ hl (Nat.le_of_ble_eq_true hb)) (hw test body t1 t2 t3)⟩
theorem B_forX {W : Wd} {sc : Scope} {d : Nat} {σ σ₂ : Vars} {M M₁ M₂ M₃ : Mem} {α : Type} (st' : α → Vars) {target iter : Expr} {body : List Stmt} {items : List PV} {pos : Pos} {sts : List Stmt} {f : Fl} (hi : EvI W sc d σ M target iter items M₁) (hs : ∀ x env, foldedSetIterable iter env x = pure x) (run : ∃ c, ForRun W sc d target body items σ M₁ .nx (st' c) M₂)
    (hb : ∀ c, EvB W sc d (st' c) M₂ sts f σ₂ M₃) : EvB W sc d σ M (.For target iter body [] pos :: sts) f σ₂ M₃ := by
  obtain ⟨c, run⟩ := run
  exact B_for hi hs run (hb c)
theorem fn_order {W : Wd} (G : Good W) {d : Nat} (hd : 6 ≤ d) {M : Mem} {f : R} {root : Int} {r : Nat} (h : order f root = some r) : CallR W d "_law_order" [rv f, .int root] M (.int r) M := by
  have O := G.ok
  obtain ⟨N', b', hrun⟩ := ord_run (W := W) (sc := (fnAt 74).scope) (d := d - 1) (M := M) (f := f) (N := []) h
  refine callR G 74 _ rfl (by decide) ["f", "root"] N' (by walk_at "bind") rfl (by decide) (by decide) (by decide) rfl rfl rfl (by omega) rfl (q := .int r) (.same rfl) ?_
  walk_at "body"
  refine ⟨[], ?_⟩
  apply B_cons
  · apply S_swap (names := ["many", "bottom"])
    · walk_at "ev"
    · walk_at "env"
    · rfl
    · decide
    · walk_at "env"
  apply Ev.pre' (σ₁ := ordSt f root f.2 0)
  · walk_at "sub"
  rw [List.append_nil] at hrun
  apply EvB.fin
  apply B_while (σ₁ := ordSt f root b' r) (M₁ := M ++ N')
  · apply hrun
    · intro N bottom many hlt
      apply T_and_f
      apply EvT.to
      · walk_at "evt"
      · simp only [List.length_map, decide_eq_false_iff_not]; omega
    · intro N bottom many v hle hv
      have c1 := fn_qat G (d := d - 1) (by omega) (M := M ++ N) hv
      apply T_and_t (M₁ := M ++ N)
      · apply EvT.to
        · walk_at "evt"
        · simp only [List.length_map, decide_eq_true_eq]; omega
      rw [← eqD_zero]
      cases hz : eqD (qv v) (.tup [.int 0, .int 1]) with
      | false =>
        apply T_and_f
        apply EvT.to
        · apply T_eqD'
          · walk_at "ev"
          · walk_at "ev"
          · exact plain_qv _ _
          · rfl
          · with_unfolding_all rfl
        · exact hz
      | true =>
        apply T_and_t (M₁ := M ++ N)
        · apply EvT.to
          · apply T_eqD'
            · walk_at "ev"
            · walk_at "ev"
            · exact plain_qv _ _
            · rfl
            · with_unfolding_all rfl
          · exact hz
        · exact T_and_nil
    · intro N bottom many l hl hb
      rw [← List.append_assoc]
      apply B_cons
      · apply S_swap (names := ["found", "carry"])
        · apply E_tuple'
          · apply L_cons'
            · apply E_listM
              · walk_at "evl"
              · exact Nat.le_of_ble_eq_true rfl
              · rfl
            · walk_at "evl"
            · intro _; rfl
          · exact Nat.le_of_ble_eq_true rfl
        · walk_at "env"
        · rfl
        · decide
        · walk_at "env"
      apply Ev.pre' (σ₁ := ordSt f root bottom many ++ ([("found", .mt (M ++ N).length), ("carry", qv (0, 1))] : Vars))
      · walk_at "sub"
      apply B_forX (fun c => ordSt f root bottom many ++ ([("found", .mt (M ++ N).length), ("carry", qv c)] : Vars)) (items := bottom.reverse.map qv) (M₂ := M ++ N ++ [l.map qv])
      · apply I_list
        apply EvE.to
        · walk_at "ev"
        · rw [pySlice_rev, List.map_reverse]
      · intro _ _; rfl
      · refine ordDiv_run (M := M ++ N) (root := root) (fun c => ordSt f root bottom many ++ ([("found", .mt (M ++ N).length), ("carry", qv c)] : Vars)) ?_ bottom.reverse (0, 1) [] l hl (by simp; omega)
        intro x c acc ok ha
        refine ⟨_, A_name (.inl rfl), ?_⟩
        have m1 : IntMulOk x.1 (c.2 : Int) := mul_ok (okI_big ok.h2) (le_big (by have := ok.h5; show c.2 ≤ _; omega))
        have m2 : IntMulOk c.1 root := mul_ok (okI_big ok.h3) (okI_big ok.h1)
        have m3 : IntMulOk (c.1 * root) (x.2 : Int) := mul_ok (okI_big ok.h4) (le_big (by have := ok.h5; show x.2 ≤ _; omega))
        have m4 : IntMulOk (x.2 : Int) (c.2 : Int) := mul_ok (le_big (by have := ok.h5; show x.2 ≤ _; omega)) (le_big (by have := ok.h5; show c.2 ≤ _; omega))
        apply EvB.sub
        · apply B_assign (p := qv (carryOf root x c))
          · apply EvE.to
            · walk_at "ev"
            · show PV.tup [_, PV.int ((x.2 : Int) * (c.2 : Int))] = PV.tup [_, PV.int ((x.2 * c.2 : Nat) : Int)]
              rw [Int.natCast_mul]; rfl
          · walk_at "loc"
          · walk_at "env"
          apply B_cons
          · apply EvS.mem (M₂ := M ++ N ++ [(acc ++ [carryOf root x c]).map qv])
            · apply S_append (l := acc.map qv) (j := (M ++ N).length) (p := qv (carryOf root x c))
              · walk_at "ev"
              · walk_at "ev"
              · exact mem_last _ _
              · rw [List.length_map]; omega
              · exact noMtL_append (noMtL_map noMt_qv _) (noMtL_map noMt_qv [carryOf root x c])
            · rw [mem_set, List.map_append]; rfl
          · exact B_nil
        · walk_at "sub"
      · intro c
        have e1 : PV.lst (pySlice (pySlice (l.map qv) none (some (-1)) none) none none (some (-1))) = pv l.dropLast.reverse := by
          rw [pySlice_m1, pySlice_rev, ← List.map_dropLast, ← List.map_reverse]; rfl
        have gm : listOfP (M ++ N ++ [l.map qv]) (.mt (M ++ N).length) = some (l.map qv) := mem_last _ _
        apply EvB.sub
        · apply B_cons
          · apply S_swap (names := ["bottom", "many"])
            · walk_at "ev"
            · walk_at "env"
            · rfl
            · decide
            · walk_at "env"
          · exact B_nil
        · refine ⟨rfl, rfl, rfl, ?_, trivial⟩
          exact congrArg some e1
  · walk_at "ret"
end
section
open F
variable {W : Wd} {d : Nat} {M : Mem}
-- equality
theorem eqQ_eq {a b : Q} (h : eqQ a b = true) : a = b := by
  unfold eqQ at h
  split at h
  · rename_i h1
    exact Prod.ext ((intB_eq _ _).mp h1) (Nat.eq_of_beq_eq_true h)
  · cases h
theorem eqP_eq : ∀ {a b : P}, eqP a b = true → a = b
  | [], b, h => by
    cases b with
    | nil => rfl
    | cons x r => cases h
  | x :: a, b, h => by
    cases b with
    | nil => cases h
    | cons y b =>
      unfold eqP at h
      split at h
      · cases h
      · rename_i y' b' e
        cases e
        split at h
        · rename_i h1
          rw [eqQ_eq h1, eqP_eq h]
        · cases h
theorem eqR_eq {a b : R} (h : eqR a b = true) : a = b := by
  unfold eqR at h
  split at h
  · rename_i h1
    exact Prod.ext (eqP_eq h1) (eqP_eq h)
  · cases h
theorem same_qv (a : Q) : PyData.eqv (toD (qv a)) (toD (qv a)) = true := by simp [qv, toD, toDL, PyData.eqv, PyData.eqvAll]
theorem same_all : ∀ p : P, PyData.eqvAll (toDL (p.map qv)) (toDL (p.map qv)) = true
  | [] => by simp [toDL, PyData.eqvAll]
  | x :: p => by
    simp only [List.map_cons, toDL, PyData.eqvAll, Bool.and_eq_true]
    exact ⟨same_qv x, same_all p⟩
theorem same_pv (p : P) : PyData.eqv (toD (pv p)) (toD (pv p)) = true := by
  simp only [pv, toD, PyData.eqv]; exact same_all p
theorem same_rv (f : R) : PyData.eqv (toD (rv f)) (toD (rv f)) = true := by
  simp only [rv, toD, toDL, PyData.eqv, PyData.eqvAll, same_pv, Bool.and_self]
theorem same_R (f : R) : eqD (rv f) (rv f) = true := same_rv f
theorem same_RR (f g : R) : eqD (.tup [rv f, rv g]) (.tup [rv f, rv g]) = true := by
  simp only [eqD, toD, toDL, PyData.eqv, PyData.eqvAll, same_rv, Bool.and_self]
theorem E_eqD' {sc : Scope} {σ : Vars} {M₁ M₂ : Mem} {l r : Expr} {pos : Pos} {p q : PV} (h1 : EvE W sc d σ M l p M₁) (h2 : EvE W sc d σ M₁ r q M₂) (hp : plainN 8 p = true) (hq : plainN 8 q = true) (hm : behindInMarks .Eq r = false) :
    EvE W sc d σ M (.Compare l [.Eq] [r] pos) (.bool (eqD p q)) M₂ := E_eqD h1 h2 hp hq hm

-- the loop over the roots
theorem rangeP_succ (a : Int) (n : Nat) : rangeP a 1 (n + 1) = PV.int a :: rangeP (a + 1) 1 n := by
  unfold rangeP
  rw [List.range_succ_eq_map, List.map_cons, List.map_map]
  congr 1
  · congr 1; simp
  · apply List.map_congr_left
    intro i _
    show PV.int (a + ((i + 1 : Nat) : Int) * 1) = PV.int (a + 1 + (i : Int) * 1)
    congr 1; omega
structure RootIs (done whole left : R) (root : Int) (o1 o2 o3 : Nat) : Prop where
  h1 : order done root = some o1
  h2 : order whole root = some o2
  h3 : order left root = some o3
  e : o1 = o2 - 1
  l : o3 ≤ 1
theorem rootOk_is {done whole left : R} {root : Int} (h : rootOk done whole left root = true) : ∃ o1 o2 o3, RootIs done whole left root o1 o2 o3 := by
  unfold rootOk at h
  split at h
  · cases h
  rename_i o1 e1
  split at h
  · cases h
  rename_i o2 e2
  split at h
  · cases h
  rename_i o3 e3
  split at h
  · cases h
  rename_i e4
  exact ⟨o1, o2, o3, e1, e2, e3, Nat.eq_of_beq_eq_true e4, Nat.le_of_ble_eq_true h⟩
theorem roots_run {W : Wd} {sc : Scope} {d : Nat} {σ : Vars} {M : Mem} {target : Expr} {body : List Stmt} {done whole left : R}
    (h : ∀ root o1 o2 o3, RootIs done whole left root o1 o2 o3 → ∃ σ₁, EvA W sc d false σ M target (.int root) σ₁ M ∧ EvB W sc d σ₁ M body .nx σ M) :
    ∀ (n : Nat) (root : Int), rootsOk done whole left n root = true → ForRun W sc d target body (rangeP root 1 n) σ M .nx σ M
  | 0, root, _ => .nil
  | n + 1, root, e => by
    unfold rootsOk at e
    split at e
    · cases e
    rename_i h1
    obtain ⟨o1, o2, o3, hr⟩ := rootOk_is h1
    obtain ⟨σ₁, a1, a2⟩ := h root o1 o2 o3 hr
    rw [rangeP_succ]
    exact .step a1 a2 (roots_run h n (root + 1) e)
end
section
open F
variable {W : Wd} {d : Nat} {M : Mem}
structure RestOk (first : Int) (f : R) : Prop where
  hf : fOk f = true
  he : endOk = true
  hg : ∀ x y z u : Nat, x < 3 → y < 3 → z < 2 → u < 2 → ∃ g dg, theG (first + (y : Int)) x z u = some g ∧ fderive g = some dg ∧ wholeOk first f g dg = true ∧ gOk g dg = true
structure WholeIs (first : Int) (f g dg : R) (whole : R) (x : R × R) (apart : R) : Prop where
  h1 : fadd f dg = some whole
  h2 : hermite whole = some x
  h3 : x.2 = f
  h4 : ¬ x.2.2.length ≤ x.2.1.length
  h5 : fsub x.1 g = some apart
  h6 : apart.1.length ≤ 1
  h7 : apart.2.length ≤ 1
  h8 : rootsOk x.1 whole x.2 5 (first - 1) = true
theorem wholeOk_is {first : Int} {f g dg : R} (h : wholeOk first f g dg = true) : ∃ whole x apart, WholeIs first f g dg whole x apart := by
  unfold wholeOk at h
  split at h
  · cases h
  rename_i whole e1
  split at h
  · cases h
  rename_i x e2
  split at h
  · cases h
  rename_i e3
  split at h
  · cases h
  rename_i e4
  split at h
  · cases h
  rename_i apart e5
  split at h
  · cases h
  rename_i e6
  split at h
  · cases h
  rename_i e7
  exact ⟨whole, x, apart, e1, e2, eqR_eq e3, fun hh => (by rw [Nat.ble_eq_true_of_le hh] at e4; cases e4), e5, Nat.le_of_ble_eq_true e6, Nat.le_of_ble_eq_true e7, h⟩
theorem gOk_is {g dg : R} (h : gOk g dg = true) : ∃ x y, hermite dg = some x ∧ x.2 = F0 ∧ fsub x.1 g = some y ∧ y.1.length ≤ 1 := by
  unfold gOk at h
  split at h
  · cases h
  rename_i x e1
  split at h
  · cases h
  rename_i e2
  split at h
  · cases h
  rename_i y e3
  exact ⟨x, y, e1, eqR_eq e2, e3, Nat.le_of_ble_eq_true h⟩
theorem fOk_is {f : R} (h : fOk f = true) : hermite f = some (F0, f) := by
  unfold fOk at h
  split at h
  · cases h
  rename_i x e1
  split at h
  · cases h
  rename_i e2
  rw [e1, show x = (F0, f) from Prod.ext (eqR_eq e2) (eqR_eq h)]
theorem endOk_is (h : endOk = true) : ∃ p x, pole 3 0 3 = some p ∧ hermite p = some x ∧ x.2 = F0 ∧ fmake [(-3, 1)] [(0, 1), (0, 1), (2, 1)] = some x.1 := by
  unfold endOk at h
  split at h
  · cases h
  rename_i p e1
  split at h
  · cases h
  rename_i x e2
  split at h
  · cases h
  rename_i e3
  split at h
  · cases h
  rename_i q e4
  exact ⟨p, x, e1, e2, eqR_eq e3, by rw [e4, eqR_eq h]⟩
theorem plain_RR (f g : R) : plainN 8 (.tup [rv f, rv g]) = true := by simp [plainN, plainL, plain_rv]
theorem law_rest {W : Wd} (G : Good W) {d : Nat} (hd : 11 ≤ d) {first : Int} (hfi : -1000 ≤ first) (hfi2 : first ≤ 1000) {f : R} (H : RestOk first f) (p0 : Nat) (hp0 : p0 < 1009) (ns : List Int) (k : Nat) :
    ∃ p0', EvB W (fnAt 75).scope d [("pool", .mt 0), ("first", .int first), ("f", rv f)] (poolM p0 ns k) ((fnAt 75).body.drop 5) (.rt (.bool true)) [] (poolM p0' ns (k + 4)) := by
  have O := G.ok
  obtain ⟨p1, x, hp1, hx, d1⟩ := fn_draw G (d := d) (by omega) p0 hp0 ns k 3 (by omega) (by omega)
  obtain ⟨p2, y, hp2, hy, d2⟩ := fn_draw G (d := d) (by omega) p1 hp1 ns (k + 1) 3 (by omega) (by omega)
  obtain ⟨p3, z, hp3, hz, d3⟩ := fn_draw G (d := d) (by omega) p2 hp2 ns (k + 1 + 1) 2 (by omega) (by omega)
  obtain ⟨p4, u, hp4, hu, d4⟩ := fn_draw G (d := d) (by omega) p3 hp3 ns (k + 1 + 1 + 1) 2 (by omega) (by omega)
  obtain ⟨g, dg, hg, hdg, hw, hgo⟩ := H.hg x y z u hx hy hz hu
  obtain ⟨gp, hgp, hga⟩ := ob_some hg
  obtain ⟨whole, xx, apart, w⟩ := wholeOk_is hw
  obtain ⟨al, ap, a1, a2, a3, a4⟩ := gOk_is hgo
  have b1 := fOk_is H.hf
  obtain ⟨pe, xe, e1, e2, e3, e4⟩ := endOk_is H.he
  refine ⟨p4, ?_⟩
  show EvB W _ d _ _ _ _ _ (poolM p4 ns (k + 1 + 1 + 1 + 1))
  generalize hM4 : poolM p4 ns (k + 1 + 1 + 1 + 1) = M4
  rw [hM4] at d4
  have c1 := fn_pole G (d := d) (by omega) (M := poolM p3 ns (k + 1 + 1 + 1)) hgp
  rw [show ((1 + z : Nat) : Int) = 1 + (z : Int) by omega] at c1
  have c2 := fn_fpoly G (d := d) (by omega) (M := M4) [(0, 1), (1 + (u : Int), 1)]
  have c3 := fn_fadd G (d := d) (by omega) (M := M4) hga
  have c4 := fn_fderive G (d := d) (by omega) (M := M4) hdg
  have c5 := fn_fadd G (d := d) (by omega) (M := M4) w.h1
  have c6 := fn_hermite G (d := d) (by omega) (M := M4) w.h2
  have c7 := fn_fsub G (d := d) (by omega) (M := M4) w.h5
  have c8 := fn_hermite G (d := d) (by omega) (M := M4) a1
  have c9 := fn_fsub G (d := d) (by omega) (M := M4) a3
  have c10 := fn_hermite G (d := d) (by omega) (M := M4) b1
  have c11 := fn_pole G (d := d) (by omega) (M := M4) e1
  have c12 := fn_hermite G (d := d) (by omega) (M := M4) e2
  have c13 := fn_fmake G (d := d) (by omega) (M := M4) e4
  obtain ⟨xd, xl⟩ := xx
  obtain rfl : xl = f := w.h3
  have w4 := w.h4
  have w6 := w.h6
  have w7 := w.h7
  have w8 := w.h8
  dsimp only at w4 w6 w7 w8 c6 c7
  obtain ⟨al1, al2⟩ := al
  obtain rfl : al2 = F0 := a2
  obtain ⟨xe1, xe2⟩ := xe
  obtain rfl : xe2 = F0 := e3
  dsimp only at c8 c9 c12 c13
  conv => pattern List.drop 5 _; whnf
  apply EvB.fin
  walk_at "ass"
  walk_at "ass"
  walk_at "ass"
  apply B_cons
  · apply S_unpack
    · walk_at "ev"
    · refine .cons (A_name (by walk_at "loc")) (.cons (A_name (by walk_at "loc")) .nil ?_) ?_
      all_goals (intro _; rfl)
    · walk_at "env"
    · walk_at "env"
  apply B_ifF
  · apply T_or_f (M₁ := M4)
    · apply EvT.to
      · apply T_neD'
        · walk_at "ev"
        · walk_at "ev"
        · exact plain_rv _ _
        · exact plain_rv _ _
        · with_unfolding_all rfl
      · exact congrArg Bool.not (same_R _)
    apply T_or_f (M₁ := M4)
    · apply EvT.to
      · walk_at "evt"
      · simp only [List.length_map, decide_eq_false_iff_not]; omega
    exact T_or_nil
  walk_at "ass"
  apply B_ifF
  · apply T_or_f (M₁ := M4)
    · apply EvT.to
      · walk_at "evt"
      · simp only [List.length_map, decide_eq_false_iff_not]; omega
    apply T_or_f (M₁ := M4)
    · apply EvT.to
      · walk_at "evt"
      · simp only [List.length_map, decide_eq_false_iff_not]; omega
    exact T_or_nil
  apply Ev.pre' (σ₁ := [("first", .int first), ("f", rv xl), ("g", rv g), ("whole", rv whole), ("done", rv xd), ("left", rv xl)])
  · walk_at "sub"
  apply B_for (M₂ := M4) (σ₁ := [("first", .int first), ("f", rv xl), ("g", rv g), ("whole", rv whole), ("done", rv xd), ("left", rv xl)])
  · apply I_range2 (by assumption)
    · walk_at "ev"
    · walk_at "ev"
    all_goals omega
  · intro _ _; rfl
  · rw [show (first + 4 - (first - 1)).toNat = 5 by omega]
    refine roots_run (W := W) (done := xd) (whole := whole) (left := xl) ?_ 5 (first - 1) w8
    intro root o1 o2 o3 r
    have k1 := fn_order G (d := d) (by omega) (M := M4) r.h1
    have k2 := fn_order G (d := d) (by omega) (M := M4) r.h2
    have k3 := fn_order G (d := d) (by omega) (M := M4) r.h3
    have e := r.e
    have l := r.l
    refine ⟨_, A_name (.inl rfl), ?_⟩
    apply EvB.sub
    · apply B_ifF
      · apply T_or_f (M₁ := M4)
        · apply EvT.to
          · walk_at "evt"
          · rw [bne_eq_false_iff_eq]; split <;> omega
        apply T_or_f (M₁ := M4)
        · apply EvT.to
          · walk_at "evt"
          · simp only [decide_eq_false_iff_not]; omega
        exact T_or_nil
      exact B_nil
    · walk_at "sub"
  apply B_cons
  · apply S_unpack
    · walk_at "ev"
    · refine .cons (A_name (by walk_at "loc")) (.cons (A_name (by walk_at "loc")) .nil ?_) ?_
      all_goals (intro _; rfl)
    · walk_at "env"
    · walk_at "env"
  apply B_ifF
  · apply T_or_f (M₁ := M4)
    · apply EvT.to
      · apply T_neD'
        · walk_at "ev"
        · walk_at "ev"
        · exact plain_rv _ _
        · exact plain_rv F0 _
        · with_unfolding_all rfl
      · exact congrArg Bool.not (same_R F0)
    apply T_or_f (M₁ := M4)
    · apply EvT.to
      · walk_at "evt"
      · simp only [List.length_map, decide_eq_false_iff_not]; omega
    apply T_or_f (M₁ := M4)
    · apply EvT.to
      · apply T_neD'
        · walk_at "ev"
        · walk_at "ev"
        · exact plain_RR F0 xl
        · exact plain_RR F0 xl
        · with_unfolding_all rfl
      · exact congrArg Bool.not (same_RR F0 xl)
    exact T_or_nil
  apply B_cons
  · apply S_unpack
    · walk_at "ev"
    · refine .cons (A_name (by walk_at "loc")) (.cons (A_name (by walk_at "loc")) .nil ?_) ?_
      all_goals (intro _; rfl)
    · walk_at "env"
    · walk_at "env"
  apply B_retE
  apply E_and2 (M₁ := M4)
  · apply EvE.to
    · apply E_eqD'
      · walk_at "ev"
      · walk_at "ev"
      · exact plain_rv F0 _
      · exact plain_rv F0 _
      · with_unfolding_all rfl
    · exact congrArg PV.bool (same_R F0)
  · apply EvE.to
    · apply E_eqD'
      · walk_at "ev"
      · walk_at "ev"
      · exact plain_rv _ _
      · exact plain_rv _ _
      · with_unfolding_all rfl
    · exact congrArg PV.bool (same_R _)
end
section
open F
variable {W : Wd} {d : Nat} {M : Mem}
theorem pySlice_24 (l : List PV) : pySlice l none (some 24) none = l.take 24 := by
  simp only [pySlice, Option.elim]
  rw [show (24 : Int) = ((24 : Nat) : Int) from rfl, clipAt_nat, List.drop_zero, Nat.sub_zero]
  by_cases h : 24 ≤ l.length
  · rw [Nat.min_eq_left h]
  · rw [Nat.min_eq_right (by omega), List.take_length, List.take_of_length_le (by omega)]
noncomputable def AllOk : Prop := ∀ (v : Nat) (ps : List Nat), v < 3 → (ps.length = 1 ∨ ps.length = 2) → (∀ x ∈ ps, x < 3) → ∃ f, theF ((v : Int) - 1) ps = some f ∧ RestOk ((v : Int) - 1) f
noncomputable def turnSt (first mm : Int) (f : R) : Vars := [("pool", .mt 0), ("first", .int first), ("many", .int mm), ("f", rv f)]
theorem turns {W : Wd} (G : Good W) {sc : Scope} {d : Nat} (hd : 11 ≤ d) {first mm : Int} {ns : List Int} : ∀ (n i p0 k : Nat), p0 < 1009 → ∃ (xs : List Nat) (p0' : Nat), p0' < 1009 ∧ xs.length = n ∧ (∀ x ∈ xs, x < 3) ∧
    ∀ target body, (∀ (f f' : R) (i p k p' x : Nat), CallR W d "_law_draw" [.mt 0, .int 3] (poolM p ns k) (.int x) (poolM p' ns (k + 1)) → fStep first f (x, i) = some f' →
        ∃ σ₁, EvA W sc d false (turnSt first mm f) (poolM p ns k) target (.int (i : Int)) σ₁ (poolM p ns k) ∧ EvB W sc d σ₁ (poolM p ns k) body .nx (turnSt first mm f') (poolM p' ns (k + 1))) →
      ∀ f r, foldO (fStep first) f (xs.zipIdx i) = some r → ForRun W sc d target body (rangeP (i : Int) 1 n) (turnSt first mm f) (poolM p0 ns k) .nx (turnSt first mm r) (poolM p0' ns (k + n))
  | 0, i, p0, k, hp => ⟨[], p0, hp, rfl, by simp, fun target body h f r e => by cases e; exact .nil⟩
  | n + 1, i, p0, k, hp => by
    obtain ⟨p1, x, hp1, hx, d1⟩ := fn_draw G (d := d) (by omega) p0 hp ns k 3 (by omega) (by omega)
    obtain ⟨xs, p2, hp2, hl, hxs, ih⟩ := turns G hd n (i + 1) p1 (k + 1) hp1
    refine ⟨x :: xs, p2, hp2, by simp [hl], by simpa using ⟨hx, hxs⟩, fun target body h f r e => ?_⟩
    rw [List.zipIdx_cons] at e
    obtain ⟨f', hf, e⟩ := ob_some e
    obtain ⟨σ₁, a1, a2⟩ := h f f' i p0 k p1 x d1 hf
    rw [rangeP_succ, show k + (n + 1) = k + 1 + n by omega]
    exact .step a1 a2 (ih target body h f' r e)
theorem EvE.mem {W : Wd} {sc : Scope} {d : Nat} {σ : Vars} {M M₁ M₂ : Mem} {e : Expr} {p : PV} (h : EvE W sc d σ M e p M₁) (e1 : M₁ = M₂) : EvE W sc d σ M e p M₂ := e1 ▸ h
theorem law_body {W : Wd} (G : Good W) {d : Nat} (hd : 11 ≤ d) (H : AllOk) (ns : List Int) (hn : ns.length ≤ 1000) :
    ∃ N, EvB W (fnAt 75).scope d [("script", .ils ns)] [] (fnAt 75).body (.rt (.bool true)) [] N := by
  have O := G.ok
  generalize hms : ns.take 24 = ms
  obtain ⟨p0, hp0, hs⟩ : ∃ p0 : Nat, p0 < 1009 ∧ ms.sum.fmod 1009 = (p0 : Int) := by
    refine ⟨(ms.sum.fmod 1009).toNat, ?_, ?_⟩
    · have := Int.fmod_lt_of_pos ms.sum (b := 1009) (by omega)
      omega
    · have := Int.fmod_nonneg_of_pos ms.sum (b := 1009) (by omega)
      omega
  obtain ⟨p1, v, hp1, hv, d1⟩ := fn_draw G (d := d) (by omega) p0 hp0 ms 0 3 (by omega) (by omega)
  obtain ⟨p2, m, hp2, hm, d2⟩ := fn_draw G (d := d) (by omega) p1 hp1 ms 1 2 (by omega) (by omega)
  obtain ⟨xs, p3, hp3, hxl, hxs, hrun⟩ := turns G (sc := (fnAt 75).scope) hd (first := (v : Int) - 1) (mm := 1 + (m : Int)) (ns := ms) (1 + m) 0 p2 2 hp2
  obtain ⟨f, hf, hrest⟩ := H v xs hv (by omega) hxs
  obtain ⟨p4, hlr⟩ := law_rest G hd (by omega) (by omega) hrest p3 hp3 ms (2 + (1 + m))
  refine ⟨poolM p4 ms (2 + (1 + m) + 4), ?_⟩
  conv => pattern Fn.body (fnAt _); whnf
  apply B_cons
  · apply S_comp (σc := []) (qs := ms.map .int)
    · apply I_list (l := ms.map .int)
      apply EvE.to
      · apply E_sliceI (ns := ns)
        · walk_at "ev"
        · walk_at "part"
        · walk_at "part"
        · walk_at "part"
        · exact hn
        · exact .inl rfl
      · rw [pySlice_24, ← List.map_take, hms]
    · walk_at "compok"
    · walk_at "sub"
    · walk_at "seen"
    · refine CompRun.mapO PV.int PV.int (fun x : Int => some x) (fun _ => rfl) ?_ ms _ ?_
      · rintro a b ⟨⟩
        refine ⟨_, trivial, fun acc => ⟨A_nameL rfl, ?_⟩⟩
        exact E_toInt O (E_var rfl) rfl (fun _ => rfl)
      · rw [mapO_pure, List.map_id']
    · rfl
    · walk_at "env"
  apply B_assign (p := .mt 0) (M₁ := poolM p0 ms 0)
  · refine E_listM (ps := [.int (p0 : Nat), zv ms, .int 0]) (M₁ := ([] : Mem)) ?_ (Nat.le_of_ble_eq_true rfl) (noMt_pool p0 ms 0)
    apply L_cons'
    · apply EvE.to
      · apply E_fmod
        · exact E_sum O (E_var rfl) rfl (fun _ => rfl)
        · walk_at "ev"
        · decide
      · rw [hs]
    · walk_at "evl"
    · intro _; rfl
  · walk_at "loc"
  · walk_at "env"
  apply B_cons
  · apply S_swap (names := ["first", "many"])
    · walk_at "ev"
    · walk_at "env"
    · rfl
    · decide
    · walk_at "env"
  walk_at "ass"
  apply Ev.pre' (σ₁ := turnSt ((v : Int) - 1) (1 + (m : Int)) F0)
  · walk_at "sub"
  apply B_for (σ₁ := turnSt ((v : Int) - 1) (1 + (m : Int)) f) (M₂ := poolM p3 ms (2 + (1 + m)))
  · apply I_range1 (by assumption)
    · walk_at "ev"
    · omega
    · omega
  · intro _ _; rfl
  · rw [show (1 + (m : Int)).toNat = 1 + m by omega]
    refine hrun _ _ ?_ F0 f hf
    intro f f' i p k p' x dr e
    obtain ⟨q, hq, e⟩ := ob_some e
    have k1 := fn_pole G (d := d) (by omega) (M := poolM p' ms (k + 1)) hq
    have k2 := fn_fadd G (d := d) (by omega) (M := poolM p' ms (k + 1)) e
    refine ⟨_, A_name (.inl rfl), ?_⟩
    apply EvB.sub
    · walk_at "ass"
      exact B_nil
    · walk_at "sub"
  · exact Ev.pre' (by walk_at "sub") hlr
end
end Mine
end
section
set_option linter.unusedVariables false
set_option linter.unusedSimpArgs false
set_option Elab.async false
namespace Mine
namespace H
open F (Q P R ob gd lim)
-- the same functions by recursors: cheap in the kernel
noncomputable def posR (s t b : Nat) : Option Q := Bool.rec none (Nat.rec none (fun g _ => Nat.rec none (fun _ _ => some (Int.ofNat (Nat.div t (Nat.succ g)), Nat.div b (Nat.succ g))) b) (Nat.gcd t b)) (Nat.ble s lim)
noncomputable def negR (s t b : Nat) : Option Q := Bool.rec none (Nat.rec none (fun g _ => Nat.rec none (fun _ _ => Nat.rec (some (Int.ofNat 0, Nat.div b (Nat.succ g))) (fun t' _ => some (Int.negSucc t', Nat.div b (Nat.succ g))) (Nat.div t (Nat.succ g))) b) (Nat.gcd t b)) (Nat.ble s lim)
noncomputable def subR (s t u b : Nat) : Option Q := Bool.rec (negR s (Nat.sub u t) b) (posR s (Nat.sub t u) b) (Nat.ble u t)
theorem posR_eq : posR = F.posR := by
  funext s t b
  unfold posR F.posR
  cases Nat.ble s lim with
  | false => rfl
  | true => cases Nat.gcd t b with
    | zero => rfl
    | succ g => cases b <;> rfl
theorem negR_eq : negR = F.negR := by
  funext s t b
  unfold negR F.negR
  cases Nat.ble s lim with
  | false => rfl
  | true => cases hg : Nat.gcd t b with
    | zero => rfl
    | succ g => cases b with
      | zero => rfl
      | succ b =>
        show Nat.rec (motive := fun _ => Option Q) _ _ (Nat.div t (Nat.succ g)) = match Nat.div t (Nat.succ g) with
          | 0 => _
          | Nat.succ t' => _
        cases Nat.div t (Nat.succ g) <;> rfl
theorem subR_eq : subR = F.subR := by
  funext s t u b
  unfold subR F.subR
  rw [posR_eq, negR_eq]
  cases Nat.ble u t <;> rfl
noncomputable def mulA (n m x : Nat) (b : Int) : Option Q := Int.rec (fun y => posR (Nat.add (Nat.add x y) (Nat.add n m)) (Nat.mul x y) (Nat.mul n m)) (fun y => negR (Nat.add (Nat.add x y) (Nat.add n m)) (Nat.mul x (Nat.succ y)) (Nat.mul n m)) b
noncomputable def mulB (n m x : Nat) (b : Int) : Option Q := Int.rec (fun y => negR (Nat.add (Nat.add x y) (Nat.add n m)) (Nat.mul (Nat.succ x) y) (Nat.mul n m)) (fun y => posR (Nat.add (Nat.add x y) (Nat.add n m)) (Nat.mul (Nat.succ x) (Nat.succ y)) (Nat.mul n m)) b
noncomputable def rmul (a b : Q) : Option Q := Int.rec (fun x => mulA a.2 b.2 x b.1) (fun x => mulB a.2 b.2 x b.1) a.1
noncomputable def addA (n m x : Nat) (b : Int) : Option Q := Int.rec (fun y => posR (Nat.add (Nat.add x y) (Nat.add n m)) (Nat.add (Nat.mul x m) (Nat.mul y n)) (Nat.mul n m)) (fun y => subR (Nat.add (Nat.add x y) (Nat.add n m)) (Nat.mul x m) (Nat.mul (Nat.succ y) n) (Nat.mul n m)) b
noncomputable def addB (n m x : Nat) (b : Int) : Option Q := Int.rec (fun y => subR (Nat.add (Nat.add x y) (Nat.add n m)) (Nat.mul y n) (Nat.mul (Nat.succ x) m) (Nat.mul n m)) (fun y => negR (Nat.add (Nat.add x y) (Nat.add n m)) (Nat.add (Nat.mul (Nat.succ x) m) (Nat.mul (Nat.succ y) n)) (Nat.mul n m)) b
noncomputable def radd (a b : Q) : Option Q := Int.rec (fun x => addA a.2 b.2 x b.1) (fun x => addB a.2 b.2 x b.1) a.1
noncomputable def divA (n m x : Nat) (b : Int) : Option Q := Int.rec (fun y => posR (Nat.add (Nat.add x y) (Nat.add n m)) (Nat.mul x m) (Nat.mul n y)) (fun y => negR (Nat.add (Nat.add x y) (Nat.add n m)) (Nat.mul x m) (Nat.mul n (Nat.succ y))) b
noncomputable def divB (n m x : Nat) (b : Int) : Option Q := Int.rec (fun y => negR (Nat.add (Nat.add x y) (Nat.add n m)) (Nat.mul (Nat.succ x) m) (Nat.mul n y)) (fun y => posR (Nat.add (Nat.add x y) (Nat.add n m)) (Nat.mul (Nat.succ x) m) (Nat.mul n (Nat.succ y))) b
noncomputable def rdiv (a b : Q) : Option Q := Int.rec (fun x => divA a.2 b.2 x b.1) (fun x => divB a.2 b.2 x b.1) a.1
noncomputable def rneg (a : Q) : Q := Int.rec (fun x => Nat.rec (Int.ofNat 0, a.2) (fun x' _ => (Int.negSucc x', a.2)) x) (fun x => (Int.ofNat (Nat.succ x), a.2)) a.1
noncomputable def rinv (a : Q) : Option Q := Int.rec (fun x => posR (Nat.add x a.2) a.2 x) (fun x => negR (Nat.add x a.2) a.2 (Nat.succ x)) a.1
theorem rmul_eq : rmul = F.rmul := by
  funext a b
  obtain ⟨a, n⟩ := a
  obtain ⟨b, m⟩ := b
  cases a <;> cases b <;> simp only [rmul, mulA, mulB, F.rmul, posR_eq, negR_eq]
theorem radd_eq : radd = F.radd := by
  funext a b
  obtain ⟨a, n⟩ := a
  obtain ⟨b, m⟩ := b
  cases a <;> cases b <;> simp only [radd, addA, addB, F.radd, posR_eq, negR_eq, subR_eq]
theorem rdiv_eq : rdiv = F.rdiv := by
  funext a b
  obtain ⟨a, n⟩ := a
  obtain ⟨b, m⟩ := b
  cases a <;> cases b <;> simp only [rdiv, divA, divB, F.rdiv, posR_eq, negR_eq]
theorem rneg_eq : rneg = F.rneg := by
  funext a
  obtain ⟨a, n⟩ := a
  cases a with
  | ofNat x => cases x <;> rfl
  | negSucc x => rfl
theorem rinv_eq : rinv = F.rinv := by
  funext a
  obtain ⟨a, n⟩ := a
  cases a <;> simp only [rinv, F.rinv, posR_eq, negR_eq]

-- lists
noncomputable def len {α : Type} (l : List α) : Nat := List.rec 0 (fun _ _ ih => Nat.add ih 1) l
theorem len_eq {α : Type} (l : List α) : len l = l.length := by
  induction l with
  | nil => rfl
  | cons x r ih => show Nat.add (len r) 1 = _; rw [ih]; rfl
noncomputable def map {α β : Type} (f : α → β) (l : List α) : List β := List.rec [] (fun x _ ih => f x :: ih) l
theorem map_eq {α β : Type} (f : α → β) (l : List α) : map f l = l.map f := by
  induction l with
  | nil => rfl
  | cons x r ih => show f x :: map f r = _; rw [ih]; rfl
noncomputable def mapO {α β : Type} (f : α → Option β) (l : List α) : Option (List β) := List.rec (some []) (fun x _ ih => Option.rec none (fun y => Option.rec none (fun t => some (y :: t)) ih) (f x)) l
theorem mapO_eq {α β : Type} (f : α → Option β) (l : List α) : mapO f l = F.mapO f l := by
  induction l with
  | nil => rfl
  | cons x r ih =>
    show Option.rec (motive := fun _ => Option (List β)) none (fun y => Option.rec none (fun t => some (y :: t)) (mapO f r)) (f x) = ob (f x) fun y => ob (F.mapO f r) fun t => some (y :: t)
    rw [ih]
    cases f x with
    | none => rfl
    | some y => cases F.mapO f r <;> rfl
noncomputable def last {α : Type} (l : List α) : Option α := List.rec none (fun x _ ih => Option.rec (some x) (fun y => some y) ih) l
theorem last_eq {α : Type} (l : List α) : last l = l.getLast? := by
  induction l with
  | nil => rfl
  | cons x r ih =>
    show Option.rec (motive := fun _ => Option α) (some x) (fun y => some y) (last r) = _
    rw [ih, List.getLast?_cons]
    cases r.getLast? <;> rfl
noncomputable def dropLast {α : Type} (l : List α) : List α := List.rec [] (fun x r ih => List.rec [] (fun _ _ _ => x :: ih) r) l
theorem dropLast_eq {α : Type} (l : List α) : dropLast l = l.dropLast := by
  induction l with
  | nil => rfl
  | cons x r ih => cases r with
    | nil => rfl
    | cons y r => show x :: dropLast (y :: r) = _; rw [ih]; rfl
noncomputable def rep {α : Type} (n : Nat) (x : α) (l : List α) : List α := Nat.rec l (fun _ ih => x :: ih) n
theorem rep_eq {α : Type} (n : Nat) (x : α) (l : List α) : rep n x l = List.replicate n x ++ l := by
  induction n with
  | zero => rfl
  | succ n ih => show x :: rep n x l = _; rw [ih]; rfl
noncomputable def set {α : Type} (l : List α) (i : Nat) (v : α) : List α := List.rec (motive := fun _ => Nat → List α) (fun _ => []) (fun x r ih i => Nat.rec (v :: r) (fun j _ => x :: ih j) i) l i
theorem set_eq {α : Type} (l : List α) (i : Nat) (v : α) : set l i v = l.set i v := by
  induction l generalizing i with
  | nil => rfl
  | cons x r ih => cases i with
    | zero => rfl
    | succ i => show x :: set r i v = _; rw [ih]; rfl
noncomputable def trim {α : Type} (z : α → Bool) (l : List α) : List α := List.rec [] (fun x _ ih => List.rec (Bool.rec [x] [] (z x)) (fun y r' _ => x :: y :: r') ih) l
theorem trim_eq {α : Type} (z : α → Bool) (l : List α) : trim z l = F.trim z l := by
  induction l with
  | nil => rfl
  | cons x r ih =>
    show List.rec (motive := fun _ => List α) (Bool.rec [x] [] (z x)) (fun y r' _ => x :: y :: r') (trim z r) = F.trim z (x :: r)
    rw [ih]
    show _ = (match F.trim z r with
      | [] => (match z x with
        | true => []
        | false => [x])
      | y :: r' => x :: y :: r')
    generalize F.trim z r = t
    cases t with
    | nil => cases z x <;> rfl
    | cons y r' => rfl
noncomputable def zipLong {α β : Type} (f : α → α → Option β) (z : α) (a : List α) : List α → Option (List β) :=
  List.rec (motive := fun _ => List α → Option (List β)) (fun b => mapO (fun y => f z y) b) (fun x a ih b => List.rec (mapO (fun x => f x z) (x :: a)) (fun y b _ => Option.rec none (fun s => Option.rec none (fun t => some (s :: t)) (ih b)) (f x y)) b) a
theorem zipLong_eq {α β : Type} (f : α → α → Option β) (z : α) (a b : List α) : zipLong f z a b = F.zipLong f z a b := by
  induction a generalizing b with
  | nil => show mapO _ b = _; rw [mapO_eq]; rfl
  | cons x a ih => cases b with
    | nil => show mapO _ (x :: a) = _; rw [mapO_eq]; rfl
    | cons y b =>
      show Option.rec (motive := fun _ => Option (List β)) none (fun s => Option.rec none (fun t => some (s :: t)) (zipLong f z a b)) (f x y) = ob (f x y) fun s => ob (F.zipLong f z a b) fun t => some (s :: t)
      rw [ih]
      cases f x y with
      | none => rfl
      | some s => cases F.zipLong f z a b <;> rfl
noncomputable def isZ (x : Q) : Bool := Int.rec (fun n => Nat.rec true (fun _ _ => false) n) (fun _ => false) x.1
theorem isZ_eq : isZ = fun x : Q => F.intB x.1 0 := by
  funext x
  obtain ⟨a, n⟩ := x
  cases a with
  | ofNat k => cases k <;> rfl
  | negSucc k => rfl

-- polynomials
noncomputable def qadd (a b : P) : Option P := Option.rec none (fun r => some (trim isZ r)) (zipLong radd (0, 1) a b)
noncomputable def qsub (a b : P) : Option P := qadd a (map rneg b)
noncomputable def qscale (p : P) (r : Q) : Option P := Bool.rec (mapO (fun x => rmul x r) p) (some []) (isZ r)
noncomputable def qraise (p : P) (many : Nat) : Option P := List.rec (some []) (fun x r _ => Bool.rec none (Bool.rec none (some (rep many (0, 1) (x :: r))) (Nat.ble (len (x :: r)) 1000)) (Nat.ble many 1000)) p
theorem qadd_eq : qadd = F.qadd := by
  funext a b
  unfold qadd F.qadd
  rw [zipLong_eq, radd_eq]
  cases F.zipLong F.radd (0, 1) a b with
  | none => rfl
  | some r => show some (trim isZ r) = some (F.qtrim r); rw [trim_eq, isZ_eq]; rfl
theorem qsub_eq : qsub = F.qsub := by
  funext a b
  unfold qsub F.qsub F.qneg
  rw [qadd_eq, map_eq, rneg_eq]
theorem qscale_eq : qscale = F.qscale := by
  funext p r
  unfold qscale F.qscale
  rw [isZ_eq, rmul_eq, mapO_eq]
  show Bool.rec (motive := fun _ => Option P) _ _ (F.intB r.1 0) = match F.intB r.1 0 with
    | true => _
    | false => _
  cases F.intB r.1 0 <;> rfl
theorem qraise_eq : qraise = F.qraise := by
  funext p many
  cases p with
  | nil => rfl
  | cons x r =>
    show Bool.rec (motive := fun _ => Option P) none (Bool.rec none (some (rep many (0, 1) (x :: r))) (Nat.ble (len (x :: r)) 1000)) (Nat.ble many 1000) = gd (Nat.ble many 1000) (gd (Nat.ble (x :: r).length 1000) (some (List.replicate many (0, 1) ++ (x :: r))))
    rw [rep_eq, len_eq]
    cases Nat.ble many 1000 with
    | false => rfl
    | true => cases Nat.ble (x :: r).length 1000 <;> rfl
noncomputable def mulRow (x : Q) (b : P) : P → Option P := List.rec (motive := fun _ => P → Option P) (fun t => some t) (fun y _ ih t => List.rec none (fun f t' _ => Option.rec none (fun m => Option.rec none (fun s => Option.rec none (fun r => some (s :: r)) (ih t')) (radd f m)) (rmul x y)) t) b
noncomputable def mulRows (b : P) (a : P) : P → Option P := List.rec (motive := fun _ => P → Option P) (fun t => some t) (fun x _ ih t => Option.rec none (fun t1 => List.rec none (fun h t' _ => Option.rec none (fun r => some (h :: r)) (ih t')) t1) (mulRow x b t)) a
theorem mulRow_eq (x : Q) (b t : P) : mulRow x b t = F.mulRow x b t := by
  induction b generalizing t with
  | nil => rfl
  | cons y b ih => cases t with
    | nil => rfl
    | cons f t =>
      show Option.rec (motive := fun _ => Option P) none (fun m => Option.rec none (fun s => Option.rec none (fun r => some (s :: r)) (mulRow x b t)) (radd f m)) (rmul x y) = ob (F.rmul x y) fun m => ob (F.radd f m) fun s => ob (F.mulRow x b t) fun r => some (s :: r)
      rw [ih, rmul_eq, radd_eq]
      cases F.rmul x y with
      | none => rfl
      | some m =>
        show Option.rec (motive := fun _ => Option P) none (fun s => Option.rec none (fun r => some (s :: r)) (F.mulRow x b t)) (F.radd f m) = ob (F.radd f m) fun s => ob (F.mulRow x b t) fun r => some (s :: r)
        cases F.radd f m with
        | none => rfl
        | some s => cases F.mulRow x b t <;> rfl
theorem mulRows_eq (b a t : P) : mulRows b a t = F.mulRows b a t := by
  induction a generalizing t with
  | nil => rfl
  | cons x a ih =>
    show Option.rec (motive := fun _ => Option P) none (fun t1 => List.rec none (fun h t' _ => Option.rec none (fun r => some (h :: r)) (mulRows b a t')) t1) (mulRow x b t) = F.mulRows b (x :: a) t
    rw [mulRow_eq]
    unfold F.mulRows
    cases F.mulRow x b t with
    | none => rfl
    | some t1 => cases t1 with
      | nil => rfl
      | cons h t' =>
        show Option.rec (motive := fun _ => Option P) none (fun r => some (h :: r)) (mulRows b a t') = ob (F.mulRows b a t') fun r => some (h :: r)
        rw [ih]
        cases F.mulRows b a t' <;> rfl
noncomputable def qmul (a b : P) : Option P := List.rec (some []) (fun _ _ _ => List.rec (some []) (fun _ _ _ => Bool.rec none (mulRows b a (rep (Nat.sub (Nat.add (len a) (len b)) 1) (0, 1) [])) (Nat.ble (Nat.add (len a) (len b)) 1000)) b) a
theorem qmul_eq : qmul = F.qmul := by
  funext a b
  cases a with
  | nil => rfl
  | cons x a => cases b with
    | nil => rfl
    | cons y b =>
      show Bool.rec (motive := fun _ => Option P) none (mulRows (y :: b) (x :: a) (rep (Nat.sub (Nat.add (len (x :: a)) (len (y :: b))) 1) (0, 1) [])) (Nat.ble (Nat.add (len (x :: a)) (len (y :: b))) 1000) = gd (Nat.ble (Nat.add (x :: a).length (y :: b).length) 1000) (F.mulRows (y :: b) (x :: a) (List.replicate (Nat.sub (Nat.add (x :: a).length (y :: b).length) 1) (0, 1)))
      rw [mulRows_eq, rep_eq, len_eq, len_eq, List.append_nil]
      cases Nat.ble (Nat.add (x :: a).length (y :: b).length) 1000 <;> rfl
noncomputable def divStep (b : P) (bl : Q) (bn : Nat) (b' : P) (ih : P → P → Option (P × P)) (rn : Nat) (rest found : P) : Option (P × P) :=
  Bool.rec (some (found, rest)) (Option.rec none (fun l => Option.rec none (fun k => Option.rec none (fun s => Option.rec none (fun s' => Option.rec none (fun lower =>
    Bool.rec none (ih lower (set found (Nat.sub rn bn) k)) (Nat.ble (Nat.succ (Nat.sub rn bn)) (len found))) (qsub (dropLast rest) s')) (qraise s (Nat.sub rn bn))) (qscale b' k)) (rdiv l bl)) (last rest)) (Nat.ble bn rn)
noncomputable def divLoop (b : P) (bl : Q) (bn : Nat) (b' : P) (n : Nat) : P → P → Option (P × P) :=
  Nat.rec (motive := fun _ => P → P → Option (P × P)) (fun _ _ => none) (fun _ ih rest found => divStep b bl bn b' ih (len rest) rest found) n
theorem divLoop_eq (b : P) (bl : Q) (n : Nat) (rest found : P) : divLoop b bl b.length b.dropLast n rest found = F.divLoop b bl n rest found := by
  induction n generalizing rest found with
  | zero => rfl
  | succ n ih =>
    show divStep b bl b.length b.dropLast (divLoop b bl b.length b.dropLast n) (len rest) rest found = F.divLoop b bl (n + 1) rest found
    have ihf : divLoop b bl b.length b.dropLast n = fun r f => F.divLoop b bl n r f := by funext r f; exact ih r f
    rw [ihf]
    unfold divStep
    show _ = (match Nat.ble b.length rest.length with
      | false => some (found, rest)
      | true => ob rest.getLast? fun l => ob (F.rdiv l bl) fun k => ob (F.qscale b.dropLast k) fun s => ob (F.qraise s (Nat.sub rest.length b.length)) fun s' => ob (F.qsub rest.dropLast s') fun lower =>
        gd (Nat.ble (Nat.succ (Nat.sub rest.length b.length)) found.length) (F.divLoop b bl n lower (found.set (Nat.sub rest.length b.length) k)))
    generalize F.divLoop b bl n = D
    simp only [len_eq, last_eq, rdiv_eq, qscale_eq, qraise_eq, qsub_eq, dropLast_eq, set_eq]
    cases Nat.ble b.length rest.length with
    | false => rfl
    | true =>
      dsimp only
      cases rest.getLast? with
      | none => rfl
      | some l =>
        dsimp only [ob]
        cases F.rdiv l bl with
        | none => rfl
        | some k =>
          dsimp only
          cases F.qscale b.dropLast k with
          | none => rfl
          | some s =>
            dsimp only
            cases F.qraise s (Nat.sub rest.length b.length) with
            | none => rfl
            | some s' =>
              dsimp only
              cases F.qsub rest.dropLast s' with
              | none => rfl
              | some lower =>
                dsimp only
                cases Nat.ble (Nat.succ (Nat.sub rest.length b.length)) found.length <;> rfl
noncomputable def qdivmod (a b : P) : Option (P × P) := Option.rec none (fun bl => Bool.rec none (Option.rec none (fun x => some (trim isZ x.1, x.2)) (divLoop b bl (len b) (dropLast b) (Nat.succ (len a)) a (rep (Nat.sub (Nat.succ (len a)) (len b)) (0, 1) []))) (Nat.ble (len a) 1000)) (last b)
theorem qdivmod_eq : qdivmod = F.qdivmod := by
  funext a b
  unfold qdivmod F.qdivmod
  simp only [len_eq, last_eq, dropLast_eq, rep_eq, divLoop_eq, trim_eq, isZ_eq, List.append_nil]
  cases b.getLast? with
  | none => rfl
  | some bl =>
    dsimp only [ob]
    cases Nat.ble a.length 1000 with
    | false => rfl
    | true =>
      dsimp only [gd]
      cases F.divLoop b bl (Nat.succ a.length) a (List.replicate (Nat.sub (Nat.succ a.length) b.length) (0, 1)) <;> rfl
noncomputable def qmonic (p : P) : Option P := Option.rec (some []) (fun l => Option.rec none (fun i => qscale p i) (rinv l)) (last p)
theorem qmonic_eq : qmonic = F.qmonic := by
  funext p
  unfold qmonic
  rw [last_eq, rinv_eq, qscale_eq]
  cases p with
  | nil => rfl
  | cons x r =>
    show _ = ob (x :: r).getLast? fun l => ob (F.rinv l) fun i => F.qscale (x :: r) i
    rw [List.getLast?_cons]
    dsimp only [ob]
    cases F.rinv (r.getLast?.getD x) <;> rfl
noncomputable def gcdLoop (n : Nat) : P → P → Option P :=
  Nat.rec (motive := fun _ => P → P → Option P) (fun _ _ => none) (fun _ ih a b => List.rec (some a) (fun _ _ _ => Option.rec none (fun y => Option.rec none (fun m => ih b m) (qmonic y.2)) (qdivmod a b)) b) n
theorem gcdLoop_eq (n : Nat) (a b : P) : gcdLoop n a b = F.gcdLoop n a b := by
  induction n generalizing a b with
  | zero => rfl
  | succ n ih => cases b with
    | nil => rfl
    | cons x r =>
      show Option.rec (motive := fun _ => Option P) none (fun y => Option.rec none (fun m => gcdLoop n (x :: r) m) (qmonic y.2)) (qdivmod a (x :: r)) = ob (F.qdivmod a (x :: r)) fun y => ob (F.qmonic y.2) fun m => F.gcdLoop n (x :: r) m
      rw [qdivmod_eq, qmonic_eq]
      cases F.qdivmod a (x :: r) with
      | none => rfl
      | some y =>
        show Option.rec (motive := fun _ => Option P) none (fun m => gcdLoop n (x :: r) m) (F.qmonic y.2) = ob (F.qmonic y.2) fun m => F.gcdLoop n (x :: r) m
        cases F.qmonic y.2 with
        | none => rfl
        | some m => exact ih (x :: r) m
noncomputable def qgcd (a b : P) : Option P := Option.rec none (fun x => qmonic x) (gcdLoop 50 a b)
theorem qgcd_eq : qgcd = F.qgcd := by
  funext a b
  unfold qgcd F.qgcd
  rw [gcdLoop_eq, qmonic_eq]
  cases F.gcdLoop 50 a b <;> rfl
end H
end Mine
end
section
set_option linter.unusedVariables false
set_option linter.unusedSimpArgs false
set_option Elab.async false
namespace Mine
namespace H
open F (Q P R T3 ob gd lim F0 fpoly fneg foldO ratI sfp okI poleLoop fromZ eqR)
noncomputable def qpower (p : P) (many : Nat) : Option P := gd (Nat.ble many 1000) (foldO (fun f _ => H.qmul f p) [(1, 1)] (List.range many))
theorem qpower_eq : qpower = F.qpower := by
  funext a b
  simp only [qpower, F.qpower, radd_eq, rmul_eq, rdiv_eq, rneg_eq, rinv_eq, qadd_eq, qsub_eq, qscale_eq, qraise_eq, qmul_eq, qdivmod_eq, qmonic_eq, qgcd_eq, mapO_eq] <;> rfl
noncomputable def extLoop : Nat → T3 → T3 → Option T3
  | 0, _, _ => none
  | n + 1, one, other => match other.1 with
    | [] => some one
    | x :: r => ob (H.qdivmod one.1 other.1) fun y => ob (H.qmul y.1 other.2.1) fun m1 => ob (H.qsub one.2.1 m1) fun left => ob (H.qmul y.1 other.2.2) fun m2 => ob (H.qsub one.2.2 m2) fun right => extLoop n other (y.2, left, right)
theorem extLoop_eq : extLoop = F.extLoop := by
  funext n one other
  induction n generalizing one other with
  | zero => rfl
  | succ n ih =>
    unfold extLoop F.extLoop
    simp only [ih, qdivmod_eq, qmul_eq, qsub_eq] <;> rfl
noncomputable def qextended (a b : P) : Option T3 := ob (H.extLoop 50 (a, [(1, 1)], []) (b, [], [(1, 1)])) fun one => ob one.1.getLast? fun l => ob (H.rinv l) fun k => ob (H.qscale one.1 k) fun x => ob (H.qscale one.2.1 k) fun y => ob (H.qscale one.2.2 k) fun z => some (x, y, z)
theorem qextended_eq : qextended = F.qextended := by
  funext a b
  simp only [qextended, F.qextended, radd_eq, rmul_eq, rdiv_eq, rneg_eq, rinv_eq, qadd_eq, qsub_eq, qscale_eq, qraise_eq, qmul_eq, qdivmod_eq, qmonic_eq, qgcd_eq, mapO_eq, qpower_eq, extLoop_eq] <;> rfl
noncomputable def qderive (p : P) : Option P := ob (H.mapO (fun x : Q × Nat => H.rmul x.1 (Int.ofNat x.2, 1)) p.zipIdx) fun r => some (r.drop 1)
theorem qderive_eq : qderive = F.qderive := by
  funext a
  simp only [qderive, F.qderive, radd_eq, rmul_eq, rdiv_eq, rneg_eq, rinv_eq, qadd_eq, qsub_eq, qscale_eq, qraise_eq, qmul_eq, qdivmod_eq, qmonic_eq, qgcd_eq, mapO_eq, qpower_eq, extLoop_eq, qextended_eq] <;> rfl
noncomputable def qintegral (p : P) : Option P := gd (Nat.ble p.length 1000) (ob (H.mapO (fun x : Q × Nat => H.rdiv x.1 (Int.ofNat (Nat.succ x.2), 1)) p.zipIdx) fun r => match r with
  | [] => some []
  | x :: r => some ((0, 1) :: x :: r))
theorem qintegral_eq : qintegral = F.qintegral := by
  funext a
  simp only [qintegral, F.qintegral, radd_eq, rmul_eq, rdiv_eq, rneg_eq, rinv_eq, qadd_eq, qsub_eq, qscale_eq, qraise_eq, qmul_eq, qdivmod_eq, qmonic_eq, qgcd_eq, mapO_eq, qpower_eq, extLoop_eq, qextended_eq, qderive_eq] <;> rfl
noncomputable def fmake2 (t b : P) : Option R := ob b.getLast? fun l => ob (H.rinv l) fun s => ob (H.qscale t s) fun t' => ob (H.qscale b s) fun b' => some (t', b')
theorem fmake2_eq : fmake2 = F.fmake2 := by
  funext a b
  simp only [fmake2, F.fmake2, radd_eq, rmul_eq, rdiv_eq, rneg_eq, rinv_eq, qadd_eq, qsub_eq, qscale_eq, qraise_eq, qmul_eq, qdivmod_eq, qmonic_eq, qgcd_eq, mapO_eq, qpower_eq, extLoop_eq, qextended_eq, qderive_eq, qintegral_eq] <;> rfl
noncomputable def fmake (t b : P) : Option R := match b with
  | [] => none
  | y :: b' => match t with
    | [] => some F0
    | x :: t' => ob (H.qgcd (x :: t') (y :: b')) fun c => match Nat.ble 2 c.length with
      | true => ob (H.qdivmod (x :: t') c) fun x => ob (H.qdivmod (y :: b') c) fun y => H.fmake2 x.1 y.1
      | false => H.fmake2 (x :: t') (y :: b')
theorem fmake_eq : fmake = F.fmake := by
  funext a b
  simp only [fmake, F.fmake, radd_eq, rmul_eq, rdiv_eq, rneg_eq, rinv_eq, qadd_eq, qsub_eq, qscale_eq, qraise_eq, qmul_eq, qdivmod_eq, qmonic_eq, qgcd_eq, mapO_eq, qpower_eq, extLoop_eq, qextended_eq, qderive_eq, qintegral_eq, fmake2_eq] <;> rfl
noncomputable def fadd (f g : R) : Option R := ob (H.qmul f.1 g.2) fun x => ob (H.qmul g.1 f.2) fun y => ob (H.qadd x y) fun z => ob (H.qmul f.2 g.2) fun b => H.fmake z b
theorem fadd_eq : fadd = F.fadd := by
  funext a b
  simp only [fadd, F.fadd, radd_eq, rmul_eq, rdiv_eq, rneg_eq, rinv_eq, qadd_eq, qsub_eq, qscale_eq, qraise_eq, qmul_eq, qdivmod_eq, qmonic_eq, qgcd_eq, mapO_eq, qpower_eq, extLoop_eq, qextended_eq, qderive_eq, qintegral_eq, fmake2_eq, fmake_eq] <;> rfl
noncomputable def fsub (f g : R) : Option R := H.fadd f (fneg g)
theorem fsub_eq : fsub = F.fsub := by
  funext a b
  simp only [fsub, F.fsub, radd_eq, rmul_eq, rdiv_eq, rneg_eq, rinv_eq, qadd_eq, qsub_eq, qscale_eq, qraise_eq, qmul_eq, qdivmod_eq, qmonic_eq, qgcd_eq, mapO_eq, qpower_eq, extLoop_eq, qextended_eq, qderive_eq, qintegral_eq, fmake2_eq, fmake_eq, fadd_eq] <;> rfl
noncomputable def fderive (f : R) : Option R := ob (H.qderive f.1) fun dt => ob (H.qmul dt f.2) fun x => ob (H.qderive f.2) fun db => ob (H.qmul f.1 db) fun y => ob (H.qsub x y) fun z => ob (H.qmul f.2 f.2) fun b => H.fmake z b
theorem fderive_eq : fderive = F.fderive := by
  funext a
  simp only [fderive, F.fderive, radd_eq, rmul_eq, rdiv_eq, rneg_eq, rinv_eq, qadd_eq, qsub_eq, qscale_eq, qraise_eq, qmul_eq, qdivmod_eq, qmonic_eq, qgcd_eq, mapO_eq, qpower_eq, extLoop_eq, qextended_eq, qderive_eq, qintegral_eq, fmake2_eq, fmake_eq, fadd_eq, fsub_eq] <;> rfl
noncomputable def solved (a b c : P) : Option (P × P) := ob (H.qextended a b) fun x => ob (H.qmul x.2.1 c) fun lc => ob (H.qdivmod lc b) fun y => ob (H.qmul x.2.2 c) fun rc => ob (H.qmul y.1 a) fun wa => ob (H.qadd rc wa) fun t => some (y.2, t)
theorem solved_eq : solved = F.solved := by
  funext a b c
  simp only [solved, F.solved, radd_eq, rmul_eq, rdiv_eq, rneg_eq, rinv_eq, qadd_eq, qsub_eq, qscale_eq, qraise_eq, qmul_eq, qdivmod_eq, qmonic_eq, qgcd_eq, mapO_eq, qpower_eq, extLoop_eq, qextended_eq, qderive_eq, qintegral_eq, fmake2_eq, fmake_eq, fadd_eq, fsub_eq, fderive_eq] <;> rfl
noncomputable def lowStep (slope part other : P) (s : R × P) (n : Nat) : Option (R × P) := ob (ratI (-1) (Int.ofNat n)) fun r1 => ob (H.qscale s.2 r1) fun st => ob (H.solved slope part st) fun x => ob (H.qpower part n) fun pw => ob (H.fmake x.1 pw) fun fm => ob (H.fadd s.1 fm) fun found' =>
  ob (ratI (- (Int.ofNat n)) 1) fun r2 => ob (H.qscale x.2 r2) fun sr => ob (H.qderive x.1) fun da => ob (H.qmul other da) fun od => ob (H.qsub sr od) fun top' => some (found', top')
theorem lowStep_eq : lowStep = F.lowStep := by
  funext a b c d e
  simp only [lowStep, F.lowStep, radd_eq, rmul_eq, rdiv_eq, rneg_eq, rinv_eq, qadd_eq, qsub_eq, qscale_eq, qraise_eq, qmul_eq, qdivmod_eq, qmonic_eq, qgcd_eq, mapO_eq, qpower_eq, extLoop_eq, qextended_eq, qderive_eq, qintegral_eq, fmake2_eq, fmake_eq, fadd_eq, fsub_eq, fderive_eq, solved_eq] <;> rfl
noncomputable def lowered (top other part : P) (many : Nat) : Option (R × P) := ob (H.qderive part) fun dp => ob (H.qmul other dp) fun slope => gd (Nat.ble many 1000) (foldO (H.lowStep slope part other) (F0, top) ((List.range (many - 1)).map fun i => many - 1 - i))
theorem lowered_eq : lowered = F.lowered := by
  funext a b c d
  simp only [lowered, F.lowered, radd_eq, rmul_eq, rdiv_eq, rneg_eq, rinv_eq, qadd_eq, qsub_eq, qscale_eq, qraise_eq, qmul_eq, qdivmod_eq, qmonic_eq, qgcd_eq, mapO_eq, qpower_eq, extLoop_eq, qextended_eq, qderive_eq, qintegral_eq, fmake2_eq, fmake_eq, fadd_eq, fsub_eq, fderive_eq, solved_eq, lowStep_eq] <;> rfl
noncomputable def hermStep (s : R × P × P) (x : P × Nat) : Option (R × P × P) := match Nat.ble 2 x.2 with
  | false => some s
  | true => ob (H.qpower x.1 x.2) fun pw => ob (H.qdivmod s.2.1 pw) fun y => ob (H.lowered s.2.2 y.1 x.1 x.2) fun z => ob (H.fadd s.1 z.1) fun found' => ob (H.qmul y.1 x.1) fun bottom' => some (found', bottom', z.2)
theorem hermStep_eq : hermStep = F.hermStep := by
  funext a b
  simp only [hermStep, F.hermStep, radd_eq, rmul_eq, rdiv_eq, rneg_eq, rinv_eq, qadd_eq, qsub_eq, qscale_eq, qraise_eq, qmul_eq, qdivmod_eq, qmonic_eq, qgcd_eq, mapO_eq, qpower_eq, extLoop_eq, qextended_eq, qderive_eq, qintegral_eq, fmake2_eq, fmake_eq, fadd_eq, fsub_eq, fderive_eq, solved_eq, lowStep_eq, lowered_eq] <;> rfl
noncomputable def hermite (f : R) : Option (R × R) := ob (H.qdivmod f.1 f.2) fun x => ob (H.qintegral x.1) fun qi => ob (match Nat.ble 2 f.2.length with
  | true => sfp f.2
  | false => some []) fun parts => ob (foldO H.hermStep (fpoly qi, f.2, x.2) parts) fun y => ob (H.fmake y.2.2 y.2.1) fun m => some (y.1, m)
theorem hermite_eq : hermite = F.hermite := by
  funext a
  simp only [hermite, F.hermite, radd_eq, rmul_eq, rdiv_eq, rneg_eq, rinv_eq, qadd_eq, qsub_eq, qscale_eq, qraise_eq, qmul_eq, qdivmod_eq, qmonic_eq, qgcd_eq, mapO_eq, qpower_eq, extLoop_eq, qextended_eq, qderive_eq, qintegral_eq, fmake2_eq, fmake_eq, fadd_eq, fsub_eq, fderive_eq, solved_eq, lowStep_eq, lowered_eq, hermStep_eq] <;> rfl
noncomputable def pole (number root : Int) (many : Nat) : Option R := gd (okI root) (gd (Nat.ble many 1000) (ob (poleLoop root many [1]) fun b => H.fmake [(number, 1)] (fromZ b)))
theorem pole_eq : pole = F.pole := by
  funext a b c
  simp only [pole, F.pole, radd_eq, rmul_eq, rdiv_eq, rneg_eq, rinv_eq, qadd_eq, qsub_eq, qscale_eq, qraise_eq, qmul_eq, qdivmod_eq, qmonic_eq, qgcd_eq, mapO_eq, qpower_eq, extLoop_eq, qextended_eq, qderive_eq, qintegral_eq, fmake2_eq, fmake_eq, fadd_eq, fsub_eq, fderive_eq, solved_eq, lowStep_eq, lowered_eq, hermStep_eq, hermite_eq] <;> rfl
noncomputable def fStep (first : Int) (s : R) (x : Nat × Nat) : Option R := ob (H.pole (1 + (x.1 : Int)) (first + (x.2 : Int)) 1) fun p => H.fadd s p
theorem fStep_eq : fStep = F.fStep := by
  funext a b c
  simp only [fStep, F.fStep, radd_eq, rmul_eq, rdiv_eq, rneg_eq, rinv_eq, qadd_eq, qsub_eq, qscale_eq, qraise_eq, qmul_eq, qdivmod_eq, qmonic_eq, qgcd_eq, mapO_eq, qpower_eq, extLoop_eq, qextended_eq, qderive_eq, qintegral_eq, fmake2_eq, fmake_eq, fadd_eq, fsub_eq, fderive_eq, solved_eq, lowStep_eq, lowered_eq, hermStep_eq, hermite_eq, pole_eq] <;> rfl
noncomputable def theF (first : Int) (ps : List Nat) : Option R := foldO (H.fStep first) F0 ps.zipIdx
theorem theF_eq : theF = F.theF := by
  funext a b
  simp only [theF, F.theF, radd_eq, rmul_eq, rdiv_eq, rneg_eq, rinv_eq, qadd_eq, qsub_eq, qscale_eq, qraise_eq, qmul_eq, qdivmod_eq, qmonic_eq, qgcd_eq, mapO_eq, qpower_eq, extLoop_eq, qextended_eq, qderive_eq, qintegral_eq, fmake2_eq, fmake_eq, fadd_eq, fsub_eq, fderive_eq, solved_eq, lowStep_eq, lowered_eq, hermStep_eq, hermite_eq, pole_eq, fStep_eq] <;> rfl
noncomputable def theG (root : Int) (x z u : Nat) : Option R := ob (H.pole (1 + (x : Int)) root (1 + z)) fun p => H.fadd p (fpoly [(0, 1), (1 + (u : Int), 1)])
theorem theG_eq : theG = F.theG := by
  funext a b c d
  simp only [theG, F.theG, radd_eq, rmul_eq, rdiv_eq, rneg_eq, rinv_eq, qadd_eq, qsub_eq, qscale_eq, qraise_eq, qmul_eq, qdivmod_eq, qmonic_eq, qgcd_eq, mapO_eq, qpower_eq, extLoop_eq, qextended_eq, qderive_eq, qintegral_eq, fmake2_eq, fmake_eq, fadd_eq, fsub_eq, fderive_eq, solved_eq, lowStep_eq, lowered_eq, hermStep_eq, hermite_eq, pole_eq, fStep_eq, theF_eq] <;> rfl
noncomputable def gOk (g dg : R) : Bool := match H.hermite dg with
  | none => false
  | some x => match eqR x.2 F0 with
    | false => false
    | true => match H.fsub x.1 g with
      | none => false
      | some y => Nat.ble y.1.length 1
theorem gOk_eq : gOk = F.gOk := by
  funext a b
  simp only [gOk, F.gOk, radd_eq, rmul_eq, rdiv_eq, rneg_eq, rinv_eq, qadd_eq, qsub_eq, qscale_eq, qraise_eq, qmul_eq, qdivmod_eq, qmonic_eq, qgcd_eq, mapO_eq, qpower_eq, extLoop_eq, qextended_eq, qderive_eq, qintegral_eq, fmake2_eq, fmake_eq, fadd_eq, fsub_eq, fderive_eq, solved_eq, lowStep_eq, lowered_eq, hermStep_eq, hermite_eq, pole_eq, fStep_eq, theF_eq, theG_eq] <;> rfl
noncomputable def fOk (f : R) : Bool := match H.hermite f with
  | none => false
  | some h => match eqR h.1 F0 with
    | false => false
    | true => eqR h.2 f
theorem fOk_eq : fOk = F.fOk := by
  funext a
  simp only [fOk, F.fOk, radd_eq, rmul_eq, rdiv_eq, rneg_eq, rinv_eq, qadd_eq, qsub_eq, qscale_eq, qraise_eq, qmul_eq, qdivmod_eq, qmonic_eq, qgcd_eq, mapO_eq, qpower_eq, extLoop_eq, qextended_eq, qderive_eq, qintegral_eq, fmake2_eq, fmake_eq, fadd_eq, fsub_eq, fderive_eq, solved_eq, lowStep_eq, lowered_eq, hermStep_eq, hermite_eq, pole_eq, fStep_eq, theF_eq, theG_eq, gOk_eq] <;> rfl
end H
end Mine
end
section
set_option linter.unusedVariables false
set_option linter.unusedSimpArgs false
set_option Elab.async false
namespace Mine
namespace H
open F (Q P R T3 ob gd lim F0 fpoly fneg foldO ratI eqP eqR ob_some)
noncomputable def core : List (P × Nat) → P → P → Option (List R × P × P)
  | [], b, t => some ([], b, t)
  | x :: l, b, t => match Nat.ble 2 x.2 with
    | false => core l b t
    | true => ob (H.qpower x.1 x.2) fun pw => ob (H.qdivmod b pw) fun y => ob (H.lowered t y.1 x.1 x.2) fun z => ob (H.qmul y.1 x.1) fun b' => ob (core l b' z.2) fun c => some (z.1 :: c.1, c.2)
theorem core_fold : ∀ {l : List (P × Nat)} {b t : P} {c : List R × P × P} {s s' : R}, core l b t = some c → foldO H.fadd s c.1 = some s' → foldO F.hermStep (s, b, t) l = some (s', c.2.1, c.2.2)
  | [], b, t, c, s, s', h, hs => by cases h; cases hs; rfl
  | x :: l, b, t, c, s, s', h, hs => by
    unfold core at h
    have e : foldO F.hermStep (s, b, t) (x :: l) = ob (F.hermStep (s, b, t) x) fun b' => foldO F.hermStep b' l := rfl
    rw [e]
    split at h
    · rename_i h2
      have hh : F.hermStep (s, b, t) x = some (s, b, t) := by
        unfold F.hermStep
        rw [h2]
      rw [hh]
      exact core_fold h hs
    · rename_i h2
      obtain ⟨pw, h3, h⟩ := ob_some h
      obtain ⟨y, h4, h⟩ := ob_some h
      obtain ⟨z, h5, h⟩ := ob_some h
      obtain ⟨b', h6, h⟩ := ob_some h
      obtain ⟨c', h7, h⟩ := ob_some h
      cases h
      obtain ⟨s1, h8, hs⟩ := ob_some (show ob (H.fadd s z.1) (fun b' => foldO H.fadd b' c'.1) = some s' from hs)
      have hh : F.hermStep (s, b, t) x = some (s1, b', z.2) := by
        unfold F.hermStep
        rw [h2]
        dsimp only
        rw [← qpower_eq, ← qdivmod_eq, ← lowered_eq, ← fadd_eq, ← qmul_eq, h3]
        dsimp only [ob]
        rw [h4]
        dsimp only
        rw [h5]
        dsimp only
        rw [h8]
        dsimp only
        rw [h6]
      rw [hh]
      have hf := core_fold h7 hs
      exact hf
noncomputable def finB (q : P) (ds : List R) (g : R) : Bool := match H.qintegral q with
  | none => false
  | some qi => match foldO H.fadd (fpoly qi) ds with
    | none => false
    | some fd => eqR fd g
noncomputable def coreB (f g0 g1 : R) (wB : P) (parts : List (P × Nat)) (q0 q1 t : P) : Bool := match core parts wB t with
  | none => false
  | some c => match H.fmake c.2.2 c.2.1 with
    | none => false
    | some m => match eqR m f with
      | false => false
      | true => match finB q0 c.1 g0 with
        | false => false
        | true => finB q1 c.1 g1
noncomputable def wholeB (f dg : R) (wB : P) (k : R → P × P → Bool) : Bool := match H.fadd f dg with
  | none => false
  | some w => match eqP w.2 wB with
    | false => false
    | true => match H.qdivmod w.1 wB with
      | none => false
      | some y => k w y
noncomputable def pairB (f g0 g1 dg0 dg1 : R) (wB dB : P) (parts : List (P × Nat)) : Bool := wholeB f dg0 wB fun _ y0 => wholeB f dg1 wB fun _ y1 => match eqP y1.2 y0.2 with
  | false => false
  | true => match eqP g0.2 dB with
    | false => false
    | true => match eqP g1.2 dB with
      | false => false
      | true => coreB f g0 g1 wB parts y0.1 y1.1 y0.2
theorem wholeB_is {f dg : R} {wB : P} {k : R → P × P → Bool} (h : wholeB f dg wB k = true) : ∃ w y, F.fadd f dg = some w ∧ w.2 = wB ∧ F.qdivmod w.1 w.2 = some y ∧ k w y = true := by
  unfold wholeB at h
  split at h
  · cases h
  rename_i w e1
  split at h
  · cases h
  rename_i e2
  split at h
  · cases h
  rename_i y e3
  have e2 := eqP_eq e2
  exact ⟨w, y, by rw [← fadd_eq]; exact e1, e2, by rw [e2, ← qdivmod_eq]; exact e3, h⟩
theorem finB_is {q : P} {ds : List R} {g : R} (h : finB q ds g = true) : ∃ qi, F.qintegral q = some qi ∧ foldO H.fadd (fpoly qi) ds = some g := by
  unfold finB at h
  split at h
  · cases h
  rename_i qi e1
  split at h
  · cases h
  rename_i fd e2
  exact ⟨qi, by rw [← qintegral_eq]; exact e1, by rw [e2, eqR_eq h]⟩
/-- what is asked of a shape: the whole's bottom, its parts, and the orders -/
structure ShapeIs (first : Int) (fB wB dB : P) (parts : List (P × Nat)) : Prop where
  h1 : F.sfp wB = some parts
  h2 : Nat.ble 2 wB.length = true
  h3 : F.rootsOk ([], dB) ([], wB) ([], fB) 5 (first - 1) = true
structure SelfIs (g : R) : Prop where
  h : ∃ a, F.fsub g g = some a ∧ Nat.ble a.1.length 1 = true ∧ Nat.ble a.2.length 1 = true
theorem roots_congr {a b c a' b' c' : R} (ha : a.2 = a'.2) (hb : b.2 = b'.2) (hc : c.2 = c'.2) : ∀ (n : Nat) (root : Int), F.rootsOk a b c n root = F.rootsOk a' b' c' n root
  | 0, root => rfl
  | n + 1, root => by
    have e : F.rootOk a b c root = F.rootOk a' b' c' root := by
      unfold F.rootOk F.order
      rw [ha, hb, hc]
    unfold F.rootsOk
    rw [e, roots_congr ha hb hc n (root + 1)]
theorem whole_of {first : Int} {f g dg w : R} {y : P × P} {wB dB : P} {parts : List (P × Nat)} (S : ShapeIs first f.2 wB dB parts) (G : SelfIs g) (hl : Nat.ble f.2.length f.1.length = false) (h1 : F.fadd f dg = some w) (h2 : w.2 = wB) (h3 : F.qdivmod w.1 w.2 = some y)
    {c : List R × P × P} (h4 : core parts wB y.2 = some c) (h5 : H.fmake c.2.2 c.2.1 = some f) (h6 : g.2 = dB) (h7 : finB y.1 c.1 g = true) : F.wholeOk first f g dg = true := by
  obtain ⟨qi, e1, e2⟩ := finB_is h7
  have e3 : F.hermite w = some (g, f) := by
    unfold F.hermite
    rw [h3]
    dsimp only [ob]
    rw [e1, h2, S.h2]
    dsimp only
    rw [S.h1]
    dsimp only
    rw [core_fold h4 e2]
    dsimp only
    rw [← fmake_eq, h5]
  have eF : ∀ (a : Int) (b : Int), a = b → F.intB a b = true := fun a b e => (F.intB_eq a b).mpr e
  have rQ : ∀ q : Q, F.eqQ q q = true := fun q => by
    unfold F.eqQ
    rw [(F.intB_eq q.1 q.1).mpr rfl]
    exact Nat.beq_refl _
  have rP : ∀ p : P, eqP p p = true := fun p => by
    induction p with
    | nil => rfl
    | cons x p ih => show (match F.eqQ x x with
        | true => eqP p p
        | false => false) = true; rw [rQ]; exact ih
  have rR : ∀ r : R, eqR r r = true := fun r => by
    unfold F.eqR
    rw [rP]
    exact rP _
  obtain ⟨a, a1, a2, a3⟩ := G.h
  unfold F.wholeOk
  rw [h1]
  dsimp only
  rw [e3]
  dsimp only
  rw [rR]
  dsimp only
  rw [hl]
  dsimp only
  rw [a1]
  dsimp only
  rw [a2]
  dsimp only
  rw [a3]
  dsimp only
  rw [roots_congr (a := g) (b := w) (c := f) (a' := ([], dB)) (b' := ([], wB)) (c' := ([], f.2)) h6 h2 rfl]
  exact S.h3
theorem pairB_is {first : Int} {f g0 g1 dg0 dg1 : R} {wB dB : P} {parts : List (P × Nat)} (S : ShapeIs first f.2 wB dB parts) (G0 : SelfIs g0) (G1 : SelfIs g1) (hl : Nat.ble f.2.length f.1.length = false) (h : pairB f g0 g1 dg0 dg1 wB dB parts = true) :
    F.wholeOk first f g0 dg0 = true ∧ F.wholeOk first f g1 dg1 = true := by
  obtain ⟨w0, y0, a1, a2, a3, h⟩ := wholeB_is h
  obtain ⟨w1, y1, b1, b2, b3, h⟩ := wholeB_is h
  split at h
  · cases h
  rename_i e1
  split at h
  · cases h
  rename_i e2
  split at h
  · cases h
  rename_i e3
  have e1 := eqP_eq e1
  unfold coreB at h
  split at h
  · cases h
  rename_i c e4
  split at h
  · cases h
  rename_i m e5
  split at h
  · cases h
  rename_i e6
  split at h
  · cases h
  rename_i e7
  have e5 : H.fmake c.2.2 c.2.1 = some f := by rw [e5, eqR_eq e6]
  exact ⟨whole_of S G0 hl a1 a2 a3 e4 e5 (eqP_eq e2) e7, whole_of S G1 hl b1 b2 b3 (by rw [e1]; exact e4) e5 (eqP_eq e3) h⟩
end H
end Mine
end
section
set_option linter.unusedVariables false
set_option linter.unusedSimpArgs false
set_option Elab.async false
set_option maxRecDepth 1000000
namespace Mine
namespace H
open F (Q P R T3 ob gd lim F0 fpoly fneg foldO ratI eqP eqR ob_some)
-- the values, printed by a program (GenT), checked below
noncomputable def fTab : List R := [
  ([((.ofNat 1), 1)], [((.ofNat 1), 1), ((.ofNat 1), 1)]),
  ([((.ofNat 2), 1)], [((.ofNat 1), 1), ((.ofNat 1), 1)]),
  ([((.ofNat 3), 1)], [((.ofNat 1), 1), ((.ofNat 1), 1)]),
  ([((.ofNat 1), 1), ((.ofNat 2), 1)], [((.ofNat 0), 1), ((.ofNat 1), 1), ((.ofNat 1), 1)]),
  ([((.ofNat 2), 1), ((.ofNat 3), 1)], [((.ofNat 0), 1), ((.ofNat 1), 1), ((.ofNat 1), 1)]),
  ([((.ofNat 3), 1), ((.ofNat 4), 1)], [((.ofNat 0), 1), ((.ofNat 1), 1), ((.ofNat 1), 1)]),
  ([((.ofNat 1), 1), ((.ofNat 3), 1)], [((.ofNat 0), 1), ((.ofNat 1), 1), ((.ofNat 1), 1)]),
  ([((.ofNat 2), 1), ((.ofNat 4), 1)], [((.ofNat 0), 1), ((.ofNat 1), 1), ((.ofNat 1), 1)]),
  ([((.ofNat 3), 1), ((.ofNat 5), 1)], [((.ofNat 0), 1), ((.ofNat 1), 1), ((.ofNat 1), 1)]),
  ([((.ofNat 1), 1), ((.ofNat 4), 1)], [((.ofNat 0), 1), ((.ofNat 1), 1), ((.ofNat 1), 1)]),
  ([((.ofNat 2), 1), ((.ofNat 5), 1)], [((.ofNat 0), 1), ((.ofNat 1), 1), ((.ofNat 1), 1)]),
  ([((.ofNat 3), 1), ((.ofNat 6), 1)], [((.ofNat 0), 1), ((.ofNat 1), 1), ((.ofNat 1), 1)]),
  ([((.ofNat 1), 1)], [((.ofNat 0), 1), ((.ofNat 1), 1)]),
  ([((.ofNat 2), 1)], [((.ofNat 0), 1), ((.ofNat 1), 1)]),
  ([((.ofNat 3), 1)], [((.ofNat 0), 1), ((.ofNat 1), 1)]),
  ([((.negSucc 0), 1), ((.ofNat 2), 1)], [((.ofNat 0), 1), ((.negSucc 0), 1), ((.ofNat 1), 1)]),
  ([((.negSucc 0), 1), ((.ofNat 3), 1)], [((.ofNat 0), 1), ((.negSucc 0), 1), ((.ofNat 1), 1)]),
  ([((.negSucc 0), 1), ((.ofNat 4), 1)], [((.ofNat 0), 1), ((.negSucc 0), 1), ((.ofNat 1), 1)]),
  ([((.negSucc 1), 1), ((.ofNat 3), 1)], [((.ofNat 0), 1), ((.negSucc 0), 1), ((.ofNat 1), 1)]),
  ([((.negSucc 1), 1), ((.ofNat 4), 1)], [((.ofNat 0), 1), ((.negSucc 0), 1), ((.ofNat 1), 1)]),
  ([((.negSucc 1), 1), ((.ofNat 5), 1)], [((.ofNat 0), 1), ((.negSucc 0), 1), ((.ofNat 1), 1)]),
  ([((.negSucc 2), 1), ((.ofNat 4), 1)], [((.ofNat 0), 1), ((.negSucc 0), 1), ((.ofNat 1), 1)]),
  ([((.negSucc 2), 1), ((.ofNat 5), 1)], [((.ofNat 0), 1), ((.negSucc 0), 1), ((.ofNat 1), 1)]),
  ([((.negSucc 2), 1), ((.ofNat 6), 1)], [((.ofNat 0), 1), ((.negSucc 0), 1), ((.ofNat 1), 1)]),
  ([((.ofNat 1), 1)], [((.negSucc 0), 1), ((.ofNat 1), 1)]),
  ([((.ofNat 2), 1)], [((.negSucc 0), 1), ((.ofNat 1), 1)]),
  ([((.ofNat 3), 1)], [((.negSucc 0), 1), ((.ofNat 1), 1)]),
  ([((.negSucc 2), 1), ((.ofNat 2), 1)], [((.ofNat 2), 1), ((.negSucc 2), 1), ((.ofNat 1), 1)]),
  ([((.negSucc 3), 1), ((.ofNat 3), 1)], [((.ofNat 2), 1), ((.negSucc 2), 1), ((.ofNat 1), 1)]),
  ([((.negSucc 4), 1), ((.ofNat 4), 1)], [((.ofNat 2), 1), ((.negSucc 2), 1), ((.ofNat 1), 1)]),
  ([((.negSucc 4), 1), ((.ofNat 3), 1)], [((.ofNat 2), 1), ((.negSucc 2), 1), ((.ofNat 1), 1)]),
  ([((.negSucc 5), 1), ((.ofNat 4), 1)], [((.ofNat 2), 1), ((.negSucc 2), 1), ((.ofNat 1), 1)]),
  ([((.negSucc 6), 1), ((.ofNat 5), 1)], [((.ofNat 2), 1), ((.negSucc 2), 1), ((.ofNat 1), 1)]),
  ([((.negSucc 6), 1), ((.ofNat 4), 1)], [((.ofNat 2), 1), ((.negSucc 2), 1), ((.ofNat 1), 1)]),
  ([((.negSucc 7), 1), ((.ofNat 5), 1)], [((.ofNat 2), 1), ((.negSucc 2), 1), ((.ofNat 1), 1)]),
  ([((.negSucc 8), 1), ((.ofNat 6), 1)], [((.ofNat 2), 1), ((.negSucc 2), 1), ((.ofNat 1), 1)])]
noncomputable def gTab : List (R × R) := [
  (([((.ofNat 1), 1), ((.ofNat 1), 1), ((.ofNat 1), 1)], [((.ofNat 1), 1), ((.ofNat 1), 1)]), ([((.ofNat 0), 1), ((.ofNat 2), 1), ((.ofNat 1), 1)], [((.ofNat 1), 1), ((.ofNat 2), 1), ((.ofNat 1), 1)])),
  (([((.ofNat 1), 1), ((.ofNat 2), 1), ((.ofNat 2), 1)], [((.ofNat 1), 1), ((.ofNat 1), 1)]), ([((.ofNat 1), 1), ((.ofNat 4), 1), ((.ofNat 2), 1)], [((.ofNat 1), 1), ((.ofNat 2), 1), ((.ofNat 1), 1)])),
  (([((.ofNat 1), 1), ((.ofNat 1), 1), ((.ofNat 2), 1), ((.ofNat 1), 1)], [((.ofNat 1), 1), ((.ofNat 2), 1), ((.ofNat 1), 1)]), ([((.negSucc 0), 1), ((.ofNat 3), 1), ((.ofNat 3), 1), ((.ofNat 1), 1)], [((.ofNat 1), 1), ((.ofNat 3), 1), ((.ofNat 3), 1), ((.ofNat 1), 1)])),
  (([((.ofNat 1), 1), ((.ofNat 2), 1), ((.ofNat 4), 1), ((.ofNat 2), 1)], [((.ofNat 1), 1), ((.ofNat 2), 1), ((.ofNat 1), 1)]), ([((.ofNat 0), 1), ((.ofNat 6), 1), ((.ofNat 6), 1), ((.ofNat 2), 1)], [((.ofNat 1), 1), ((.ofNat 3), 1), ((.ofNat 3), 1), ((.ofNat 1), 1)])),
  (([((.ofNat 2), 1), ((.ofNat 1), 1), ((.ofNat 1), 1)], [((.ofNat 1), 1), ((.ofNat 1), 1)]), ([((.negSucc 0), 1), ((.ofNat 2), 1), ((.ofNat 1), 1)], [((.ofNat 1), 1), ((.ofNat 2), 1), ((.ofNat 1), 1)])),
  (([((.ofNat 2), 1), ((.ofNat 2), 1), ((.ofNat 2), 1)], [((.ofNat 1), 1), ((.ofNat 1), 1)]), ([((.ofNat 0), 1), ((.ofNat 4), 1), ((.ofNat 2), 1)], [((.ofNat 1), 1), ((.ofNat 2), 1), ((.ofNat 1), 1)])),
  (([((.ofNat 2), 1), ((.ofNat 1), 1), ((.ofNat 2), 1), ((.ofNat 1), 1)], [((.ofNat 1), 1), ((.ofNat 2), 1), ((.ofNat 1), 1)]), ([((.negSucc 2), 1), ((.ofNat 3), 1), ((.ofNat 3), 1), ((.ofNat 1), 1)], [((.ofNat 1), 1), ((.ofNat 3), 1), ((.ofNat 3), 1), ((.ofNat 1), 1)])),
  (([((.ofNat 2), 1), ((.ofNat 2), 1), ((.ofNat 4), 1), ((.ofNat 2), 1)], [((.ofNat 1), 1), ((.ofNat 2), 1), ((.ofNat 1), 1)]), ([((.negSucc 1), 1), ((.ofNat 6), 1), ((.ofNat 6), 1), ((.ofNat 2), 1)], [((.ofNat 1), 1), ((.ofNat 3), 1), ((.ofNat 3), 1), ((.ofNat 1), 1)])),
  (([((.ofNat 3), 1), ((.ofNat 1), 1), ((.ofNat 1), 1)], [((.ofNat 1), 1), ((.ofNat 1), 1)]), ([((.negSucc 1), 1), ((.ofNat 2), 1), ((.ofNat 1), 1)], [((.ofNat 1), 1), ((.ofNat 2), 1), ((.ofNat 1), 1)])),
  (([((.ofNat 3), 1), ((.ofNat 2), 1), ((.ofNat 2), 1)], [((.ofNat 1), 1), ((.ofNat 1), 1)]), ([((.negSucc 0), 1), ((.ofNat 4), 1), ((.ofNat 2), 1)], [((.ofNat 1), 1), ((.ofNat 2), 1), ((.ofNat 1), 1)])),
  (([((.ofNat 3), 1), ((.ofNat 1), 1), ((.ofNat 2), 1), ((.ofNat 1), 1)], [((.ofNat 1), 1), ((.ofNat 2), 1), ((.ofNat 1), 1)]), ([((.negSucc 4), 1), ((.ofNat 3), 1), ((.ofNat 3), 1), ((.ofNat 1), 1)], [((.ofNat 1), 1), ((.ofNat 3), 1), ((.ofNat 3), 1), ((.ofNat 1), 1)])),
  (([((.ofNat 3), 1), ((.ofNat 2), 1), ((.ofNat 4), 1), ((.ofNat 2), 1)], [((.ofNat 1), 1), ((.ofNat 2), 1), ((.ofNat 1), 1)]), ([((.negSucc 3), 1), ((.ofNat 6), 1), ((.ofNat 6), 1), ((.ofNat 2), 1)], [((.ofNat 1), 1), ((.ofNat 3), 1), ((.ofNat 3), 1), ((.ofNat 1), 1)])),
  (([((.ofNat 1), 1), ((.ofNat 0), 1), ((.ofNat 1), 1)], [((.ofNat 0), 1), ((.ofNat 1), 1)]), ([((.negSucc 0), 1), ((.ofNat 0), 1), ((.ofNat 1), 1)], [((.ofNat 0), 1), ((.ofNat 0), 1), ((.ofNat 1), 1)])),
  (([((.ofNat 1), 1), ((.ofNat 0), 1), ((.ofNat 2), 1)], [((.ofNat 0), 1), ((.ofNat 1), 1)]), ([((.negSucc 0), 1), ((.ofNat 0), 1), ((.ofNat 2), 1)], [((.ofNat 0), 1), ((.ofNat 0), 1), ((.ofNat 1), 1)])),
  (([((.ofNat 1), 1), ((.ofNat 0), 1), ((.ofNat 0), 1), ((.ofNat 1), 1)], [((.ofNat 0), 1), ((.ofNat 0), 1), ((.ofNat 1), 1)]), ([((.negSucc 1), 1), ((.ofNat 0), 1), ((.ofNat 0), 1), ((.ofNat 1), 1)], [((.ofNat 0), 1), ((.ofNat 0), 1), ((.ofNat 0), 1), ((.ofNat 1), 1)])),
  (([((.ofNat 1), 1), ((.ofNat 0), 1), ((.ofNat 0), 1), ((.ofNat 2), 1)], [((.ofNat 0), 1), ((.ofNat 0), 1), ((.ofNat 1), 1)]), ([((.negSucc 1), 1), ((.ofNat 0), 1), ((.ofNat 0), 1), ((.ofNat 2), 1)], [((.ofNat 0), 1), ((.ofNat 0), 1), ((.ofNat 0), 1), ((.ofNat 1), 1)])),
  (([((.ofNat 2), 1), ((.ofNat 0), 1), ((.ofNat 1), 1)], [((.ofNat 0), 1), ((.ofNat 1), 1)]), ([((.negSucc 1), 1), ((.ofNat 0), 1), ((.ofNat 1), 1)], [((.ofNat 0), 1), ((.ofNat 0), 1), ((.ofNat 1), 1)])),
  (([((.ofNat 2), 1), ((.ofNat 0), 1), ((.ofNat 2), 1)], [((.ofNat 0), 1), ((.ofNat 1), 1)]), ([((.negSucc 1), 1), ((.ofNat 0), 1), ((.ofNat 2), 1)], [((.ofNat 0), 1), ((.ofNat 0), 1), ((.ofNat 1), 1)])),
  (([((.ofNat 2), 1), ((.ofNat 0), 1), ((.ofNat 0), 1), ((.ofNat 1), 1)], [((.ofNat 0), 1), ((.ofNat 0), 1), ((.ofNat 1), 1)]), ([((.negSucc 3), 1), ((.ofNat 0), 1), ((.ofNat 0), 1), ((.ofNat 1), 1)], [((.ofNat 0), 1), ((.ofNat 0), 1), ((.ofNat 0), 1), ((.ofNat 1), 1)])),
  (([((.ofNat 2), 1), ((.ofNat 0), 1), ((.ofNat 0), 1), ((.ofNat 2), 1)], [((.ofNat 0), 1), ((.ofNat 0), 1), ((.ofNat 1), 1)]), ([((.negSucc 3), 1), ((.ofNat 0), 1), ((.ofNat 0), 1), ((.ofNat 2), 1)], [((.ofNat 0), 1), ((.ofNat 0), 1), ((.ofNat 0), 1), ((.ofNat 1), 1)])),
  (([((.ofNat 3), 1), ((.ofNat 0), 1), ((.ofNat 1), 1)], [((.ofNat 0), 1), ((.ofNat 1), 1)]), ([((.negSucc 2), 1), ((.ofNat 0), 1), ((.ofNat 1), 1)], [((.ofNat 0), 1), ((.ofNat 0), 1), ((.ofNat 1), 1)])),
  (([((.ofNat 3), 1), ((.ofNat 0), 1), ((.ofNat 2), 1)], [((.ofNat 0), 1), ((.ofNat 1), 1)]), ([((.negSucc 2), 1), ((.ofNat 0), 1), ((.ofNat 2), 1)], [((.ofNat 0), 1), ((.ofNat 0), 1), ((.ofNat 1), 1)])),
  (([((.ofNat 3), 1), ((.ofNat 0), 1), ((.ofNat 0), 1), ((.ofNat 1), 1)], [((.ofNat 0), 1), ((.ofNat 0), 1), ((.ofNat 1), 1)]), ([((.negSucc 5), 1), ((.ofNat 0), 1), ((.ofNat 0), 1), ((.ofNat 1), 1)], [((.ofNat 0), 1), ((.ofNat 0), 1), ((.ofNat 0), 1), ((.ofNat 1), 1)])),
  (([((.ofNat 3), 1), ((.ofNat 0), 1), ((.ofNat 0), 1), ((.ofNat 2), 1)], [((.ofNat 0), 1), ((.ofNat 0), 1), ((.ofNat 1), 1)]), ([((.negSucc 5), 1), ((.ofNat 0), 1), ((.ofNat 0), 1), ((.ofNat 2), 1)], [((.ofNat 0), 1), ((.ofNat 0), 1), ((.ofNat 0), 1), ((.ofNat 1), 1)])),
  (([((.ofNat 1), 1), ((.negSucc 0), 1), ((.ofNat 1), 1)], [((.negSucc 0), 1), ((.ofNat 1), 1)]), ([((.ofNat 0), 1), ((.negSucc 1), 1), ((.ofNat 1), 1)], [((.ofNat 1), 1), ((.negSucc 1), 1), ((.ofNat 1), 1)])),
  (([((.ofNat 1), 1), ((.negSucc 1), 1), ((.ofNat 2), 1)], [((.negSucc 0), 1), ((.ofNat 1), 1)]), ([((.ofNat 1), 1), ((.negSucc 3), 1), ((.ofNat 2), 1)], [((.ofNat 1), 1), ((.negSucc 1), 1), ((.ofNat 1), 1)])),
  (([((.ofNat 1), 1), ((.ofNat 1), 1), ((.negSucc 1), 1), ((.ofNat 1), 1)], [((.ofNat 1), 1), ((.negSucc 1), 1), ((.ofNat 1), 1)]), ([((.negSucc 2), 1), ((.ofNat 3), 1), ((.negSucc 2), 1), ((.ofNat 1), 1)], [((.negSucc 0), 1), ((.ofNat 3), 1), ((.negSucc 2), 1), ((.ofNat 1), 1)])),
  (([((.ofNat 1), 1), ((.ofNat 2), 1), ((.negSucc 3), 1), ((.ofNat 2), 1)], [((.ofNat 1), 1), ((.negSucc 1), 1), ((.ofNat 1), 1)]), ([((.negSucc 3), 1), ((.ofNat 6), 1), ((.negSucc 5), 1), ((.ofNat 2), 1)], [((.negSucc 0), 1), ((.ofNat 3), 1), ((.negSucc 2), 1), ((.ofNat 1), 1)])),
  (([((.ofNat 2), 1), ((.negSucc 0), 1), ((.ofNat 1), 1)], [((.negSucc 0), 1), ((.ofNat 1), 1)]), ([((.negSucc 0), 1), ((.negSucc 1), 1), ((.ofNat 1), 1)], [((.ofNat 1), 1), ((.negSucc 1), 1), ((.ofNat 1), 1)])),
  (([((.ofNat 2), 1), ((.negSucc 1), 1), ((.ofNat 2), 1)], [((.negSucc 0), 1), ((.ofNat 1), 1)]), ([((.ofNat 0), 1), ((.negSucc 3), 1), ((.ofNat 2), 1)], [((.ofNat 1), 1), ((.negSucc 1), 1), ((.ofNat 1), 1)])),
  (([((.ofNat 2), 1), ((.ofNat 1), 1), ((.negSucc 1), 1), ((.ofNat 1), 1)], [((.ofNat 1), 1), ((.negSucc 1), 1), ((.ofNat 1), 1)]), ([((.negSucc 4), 1), ((.ofNat 3), 1), ((.negSucc 2), 1), ((.ofNat 1), 1)], [((.negSucc 0), 1), ((.ofNat 3), 1), ((.negSucc 2), 1), ((.ofNat 1), 1)])),
  (([((.ofNat 2), 1), ((.ofNat 2), 1), ((.negSucc 3), 1), ((.ofNat 2), 1)], [((.ofNat 1), 1), ((.negSucc 1), 1), ((.ofNat 1), 1)]), ([((.negSucc 5), 1), ((.ofNat 6), 1), ((.negSucc 5), 1), ((.ofNat 2), 1)], [((.negSucc 0), 1), ((.ofNat 3), 1), ((.negSucc 2), 1), ((.ofNat 1), 1)])),
  (([((.ofNat 3), 1), ((.negSucc 0), 1), ((.ofNat 1), 1)], [((.negSucc 0), 1), ((.ofNat 1), 1)]), ([((.negSucc 1), 1), ((.negSucc 1), 1), ((.ofNat 1), 1)], [((.ofNat 1), 1), ((.negSucc 1), 1), ((.ofNat 1), 1)])),
  (([((.ofNat 3), 1), ((.negSucc 1), 1), ((.ofNat 2), 1)], [((.negSucc 0), 1), ((.ofNat 1), 1)]), ([((.negSucc 0), 1), ((.negSucc 3), 1), ((.ofNat 2), 1)], [((.ofNat 1), 1), ((.negSucc 1), 1), ((.ofNat 1), 1)])),
  (([((.ofNat 3), 1), ((.ofNat 1), 1), ((.negSucc 1), 1), ((.ofNat 1), 1)], [((.ofNat 1), 1), ((.negSucc 1), 1), ((.ofNat 1), 1)]), ([((.negSucc 6), 1), ((.ofNat 3), 1), ((.negSucc 2), 1), ((.ofNat 1), 1)], [((.negSucc 0), 1), ((.ofNat 3), 1), ((.negSucc 2), 1), ((.ofNat 1), 1)])),
  (([((.ofNat 3), 1), ((.ofNat 2), 1), ((.negSucc 3), 1), ((.ofNat 2), 1)], [((.ofNat 1), 1), ((.negSucc 1), 1), ((.ofNat 1), 1)]), ([((.negSucc 7), 1), ((.ofNat 6), 1), ((.negSucc 5), 1), ((.ofNat 2), 1)], [((.negSucc 0), 1), ((.ofNat 3), 1), ((.negSucc 2), 1), ((.ofNat 1), 1)])),
  (([((.ofNat 1), 1), ((.negSucc 1), 1), ((.ofNat 1), 1)], [((.negSucc 1), 1), ((.ofNat 1), 1)]), ([((.ofNat 3), 1), ((.negSucc 3), 1), ((.ofNat 1), 1)], [((.ofNat 4), 1), ((.negSucc 3), 1), ((.ofNat 1), 1)])),
  (([((.ofNat 1), 1), ((.negSucc 3), 1), ((.ofNat 2), 1)], [((.negSucc 1), 1), ((.ofNat 1), 1)]), ([((.ofNat 7), 1), ((.negSucc 7), 1), ((.ofNat 2), 1)], [((.ofNat 4), 1), ((.negSucc 3), 1), ((.ofNat 1), 1)])),
  (([((.ofNat 1), 1), ((.ofNat 4), 1), ((.negSucc 3), 1), ((.ofNat 1), 1)], [((.ofNat 4), 1), ((.negSucc 3), 1), ((.ofNat 1), 1)]), ([((.negSucc 9), 1), ((.ofNat 12), 1), ((.negSucc 5), 1), ((.ofNat 1), 1)], [((.negSucc 7), 1), ((.ofNat 12), 1), ((.negSucc 5), 1), ((.ofNat 1), 1)])),
  (([((.ofNat 1), 1), ((.ofNat 8), 1), ((.negSucc 7), 1), ((.ofNat 2), 1)], [((.ofNat 4), 1), ((.negSucc 3), 1), ((.ofNat 1), 1)]), ([((.negSucc 17), 1), ((.ofNat 24), 1), ((.negSucc 11), 1), ((.ofNat 2), 1)], [((.negSucc 7), 1), ((.ofNat 12), 1), ((.negSucc 5), 1), ((.ofNat 1), 1)])),
  (([((.ofNat 2), 1), ((.negSucc 1), 1), ((.ofNat 1), 1)], [((.negSucc 1), 1), ((.ofNat 1), 1)]), ([((.ofNat 2), 1), ((.negSucc 3), 1), ((.ofNat 1), 1)], [((.ofNat 4), 1), ((.negSucc 3), 1), ((.ofNat 1), 1)])),
  (([((.ofNat 2), 1), ((.negSucc 3), 1), ((.ofNat 2), 1)], [((.negSucc 1), 1), ((.ofNat 1), 1)]), ([((.ofNat 6), 1), ((.negSucc 7), 1), ((.ofNat 2), 1)], [((.ofNat 4), 1), ((.negSucc 3), 1), ((.ofNat 1), 1)])),
  (([((.ofNat 2), 1), ((.ofNat 4), 1), ((.negSucc 3), 1), ((.ofNat 1), 1)], [((.ofNat 4), 1), ((.negSucc 3), 1), ((.ofNat 1), 1)]), ([((.negSucc 11), 1), ((.ofNat 12), 1), ((.negSucc 5), 1), ((.ofNat 1), 1)], [((.negSucc 7), 1), ((.ofNat 12), 1), ((.negSucc 5), 1), ((.ofNat 1), 1)])),
  (([((.ofNat 2), 1), ((.ofNat 8), 1), ((.negSucc 7), 1), ((.ofNat 2), 1)], [((.ofNat 4), 1), ((.negSucc 3), 1), ((.ofNat 1), 1)]), ([((.negSucc 19), 1), ((.ofNat 24), 1), ((.negSucc 11), 1), ((.ofNat 2), 1)], [((.negSucc 7), 1), ((.ofNat 12), 1), ((.negSucc 5), 1), ((.ofNat 1), 1)])),
  (([((.ofNat 3), 1), ((.negSucc 1), 1), ((.ofNat 1), 1)], [((.negSucc 1), 1), ((.ofNat 1), 1)]), ([((.ofNat 1), 1), ((.negSucc 3), 1), ((.ofNat 1), 1)], [((.ofNat 4), 1), ((.negSucc 3), 1), ((.ofNat 1), 1)])),
  (([((.ofNat 3), 1), ((.negSucc 3), 1), ((.ofNat 2), 1)], [((.negSucc 1), 1), ((.ofNat 1), 1)]), ([((.ofNat 5), 1), ((.negSucc 7), 1), ((.ofNat 2), 1)], [((.ofNat 4), 1), ((.negSucc 3), 1), ((.ofNat 1), 1)])),
  (([((.ofNat 3), 1), ((.ofNat 4), 1), ((.negSucc 3), 1), ((.ofNat 1), 1)], [((.ofNat 4), 1), ((.negSucc 3), 1), ((.ofNat 1), 1)]), ([((.negSucc 13), 1), ((.ofNat 12), 1), ((.negSucc 5), 1), ((.ofNat 1), 1)], [((.negSucc 7), 1), ((.ofNat 12), 1), ((.negSucc 5), 1), ((.ofNat 1), 1)])),
  (([((.ofNat 3), 1), ((.ofNat 8), 1), ((.negSucc 7), 1), ((.ofNat 2), 1)], [((.ofNat 4), 1), ((.negSucc 3), 1), ((.ofNat 1), 1)]), ([((.negSucc 21), 1), ((.ofNat 24), 1), ((.negSucc 11), 1), ((.ofNat 2), 1)], [((.negSucc 7), 1), ((.ofNat 12), 1), ((.negSucc 5), 1), ((.ofNat 1), 1)])),
  (([((.ofNat 1), 1), ((.negSucc 2), 1), ((.ofNat 1), 1)], [((.negSucc 2), 1), ((.ofNat 1), 1)]), ([((.ofNat 8), 1), ((.negSucc 5), 1), ((.ofNat 1), 1)], [((.ofNat 9), 1), ((.negSucc 5), 1), ((.ofNat 1), 1)])),
  (([((.ofNat 1), 1), ((.negSucc 5), 1), ((.ofNat 2), 1)], [((.negSucc 2), 1), ((.ofNat 1), 1)]), ([((.ofNat 17), 1), ((.negSucc 11), 1), ((.ofNat 2), 1)], [((.ofNat 9), 1), ((.negSucc 5), 1), ((.ofNat 1), 1)])),
  (([((.ofNat 1), 1), ((.ofNat 9), 1), ((.negSucc 5), 1), ((.ofNat 1), 1)], [((.ofNat 9), 1), ((.negSucc 5), 1), ((.ofNat 1), 1)]), ([((.negSucc 28), 1), ((.ofNat 27), 1), ((.negSucc 8), 1), ((.ofNat 1), 1)], [((.negSucc 26), 1), ((.ofNat 27), 1), ((.negSucc 8), 1), ((.ofNat 1), 1)])),
  (([((.ofNat 1), 1), ((.ofNat 18), 1), ((.negSucc 11), 1), ((.ofNat 2), 1)], [((.ofNat 9), 1), ((.negSucc 5), 1), ((.ofNat 1), 1)]), ([((.negSucc 55), 1), ((.ofNat 54), 1), ((.negSucc 17), 1), ((.ofNat 2), 1)], [((.negSucc 26), 1), ((.ofNat 27), 1), ((.negSucc 8), 1), ((.ofNat 1), 1)])),
  (([((.ofNat 2), 1), ((.negSucc 2), 1), ((.ofNat 1), 1)], [((.negSucc 2), 1), ((.ofNat 1), 1)]), ([((.ofNat 7), 1), ((.negSucc 5), 1), ((.ofNat 1), 1)], [((.ofNat 9), 1), ((.negSucc 5), 1), ((.ofNat 1), 1)])),
  (([((.ofNat 2), 1), ((.negSucc 5), 1), ((.ofNat 2), 1)], [((.negSucc 2), 1), ((.ofNat 1), 1)]), ([((.ofNat 16), 1), ((.negSucc 11), 1), ((.ofNat 2), 1)], [((.ofNat 9), 1), ((.negSucc 5), 1), ((.ofNat 1), 1)])),
  (([((.ofNat 2), 1), ((.ofNat 9), 1), ((.negSucc 5), 1), ((.ofNat 1), 1)], [((.ofNat 9), 1), ((.negSucc 5), 1), ((.ofNat 1), 1)]), ([((.negSucc 30), 1), ((.ofNat 27), 1), ((.negSucc 8), 1), ((.ofNat 1), 1)], [((.negSucc 26), 1), ((.ofNat 27), 1), ((.negSucc 8), 1), ((.ofNat 1), 1)])),
  (([((.ofNat 2), 1), ((.ofNat 18), 1), ((.negSucc 11), 1), ((.ofNat 2), 1)], [((.ofNat 9), 1), ((.negSucc 5), 1), ((.ofNat 1), 1)]), ([((.negSucc 57), 1), ((.ofNat 54), 1), ((.negSucc 17), 1), ((.ofNat 2), 1)], [((.negSucc 26), 1), ((.ofNat 27), 1), ((.negSucc 8), 1), ((.ofNat 1), 1)])),
  (([((.ofNat 3), 1), ((.negSucc 2), 1), ((.ofNat 1), 1)], [((.negSucc 2), 1), ((.ofNat 1), 1)]), ([((.ofNat 6), 1), ((.negSucc 5), 1), ((.ofNat 1), 1)], [((.ofNat 9), 1), ((.negSucc 5), 1), ((.ofNat 1), 1)])),
  (([((.ofNat 3), 1), ((.negSucc 5), 1), ((.ofNat 2), 1)], [((.negSucc 2), 1), ((.ofNat 1), 1)]), ([((.ofNat 15), 1), ((.negSucc 11), 1), ((.ofNat 2), 1)], [((.ofNat 9), 1), ((.negSucc 5), 1), ((.ofNat 1), 1)])),
  (([((.ofNat 3), 1), ((.ofNat 9), 1), ((.negSucc 5), 1), ((.ofNat 1), 1)], [((.ofNat 9), 1), ((.negSucc 5), 1), ((.ofNat 1), 1)]), ([((.negSucc 32), 1), ((.ofNat 27), 1), ((.negSucc 8), 1), ((.ofNat 1), 1)], [((.negSucc 26), 1), ((.ofNat 27), 1), ((.negSucc 8), 1), ((.ofNat 1), 1)])),
  (([((.ofNat 3), 1), ((.ofNat 18), 1), ((.negSucc 11), 1), ((.ofNat 2), 1)], [((.ofNat 9), 1), ((.negSucc 5), 1), ((.ofNat 1), 1)]), ([((.negSucc 59), 1), ((.ofNat 54), 1), ((.negSucc 17), 1), ((.ofNat 2), 1)], [((.negSucc 26), 1), ((.ofNat 27), 1), ((.negSucc 8), 1), ((.ofNat 1), 1)]))]
noncomputable def sTab : List (P × List (P × Nat)) := [
  ([((.ofNat 1), 1), ((.ofNat 2), 1), ((.ofNat 1), 1)], [([((.ofNat 1), 1), ((.ofNat 1), 1)], 2)]),
  ([((.ofNat 1), 1), ((.ofNat 3), 1), ((.ofNat 3), 1), ((.ofNat 1), 1)], [([((.ofNat 1), 1), ((.ofNat 1), 1)], 3)]),
  ([((.ofNat 0), 1), ((.ofNat 0), 1), ((.ofNat 1), 1), ((.ofNat 1), 1)], [([((.ofNat 1), 1), ((.ofNat 1), 1)], 1), ([((.ofNat 0), 1), ((.ofNat 1), 1)], 2)]),
  ([((.ofNat 0), 1), ((.ofNat 0), 1), ((.ofNat 0), 1), ((.ofNat 1), 1), ((.ofNat 1), 1)], [([((.ofNat 1), 1), ((.ofNat 1), 1)], 1), ([((.ofNat 0), 1), ((.ofNat 1), 1)], 3)]),
  ([((.ofNat 1), 1), ((.negSucc 0), 1), ((.negSucc 0), 1), ((.ofNat 1), 1)], [([((.ofNat 1), 1), ((.ofNat 1), 1)], 1), ([((.negSucc 0), 1), ((.ofNat 1), 1)], 2)]),
  ([((.negSucc 0), 1), ((.ofNat 2), 1), ((.ofNat 0), 1), ((.negSucc 1), 1), ((.ofNat 1), 1)], [([((.ofNat 1), 1), ((.ofNat 1), 1)], 1), ([((.negSucc 0), 1), ((.ofNat 1), 1)], 3)]),
  ([((.ofNat 0), 1), ((.ofNat 1), 1), ((.ofNat 2), 1), ((.ofNat 1), 1)], [([((.ofNat 0), 1), ((.ofNat 1), 1)], 1), ([((.ofNat 1), 1), ((.ofNat 1), 1)], 2)]),
  ([((.ofNat 0), 1), ((.ofNat 1), 1), ((.ofNat 3), 1), ((.ofNat 3), 1), ((.ofNat 1), 1)], [([((.ofNat 0), 1), ((.ofNat 1), 1)], 1), ([((.ofNat 1), 1), ((.ofNat 1), 1)], 3)]),
  ([((.ofNat 0), 1), ((.ofNat 0), 1), ((.ofNat 1), 1), ((.ofNat 1), 1)], [([((.ofNat 1), 1), ((.ofNat 1), 1)], 1), ([((.ofNat 0), 1), ((.ofNat 1), 1)], 2)]),
  ([((.ofNat 0), 1), ((.ofNat 0), 1), ((.ofNat 0), 1), ((.ofNat 1), 1), ((.ofNat 1), 1)], [([((.ofNat 1), 1), ((.ofNat 1), 1)], 1), ([((.ofNat 0), 1), ((.ofNat 1), 1)], 3)]),
  ([((.ofNat 0), 1), ((.ofNat 1), 1), ((.negSucc 0), 1), ((.negSucc 0), 1), ((.ofNat 1), 1)], [([((.ofNat 0), 1), ((.ofNat 1), 1), ((.ofNat 1), 1)], 1), ([((.negSucc 0), 1), ((.ofNat 1), 1)], 2)]),
  ([((.ofNat 0), 1), ((.negSucc 0), 1), ((.ofNat 2), 1), ((.ofNat 0), 1), ((.negSucc 1), 1), ((.ofNat 1), 1)], [([((.ofNat 0), 1), ((.ofNat 1), 1), ((.ofNat 1), 1)], 1), ([((.negSucc 0), 1), ((.ofNat 1), 1)], 3)]),
  ([((.ofNat 0), 1), ((.ofNat 0), 1), ((.ofNat 1), 1)], [([((.ofNat 0), 1), ((.ofNat 1), 1)], 2)]),
  ([((.ofNat 0), 1), ((.ofNat 0), 1), ((.ofNat 0), 1), ((.ofNat 1), 1)], [([((.ofNat 0), 1), ((.ofNat 1), 1)], 3)]),
  ([((.ofNat 0), 1), ((.ofNat 1), 1), ((.negSucc 1), 1), ((.ofNat 1), 1)], [([((.ofNat 0), 1), ((.ofNat 1), 1)], 1), ([((.negSucc 0), 1), ((.ofNat 1), 1)], 2)]),
  ([((.ofNat 0), 1), ((.negSucc 0), 1), ((.ofNat 3), 1), ((.negSucc 2), 1), ((.ofNat 1), 1)], [([((.ofNat 0), 1), ((.ofNat 1), 1)], 1), ([((.negSucc 0), 1), ((.ofNat 1), 1)], 3)]),
  ([((.ofNat 0), 1), ((.ofNat 4), 1), ((.negSucc 3), 1), ((.ofNat 1), 1)], [([((.ofNat 0), 1), ((.ofNat 1), 1)], 1), ([((.negSucc 1), 1), ((.ofNat 1), 1)], 2)]),
  ([((.ofNat 0), 1), ((.negSucc 7), 1), ((.ofNat 12), 1), ((.negSucc 5), 1), ((.ofNat 1), 1)], [([((.ofNat 0), 1), ((.ofNat 1), 1)], 1), ([((.negSucc 1), 1), ((.ofNat 1), 1)], 3)]),
  ([((.ofNat 0), 1), ((.ofNat 0), 1), ((.negSucc 0), 1), ((.ofNat 1), 1)], [([((.negSucc 0), 1), ((.ofNat 1), 1)], 1), ([((.ofNat 0), 1), ((.ofNat 1), 1)], 2)]),
  ([((.ofNat 0), 1), ((.ofNat 0), 1), ((.ofNat 0), 1), ((.negSucc 0), 1), ((.ofNat 1), 1)], [([((.negSucc 0), 1), ((.ofNat 1), 1)], 1), ([((.ofNat 0), 1), ((.ofNat 1), 1)], 3)]),
  ([((.ofNat 0), 1), ((.ofNat 1), 1), ((.negSucc 1), 1), ((.ofNat 1), 1)], [([((.ofNat 0), 1), ((.ofNat 1), 1)], 1), ([((.negSucc 0), 1), ((.ofNat 1), 1)], 2)]),
  ([((.ofNat 0), 1), ((.negSucc 0), 1), ((.ofNat 3), 1), ((.negSucc 2), 1), ((.ofNat 1), 1)], [([((.ofNat 0), 1), ((.ofNat 1), 1)], 1), ([((.negSucc 0), 1), ((.ofNat 1), 1)], 3)]),
  ([((.ofNat 0), 1), ((.negSucc 3), 1), ((.ofNat 8), 1), ((.negSucc 4), 1), ((.ofNat 1), 1)], [([((.ofNat 0), 1), ((.negSucc 0), 1), ((.ofNat 1), 1)], 1), ([((.negSucc 1), 1), ((.ofNat 1), 1)], 2)]),
  ([((.ofNat 0), 1), ((.ofNat 8), 1), ((.negSucc 19), 1), ((.ofNat 18), 1), ((.negSucc 6), 1), ((.ofNat 1), 1)], [([((.ofNat 0), 1), ((.negSucc 0), 1), ((.ofNat 1), 1)], 1), ([((.negSucc 1), 1), ((.ofNat 1), 1)], 3)]),
  ([((.ofNat 1), 1), ((.negSucc 1), 1), ((.ofNat 1), 1)], [([((.negSucc 0), 1), ((.ofNat 1), 1)], 2)]),
  ([((.negSucc 0), 1), ((.ofNat 3), 1), ((.negSucc 2), 1), ((.ofNat 1), 1)], [([((.negSucc 0), 1), ((.ofNat 1), 1)], 3)]),
  ([((.negSucc 3), 1), ((.ofNat 8), 1), ((.negSucc 4), 1), ((.ofNat 1), 1)], [([((.negSucc 0), 1), ((.ofNat 1), 1)], 1), ([((.negSucc 1), 1), ((.ofNat 1), 1)], 2)]),
  ([((.ofNat 8), 1), ((.negSucc 19), 1), ((.ofNat 18), 1), ((.negSucc 6), 1), ((.ofNat 1), 1)], [([((.negSucc 0), 1), ((.ofNat 1), 1)], 1), ([((.negSucc 1), 1), ((.ofNat 1), 1)], 3)]),
  ([((.negSucc 8), 1), ((.ofNat 15), 1), ((.negSucc 6), 1), ((.ofNat 1), 1)], [([((.negSucc 0), 1), ((.ofNat 1), 1)], 1), ([((.negSucc 2), 1), ((.ofNat 1), 1)], 2)]),
  ([((.ofNat 27), 1), ((.negSucc 53), 1), ((.ofNat 36), 1), ((.negSucc 9), 1), ((.ofNat 1), 1)], [([((.negSucc 0), 1), ((.ofNat 1), 1)], 1), ([((.negSucc 2), 1), ((.ofNat 1), 1)], 3)]),
  ([((.negSucc 1), 1), ((.ofNat 5), 1), ((.negSucc 3), 1), ((.ofNat 1), 1)], [([((.negSucc 1), 1), ((.ofNat 1), 1)], 1), ([((.negSucc 0), 1), ((.ofNat 1), 1)], 2)]),
  ([((.ofNat 2), 1), ((.negSucc 6), 1), ((.ofNat 9), 1), ((.negSucc 4), 1), ((.ofNat 1), 1)], [([((.negSucc 1), 1), ((.ofNat 1), 1)], 1), ([((.negSucc 0), 1), ((.ofNat 1), 1)], 3)]),
  ([((.negSucc 3), 1), ((.ofNat 8), 1), ((.negSucc 4), 1), ((.ofNat 1), 1)], [([((.negSucc 0), 1), ((.ofNat 1), 1)], 1), ([((.negSucc 1), 1), ((.ofNat 1), 1)], 2)]),
  ([((.ofNat 8), 1), ((.negSucc 19), 1), ((.ofNat 18), 1), ((.negSucc 6), 1), ((.ofNat 1), 1)], [([((.negSucc 0), 1), ((.ofNat 1), 1)], 1), ([((.negSucc 1), 1), ((.ofNat 1), 1)], 3)]),
  ([((.ofNat 18), 1), ((.negSucc 38), 1), ((.ofNat 29), 1), ((.negSucc 8), 1), ((.ofNat 1), 1)], [([((.ofNat 2), 1), ((.negSucc 2), 1), ((.ofNat 1), 1)], 1), ([((.negSucc 2), 1), ((.ofNat 1), 1)], 2)]),
  ([((.negSucc 53), 1), ((.ofNat 135), 1), ((.negSucc 125), 1), ((.ofNat 56), 1), ((.negSucc 11), 1), ((.ofNat 1), 1)], [([((.ofNat 2), 1), ((.negSucc 2), 1), ((.ofNat 1), 1)], 1), ([((.negSucc 2), 1), ((.ofNat 1), 1)], 3)])]
noncomputable def nth {α : Type} (d : α) (l : List α) (i : Nat) : α := List.rec (motive := fun _ => Nat → α) (fun _ => d) (fun x _ ih i => Nat.rec x (fun j _ => ih j) i) l i
noncomputable def psIdx : List Nat → Nat
  | [x] => x
  | [x, y] => Nat.add 3 (Nat.add (Nat.mul x 3) y)
  | _ => 0
noncomputable def fT (v : Nat) (ps : List Nat) : R := nth F0 fTab (Nat.add (Nat.mul v 12) (psIdx ps))
noncomputable def gT (r x z u : Nat) : R × R := nth (F0, F0) gTab (Nat.add (Nat.mul (Nat.add (Nat.mul (Nat.add (Nat.mul r 3) x) 2) z) 2) u)
noncomputable def sT (v m y z : Nat) : P × List (P × Nat) := nth ([], []) sTab (Nat.add (Nat.mul (Nat.add (Nat.mul (Nat.add (Nat.mul v 2) m) 3) y) 2) z)
noncomputable def multi : List Nat → Nat
  | [_, _] => 1
  | _ => 0
noncomputable def rep0 (m : Nat) : List Nat := match m with
  | 0 => [0]
  | _ => [0, 0]
noncomputable def isR (o : Option R) (r : R) : Bool := match o with
  | none => false
  | some x => eqR x r
theorem isR_is {o : Option R} {r : R} (h : isR o r = true) : o = some r := by
  cases o with
  | none => cases h
  | some x => rw [eqR_eq h]
noncomputable def selfB (g : R) : Bool := match H.fsub g g with
  | none => false
  | some a => match Nat.ble a.1.length 1 with
    | false => false
    | true => Nat.ble a.2.length 1
theorem selfB_is {g : R} (h : selfB g = true) : SelfIs g := by
  unfold selfB at h
  split at h
  · cases h
  rename_i a e1
  split at h
  · cases h
  rename_i e2
  exact ⟨a, by rw [← fsub_eq]; exact e1, e2, h⟩
noncomputable def both (a b : Bool) : Bool := match a with
  | false => false
  | true => b
theorem both_is {a b : Bool} (h : both a b = true) : a = true ∧ b = true := by
  cases a with
  | false => cases h
  | true => exact ⟨rfl, h⟩
noncomputable def gGood (r x z u : Nat) : Bool := both (isR (H.theG ((r : Int) - 1) x z u) (gT r x z u).1) (both (isR (H.fderive (gT r x z u).1) (gT r x z u).2) (both (H.gOk (gT r x z u).1 (gT r x z u).2) (selfB (gT r x z u).1)))
noncomputable def fGood (v : Nat) (ps : List Nat) : Bool := both (isR (H.theF ((v : Int) - 1) ps) (fT v ps)) (both (H.fOk (fT v ps)) (both (Bool.not (Nat.ble (fT v ps).2.length (fT v ps).1.length)) (eqP (fT v ps).2 (fT v (rep0 (multi ps))).2)))
noncomputable def isParts (o : Option (List (P × Nat))) (l : List (P × Nat)) : Bool := decide (o = some l)
noncomputable def sGood (v m y z : Nat) : Bool := both (isParts (F.sfp (sT v m y z).1) (sT v m y z).2) (both (Nat.ble 2 (sT v m y z).1.length) (F.rootsOk ([], (gT (v + y) 0 z 0).1.2) ([], (sT v m y z).1) ([], (fT v (rep0 m)).2) 5 ((v : Int) - 1 - 1)))
noncomputable def pGood (v : Nat) (ps : List Nat) (y z x : Nat) : Bool := pairB (fT v ps) (gT (v + y) x z 0).1 (gT (v + y) x z 1).1 (gT (v + y) x z 0).2 (gT (v + y) x z 1).2 (sT v (multi ps) y z).1 (gT (v + y) 0 z 0).1.2 (sT v (multi ps) y z).2
noncomputable def row (v : Nat) (ps : List Nat) (y : Nat) : Bool := (List.range 2).all fun z => (List.range 3).all fun x => pGood v ps y z x
noncomputable def gRow (r : Nat) : Bool := (List.range 3).all fun x => (List.range 2).all fun z => (List.range 2).all fun u => gGood r x z u
noncomputable def sRow (v m : Nat) : Bool := (List.range 3).all fun y => (List.range 2).all fun z => sGood v m y z
end H
end Mine
end
section
set_option linter.unusedVariables false
set_option linter.unusedSimpArgs false
set_option Elab.async false
set_option maxRecDepth 1000000
namespace Mine
namespace H
open F (Q P R)
theorem gRow_0 : gRow 0 = true := by decide +kernel
theorem gRow_1 : gRow 1 = true := by decide +kernel
theorem gRow_2 : gRow 2 = true := by decide +kernel
theorem gRow_3 : gRow 3 = true := by decide +kernel
theorem gRow_4 : gRow 4 = true := by decide +kernel
theorem sRow_0_0 : sRow 0 0 = true := by decide +kernel
theorem sRow_0_1 : sRow 0 1 = true := by decide +kernel
theorem sRow_1_0 : sRow 1 0 = true := by decide +kernel
theorem sRow_1_1 : sRow 1 1 = true := by decide +kernel
theorem sRow_2_0 : sRow 2 0 = true := by decide +kernel
theorem sRow_2_1 : sRow 2 1 = true := by decide +kernel
theorem fRow_0_0 : fGood 0 [0] = true := by decide +kernel
theorem fRow_0_1 : fGood 0 [1] = true := by decide +kernel
theorem fRow_0_2 : fGood 0 [2] = true := by decide +kernel
theorem fRow_0_3 : fGood 0 [0, 0] = true := by decide +kernel
theorem fRow_0_4 : fGood 0 [0, 1] = true := by decide +kernel
theorem fRow_0_5 : fGood 0 [0, 2] = true := by decide +kernel
theorem fRow_0_6 : fGood 0 [1, 0] = true := by decide +kernel
theorem fRow_0_7 : fGood 0 [1, 1] = true := by decide +kernel
theorem fRow_0_8 : fGood 0 [1, 2] = true := by decide +kernel
theorem fRow_0_9 : fGood 0 [2, 0] = true := by decide +kernel
theorem fRow_0_10 : fGood 0 [2, 1] = true := by decide +kernel
theorem fRow_0_11 : fGood 0 [2, 2] = true := by decide +kernel
theorem fRow_1_0 : fGood 1 [0] = true := by decide +kernel
theorem fRow_1_1 : fGood 1 [1] = true := by decide +kernel
theorem fRow_1_2 : fGood 1 [2] = true := by decide +kernel
theorem fRow_1_3 : fGood 1 [0, 0] = true := by decide +kernel
theorem fRow_1_4 : fGood 1 [0, 1] = true := by decide +kernel
theorem fRow_1_5 : fGood 1 [0, 2] = true := by decide +kernel
theorem fRow_1_6 : fGood 1 [1, 0] = true := by decide +kernel
theorem fRow_1_7 : fGood 1 [1, 1] = true := by decide +kernel
theorem fRow_1_8 : fGood 1 [1, 2] = true := by decide +kernel
theorem fRow_1_9 : fGood 1 [2, 0] = true := by decide +kernel
theorem fRow_1_10 : fGood 1 [2, 1] = true := by decide +kernel
theorem fRow_1_11 : fGood 1 [2, 2] = true := by decide +kernel
theorem fRow_2_0 : fGood 2 [0] = true := by decide +kernel
theorem fRow_2_1 : fGood 2 [1] = true := by decide +kernel
theorem fRow_2_2 : fGood 2 [2] = true := by decide +kernel
theorem fRow_2_3 : fGood 2 [0, 0] = true := by decide +kernel
theorem fRow_2_4 : fGood 2 [0, 1] = true := by decide +kernel
theorem fRow_2_5 : fGood 2 [0, 2] = true := by decide +kernel
theorem fRow_2_6 : fGood 2 [1, 0] = true := by decide +kernel
theorem fRow_2_7 : fGood 2 [1, 1] = true := by decide +kernel
theorem fRow_2_8 : fGood 2 [1, 2] = true := by decide +kernel
theorem fRow_2_9 : fGood 2 [2, 0] = true := by decide +kernel
theorem fRow_2_10 : fGood 2 [2, 1] = true := by decide +kernel
theorem fRow_2_11 : fGood 2 [2, 2] = true := by decide +kernel
theorem row_0_0_0 : row 0 [0] 0 = true := by decide +kernel
theorem row_0_0_1 : row 0 [0] 1 = true := by decide +kernel
theorem row_0_0_2 : row 0 [0] 2 = true := by decide +kernel
theorem row_0_1_0 : row 0 [1] 0 = true := by decide +kernel
theorem row_0_1_1 : row 0 [1] 1 = true := by decide +kernel
theorem row_0_1_2 : row 0 [1] 2 = true := by decide +kernel
theorem row_0_2_0 : row 0 [2] 0 = true := by decide +kernel
theorem row_0_2_1 : row 0 [2] 1 = true := by decide +kernel
theorem row_0_2_2 : row 0 [2] 2 = true := by decide +kernel
theorem row_0_3_0 : row 0 [0, 0] 0 = true := by decide +kernel
theorem row_0_3_1 : row 0 [0, 0] 1 = true := by decide +kernel
theorem row_0_3_2 : row 0 [0, 0] 2 = true := by decide +kernel
theorem row_0_4_0 : row 0 [0, 1] 0 = true := by decide +kernel
theorem row_0_4_1 : row 0 [0, 1] 1 = true := by decide +kernel
theorem row_0_4_2 : row 0 [0, 1] 2 = true := by decide +kernel
theorem row_0_5_0 : row 0 [0, 2] 0 = true := by decide +kernel
theorem row_0_5_1 : row 0 [0, 2] 1 = true := by decide +kernel
theorem row_0_5_2 : row 0 [0, 2] 2 = true := by decide +kernel
theorem row_0_6_0 : row 0 [1, 0] 0 = true := by decide +kernel
theorem row_0_6_1 : row 0 [1, 0] 1 = true := by decide +kernel
theorem row_0_6_2 : row 0 [1, 0] 2 = true := by decide +kernel
theorem row_0_7_0 : row 0 [1, 1] 0 = true := by decide +kernel
theorem row_0_7_1 : row 0 [1, 1] 1 = true := by decide +kernel
theorem row_0_7_2 : row 0 [1, 1] 2 = true := by decide +kernel
theorem row_0_8_0 : row 0 [1, 2] 0 = true := by decide +kernel
theorem row_0_8_1 : row 0 [1, 2] 1 = true := by decide +kernel
theorem row_0_8_2 : row 0 [1, 2] 2 = true := by decide +kernel
theorem row_0_9_0 : row 0 [2, 0] 0 = true := by decide +kernel
theorem row_0_9_1 : row 0 [2, 0] 1 = true := by decide +kernel
theorem row_0_9_2 : row 0 [2, 0] 2 = true := by decide +kernel
theorem row_0_10_0 : row 0 [2, 1] 0 = true := by decide +kernel
theorem row_0_10_1 : row 0 [2, 1] 1 = true := by decide +kernel
theorem row_0_10_2 : row 0 [2, 1] 2 = true := by decide +kernel
theorem row_0_11_0 : row 0 [2, 2] 0 = true := by decide +kernel
theorem row_0_11_1 : row 0 [2, 2] 1 = true := by decide +kernel
theorem row_0_11_2 : row 0 [2, 2] 2 = true := by decide +kernel
theorem row_1_0_0 : row 1 [0] 0 = true := by decide +kernel
theorem row_1_0_1 : row 1 [0] 1 = true := by decide +kernel
theorem row_1_0_2 : row 1 [0] 2 = true := by decide +kernel
theorem row_1_1_0 : row 1 [1] 0 = true := by decide +kernel
theorem row_1_1_1 : row 1 [1] 1 = true := by decide +kernel
theorem row_1_1_2 : row 1 [1] 2 = true := by decide +kernel
theorem row_1_2_0 : row 1 [2] 0 = true := by decide +kernel
theorem row_1_2_1 : row 1 [2] 1 = true := by decide +kernel
theorem row_1_2_2 : row 1 [2] 2 = true := by decide +kernel
theorem row_1_3_0 : row 1 [0, 0] 0 = true := by decide +kernel
theorem row_1_3_1 : row 1 [0, 0] 1 = true := by decide +kernel
theorem row_1_3_2 : row 1 [0, 0] 2 = true := by decide +kernel
theorem row_1_4_0 : row 1 [0, 1] 0 = true := by decide +kernel
theorem row_1_4_1 : row 1 [0, 1] 1 = true := by decide +kernel
theorem row_1_4_2 : row 1 [0, 1] 2 = true := by decide +kernel
theorem row_1_5_0 : row 1 [0, 2] 0 = true := by decide +kernel
theorem row_1_5_1 : row 1 [0, 2] 1 = true := by decide +kernel
theorem row_1_5_2 : row 1 [0, 2] 2 = true := by decide +kernel
theorem row_1_6_0 : row 1 [1, 0] 0 = true := by decide +kernel
theorem row_1_6_1 : row 1 [1, 0] 1 = true := by decide +kernel
theorem row_1_6_2 : row 1 [1, 0] 2 = true := by decide +kernel
theorem row_1_7_0 : row 1 [1, 1] 0 = true := by decide +kernel
theorem row_1_7_1 : row 1 [1, 1] 1 = true := by decide +kernel
theorem row_1_7_2 : row 1 [1, 1] 2 = true := by decide +kernel
theorem row_1_8_0 : row 1 [1, 2] 0 = true := by decide +kernel
theorem row_1_8_1 : row 1 [1, 2] 1 = true := by decide +kernel
theorem row_1_8_2 : row 1 [1, 2] 2 = true := by decide +kernel
theorem row_1_9_0 : row 1 [2, 0] 0 = true := by decide +kernel
theorem row_1_9_1 : row 1 [2, 0] 1 = true := by decide +kernel
theorem row_1_9_2 : row 1 [2, 0] 2 = true := by decide +kernel
theorem row_1_10_0 : row 1 [2, 1] 0 = true := by decide +kernel
theorem row_1_10_1 : row 1 [2, 1] 1 = true := by decide +kernel
theorem row_1_10_2 : row 1 [2, 1] 2 = true := by decide +kernel
theorem row_1_11_0 : row 1 [2, 2] 0 = true := by decide +kernel
theorem row_1_11_1 : row 1 [2, 2] 1 = true := by decide +kernel
theorem row_1_11_2 : row 1 [2, 2] 2 = true := by decide +kernel
theorem row_2_0_0 : row 2 [0] 0 = true := by decide +kernel
theorem row_2_0_1 : row 2 [0] 1 = true := by decide +kernel
theorem row_2_0_2 : row 2 [0] 2 = true := by decide +kernel
theorem row_2_1_0 : row 2 [1] 0 = true := by decide +kernel
theorem row_2_1_1 : row 2 [1] 1 = true := by decide +kernel
theorem row_2_1_2 : row 2 [1] 2 = true := by decide +kernel
theorem row_2_2_0 : row 2 [2] 0 = true := by decide +kernel
theorem row_2_2_1 : row 2 [2] 1 = true := by decide +kernel
theorem row_2_2_2 : row 2 [2] 2 = true := by decide +kernel
theorem row_2_3_0 : row 2 [0, 0] 0 = true := by decide +kernel
theorem row_2_3_1 : row 2 [0, 0] 1 = true := by decide +kernel
theorem row_2_3_2 : row 2 [0, 0] 2 = true := by decide +kernel
theorem row_2_4_0 : row 2 [0, 1] 0 = true := by decide +kernel
theorem row_2_4_1 : row 2 [0, 1] 1 = true := by decide +kernel
theorem row_2_4_2 : row 2 [0, 1] 2 = true := by decide +kernel
theorem row_2_5_0 : row 2 [0, 2] 0 = true := by decide +kernel
theorem row_2_5_1 : row 2 [0, 2] 1 = true := by decide +kernel
theorem row_2_5_2 : row 2 [0, 2] 2 = true := by decide +kernel
theorem row_2_6_0 : row 2 [1, 0] 0 = true := by decide +kernel
theorem row_2_6_1 : row 2 [1, 0] 1 = true := by decide +kernel
theorem row_2_6_2 : row 2 [1, 0] 2 = true := by decide +kernel
theorem row_2_7_0 : row 2 [1, 1] 0 = true := by decide +kernel
theorem row_2_7_1 : row 2 [1, 1] 1 = true := by decide +kernel
theorem row_2_7_2 : row 2 [1, 1] 2 = true := by decide +kernel
theorem row_2_8_0 : row 2 [1, 2] 0 = true := by decide +kernel
theorem row_2_8_1 : row 2 [1, 2] 1 = true := by decide +kernel
theorem row_2_8_2 : row 2 [1, 2] 2 = true := by decide +kernel
theorem row_2_9_0 : row 2 [2, 0] 0 = true := by decide +kernel
theorem row_2_9_1 : row 2 [2, 0] 1 = true := by decide +kernel
theorem row_2_9_2 : row 2 [2, 0] 2 = true := by decide +kernel
theorem row_2_10_0 : row 2 [2, 1] 0 = true := by decide +kernel
theorem row_2_10_1 : row 2 [2, 1] 1 = true := by decide +kernel
theorem row_2_10_2 : row 2 [2, 1] 2 = true := by decide +kernel
theorem row_2_11_0 : row 2 [2, 2] 0 = true := by decide +kernel
theorem row_2_11_1 : row 2 [2, 2] 1 = true := by decide +kernel
theorem row_2_11_2 : row 2 [2, 2] 2 = true := by decide +kernel
noncomputable def allPs : List (List Nat) := [[0], [1], [2], [0, 0], [0, 1], [0, 2], [1, 0], [1, 1], [1, 2], [2, 0], [2, 1], [2, 2]]
theorem three {P : Nat → Prop} (h0 : P 0) (h1 : P 1) (h2 : P 2) : ∀ v, v < 3 → P v := by
  intro v hv
  match v, hv with
  | 0, _ => exact h0
  | 1, _ => exact h1
  | 2, _ => exact h2
theorem two {P : Nat → Prop} (h0 : P 0) (h1 : P 1) : ∀ v, v < 2 → P v := by
  intro v hv
  match v, hv with
  | 0, _ => exact h0
  | 1, _ => exact h1
theorem allPs_of {ps : List Nat} (hl : ps.length = 1 ∨ ps.length = 2) (hx : ∀ x ∈ ps, x < 3) : ps ∈ allPs := by
  match ps, hl, hx with
  | [x], _, hx =>
    have h1 := hx x (by simp)
    have e1 : x = 0 ∨ x = 1 ∨ x = 2 := by omega
    rcases e1 with rfl | rfl | rfl <;> simp [allPs]
  | [x, y], _, hx =>
    have h1 := hx x (by simp)
    have h2 := hx y (by simp)
    have e1 : x = 0 ∨ x = 1 ∨ x = 2 := by omega
    have e2 : y = 0 ∨ y = 1 ∨ y = 2 := by omega
    rcases e1 with rfl | rfl | rfl <;> rcases e2 with rfl | rfl | rfl <;> simp [allPs]
  | [], hl, _ => simp at hl
  | _ :: _ :: _ :: _, hl, _ => simp at hl
theorem each {P : List Nat → Prop} (h0 : P [0]) (h1 : P [1]) (h2 : P [2]) (h3 : P [0, 0]) (h4 : P [0, 1]) (h5 : P [0, 2]) (h6 : P [1, 0]) (h7 : P [1, 1]) (h8 : P [1, 2]) (h9 : P [2, 0]) (h10 : P [2, 1]) (h11 : P [2, 2]) : ∀ ps ∈ allPs, P ps := by
  intro ps hp
  simp only [allPs, List.mem_cons, List.not_mem_nil, or_false] at hp
  rcases hp with rfl | rfl | rfl | rfl | rfl | rfl | rfl | rfl | rfl | rfl | rfl | rfl
  · exact h0
  · exact h1
  · exact h2
  · exact h3
  · exact h4
  · exact h5
  · exact h6
  · exact h7
  · exact h8
  · exact h9
  · exact h10
  · exact h11
theorem fAll : ∀ v, v < 3 → ∀ ps ∈ allPs, fGood v ps = true := three (each fRow_0_0 fRow_0_1 fRow_0_2 fRow_0_3 fRow_0_4 fRow_0_5 fRow_0_6 fRow_0_7 fRow_0_8 fRow_0_9 fRow_0_10 fRow_0_11) (each fRow_1_0 fRow_1_1 fRow_1_2 fRow_1_3 fRow_1_4 fRow_1_5 fRow_1_6 fRow_1_7 fRow_1_8 fRow_1_9 fRow_1_10 fRow_1_11) (each fRow_2_0 fRow_2_1 fRow_2_2 fRow_2_3 fRow_2_4 fRow_2_5 fRow_2_6 fRow_2_7 fRow_2_8 fRow_2_9 fRow_2_10 fRow_2_11)
theorem rowAll : ∀ v, v < 3 → ∀ ps ∈ allPs, ∀ y, y < 3 → row v ps y = true := three (each (three row_0_0_0 row_0_0_1 row_0_0_2) (three row_0_1_0 row_0_1_1 row_0_1_2) (three row_0_2_0 row_0_2_1 row_0_2_2) (three row_0_3_0 row_0_3_1 row_0_3_2) (three row_0_4_0 row_0_4_1 row_0_4_2) (three row_0_5_0 row_0_5_1 row_0_5_2) (three row_0_6_0 row_0_6_1 row_0_6_2) (three row_0_7_0 row_0_7_1 row_0_7_2) (three row_0_8_0 row_0_8_1 row_0_8_2) (three row_0_9_0 row_0_9_1 row_0_9_2) (three row_0_10_0 row_0_10_1 row_0_10_2) (three row_0_11_0 row_0_11_1 row_0_11_2)) (each (three row_1_0_0 row_1_0_1 row_1_0_2) (three row_1_1_0 row_1_1_1 row_1_1_2) (three row_1_2_0 row_1_2_1 row_1_2_2) (three row_1_3_0 row_1_3_1 row_1_3_2) (three row_1_4_0 row_1_4_1 row_1_4_2) (three row_1_5_0 row_1_5_1 row_1_5_2) (three row_1_6_0 row_1_6_1 row_1_6_2) (three row_1_7_0 row_1_7_1 row_1_7_2) (three row_1_8_0 row_1_8_1 row_1_8_2) (three row_1_9_0 row_1_9_1 row_1_9_2) (three row_1_10_0 row_1_10_1 row_1_10_2) (three row_1_11_0 row_1_11_1 row_1_11_2)) (each (three row_2_0_0 row_2_0_1 row_2_0_2) (three row_2_1_0 row_2_1_1 row_2_1_2) (three row_2_2_0 row_2_2_1 row_2_2_2) (three row_2_3_0 row_2_3_1 row_2_3_2) (three row_2_4_0 row_2_4_1 row_2_4_2) (three row_2_5_0 row_2_5_1 row_2_5_2) (three row_2_6_0 row_2_6_1 row_2_6_2) (three row_2_7_0 row_2_7_1 row_2_7_2) (three row_2_8_0 row_2_8_1 row_2_8_2) (three row_2_9_0 row_2_9_1 row_2_9_2) (three row_2_10_0 row_2_10_1 row_2_10_2) (three row_2_11_0 row_2_11_1 row_2_11_2))
theorem sAll : ∀ v, v < 3 → ∀ m, m < 2 → sRow v m = true := three (two sRow_0_0 sRow_0_1) (two sRow_1_0 sRow_1_1) (two sRow_2_0 sRow_2_1)
theorem gAll : ∀ r, r < 5 → gRow r = true := by
  intro r hr
  match r, hr with
  | 0, _ => exact gRow_0
  | 1, _ => exact gRow_1
  | 2, _ => exact gRow_2
  | 3, _ => exact gRow_3
  | 4, _ => exact gRow_4
theorem all_range {n : Nat} {f : Nat → Bool} (h : (List.range n).all f = true) {i : Nat} (hi : i < n) : f i = true := List.all_eq_true.mp h i (List.mem_range.mpr hi)
structure GIs (r x z u : Nat) : Prop where
  h1 : F.theG ((r : Int) - 1) x z u = some (gT r x z u).1
  h2 : F.fderive (gT r x z u).1 = some (gT r x z u).2
  h3 : F.gOk (gT r x z u).1 (gT r x z u).2 = true
  h4 : SelfIs (gT r x z u).1
theorem gIs {r x z u : Nat} (hr : r < 5) (hx : x < 3) (hz : z < 2) (hu : u < 2) : GIs r x z u := by
  have h := all_range (all_range (all_range (gAll r hr) hx) hz) hu
  obtain ⟨a, h⟩ := both_is h
  obtain ⟨b, h⟩ := both_is h
  obtain ⟨c, e⟩ := both_is h
  exact ⟨by rw [← theG_eq]; exact isR_is a, by rw [← fderive_eq]; exact isR_is b, by rw [← gOk_eq]; exact c, selfB_is e⟩
theorem endIs : F.endOk = true := by decide +kernel
theorem multi_lt (ps : List Nat) : multi ps < 2 := by
  unfold multi
  split <;> omega
theorem allOk : AllOk := by
  intro v ps hv hl hx
  have hp := allPs_of hl hx
  obtain ⟨f1, h⟩ := both_is (fAll v hv ps hp)
  obtain ⟨f2, h⟩ := both_is h
  obtain ⟨f3, f4⟩ := both_is h
  have f4 := eqP_eq f4
  refine ⟨fT v ps, by rw [← theF_eq]; exact isR_is f1, by rw [← fOk_eq]; exact f2, endIs, ?_⟩
  intro x y z u hx hy hz hu
  have hm := multi_lt ps
  obtain ⟨s1, h⟩ := both_is (all_range (all_range (sAll v hv (multi ps) hm) hy) hz)
  obtain ⟨s2, s3⟩ := both_is h
  have S : ShapeIs ((v : Int) - 1) (fT v ps).2 (sT v (multi ps) y z).1 (gT (v + y) 0 z 0).1.2 (sT v (multi ps) y z).2 := by
    refine ⟨of_decide_eq_true s1, s2, ?_⟩
    rw [f4]; exact s3
  have g0 := gIs (r := v + y) (u := 0) (by omega) hx hz (by omega)
  have g1 := gIs (r := v + y) (u := 1) (by omega) hx hz (by omega)
  have hp := pairB_is S g0.h4 g1.h4 (by cases hb : Nat.ble (fT v ps).2.length (fT v ps).1.length with
    | false => rfl
    | true => rw [hb] at f3; cases f3) (all_range (all_range (rowAll v hv ps hp y hy) hz) hx)
  have er : (v : Int) - 1 + (y : Int) = ((v + y : Nat) : Int) - 1 := by omega
  rw [er]
  revert u
  exact two ⟨_, _, g0.h1, g0.h2, hp.1, g0.h3⟩ ⟨_, _, g1.h1, g1.h2, hp.2, g1.h3⟩
end H
end Mine
end
section
open PySem PySem.W PyProof.Rows
set_option Elab.async false
set_option maxRecDepth 100000
namespace Mine
namespace T
-- what the top makes, object by object; a def's text is named by its place in the program, not written out
noncomputable def initFn : Fn := match stAt 1 with
  | .ClassDef _ _ _ (.FunctionDef _ a b _ _ _ s _ _ _ :: _) .. => ⟨a, b, s⟩
  | _ => fnAt 0
noncomputable def st (x : String) (t : Nat) : Value := .str (Str.ofString x) t
noncomputable def tup (l : List Value) : Obj := { cls := .type "tuple", data := .seq ⟨l⟩ }
noncomputable def flds (l : List Value) : Obj := { cls := .none, data := .fields ⟨l⟩ }
noncomputable def frec (n q : String) (f : Fn) : Obj := { cls := .none, data := .func { name := Str.ofString n, qualname := Str.ofString q, params := f.params, body := .stmts f.body, scope := f.scope, globals := 0, closure := [], defaults := .none, kwdefaults := .none } }
noncomputable def func (n q : String) (f : Fn) (m : String) (t c : Nat) : Obj := { cls := .type "function", data := .func { name := Str.ofString n, qualname := Str.ofString q, params := f.params, body := .stmts f.body, scope := f.scope, globals := 3, closure := [], defaults := .none, kwdefaults := .none, pyModule := .str (Str.ofString m) t, code := .ref c } }
noncomputable def code (n q : String) (t₁ t₂ t₃ : Nat) (line args flags : Int) (a : Nat) (b : Bool) (c : Nat) (x y z : Value) (k : Int) (t₄ : Nat) : Obj := { cls := .type "code", data := .fields ⟨[st n t₁, st q t₂, st "/claim/cut.py" t₃, .int line 0, .int args 0, .int 0 0, .int 0 0, .int flags 0, .ref a, .bool b, .int 181 0, .ref c, .none, x, y, z, .int k 0, .int line 0, st "/claim/cut.py" t₄]⟩ }
noncomputable def ent (P : Params) (x : String) (t : Nat) (v : Value) : DictEntry := { hash := PyData.keyHash P (Str.ofString x), key := .str (Str.ofString x) t, val := v }
noncomputable def dic (c : Value) (l : List DictEntry) (n : Nat) : Obj := { cls := c, data := .dict ⟨l⟩ n }
noncomputable def o2 (P : Params) : Obj := dic (.none) [ent P "type.__subclasses__.Exception.0" 216 (.int 31 0), ent P "type.__subclasses__.Exception.n" 217 (.int 1 0)] 2
noncomputable def o13 : Obj := code "<module>" "<module>" 182 183 184 1 0 0 11 false 12 .none .none .none 185 186
noncomputable def o14 : Obj := { cls := Value.type "frame", slots := #[some (Value.ref 13), some (Value.ref 3), some (Value.ref 3), none, some (Value.str (Str.ofString "__main__") 164), none, some (Value.ref 0)] }
noncomputable def o15 : Obj := tup [.type "Exception"]
noncomputable def o16 : Obj := { cls := Value.type "builtin_function_or_method", data := Data.fields #[Value.builtin "type.__prepare__", Value.type "type"] }
noncomputable def o17 (P : Params) : Obj := dic (.type "dict") [ent P "__module__" 196 (st "cas.errors" 187), ent P "__qualname__" 198 (st "CasFail" 197), ent P "__firstlineno__" 200 (.int 2 199), ent P "__init__" 209 (.ref 28), ent P "__static_attributes__" 212 (.ref 29)] 5
noncomputable def o18 : Obj := tup []
noncomputable def o19 : Obj := { cls := Value.none, data := Data.fields #[Value.int 4 0, Value.int 4 0, Value.ref 27] }
noncomputable def o20 : Obj := code "CasFail" "CasFail" 191 192 193 2 0 0 18 false 19 .none .none .none 194 195
noncomputable def o21 : Obj := { cls := Value.type "frame", slots := #[some (Value.ref 20), some (Value.ref 3), some (Value.ref 17), none, some (Value.str (Str.ofString "cas.errors") 187), none, some (Value.ref 0)] }
noncomputable def o22 : Obj := tup []
noncomputable def o23 : Obj := flds []
noncomputable def o24 : Obj := tup [st "self" 204, st "kind" 205, st "text" 206]
noncomputable def o25 : Obj := tup []
noncomputable def o26 : Obj := frec "__init__" "CasFail.__init__" initFn
noncomputable def o27 : Obj := code "__init__" "CasFail.__init__" 201 202 203 4 3 3 22 true 23 (.ref 24) (.ref 25) (.ref 26) 207 208
noncomputable def o28 : Obj := func "__init__" "CasFail.__init__" initFn "cas.errors" 187 27
noncomputable def o29 : Obj := tup [st "kind" 210, st "text" 211]
noncomputable def o30 (P : Params) : Obj := dic (.type "dict") [ent P "__module__" 196 (st "cas.errors" 187), ent P "__firstlineno__" 200 (.int 2 199), ent P "__init__" 209 (.ref 28), ent P "__static_attributes__" 212 (.ref 29), ent P "__weakref__" 214 (.ref 32), ent P "__doc__" 215 (.none)] 3
noncomputable def o31 : Obj := { cls := Value.type "type", data := Data.cls { name := Str.ofString "CasFail", bases := [Value.type "Exception"], mro := [Value.ref 31, Value.type "Exception", Value.type "BaseException", Value.type "object"], ns := 30, qualname := Str.ofString "CasFail" }, slots := #[some (Value.ref 15), none, some (Value.str (Str.ofString "CasFail") 189), some (Value.str (Str.ofString "CasFail") 197), some (Value.builtin "Exception.__new__"), some (Value.bool true)] }
noncomputable def o32 : Obj := { cls := Value.type "getset_descriptor", data := Data.fields #[Value.str (Str.ofString "__weakref__") 213, Value.ref 31, Value.builtin "ExceptionGroup.__weakref__", Value.none] }
noncomputable def o33 : Obj := { cls := Value.type "super", data := Data.fields #[Value.ref 31, Value.ref 31, Value.ref 31] }
noncomputable def o34 : Obj := { cls := Value.type "builtin_function_or_method", data := Data.fields #[Value.builtin "object.__init_subclass__", Value.ref 31] }
noncomputable def o35 : Obj := tup []
noncomputable def o36 : Obj := flds []
noncomputable def o37 : Obj := tup [st "a" 225, st "b" 226]
noncomputable def o38 : Obj := tup []
noncomputable def o39 : Obj := frec "gcd" "gcd" (fnAt 3)
noncomputable def o40 : Obj := code "gcd" "gcd" 222 223 224 9 2 3 35 true 36 (.ref 37) (.ref 38) (.ref 39) 227 228
noncomputable def o41 : Obj := func "gcd" "gcd" (fnAt 3) "cas.ints" 220 40
noncomputable def o42 : Obj := tup []
noncomputable def o43 : Obj := flds []
noncomputable def o44 : Obj := tup [st "numbers" 233, st "found" 234, st "number" 235]
noncomputable def o45 : Obj := tup []
noncomputable def o46 : Obj := frec "gcd_all" "gcd_all" (fnAt 4)
noncomputable def o47 : Obj := code "gcd_all" "gcd_all" 230 231 232 14 1 3 42 true 43 (.ref 44) (.ref 45) (.ref 46) 236 237
noncomputable def o48 : Obj := func "gcd_all" "gcd_all" (fnAt 4) "cas.ints" 220 47
noncomputable def o49 : Obj := tup [.int 0 241, .int 1 242]
noncomputable def o50 : Obj := tup [.int 1 244, .int 1 245]
noncomputable def o51 : Obj := tup []
noncomputable def o52 : Obj := flds []
noncomputable def o53 : Obj := tup [st "top" 250, st "bottom" 251, st "g" 252]
noncomputable def o54 : Obj := tup []
noncomputable def o55 : Obj := frec "rat" "rat" (fnAt 8)
noncomputable def o56 : Obj := code "rat" "rat" 247 248 249 22 2 3 51 true 52 (.ref 53) (.ref 54) (.ref 55) 253 254
noncomputable def o57 : Obj := func "rat" "rat" (fnAt 8) "cas.rats" 239 56
noncomputable def o58 : Obj := tup []
noncomputable def o59 : Obj := flds []
noncomputable def o60 : Obj := tup [st "a" 259, st "b" 260]
noncomputable def o61 : Obj := tup []
noncomputable def o62 : Obj := frec "radd" "radd" (fnAt 9)
noncomputable def o63 : Obj := code "radd" "radd" 256 257 258 27 2 3 58 true 59 (.ref 60) (.ref 61) (.ref 62) 261 262
noncomputable def o64 : Obj := func "radd" "radd" (fnAt 9) "cas.rats" 239 63
noncomputable def o65 : Obj := tup []
noncomputable def o66 : Obj := flds []
noncomputable def o67 : Obj := tup [st "a" 267, st "b" 268]
noncomputable def o68 : Obj := tup []
noncomputable def o69 : Obj := frec "rmul" "rmul" (fnAt 10)
noncomputable def o70 : Obj := code "rmul" "rmul" 264 265 266 29 2 3 65 true 66 (.ref 67) (.ref 68) (.ref 69) 269 270
noncomputable def o71 : Obj := func "rmul" "rmul" (fnAt 10) "cas.rats" 239 70
noncomputable def o72 : Obj := tup []
noncomputable def o73 : Obj := flds []
noncomputable def o74 : Obj := tup [st "a" 275, st "b" 276]
noncomputable def o75 : Obj := tup []
noncomputable def o76 : Obj := frec "rdiv" "rdiv" (fnAt 11)
noncomputable def o77 : Obj := code "rdiv" "rdiv" 272 273 274 31 2 3 72 true 73 (.ref 74) (.ref 75) (.ref 76) 277 278
noncomputable def o78 : Obj := func "rdiv" "rdiv" (fnAt 11) "cas.rats" 239 77
noncomputable def o79 : Obj := tup []
noncomputable def o80 : Obj := flds []
noncomputable def o81 : Obj := tup [st "a" 283]
noncomputable def o82 : Obj := tup []
noncomputable def o83 : Obj := frec "rneg" "rneg" (fnAt 12)
noncomputable def o84 : Obj := code "rneg" "rneg" 280 281 282 33 1 3 79 true 80 (.ref 81) (.ref 82) (.ref 83) 284 285
noncomputable def o85 : Obj := func "rneg" "rneg" (fnAt 12) "cas.rats" 239 84
noncomputable def o86 : Obj := tup []
noncomputable def o87 : Obj := flds []
noncomputable def o88 : Obj := tup [st "a" 290]
noncomputable def o89 : Obj := tup []
noncomputable def o90 : Obj := frec "rinv" "rinv" (fnAt 13)
noncomputable def o91 : Obj := code "rinv" "rinv" 287 288 289 35 1 3 86 true 87 (.ref 88) (.ref 89) (.ref 90) 291 292
noncomputable def o92 : Obj := func "rinv" "rinv" (fnAt 13) "cas.rats" 239 91
noncomputable def o93 : Obj := tup []
noncomputable def o94 : Obj := flds []
noncomputable def o95 : Obj := tup [st "row" 299, st "size" 300]
noncomputable def o96 : Obj := tup []
noncomputable def o97 : Obj := frec "ztrim" "ztrim" (fnAt 15)
noncomputable def o98 : Obj := code "ztrim" "ztrim" 296 297 298 38 1 3 93 true 94 (.ref 95) (.ref 96) (.ref 97) 301 302
noncomputable def o99 : Obj := func "ztrim" "ztrim" (fnAt 15) "cas.zpoly" 294 98
noncomputable def o100 : Obj := tup []
noncomputable def o101 : Obj := flds []
noncomputable def o102 : Obj := tup [st "p" 307]
noncomputable def o103 : Obj := tup []
noncomputable def o104 : Obj := frec "zdegree" "zdegree" (fnAt 16)
noncomputable def o105 : Obj := code "zdegree" "zdegree" 304 305 306 43 1 3 100 true 101 (.ref 102) (.ref 103) (.ref 104) 308 309
noncomputable def o106 : Obj := func "zdegree" "zdegree" (fnAt 16) "cas.zpoly" 294 105
noncomputable def o107 : Obj := tup []
noncomputable def o108 : Obj := flds []
noncomputable def o109 : Obj := tup [st "p" 314]
noncomputable def o110 : Obj := tup []
noncomputable def o111 : Obj := frec "zlead" "zlead" (fnAt 17)
noncomputable def o112 : Obj := code "zlead" "zlead" 311 312 313 45 1 3 107 true 108 (.ref 109) (.ref 110) (.ref 111) 315 316
noncomputable def o113 : Obj := func "zlead" "zlead" (fnAt 17) "cas.zpoly" 294 112
noncomputable def o114 : Obj := tup []
noncomputable def o115 : Obj := flds []
noncomputable def o116 : Obj := frec "zadd" "zadd" (fnAt 18)
noncomputable def o117 : Obj := code "zadd" "zadd" 318 319 320 47 2 3 114 true 115 .none .none (.ref 116) 321 322
noncomputable def o118 : Obj := func "zadd" "zadd" (fnAt 18) "cas.zpoly" 294 117
noncomputable def o119 : Obj := tup []
noncomputable def o120 : Obj := flds []
noncomputable def o121 : Obj := frec "zneg" "zneg" (fnAt 19)
noncomputable def o122 : Obj := code "zneg" "zneg" 324 325 326 50 1 3 119 true 120 .none .none (.ref 121) 327 328
noncomputable def o123 : Obj := func "zneg" "zneg" (fnAt 19) "cas.zpoly" 294 122
noncomputable def o124 : Obj := tup []
noncomputable def o125 : Obj := flds []
noncomputable def o126 : Obj := tup [st "a" 333, st "b" 334]
noncomputable def o127 : Obj := tup []
noncomputable def o128 : Obj := frec "zsub" "zsub" (fnAt 20)
noncomputable def o129 : Obj := code "zsub" "zsub" 330 331 332 52 2 3 124 true 125 (.ref 126) (.ref 127) (.ref 128) 335 336
noncomputable def o130 : Obj := func "zsub" "zsub" (fnAt 20) "cas.zpoly" 294 129
noncomputable def o131 : Obj := tup []
noncomputable def o132 : Obj := flds []
noncomputable def o133 : Obj := frec "zscale" "zscale" (fnAt 21)
noncomputable def o134 : Obj := code "zscale" "zscale" 338 339 340 54 2 3 131 true 132 .none .none (.ref 133) 341 342
noncomputable def o135 : Obj := func "zscale" "zscale" (fnAt 21) "cas.zpoly" 294 134
noncomputable def o136 : Obj := tup []
noncomputable def o137 : Obj := flds []
noncomputable def o138 : Obj := tup [st "p" 347, st "many" 348]
noncomputable def o139 : Obj := tup []
noncomputable def o140 : Obj := frec "zraise" "zraise" (fnAt 22)
noncomputable def o141 : Obj := code "zraise" "zraise" 344 345 346 56 2 3 136 true 137 (.ref 138) (.ref 139) (.ref 140) 349 350
noncomputable def o142 : Obj := func "zraise" "zraise" (fnAt 22) "cas.zpoly" 294 141
noncomputable def o143 : Obj := tup []
noncomputable def o144 : Obj := flds []
noncomputable def o145 : Obj := tup [st "p" 355]
noncomputable def o146 : Obj := tup []
noncomputable def o147 : Obj := frec "zcontent" "zcontent" (fnAt 23)
noncomputable def o148 : Obj := code "zcontent" "zcontent" 352 353 354 58 1 3 143 true 144 (.ref 145) (.ref 146) (.ref 147) 356 357
noncomputable def o149 : Obj := func "zcontent" "zcontent" (fnAt 23) "cas.zpoly" 294 148
noncomputable def o150 : Obj := tup []
noncomputable def o151 : Obj := flds []
noncomputable def o152 : Obj := frec "zdivided" "zdivided" (fnAt 24)
noncomputable def o153 : Obj := code "zdivided" "zdivided" 359 360 361 60 2 3 150 true 151 .none .none (.ref 152) 362 363
noncomputable def o154 : Obj := func "zdivided" "zdivided" (fnAt 24) "cas.zpoly" 294 153
noncomputable def o155 : Obj := tup []
noncomputable def o156 : Obj := flds []
noncomputable def o157 : Obj := tup [st "p" 368, st "content" 369]
noncomputable def o158 : Obj := tup []
noncomputable def o159 : Obj := frec "zprimitive" "zprimitive" (fnAt 25)
noncomputable def o160 : Obj := code "zprimitive" "zprimitive" 365 366 367 62 1 3 155 true 156 (.ref 157) (.ref 158) (.ref 159) 370 371
noncomputable def o161 : Obj := func "zprimitive" "zprimitive" (fnAt 25) "cas.zpoly" 294 160
noncomputable def o162 : Obj := tup []
noncomputable def o163 : Obj := flds []
noncomputable def o164 : Obj := frec "zderive" "zderive" (fnAt 26)
noncomputable def o165 : Obj := code "zderive" "zderive" 373 374 375 67 1 3 162 true 163 .none .none (.ref 164) 376 377
noncomputable def o166 : Obj := func "zderive" "zderive" (fnAt 26) "cas.zpoly" 294 165
noncomputable def o167 : Obj := tup []
noncomputable def o168 : Obj := flds []
noncomputable def o169 : Obj := tup [st "row" 384, st "size" 385]
noncomputable def o170 : Obj := tup []
noncomputable def o171 : Obj := frec "qtrim" "qtrim" (fnAt 28)
noncomputable def o172 : Obj := code "qtrim" "qtrim" 381 382 383 70 1 3 167 true 168 (.ref 169) (.ref 170) (.ref 171) 386 387
noncomputable def o173 : Obj := func "qtrim" "qtrim" (fnAt 28) "cas.qpoly" 379 172
noncomputable def o174 : Obj := tup []
noncomputable def o175 : Obj := flds []
noncomputable def o176 : Obj := tup [st "p" 392]
noncomputable def o177 : Obj := tup []
noncomputable def o178 : Obj := frec "qdegree" "qdegree" (fnAt 29)
noncomputable def o179 : Obj := code "qdegree" "qdegree" 389 390 391 75 1 3 174 true 175 (.ref 176) (.ref 177) (.ref 178) 393 394
noncomputable def o180 : Obj := func "qdegree" "qdegree" (fnAt 29) "cas.qpoly" 379 179
noncomputable def o181 : Obj := tup []
noncomputable def o182 : Obj := flds []
noncomputable def o183 : Obj := tup [st "p" 399]
noncomputable def o184 : Obj := tup []
noncomputable def o185 : Obj := frec "qlead" "qlead" (fnAt 30)
noncomputable def o186 : Obj := code "qlead" "qlead" 396 397 398 77 1 3 181 true 182 (.ref 183) (.ref 184) (.ref 185) 400 401
noncomputable def o187 : Obj := func "qlead" "qlead" (fnAt 30) "cas.qpoly" 379 186
noncomputable def o188 : Obj := tup []
noncomputable def o189 : Obj := flds []
noncomputable def o190 : Obj := frec "qadd" "qadd" (fnAt 31)
noncomputable def o191 : Obj := code "qadd" "qadd" 403 404 405 79 2 3 188 true 189 .none .none (.ref 190) 406 407
noncomputable def o192 : Obj := func "qadd" "qadd" (fnAt 31) "cas.qpoly" 379 191
noncomputable def o193 : Obj := tup []
noncomputable def o194 : Obj := flds []
noncomputable def o195 : Obj := frec "qneg" "qneg" (fnAt 32)
noncomputable def o196 : Obj := code "qneg" "qneg" 409 410 411 82 1 3 193 true 194 .none .none (.ref 195) 412 413
noncomputable def o197 : Obj := func "qneg" "qneg" (fnAt 32) "cas.qpoly" 379 196
noncomputable def o198 : Obj := tup []
noncomputable def o199 : Obj := flds []
noncomputable def o200 : Obj := tup [st "a" 418, st "b" 419]
noncomputable def o201 : Obj := tup []
noncomputable def o202 : Obj := frec "qsub" "qsub" (fnAt 33)
noncomputable def o203 : Obj := code "qsub" "qsub" 415 416 417 84 2 3 198 true 199 (.ref 200) (.ref 201) (.ref 202) 420 421
noncomputable def o204 : Obj := func "qsub" "qsub" (fnAt 33) "cas.qpoly" 379 203
noncomputable def o205 : Obj := tup []
noncomputable def o206 : Obj := flds []
noncomputable def o207 : Obj := frec "qscale" "qscale" (fnAt 34)
noncomputable def o208 : Obj := code "qscale" "qscale" 423 424 425 86 2 3 205 true 206 .none .none (.ref 207) 426 427
noncomputable def o209 : Obj := func "qscale" "qscale" (fnAt 34) "cas.qpoly" 379 208
noncomputable def o210 : Obj := tup []
noncomputable def o211 : Obj := flds []
noncomputable def o212 : Obj := tup [st "p" 432, st "many" 433]
noncomputable def o213 : Obj := tup []
noncomputable def o214 : Obj := frec "qraise" "qraise" (fnAt 35)
noncomputable def o215 : Obj := code "qraise" "qraise" 429 430 431 88 2 3 210 true 211 (.ref 212) (.ref 213) (.ref 214) 434 435
noncomputable def o216 : Obj := func "qraise" "qraise" (fnAt 35) "cas.qpoly" 379 215
noncomputable def o217 : Obj := tup []
noncomputable def o218 : Obj := flds []
noncomputable def o219 : Obj := tup [st "a" 440, st "b" 441, st "found" 442, st "one" 443, st "left" 444, st "other" 445, st "right" 446]
noncomputable def o220 : Obj := tup []
noncomputable def o221 : Obj := frec "qmul" "qmul" (fnAt 36)
noncomputable def o222 : Obj := code "qmul" "qmul" 437 438 439 90 2 3 217 true 218 (.ref 219) (.ref 220) (.ref 221) 447 448
noncomputable def o223 : Obj := func "qmul" "qmul" (fnAt 36) "cas.qpoly" 379 222
noncomputable def o224 : Obj := tup []
noncomputable def o225 : Obj := flds []
noncomputable def o226 : Obj := tup [st "p" 453, st "many" 454, st "found" 455, st "turn" 456]
noncomputable def o227 : Obj := tup []
noncomputable def o228 : Obj := frec "qpower" "qpower" (fnAt 37)
noncomputable def o229 : Obj := code "qpower" "qpower" 450 451 452 98 2 3 224 true 225 (.ref 226) (.ref 227) (.ref 228) 457 458
noncomputable def o230 : Obj := func "qpower" "qpower" (fnAt 37) "cas.qpoly" 379 229
noncomputable def o231 : Obj := tup []
noncomputable def o232 : Obj := flds []
noncomputable def o233 : Obj := tup [st "a" 463, st "b" 464, st "rest" 465, st "found" 466, st "number" 467, st "power" 468, st "lower" 469]
noncomputable def o234 : Obj := tup []
noncomputable def o235 : Obj := frec "qdivmod" "qdivmod" (fnAt 38)
noncomputable def o236 : Obj := code "qdivmod" "qdivmod" 460 461 462 103 2 3 231 true 232 (.ref 233) (.ref 234) (.ref 235) 470 471
noncomputable def o237 : Obj := func "qdivmod" "qdivmod" (fnAt 38) "cas.qpoly" 379 236
noncomputable def o238 : Obj := tup []
noncomputable def o239 : Obj := flds []
noncomputable def o240 : Obj := tup [st "p" 476]
noncomputable def o241 : Obj := tup []
noncomputable def o242 : Obj := frec "qmonic" "qmonic" (fnAt 39)
noncomputable def o243 : Obj := code "qmonic" "qmonic" 473 474 475 113 1 3 238 true 239 (.ref 240) (.ref 241) (.ref 242) 477 478
noncomputable def o244 : Obj := func "qmonic" "qmonic" (fnAt 39) "cas.qpoly" 379 243
noncomputable def o245 : Obj := tup []
noncomputable def o246 : Obj := flds []
noncomputable def o247 : Obj := tup [st "a" 483, st "b" 484]
noncomputable def o248 : Obj := tup []
noncomputable def o249 : Obj := frec "qgcd" "qgcd" (fnAt 40)
noncomputable def o250 : Obj := code "qgcd" "qgcd" 480 481 482 115 2 3 245 true 246 (.ref 247) (.ref 248) (.ref 249) 485 486
noncomputable def o251 : Obj := func "qgcd" "qgcd" (fnAt 40) "cas.qpoly" 379 250
noncomputable def o252 : Obj := tup []
noncomputable def o253 : Obj := flds []
noncomputable def o254 : Obj := tup [st "a" 491, st "b" 492, st "one" 493, st "other" 494, st "quotient" 495, st "rest" 496, st "left" 497, st "right" 498, st "factor" 499]
noncomputable def o255 : Obj := tup []
noncomputable def o256 : Obj := frec "qextended" "qextended" (fnAt 41)
noncomputable def o257 : Obj := code "qextended" "qextended" 488 489 490 119 2 3 252 true 253 (.ref 254) (.ref 255) (.ref 256) 500 501
noncomputable def o258 : Obj := func "qextended" "qextended" (fnAt 41) "cas.qpoly" 379 257
noncomputable def o259 : Obj := tup []
noncomputable def o260 : Obj := flds []
noncomputable def o261 : Obj := frec "qderive" "qderive" (fnAt 42)
noncomputable def o262 : Obj := code "qderive" "qderive" 503 504 505 130 1 3 259 true 260 .none .none (.ref 261) 506 507
noncomputable def o263 : Obj := func "qderive" "qderive" (fnAt 42) "cas.qpoly" 379 262
noncomputable def o264 : Obj := tup []
noncomputable def o265 : Obj := flds []
noncomputable def o266 : Obj := frec "qintegral" "qintegral" (fnAt 43)
noncomputable def o267 : Obj := code "qintegral" "qintegral" 509 510 511 132 1 3 264 true 265 .none .none (.ref 266) 512 513
noncomputable def o268 : Obj := func "qintegral" "qintegral" (fnAt 43) "cas.qpoly" 379 267
noncomputable def o269 : Obj := tup []
noncomputable def o270 : Obj := flds []
noncomputable def o271 : Obj := tup [st "p" 518, st "r" 519, st "found" 520, st "number" 521]
noncomputable def o272 : Obj := tup []
noncomputable def o273 : Obj := frec "qat" "qat" (fnAt 44)
noncomputable def o274 : Obj := code "qat" "qat" 515 516 517 135 2 3 269 true 270 (.ref 271) (.ref 272) (.ref 273) 522 523
noncomputable def o275 : Obj := func "qat" "qat" (fnAt 44) "cas.qpoly" 379 274
noncomputable def o276 : Obj := tup []
noncomputable def o277 : Obj := flds []
noncomputable def o278 : Obj := frec "to_z" "to_z" (fnAt 45)
noncomputable def o279 : Obj := code "to_z" "to_z" 525 526 527 140 1 3 276 true 277 .none .none (.ref 278) 528 529
noncomputable def o280 : Obj := func "to_z" "to_z" (fnAt 45) "cas.qpoly" 379 279
noncomputable def o281 : Obj := tup []
noncomputable def o282 : Obj := flds []
noncomputable def o283 : Obj := frec "from_z" "from_z" (fnAt 46)
noncomputable def o284 : Obj := code "from_z" "from_z" 531 532 533 149 1 3 281 true 282 .none .none (.ref 283) 534 535
noncomputable def o285 : Obj := func "from_z" "from_z" (fnAt 46) "cas.qpoly" 379 284
noncomputable def o286 : Obj := { cls := Value.type "list", data := Data.seq #[] }
noncomputable def o287 : Obj := { cls := Value.type "list", data := Data.seq #[Value.ref 50] }
noncomputable def o288 : Obj := tup [.ref 286, .ref 287]
noncomputable def o289 : Obj := tup []
noncomputable def o290 : Obj := flds []
noncomputable def o291 : Obj := tup [st "top" 543, st "bottom" 544, st "common" 545, st "scale" 546]
noncomputable def o292 : Obj := tup []
noncomputable def o293 : Obj := frec "fmake" "fmake" (fnAt 49)
noncomputable def o294 : Obj := code "fmake" "fmake" 540 541 542 153 2 3 289 true 290 (.ref 291) (.ref 292) (.ref 293) 547 548
noncomputable def o295 : Obj := func "fmake" "fmake" (fnAt 49) "cas.ratfun" 537 294
noncomputable def o296 : Obj := tup []
noncomputable def o297 : Obj := flds []
noncomputable def o298 : Obj := tup [st "p" 553]
noncomputable def o299 : Obj := tup []
noncomputable def o300 : Obj := frec "fpoly" "fpoly" (fnAt 50)
noncomputable def o301 : Obj := code "fpoly" "fpoly" 550 551 552 163 1 3 296 true 297 (.ref 298) (.ref 299) (.ref 300) 554 555
noncomputable def o302 : Obj := func "fpoly" "fpoly" (fnAt 50) "cas.ratfun" 537 301
noncomputable def o303 : Obj := tup []
noncomputable def o304 : Obj := flds []
noncomputable def o305 : Obj := tup [st "f" 560, st "g" 561]
noncomputable def o306 : Obj := tup []
noncomputable def o307 : Obj := frec "fadd" "fadd" (fnAt 51)
noncomputable def o308 : Obj := code "fadd" "fadd" 557 558 559 165 2 3 303 true 304 (.ref 305) (.ref 306) (.ref 307) 562 563
noncomputable def o309 : Obj := func "fadd" "fadd" (fnAt 51) "cas.ratfun" 537 308
noncomputable def o310 : Obj := tup []
noncomputable def o311 : Obj := flds []
noncomputable def o312 : Obj := tup [st "f" 568]
noncomputable def o313 : Obj := tup []
noncomputable def o314 : Obj := frec "fneg" "fneg" (fnAt 52)
noncomputable def o315 : Obj := code "fneg" "fneg" 565 566 567 167 1 3 310 true 311 (.ref 312) (.ref 313) (.ref 314) 569 570
noncomputable def o316 : Obj := func "fneg" "fneg" (fnAt 52) "cas.ratfun" 537 315
noncomputable def o317 : Obj := tup []
noncomputable def o318 : Obj := flds []
noncomputable def o319 : Obj := tup [st "f" 575, st "g" 576]
noncomputable def o320 : Obj := tup []
noncomputable def o321 : Obj := frec "fsub" "fsub" (fnAt 53)
noncomputable def o322 : Obj := code "fsub" "fsub" 572 573 574 169 2 3 317 true 318 (.ref 319) (.ref 320) (.ref 321) 577 578
noncomputable def o323 : Obj := func "fsub" "fsub" (fnAt 53) "cas.ratfun" 537 322
noncomputable def o324 : Obj := tup []
noncomputable def o325 : Obj := flds []
noncomputable def o326 : Obj := tup [st "f" 583, st "top" 584, st "bottom" 585]
noncomputable def o327 : Obj := tup []
noncomputable def o328 : Obj := frec "fderive" "fderive" (fnAt 54)
noncomputable def o329 : Obj := code "fderive" "fderive" 580 581 582 171 1 3 324 true 325 (.ref 326) (.ref 327) (.ref 328) 586 587
noncomputable def o330 : Obj := func "fderive" "fderive" (fnAt 54) "cas.ratfun" 537 329
noncomputable def o331 : Obj := tup []
noncomputable def o332 : Obj := flds []
noncomputable def o333 : Obj := tup [st "p" 594]
noncomputable def o334 : Obj := tup []
noncomputable def o335 : Obj := frec "check_bottom" "check_bottom" (fnAt 56)
noncomputable def o336 : Obj := code "check_bottom" "check_bottom" 591 592 593 175 1 3 331 true 332 (.ref 333) (.ref 334) (.ref 335) 595 596
noncomputable def o337 : Obj := func "check_bottom" "check_bottom" (fnAt 56) "cas.zdiv" 589 336
noncomputable def o338 : Obj := tup []
noncomputable def o339 : Obj := flds []
noncomputable def o340 : Obj := tup [st "a" 601, st "b" 602, st "rest" 603, st "found" 604, st "number" 605, st "power" 606]
noncomputable def o341 : Obj := tup []
noncomputable def o342 : Obj := frec "zexact" "zexact" (fnAt 57)
noncomputable def o343 : Obj := code "zexact" "zexact" 598 599 600 178 2 3 338 true 339 (.ref 340) (.ref 341) (.ref 342) 607 608
noncomputable def o344 : Obj := func "zexact" "zexact" (fnAt 57) "cas.zdiv" 589 343
noncomputable def o345 : Obj := tup []
noncomputable def o346 : Obj := flds []
noncomputable def o347 : Obj := tup [st "a" 613, st "b" 614, st "many" 615, st "rest" 616, st "found" 617, st "left" 618, st "first" 619, st "number" 620, st "power" 621, st "more" 622]
noncomputable def o348 : Obj := tup []
noncomputable def o349 : Obj := frec "pseudo" "pseudo" (fnAt 58)
noncomputable def o350 : Obj := code "pseudo" "pseudo" 610 611 612 188 2 3 345 true 346 (.ref 347) (.ref 348) (.ref 349) 623 624
noncomputable def o351 : Obj := func "pseudo" "pseudo" (fnAt 58) "cas.zdiv" 589 350
noncomputable def o352 : Obj := tup []
noncomputable def o353 : Obj := flds []
noncomputable def o354 : Obj := tup [st "a" 629, st "b" 630]
noncomputable def o355 : Obj := tup []
noncomputable def o356 : Obj := frec "zpseudo_rest" "zpseudo_rest" (fnAt 59)
noncomputable def o357 : Obj := code "zpseudo_rest" "zpseudo_rest" 626 627 628 199 2 3 352 true 353 (.ref 354) (.ref 355) (.ref 356) 631 632
noncomputable def o358 : Obj := func "zpseudo_rest" "zpseudo_rest" (fnAt 59) "cas.zdiv" 589 357
noncomputable def o359 : Obj := tup []
noncomputable def o360 : Obj := flds []
noncomputable def o361 : Obj := tup [st "front" 639, st "step" 640, st "height" 641]
noncomputable def o362 : Obj := tup []
noncomputable def o363 : Obj := frec "next_height" "next_height" (fnAt 61)
noncomputable def o364 : Obj := code "next_height" "next_height" 636 637 638 202 3 3 359 true 360 (.ref 361) (.ref 362) (.ref 363) 642 643
noncomputable def o365 : Obj := func "next_height" "next_height" (fnAt 61) "cas.zgcd" 634 364
noncomputable def o366 : Obj := tup []
noncomputable def o367 : Obj := flds []
noncomputable def o368 : Obj := tup [st "a" 648, st "b" 649, st "row" 650, st "front" 651, st "height" 652, st "step" 653, st "rest" 654]
noncomputable def o369 : Obj := tup []
noncomputable def o370 : Obj := frec "subresultants" "subresultants" (fnAt 62)
noncomputable def o371 : Obj := code "subresultants" "subresultants" 645 646 647 206 2 3 366 true 367 (.ref 368) (.ref 369) (.ref 370) 655 656
noncomputable def o372 : Obj := func "subresultants" "subresultants" (fnAt 62) "cas.zgcd" 634 371
noncomputable def o373 : Obj := tup []
noncomputable def o374 : Obj := flds []
noncomputable def o375 : Obj := tup [st "a" 661, st "b" 662, st "only" 663, st "number" 664, st "last" 665]
noncomputable def o376 : Obj := tup []
noncomputable def o377 : Obj := frec "zgcd" "zgcd" (fnAt 63)
noncomputable def o378 : Obj := code "zgcd" "zgcd" 658 659 660 220 2 3 373 true 374 (.ref 375) (.ref 376) (.ref 377) 666 667
noncomputable def o379 : Obj := func "zgcd" "zgcd" (fnAt 63) "cas.zgcd" 634 378
noncomputable def o380 : Obj := tup []
noncomputable def o381 : Obj := flds []
noncomputable def o382 : Obj := tup [st "p" 674, st "found" 675, st "whole" 676, st "common" 677, st "left" 678, st "rest" 679, st "many" 680, st "part" 681]
noncomputable def o383 : Obj := tup []
noncomputable def o384 : Obj := frec "yun" "yun" (fnAt 65)
noncomputable def o385 : Obj := code "yun" "yun" 671 672 673 228 1 3 380 true 381 (.ref 382) (.ref 383) (.ref 384) 682 683
noncomputable def o386 : Obj := func "yun" "yun" (fnAt 65) "cas.squarefree" 669 385
noncomputable def o387 : Obj := tup []
noncomputable def o388 : Obj := flds []
noncomputable def o389 : Obj := frec "square_free_parts" "square_free_parts" (fnAt 67)
noncomputable def o390 : Obj := code "square_free_parts" "square_free_parts" 687 688 689 244 1 3 387 true 388 .none .none (.ref 389) 690 691
noncomputable def o391 : Obj := func "square_free_parts" "square_free_parts" (fnAt 67) "cas.hermite" 685 390
noncomputable def o392 : Obj := tup []
noncomputable def o393 : Obj := flds []
noncomputable def o394 : Obj := tup [st "a" 696, st "b" 697, st "c" 698, st "common" 699, st "left" 700, st "right" 701, st "whole" 702, st "s" 703]
noncomputable def o395 : Obj := tup []
noncomputable def o396 : Obj := frec "solved" "solved" (fnAt 68)
noncomputable def o397 : Obj := code "solved" "solved" 693 694 695 246 3 3 392 true 393 (.ref 394) (.ref 395) (.ref 396) 704 705
noncomputable def o398 : Obj := func "solved" "solved" (fnAt 68) "cas.hermite" 685 397
noncomputable def o399 : Obj := tup []
noncomputable def o400 : Obj := flds []
noncomputable def o401 : Obj := tup [st "top" 710, st "other" 711, st "part" 712, st "many" 713, st "found" 714, st "slope" 715, st "n" 716, st "above" 717, st "rest" 718]
noncomputable def o402 : Obj := tup []
noncomputable def o403 : Obj := frec "lowered" "lowered" (fnAt 69)
noncomputable def o404 : Obj := code "lowered" "lowered" 707 708 709 250 4 3 399 true 400 (.ref 401) (.ref 402) (.ref 403) 719 720
noncomputable def o405 : Obj := func "lowered" "lowered" (fnAt 69) "cas.hermite" 685 404
noncomputable def o406 : Obj := tup []
noncomputable def o407 : Obj := flds []
noncomputable def o408 : Obj := tup [st "f" 725, st "whole" 726, st "top" 727, st "found" 728, st "bottom" 729, st "part" 730, st "many" 731, st "other" 732, st "done" 733]
noncomputable def o409 : Obj := tup []
noncomputable def o410 : Obj := frec "hermite" "hermite" (fnAt 70)
noncomputable def o411 : Obj := code "hermite" "hermite" 722 723 724 257 1 3 406 true 407 (.ref 408) (.ref 409) (.ref 410) 734 735
noncomputable def o412 : Obj := func "hermite" "hermite" (fnAt 70) "cas.hermite" 685 411
noncomputable def o413 : Obj := tup []
noncomputable def o414 : Obj := flds []
noncomputable def o415 : Obj := tup [st "pool" 742, st "many" 743, st "script" 744, st "cell" 745]
noncomputable def o416 : Obj := tup []
noncomputable def o417 : Obj := frec "_law_draw" "_law_draw" (fnAt 72)
noncomputable def o418 : Obj := code "_law_draw" "_law_draw" 739 740 741 267 2 3 413 true 414 (.ref 415) (.ref 416) (.ref 417) 746 747
noncomputable def o419 : Obj := func "_law_draw" "_law_draw" (fnAt 72) "law_pf0056_01" 737 418
noncomputable def o420 : Obj := tup []
noncomputable def o421 : Obj := flds []
noncomputable def o422 : Obj := frec "_law_pole" "_law_pole" (fnAt 73)
noncomputable def o423 : Obj := code "_law_pole" "_law_pole" 749 750 751 273 3 3 420 true 421 .none .none (.ref 422) 752 753
noncomputable def o424 : Obj := func "_law_pole" "_law_pole" (fnAt 73) "law_pf0056_01" 737 423
noncomputable def o425 : Obj := tup []
noncomputable def o426 : Obj := flds []
noncomputable def o427 : Obj := tup [st "f" 758, st "root" 759, st "many" 760, st "bottom" 761, st "found" 762, st "carry" 763, st "number" 764]
noncomputable def o428 : Obj := tup []
noncomputable def o429 : Obj := frec "_law_order" "_law_order" (fnAt 74)
noncomputable def o430 : Obj := code "_law_order" "_law_order" 755 756 757 279 2 3 425 true 426 (.ref 427) (.ref 428) (.ref 429) 765 766
noncomputable def o431 : Obj := func "_law_order" "_law_order" (fnAt 74) "law_pf0056_01" 737 430
noncomputable def o432 : Obj := tup []
noncomputable def o433 : Obj := flds []
noncomputable def o434 : Obj := frec "law" "law" (fnAt 75)
noncomputable def o435 : Obj := code "law" "law" 768 769 770 288 1 3 432 true 433 .none .none (.ref 434) 771 772
noncomputable def o436 : Obj := func "law" "law" (fnAt 75) "law_pf0056_01" 737 435
noncomputable def o11 : Obj := tup []
noncomputable def globs (P : Params) : List DictEntry := [ent P "__doc__" 166 (.none), ent P "__package__" 167 (.none), ent P "__loader__" 168 (.builtin "__main__.__loader__#opaque"), ent P "__spec__" 169 (.none), ent P "__annotations__" 170 (.ref 6), ent P "__builtins__" 171 (.ref 4), ent P "__file__" 173 (st "/claim/cut.py" 172), ent P "__cached__" 174 (.none), ent P "CasFail" 219 (.ref 31), ent P "gcd" 229 (.ref 41), ent P "gcd_all" 238 (.ref 48), ent P "R0" 243 (.ref 49), ent P "R1" 246 (.ref 50), ent P "rat" 255 (.ref 57), ent P "radd" 263 (.ref 64), ent P "rmul" 271 (.ref 71), ent P "rdiv" 279 (.ref 78), ent P "rneg" 286 (.ref 85), ent P "rinv" 293 (.ref 92), ent P "ztrim" 303 (.ref 99), ent P "zdegree" 310 (.ref 106), ent P "zlead" 317 (.ref 113), ent P "zadd" 323 (.ref 118), ent P "zneg" 329 (.ref 123), ent P "zsub" 337 (.ref 130), ent P "zscale" 343 (.ref 135), ent P "zraise" 351 (.ref 142), ent P "zcontent" 358 (.ref 149), ent P "zdivided" 364 (.ref 154), ent P "zprimitive" 372 (.ref 161), ent P "zderive" 378 (.ref 166), ent P "qtrim" 388 (.ref 173), ent P "qdegree" 395 (.ref 180), ent P "qlead" 402 (.ref 187), ent P "qadd" 408 (.ref 192), ent P "qneg" 414 (.ref 197), ent P "qsub" 422 (.ref 204), ent P "qscale" 428 (.ref 209), ent P "qraise" 436 (.ref 216), ent P "qmul" 449 (.ref 223), ent P "qpower" 459 (.ref 230), ent P "qdivmod" 472 (.ref 237), ent P "qmonic" 479 (.ref 244), ent P "qgcd" 487 (.ref 251), ent P "qextended" 502 (.ref 258), ent P "qderive" 508 (.ref 263), ent P "qintegral" 514 (.ref 268), ent P "qat" 524 (.ref 275), ent P "to_z" 530 (.ref 280), ent P "from_z" 536 (.ref 285), ent P "F0" 539 (.ref 288), ent P "fmake" 549 (.ref 295), ent P "fpoly" 556 (.ref 302), ent P "fadd" 564 (.ref 309), ent P "fneg" 571 (.ref 316), ent P "fsub" 579 (.ref 323), ent P "fderive" 588 (.ref 330), ent P "check_bottom" 597 (.ref 337), ent P "zexact" 609 (.ref 344), ent P "pseudo" 625 (.ref 351), ent P "zpseudo_rest" 633 (.ref 358), ent P "next_height" 644 (.ref 365), ent P "subresultants" 657 (.ref 372), ent P "zgcd" 668 (.ref 379), ent P "yun" 684 (.ref 386), ent P "square_free_parts" 692 (.ref 391), ent P "solved" 706 (.ref 398), ent P "lowered" 721 (.ref 405), ent P "hermite" 736 (.ref 412), ent P "_law_draw" 748 (.ref 419), ent P "_law_pole" 754 (.ref 424), ent P "_law_order" 767 (.ref 431), ent P "law" 773 (.ref 436)]
noncomputable def globAt (P : Params) (m : Nat) (v : Value) (n : Nat) : Obj := { cls := .type "dict", data := .dict ⟨ent P "__name__" 165 v :: (globs P).take m⟩ n }
noncomputable def table : List Value := [.int 2 0, .int 0 0, .ref 20, .int 9 0, .int 0 0, .ref 40, .int 14 0, .int 0 0, .ref 47, .int 22 0, .int 0 0, .ref 56, .int 27 0, .int 0 0, .ref 63, .int 29 0, .int 0 0, .ref 70, .int 31 0, .int 0 0, .ref 77, .int 33 0, .int 0 0, .ref 84, .int 35 0, .int 0 0, .ref 91, .int 38 0, .int 0 0, .ref 98, .int 43 0, .int 0 0, .ref 105, .int 45 0, .int 0 0, .ref 112, .int 47 0, .int 0 0, .ref 117, .int 50 0, .int 0 0, .ref 122, .int 52 0, .int 0 0, .ref 129, .int 54 0, .int 0 0, .ref 134, .int 56 0, .int 0 0, .ref 141, .int 58 0, .int 0 0, .ref 148, .int 60 0, .int 0 0, .ref 153, .int 62 0, .int 0 0, .ref 160, .int 67 0, .int 0 0, .ref 165, .int 70 0, .int 0 0, .ref 172, .int 75 0, .int 0 0, .ref 179, .int 77 0, .int 0 0, .ref 186, .int 79 0, .int 0 0, .ref 191, .int 82 0, .int 0 0, .ref 196, .int 84 0, .int 0 0, .ref 203, .int 86 0, .int 0 0, .ref 208, .int 88 0, .int 0 0, .ref 215, .int 90 0, .int 0 0, .ref 222, .int 98 0, .int 0 0, .ref 229, .int 103 0, .int 0 0, .ref 236, .int 113 0, .int 0 0, .ref 243, .int 115 0, .int 0 0, .ref 250, .int 119 0, .int 0 0, .ref 257, .int 130 0, .int 0 0, .ref 262, .int 132 0, .int 0 0, .ref 267, .int 135 0, .int 0 0, .ref 274, .int 140 0, .int 0 0, .ref 279, .int 149 0, .int 0 0, .ref 284, .int 153 0, .int 0 0, .ref 294, .int 163 0, .int 0 0, .ref 301, .int 165 0, .int 0 0, .ref 308, .int 167 0, .int 0 0, .ref 315, .int 169 0, .int 0 0, .ref 322, .int 171 0, .int 0 0, .ref 329, .int 175 0, .int 0 0, .ref 336, .int 178 0, .int 0 0, .ref 343, .int 188 0, .int 0 0, .ref 350, .int 199 0, .int 0 0, .ref 357, .int 202 0, .int 0 0, .ref 364, .int 206 0, .int 0 0, .ref 371, .int 220 0, .int 0 0, .ref 378, .int 228 0, .int 0 0, .ref 385, .int 244 0, .int 0 0, .ref 390, .int 246 0, .int 0 0, .ref 397, .int 250 0, .int 0 0, .ref 404, .int 257 0, .int 0 0, .ref 411, .int 267 0, .int 0 0, .ref 418, .int 273 0, .int 0 0, .ref 423, .int 279 0, .int 0 0, .ref 430, .int 288 0, .int 0 0, .ref 435]
noncomputable def tableAt (m : Nat) : Obj := flds (table.take m)
noncomputable def table0 : Obj := tableAt 0
noncomputable def glob1 (P : Params) : Obj := globAt P 14 (st "cas.rats" 239) 15
noncomputable def table1 : Obj := tableAt 12
noncomputable def glob2 (P : Params) : Obj := globAt P 27 (st "cas.zpoly" 294) 28
noncomputable def table2 : Obj := tableAt 51
noncomputable def glob3 (P : Params) : Obj := globAt P 40 (st "cas.qpoly" 379) 41
noncomputable def table3 : Obj := tableAt 90
noncomputable def glob4 (P : Params) : Obj := globAt P 53 (st "cas.ratfun" 537) 54
noncomputable def table4 : Obj := tableAt 126
noncomputable def glob5 (P : Params) : Obj := globAt P 64 (st "cas.squarefree" 669) 65
noncomputable def table5 : Obj := tableAt 159
noncomputable def glob6 (P : Params) : Obj := globAt P 73 (st "law_pf0056_01" 737) 74
noncomputable def table6 : Obj := tableAt 186
noncomputable def tree0 (P : Params) : BT := .node (boot_o_0 P) (.node (boot_o_1 P) (.node (boot_o_3 P) (.node (boot_o_7 P) .nil .nil) (.node o11 .nil .nil)) (.node (boot_o_5 P) (.node (boot_o_9 P) .nil .nil) (.node o13 .nil .nil))) (.node (boot_o_2 P) (.node (boot_o_4 P) (.node (boot_o_8 P) .nil .nil) (.node table0 .nil .nil)) (.node (boot_o_6 P) (.node (boot_o_10 P) .nil .nil) (.node o14 .nil .nil)))
noncomputable def tree1 (P : Params) : BT := .node (boot_o_0 P) (.node (boot_o_1 P) (.node (glob1 P) (.node (boot_o_7 P) (.node o15 (.node o31 .nil .nil) (.node o47 .nil .nil)) (.node o23 (.node o39 .nil .nil) (.node o55 .nil .nil))) (.node o11 (.node o19 (.node o35 .nil .nil) (.node o51 .nil .nil)) (.node o27 (.node o43 .nil .nil) .nil))) (.node (boot_o_5 P) (.node (boot_o_9 P) (.node (o17 P) (.node o33 .nil .nil) (.node o49 .nil .nil)) (.node o25 (.node o41 .nil .nil) (.node o57 .nil .nil))) (.node o13 (.node o21 (.node o37 .nil .nil) (.node o53 .nil .nil)) (.node o29 (.node o45 .nil .nil) .nil)))) (.node (o2 P) (.node (boot_o_4 P) (.node (boot_o_8 P) (.node o16 (.node o32 .nil .nil) (.node o48 .nil .nil)) (.node o24 (.node o40 .nil .nil) (.node o56 .nil .nil))) (.node table1 (.node o20 (.node o36 .nil .nil) (.node o52 .nil .nil)) (.node o28 (.node o44 .nil .nil) .nil))) (.node (boot_o_6 P) (.node (boot_o_10 P) (.node o18 (.node o34 .nil .nil) (.node o50 .nil .nil)) (.node o26 (.node o42 .nil .nil) .nil)) (.node o14 (.node o22 (.node o38 .nil .nil) (.node o54 .nil .nil)) (.node (o30 P) (.node o46 .nil .nil) .nil))))
noncomputable def tree2 (P : Params) : BT := .node (boot_o_0 P) (.node (boot_o_1 P) (.node (glob2 P) (.node (boot_o_7 P) (.node o15 (.node o31 (.node o63 (.node o127 .nil .nil) .nil) (.node o95 .nil .nil)) (.node o47 (.node o79 .nil .nil) (.node o111 .nil .nil))) (.node o23 (.node o39 (.node o71 (.node o135 .nil .nil) .nil) (.node o103 .nil .nil)) (.node o55 (.node o87 .nil .nil) (.node o119 .nil .nil)))) (.node o11 (.node o19 (.node o35 (.node o67 (.node o131 .nil .nil) .nil) (.node o99 .nil .nil)) (.node o51 (.node o83 .nil .nil) (.node o115 .nil .nil))) (.node o27 (.node o43 (.node o75 (.node o139 .nil .nil) .nil) (.node o107 .nil .nil)) (.node o59 (.node o91 .nil .nil) (.node o123 .nil .nil))))) (.node (boot_o_5 P) (.node (boot_o_9 P) (.node (o17 P) (.node o33 (.node o65 (.node o129 .nil .nil) .nil) (.node o97 .nil .nil)) (.node o49 (.node o81 .nil .nil) (.node o113 .nil .nil))) (.node o25 (.node o41 (.node o73 (.node o137 .nil .nil) .nil) (.node o105 .nil .nil)) (.node o57 (.node o89 .nil .nil) (.node o121 .nil .nil)))) (.node o13 (.node o21 (.node o37 (.node o69 (.node o133 .nil .nil) .nil) (.node o101 .nil .nil)) (.node o53 (.node o85 .nil .nil) (.node o117 .nil .nil))) (.node o29 (.node o45 (.node o77 (.node o141 .nil .nil) .nil) (.node o109 .nil .nil)) (.node o61 (.node o93 .nil .nil) (.node o125 .nil .nil)))))) (.node (o2 P) (.node (boot_o_4 P) (.node (boot_o_8 P) (.node o16 (.node o32 (.node o64 (.node o128 .nil .nil) .nil) (.node o96 .nil .nil)) (.node o48 (.node o80 .nil .nil) (.node o112 .nil .nil))) (.node o24 (.node o40 (.node o72 (.node o136 .nil .nil) .nil) (.node o104 .nil .nil)) (.node o56 (.node o88 .nil .nil) (.node o120 .nil .nil)))) (.node table2 (.node o20 (.node o36 (.node o68 (.node o132 .nil .nil) .nil) (.node o100 .nil .nil)) (.node o52 (.node o84 .nil .nil) (.node o116 .nil .nil))) (.node o28 (.node o44 (.node o76 (.node o140 .nil .nil) .nil) (.node o108 .nil .nil)) (.node o60 (.node o92 .nil .nil) (.node o124 .nil .nil))))) (.node (boot_o_6 P) (.node (boot_o_10 P) (.node o18 (.node o34 (.node o66 (.node o130 .nil .nil) .nil) (.node o98 .nil .nil)) (.node o50 (.node o82 .nil .nil) (.node o114 .nil .nil))) (.node o26 (.node o42 (.node o74 (.node o138 .nil .nil) .nil) (.node o106 .nil .nil)) (.node o58 (.node o90 .nil .nil) (.node o122 .nil .nil)))) (.node o14 (.node o22 (.node o38 (.node o70 (.node o134 .nil .nil) .nil) (.node o102 .nil .nil)) (.node o54 (.node o86 .nil .nil) (.node o118 .nil .nil))) (.node (o30 P) (.node o46 (.node o78 (.node o142 .nil .nil) .nil) (.node o110 .nil .nil)) (.node o62 (.node o94 .nil .nil) (.node o126 .nil .nil))))))
noncomputable def tree3 (P : Params) : BT := .node (boot_o_0 P) (.node (boot_o_1 P) (.node (glob3 P) (.node (boot_o_7 P) (.node o15 (.node o31 (.node o63 (.node o127 .nil .nil) (.node o191 .nil .nil)) (.node o95 (.node o159 .nil .nil) (.node o223 .nil .nil))) (.node o47 (.node o79 (.node o143 .nil .nil) (.node o207 .nil .nil)) (.node o111 (.node o175 .nil .nil) .nil))) (.node o23 (.node o39 (.node o71 (.node o135 .nil .nil) (.node o199 .nil .nil)) (.node o103 (.node o167 .nil .nil) .nil)) (.node o55 (.node o87 (.node o151 .nil .nil) (.node o215 .nil .nil)) (.node o119 (.node o183 .nil .nil) .nil)))) (.node o11 (.node o19 (.node o35 (.node o67 (.node o131 .nil .nil) (.node o195 .nil .nil)) (.node o99 (.node o163 .nil .nil) .nil)) (.node o51 (.node o83 (.node o147 .nil .nil) (.node o211 .nil .nil)) (.node o115 (.node o179 .nil .nil) .nil))) (.node o27 (.node o43 (.node o75 (.node o139 .nil .nil) (.node o203 .nil .nil)) (.node o107 (.node o171 .nil .nil) .nil)) (.node o59 (.node o91 (.node o155 .nil .nil) (.node o219 .nil .nil)) (.node o123 (.node o187 .nil .nil) .nil))))) (.node (boot_o_5 P) (.node (boot_o_9 P) (.node (o17 P) (.node o33 (.node o65 (.node o129 .nil .nil) (.node o193 .nil .nil)) (.node o97 (.node o161 .nil .nil) .nil)) (.node o49 (.node o81 (.node o145 .nil .nil) (.node o209 .nil .nil)) (.node o113 (.node o177 .nil .nil) .nil))) (.node o25 (.node o41 (.node o73 (.node o137 .nil .nil) (.node o201 .nil .nil)) (.node o105 (.node o169 .nil .nil) .nil)) (.node o57 (.node o89 (.node o153 .nil .nil) (.node o217 .nil .nil)) (.node o121 (.node o185 .nil .nil) .nil)))) (.node o13 (.node o21 (.node o37 (.node o69 (.node o133 .nil .nil) (.node o197 .nil .nil)) (.node o101 (.node o165 .nil .nil) .nil)) (.node o53 (.node o85 (.node o149 .nil .nil) (.node o213 .nil .nil)) (.node o117 (.node o181 .nil .nil) .nil))) (.node o29 (.node o45 (.node o77 (.node o141 .nil .nil) (.node o205 .nil .nil)) (.node o109 (.node o173 .nil .nil) .nil)) (.node o61 (.node o93 (.node o157 .nil .nil) (.node o221 .nil .nil)) (.node o125 (.node o189 .nil .nil) .nil)))))) (.node (o2 P) (.node (boot_o_4 P) (.node (boot_o_8 P) (.node o16 (.node o32 (.node o64 (.node o128 .nil .nil) (.node o192 .nil .nil)) (.node o96 (.node o160 .nil .nil) .nil)) (.node o48 (.node o80 (.node o144 .nil .nil) (.node o208 .nil .nil)) (.node o112 (.node o176 .nil .nil) .nil))) (.node o24 (.node o40 (.node o72 (.node o136 .nil .nil) (.node o200 .nil .nil)) (.node o104 (.node o168 .nil .nil) .nil)) (.node o56 (.node o88 (.node o152 .nil .nil) (.node o216 .nil .nil)) (.node o120 (.node o184 .nil .nil) .nil)))) (.node table3 (.node o20 (.node o36 (.node o68 (.node o132 .nil .nil) (.node o196 .nil .nil)) (.node o100 (.node o164 .nil .nil) .nil)) (.node o52 (.node o84 (.node o148 .nil .nil) (.node o212 .nil .nil)) (.node o116 (.node o180 .nil .nil) .nil))) (.node o28 (.node o44 (.node o76 (.node o140 .nil .nil) (.node o204 .nil .nil)) (.node o108 (.node o172 .nil .nil) .nil)) (.node o60 (.node o92 (.node o156 .nil .nil) (.node o220 .nil .nil)) (.node o124 (.node o188 .nil .nil) .nil))))) (.node (boot_o_6 P) (.node (boot_o_10 P) (.node o18 (.node o34 (.node o66 (.node o130 .nil .nil) (.node o194 .nil .nil)) (.node o98 (.node o162 .nil .nil) .nil)) (.node o50 (.node o82 (.node o146 .nil .nil) (.node o210 .nil .nil)) (.node o114 (.node o178 .nil .nil) .nil))) (.node o26 (.node o42 (.node o74 (.node o138 .nil .nil) (.node o202 .nil .nil)) (.node o106 (.node o170 .nil .nil) .nil)) (.node o58 (.node o90 (.node o154 .nil .nil) (.node o218 .nil .nil)) (.node o122 (.node o186 .nil .nil) .nil)))) (.node o14 (.node o22 (.node o38 (.node o70 (.node o134 .nil .nil) (.node o198 .nil .nil)) (.node o102 (.node o166 .nil .nil) .nil)) (.node o54 (.node o86 (.node o150 .nil .nil) (.node o214 .nil .nil)) (.node o118 (.node o182 .nil .nil) .nil))) (.node (o30 P) (.node o46 (.node o78 (.node o142 .nil .nil) (.node o206 .nil .nil)) (.node o110 (.node o174 .nil .nil) .nil)) (.node o62 (.node o94 (.node o158 .nil .nil) (.node o222 .nil .nil)) (.node o126 (.node o190 .nil .nil) .nil))))))
noncomputable def tree4 (P : Params) : BT := .node (boot_o_0 P) (.node (boot_o_1 P) (.node (glob4 P) (.node (boot_o_7 P) (.node o15 (.node o31 (.node o63 (.node o127 (.node o255 .nil .nil) .nil) (.node o191 .nil .nil)) (.node o95 (.node o159 (.node o287 .nil .nil) .nil) (.node o223 .nil .nil))) (.node o47 (.node o79 (.node o143 (.node o271 .nil .nil) .nil) (.node o207 .nil .nil)) (.node o111 (.node o175 .nil .nil) (.node o239 .nil .nil)))) (.node o23 (.node o39 (.node o71 (.node o135 (.node o263 .nil .nil) .nil) (.node o199 .nil .nil)) (.node o103 (.node o167 (.node o295 .nil .nil) .nil) (.node o231 .nil .nil))) (.node o55 (.node o87 (.node o151 (.node o279 .nil .nil) .nil) (.node o215 .nil .nil)) (.node o119 (.node o183 .nil .nil) (.node o247 .nil .nil))))) (.node o11 (.node o19 (.node o35 (.node o67 (.node o131 (.node o259 .nil .nil) .nil) (.node o195 .nil .nil)) (.node o99 (.node o163 (.node o291 .nil .nil) .nil) (.node o227 .nil .nil))) (.node o51 (.node o83 (.node o147 (.node o275 .nil .nil) .nil) (.node o211 .nil .nil)) (.node o115 (.node o179 .nil .nil) (.node o243 .nil .nil)))) (.node o27 (.node o43 (.node o75 (.node o139 (.node o267 .nil .nil) .nil) (.node o203 .nil .nil)) (.node o107 (.node o171 (.node o299 .nil .nil) .nil) (.node o235 .nil .nil))) (.node o59 (.node o91 (.node o155 (.node o283 .nil .nil) .nil) (.node o219 .nil .nil)) (.node o123 (.node o187 .nil .nil) (.node o251 .nil .nil)))))) (.node (boot_o_5 P) (.node (boot_o_9 P) (.node (o17 P) (.node o33 (.node o65 (.node o129 (.node o257 .nil .nil) .nil) (.node o193 .nil .nil)) (.node o97 (.node o161 (.node o289 .nil .nil) .nil) (.node o225 .nil .nil))) (.node o49 (.node o81 (.node o145 (.node o273 .nil .nil) .nil) (.node o209 .nil .nil)) (.node o113 (.node o177 .nil .nil) (.node o241 .nil .nil)))) (.node o25 (.node o41 (.node o73 (.node o137 (.node o265 .nil .nil) .nil) (.node o201 .nil .nil)) (.node o105 (.node o169 (.node o297 .nil .nil) .nil) (.node o233 .nil .nil))) (.node o57 (.node o89 (.node o153 (.node o281 .nil .nil) .nil) (.node o217 .nil .nil)) (.node o121 (.node o185 .nil .nil) (.node o249 .nil .nil))))) (.node o13 (.node o21 (.node o37 (.node o69 (.node o133 (.node o261 .nil .nil) .nil) (.node o197 .nil .nil)) (.node o101 (.node o165 (.node o293 .nil .nil) .nil) (.node o229 .nil .nil))) (.node o53 (.node o85 (.node o149 (.node o277 .nil .nil) .nil) (.node o213 .nil .nil)) (.node o117 (.node o181 .nil .nil) (.node o245 .nil .nil)))) (.node o29 (.node o45 (.node o77 (.node o141 (.node o269 .nil .nil) .nil) (.node o205 .nil .nil)) (.node o109 (.node o173 (.node o301 .nil .nil) .nil) (.node o237 .nil .nil))) (.node o61 (.node o93 (.node o157 (.node o285 .nil .nil) .nil) (.node o221 .nil .nil)) (.node o125 (.node o189 .nil .nil) (.node o253 .nil .nil))))))) (.node (o2 P) (.node (boot_o_4 P) (.node (boot_o_8 P) (.node o16 (.node o32 (.node o64 (.node o128 (.node o256 .nil .nil) .nil) (.node o192 .nil .nil)) (.node o96 (.node o160 (.node o288 .nil .nil) .nil) (.node o224 .nil .nil))) (.node o48 (.node o80 (.node o144 (.node o272 .nil .nil) .nil) (.node o208 .nil .nil)) (.node o112 (.node o176 .nil .nil) (.node o240 .nil .nil)))) (.node o24 (.node o40 (.node o72 (.node o136 (.node o264 .nil .nil) .nil) (.node o200 .nil .nil)) (.node o104 (.node o168 (.node o296 .nil .nil) .nil) (.node o232 .nil .nil))) (.node o56 (.node o88 (.node o152 (.node o280 .nil .nil) .nil) (.node o216 .nil .nil)) (.node o120 (.node o184 .nil .nil) (.node o248 .nil .nil))))) (.node table4 (.node o20 (.node o36 (.node o68 (.node o132 (.node o260 .nil .nil) .nil) (.node o196 .nil .nil)) (.node o100 (.node o164 (.node o292 .nil .nil) .nil) (.node o228 .nil .nil))) (.node o52 (.node o84 (.node o148 (.node o276 .nil .nil) .nil) (.node o212 .nil .nil)) (.node o116 (.node o180 .nil .nil) (.node o244 .nil .nil)))) (.node o28 (.node o44 (.node o76 (.node o140 (.node o268 .nil .nil) .nil) (.node o204 .nil .nil)) (.node o108 (.node o172 (.node o300 .nil .nil) .nil) (.node o236 .nil .nil))) (.node o60 (.node o92 (.node o156 (.node o284 .nil .nil) .nil) (.node o220 .nil .nil)) (.node o124 (.node o188 .nil .nil) (.node o252 .nil .nil)))))) (.node (boot_o_6 P) (.node (boot_o_10 P) (.node o18 (.node o34 (.node o66 (.node o130 (.node o258 .nil .nil) .nil) (.node o194 .nil .nil)) (.node o98 (.node o162 (.node o290 .nil .nil) .nil) (.node o226 .nil .nil))) (.node o50 (.node o82 (.node o146 (.node o274 .nil .nil) .nil) (.node o210 .nil .nil)) (.node o114 (.node o178 .nil .nil) (.node o242 .nil .nil)))) (.node o26 (.node o42 (.node o74 (.node o138 (.node o266 .nil .nil) .nil) (.node o202 .nil .nil)) (.node o106 (.node o170 (.node o298 .nil .nil) .nil) (.node o234 .nil .nil))) (.node o58 (.node o90 (.node o154 (.node o282 .nil .nil) .nil) (.node o218 .nil .nil)) (.node o122 (.node o186 .nil .nil) (.node o250 .nil .nil))))) (.node o14 (.node o22 (.node o38 (.node o70 (.node o134 (.node o262 .nil .nil) .nil) (.node o198 .nil .nil)) (.node o102 (.node o166 (.node o294 .nil .nil) .nil) (.node o230 .nil .nil))) (.node o54 (.node o86 (.node o150 (.node o278 .nil .nil) .nil) (.node o214 .nil .nil)) (.node o118 (.node o182 .nil .nil) (.node o246 .nil .nil)))) (.node (o30 P) (.node o46 (.node o78 (.node o142 (.node o270 .nil .nil) .nil) (.node o206 .nil .nil)) (.node o110 (.node o174 (.node o302 .nil .nil) .nil) (.node o238 .nil .nil))) (.node o62 (.node o94 (.node o158 (.node o286 .nil .nil) .nil) (.node o222 .nil .nil)) (.node o126 (.node o190 .nil .nil) (.node o254 .nil .nil)))))))
noncomputable def tree5 (P : Params) : BT := .node (boot_o_0 P) (.node (boot_o_1 P) (.node (glob5 P) (.node (boot_o_7 P) (.node o15 (.node o31 (.node o63 (.node o127 (.node o255 .nil .nil) .nil) (.node o191 (.node o319 .nil .nil) .nil)) (.node o95 (.node o159 (.node o287 .nil .nil) .nil) (.node o223 (.node o351 .nil .nil) .nil))) (.node o47 (.node o79 (.node o143 (.node o271 .nil .nil) .nil) (.node o207 (.node o335 .nil .nil) .nil)) (.node o111 (.node o175 (.node o303 .nil .nil) .nil) (.node o239 (.node o367 .nil .nil) .nil)))) (.node o23 (.node o39 (.node o71 (.node o135 (.node o263 .nil .nil) .nil) (.node o199 (.node o327 .nil .nil) .nil)) (.node o103 (.node o167 (.node o295 .nil .nil) .nil) (.node o231 (.node o359 .nil .nil) .nil))) (.node o55 (.node o87 (.node o151 (.node o279 .nil .nil) .nil) (.node o215 (.node o343 .nil .nil) .nil)) (.node o119 (.node o183 (.node o311 .nil .nil) .nil) (.node o247 (.node o375 .nil .nil) .nil))))) (.node o11 (.node o19 (.node o35 (.node o67 (.node o131 (.node o259 .nil .nil) .nil) (.node o195 (.node o323 .nil .nil) .nil)) (.node o99 (.node o163 (.node o291 .nil .nil) .nil) (.node o227 (.node o355 .nil .nil) .nil))) (.node o51 (.node o83 (.node o147 (.node o275 .nil .nil) .nil) (.node o211 (.node o339 .nil .nil) .nil)) (.node o115 (.node o179 (.node o307 .nil .nil) .nil) (.node o243 (.node o371 .nil .nil) .nil)))) (.node o27 (.node o43 (.node o75 (.node o139 (.node o267 .nil .nil) .nil) (.node o203 (.node o331 .nil .nil) .nil)) (.node o107 (.node o171 (.node o299 .nil .nil) .nil) (.node o235 (.node o363 .nil .nil) .nil))) (.node o59 (.node o91 (.node o155 (.node o283 .nil .nil) .nil) (.node o219 (.node o347 .nil .nil) .nil)) (.node o123 (.node o187 (.node o315 .nil .nil) .nil) (.node o251 (.node o379 .nil .nil) .nil)))))) (.node (boot_o_5 P) (.node (boot_o_9 P) (.node (o17 P) (.node o33 (.node o65 (.node o129 (.node o257 .nil .nil) .nil) (.node o193 (.node o321 .nil .nil) .nil)) (.node o97 (.node o161 (.node o289 .nil .nil) .nil) (.node o225 (.node o353 .nil .nil) .nil))) (.node o49 (.node o81 (.node o145 (.node o273 .nil .nil) .nil) (.node o209 (.node o337 .nil .nil) .nil)) (.node o113 (.node o177 (.node o305 .nil .nil) .nil) (.node o241 (.node o369 .nil .nil) .nil)))) (.node o25 (.node o41 (.node o73 (.node o137 (.node o265 .nil .nil) .nil) (.node o201 (.node o329 .nil .nil) .nil)) (.node o105 (.node o169 (.node o297 .nil .nil) .nil) (.node o233 (.node o361 .nil .nil) .nil))) (.node o57 (.node o89 (.node o153 (.node o281 .nil .nil) .nil) (.node o217 (.node o345 .nil .nil) .nil)) (.node o121 (.node o185 (.node o313 .nil .nil) .nil) (.node o249 (.node o377 .nil .nil) .nil))))) (.node o13 (.node o21 (.node o37 (.node o69 (.node o133 (.node o261 .nil .nil) .nil) (.node o197 (.node o325 .nil .nil) .nil)) (.node o101 (.node o165 (.node o293 .nil .nil) .nil) (.node o229 (.node o357 .nil .nil) .nil))) (.node o53 (.node o85 (.node o149 (.node o277 .nil .nil) .nil) (.node o213 (.node o341 .nil .nil) .nil)) (.node o117 (.node o181 (.node o309 .nil .nil) .nil) (.node o245 (.node o373 .nil .nil) .nil)))) (.node o29 (.node o45 (.node o77 (.node o141 (.node o269 .nil .nil) .nil) (.node o205 (.node o333 .nil .nil) .nil)) (.node o109 (.node o173 (.node o301 .nil .nil) .nil) (.node o237 (.node o365 .nil .nil) .nil))) (.node o61 (.node o93 (.node o157 (.node o285 .nil .nil) .nil) (.node o221 (.node o349 .nil .nil) .nil)) (.node o125 (.node o189 (.node o317 .nil .nil) .nil) (.node o253 .nil .nil))))))) (.node (o2 P) (.node (boot_o_4 P) (.node (boot_o_8 P) (.node o16 (.node o32 (.node o64 (.node o128 (.node o256 .nil .nil) .nil) (.node o192 (.node o320 .nil .nil) .nil)) (.node o96 (.node o160 (.node o288 .nil .nil) .nil) (.node o224 (.node o352 .nil .nil) .nil))) (.node o48 (.node o80 (.node o144 (.node o272 .nil .nil) .nil) (.node o208 (.node o336 .nil .nil) .nil)) (.node o112 (.node o176 (.node o304 .nil .nil) .nil) (.node o240 (.node o368 .nil .nil) .nil)))) (.node o24 (.node o40 (.node o72 (.node o136 (.node o264 .nil .nil) .nil) (.node o200 (.node o328 .nil .nil) .nil)) (.node o104 (.node o168 (.node o296 .nil .nil) .nil) (.node o232 (.node o360 .nil .nil) .nil))) (.node o56 (.node o88 (.node o152 (.node o280 .nil .nil) .nil) (.node o216 (.node o344 .nil .nil) .nil)) (.node o120 (.node o184 (.node o312 .nil .nil) .nil) (.node o248 (.node o376 .nil .nil) .nil))))) (.node table5 (.node o20 (.node o36 (.node o68 (.node o132 (.node o260 .nil .nil) .nil) (.node o196 (.node o324 .nil .nil) .nil)) (.node o100 (.node o164 (.node o292 .nil .nil) .nil) (.node o228 (.node o356 .nil .nil) .nil))) (.node o52 (.node o84 (.node o148 (.node o276 .nil .nil) .nil) (.node o212 (.node o340 .nil .nil) .nil)) (.node o116 (.node o180 (.node o308 .nil .nil) .nil) (.node o244 (.node o372 .nil .nil) .nil)))) (.node o28 (.node o44 (.node o76 (.node o140 (.node o268 .nil .nil) .nil) (.node o204 (.node o332 .nil .nil) .nil)) (.node o108 (.node o172 (.node o300 .nil .nil) .nil) (.node o236 (.node o364 .nil .nil) .nil))) (.node o60 (.node o92 (.node o156 (.node o284 .nil .nil) .nil) (.node o220 (.node o348 .nil .nil) .nil)) (.node o124 (.node o188 (.node o316 .nil .nil) .nil) (.node o252 .nil .nil)))))) (.node (boot_o_6 P) (.node (boot_o_10 P) (.node o18 (.node o34 (.node o66 (.node o130 (.node o258 .nil .nil) .nil) (.node o194 (.node o322 .nil .nil) .nil)) (.node o98 (.node o162 (.node o290 .nil .nil) .nil) (.node o226 (.node o354 .nil .nil) .nil))) (.node o50 (.node o82 (.node o146 (.node o274 .nil .nil) .nil) (.node o210 (.node o338 .nil .nil) .nil)) (.node o114 (.node o178 (.node o306 .nil .nil) .nil) (.node o242 (.node o370 .nil .nil) .nil)))) (.node o26 (.node o42 (.node o74 (.node o138 (.node o266 .nil .nil) .nil) (.node o202 (.node o330 .nil .nil) .nil)) (.node o106 (.node o170 (.node o298 .nil .nil) .nil) (.node o234 (.node o362 .nil .nil) .nil))) (.node o58 (.node o90 (.node o154 (.node o282 .nil .nil) .nil) (.node o218 (.node o346 .nil .nil) .nil)) (.node o122 (.node o186 (.node o314 .nil .nil) .nil) (.node o250 (.node o378 .nil .nil) .nil))))) (.node o14 (.node o22 (.node o38 (.node o70 (.node o134 (.node o262 .nil .nil) .nil) (.node o198 (.node o326 .nil .nil) .nil)) (.node o102 (.node o166 (.node o294 .nil .nil) .nil) (.node o230 (.node o358 .nil .nil) .nil))) (.node o54 (.node o86 (.node o150 (.node o278 .nil .nil) .nil) (.node o214 (.node o342 .nil .nil) .nil)) (.node o118 (.node o182 (.node o310 .nil .nil) .nil) (.node o246 (.node o374 .nil .nil) .nil)))) (.node (o30 P) (.node o46 (.node o78 (.node o142 (.node o270 .nil .nil) .nil) (.node o206 (.node o334 .nil .nil) .nil)) (.node o110 (.node o174 (.node o302 .nil .nil) .nil) (.node o238 (.node o366 .nil .nil) .nil))) (.node o62 (.node o94 (.node o158 (.node o286 .nil .nil) .nil) (.node o222 (.node o350 .nil .nil) .nil)) (.node o126 (.node o190 (.node o318 .nil .nil) .nil) (.node o254 .nil .nil)))))))
noncomputable def tree6 (P : Params) : BT := .node (boot_o_0 P) (.node (boot_o_1 P) (.node (glob6 P) (.node (boot_o_7 P) (.node o15 (.node o31 (.node o63 (.node o127 (.node o255 .nil .nil) (.node o383 .nil .nil)) (.node o191 (.node o319 .nil .nil) .nil)) (.node o95 (.node o159 (.node o287 .nil .nil) (.node o415 .nil .nil)) (.node o223 (.node o351 .nil .nil) .nil))) (.node o47 (.node o79 (.node o143 (.node o271 .nil .nil) (.node o399 .nil .nil)) (.node o207 (.node o335 .nil .nil) .nil)) (.node o111 (.node o175 (.node o303 .nil .nil) (.node o431 .nil .nil)) (.node o239 (.node o367 .nil .nil) .nil)))) (.node o23 (.node o39 (.node o71 (.node o135 (.node o263 .nil .nil) (.node o391 .nil .nil)) (.node o199 (.node o327 .nil .nil) .nil)) (.node o103 (.node o167 (.node o295 .nil .nil) (.node o423 .nil .nil)) (.node o231 (.node o359 .nil .nil) .nil))) (.node o55 (.node o87 (.node o151 (.node o279 .nil .nil) (.node o407 .nil .nil)) (.node o215 (.node o343 .nil .nil) .nil)) (.node o119 (.node o183 (.node o311 .nil .nil) .nil) (.node o247 (.node o375 .nil .nil) .nil))))) (.node o11 (.node o19 (.node o35 (.node o67 (.node o131 (.node o259 .nil .nil) (.node o387 .nil .nil)) (.node o195 (.node o323 .nil .nil) .nil)) (.node o99 (.node o163 (.node o291 .nil .nil) (.node o419 .nil .nil)) (.node o227 (.node o355 .nil .nil) .nil))) (.node o51 (.node o83 (.node o147 (.node o275 .nil .nil) (.node o403 .nil .nil)) (.node o211 (.node o339 .nil .nil) .nil)) (.node o115 (.node o179 (.node o307 .nil .nil) (.node o435 .nil .nil)) (.node o243 (.node o371 .nil .nil) .nil)))) (.node o27 (.node o43 (.node o75 (.node o139 (.node o267 .nil .nil) (.node o395 .nil .nil)) (.node o203 (.node o331 .nil .nil) .nil)) (.node o107 (.node o171 (.node o299 .nil .nil) (.node o427 .nil .nil)) (.node o235 (.node o363 .nil .nil) .nil))) (.node o59 (.node o91 (.node o155 (.node o283 .nil .nil) (.node o411 .nil .nil)) (.node o219 (.node o347 .nil .nil) .nil)) (.node o123 (.node o187 (.node o315 .nil .nil) .nil) (.node o251 (.node o379 .nil .nil) .nil)))))) (.node (boot_o_5 P) (.node (boot_o_9 P) (.node (o17 P) (.node o33 (.node o65 (.node o129 (.node o257 .nil .nil) (.node o385 .nil .nil)) (.node o193 (.node o321 .nil .nil) .nil)) (.node o97 (.node o161 (.node o289 .nil .nil) (.node o417 .nil .nil)) (.node o225 (.node o353 .nil .nil) .nil))) (.node o49 (.node o81 (.node o145 (.node o273 .nil .nil) (.node o401 .nil .nil)) (.node o209 (.node o337 .nil .nil) .nil)) (.node o113 (.node o177 (.node o305 .nil .nil) (.node o433 .nil .nil)) (.node o241 (.node o369 .nil .nil) .nil)))) (.node o25 (.node o41 (.node o73 (.node o137 (.node o265 .nil .nil) (.node o393 .nil .nil)) (.node o201 (.node o329 .nil .nil) .nil)) (.node o105 (.node o169 (.node o297 .nil .nil) (.node o425 .nil .nil)) (.node o233 (.node o361 .nil .nil) .nil))) (.node o57 (.node o89 (.node o153 (.node o281 .nil .nil) (.node o409 .nil .nil)) (.node o217 (.node o345 .nil .nil) .nil)) (.node o121 (.node o185 (.node o313 .nil .nil) .nil) (.node o249 (.node o377 .nil .nil) .nil))))) (.node o13 (.node o21 (.node o37 (.node o69 (.node o133 (.node o261 .nil .nil) (.node o389 .nil .nil)) (.node o197 (.node o325 .nil .nil) .nil)) (.node o101 (.node o165 (.node o293 .nil .nil) (.node o421 .nil .nil)) (.node o229 (.node o357 .nil .nil) .nil))) (.node o53 (.node o85 (.node o149 (.node o277 .nil .nil) (.node o405 .nil .nil)) (.node o213 (.node o341 .nil .nil) .nil)) (.node o117 (.node o181 (.node o309 .nil .nil) .nil) (.node o245 (.node o373 .nil .nil) .nil)))) (.node o29 (.node o45 (.node o77 (.node o141 (.node o269 .nil .nil) (.node o397 .nil .nil)) (.node o205 (.node o333 .nil .nil) .nil)) (.node o109 (.node o173 (.node o301 .nil .nil) (.node o429 .nil .nil)) (.node o237 (.node o365 .nil .nil) .nil))) (.node o61 (.node o93 (.node o157 (.node o285 .nil .nil) (.node o413 .nil .nil)) (.node o221 (.node o349 .nil .nil) .nil)) (.node o125 (.node o189 (.node o317 .nil .nil) .nil) (.node o253 (.node o381 .nil .nil) .nil))))))) (.node (o2 P) (.node (boot_o_4 P) (.node (boot_o_8 P) (.node o16 (.node o32 (.node o64 (.node o128 (.node o256 .nil .nil) (.node o384 .nil .nil)) (.node o192 (.node o320 .nil .nil) .nil)) (.node o96 (.node o160 (.node o288 .nil .nil) (.node o416 .nil .nil)) (.node o224 (.node o352 .nil .nil) .nil))) (.node o48 (.node o80 (.node o144 (.node o272 .nil .nil) (.node o400 .nil .nil)) (.node o208 (.node o336 .nil .nil) .nil)) (.node o112 (.node o176 (.node o304 .nil .nil) (.node o432 .nil .nil)) (.node o240 (.node o368 .nil .nil) .nil)))) (.node o24 (.node o40 (.node o72 (.node o136 (.node o264 .nil .nil) (.node o392 .nil .nil)) (.node o200 (.node o328 .nil .nil) .nil)) (.node o104 (.node o168 (.node o296 .nil .nil) (.node o424 .nil .nil)) (.node o232 (.node o360 .nil .nil) .nil))) (.node o56 (.node o88 (.node o152 (.node o280 .nil .nil) (.node o408 .nil .nil)) (.node o216 (.node o344 .nil .nil) .nil)) (.node o120 (.node o184 (.node o312 .nil .nil) .nil) (.node o248 (.node o376 .nil .nil) .nil))))) (.node table6 (.node o20 (.node o36 (.node o68 (.node o132 (.node o260 .nil .nil) (.node o388 .nil .nil)) (.node o196 (.node o324 .nil .nil) .nil)) (.node o100 (.node o164 (.node o292 .nil .nil) (.node o420 .nil .nil)) (.node o228 (.node o356 .nil .nil) .nil))) (.node o52 (.node o84 (.node o148 (.node o276 .nil .nil) (.node o404 .nil .nil)) (.node o212 (.node o340 .nil .nil) .nil)) (.node o116 (.node o180 (.node o308 .nil .nil) (.node o436 .nil .nil)) (.node o244 (.node o372 .nil .nil) .nil)))) (.node o28 (.node o44 (.node o76 (.node o140 (.node o268 .nil .nil) (.node o396 .nil .nil)) (.node o204 (.node o332 .nil .nil) .nil)) (.node o108 (.node o172 (.node o300 .nil .nil) (.node o428 .nil .nil)) (.node o236 (.node o364 .nil .nil) .nil))) (.node o60 (.node o92 (.node o156 (.node o284 .nil .nil) (.node o412 .nil .nil)) (.node o220 (.node o348 .nil .nil) .nil)) (.node o124 (.node o188 (.node o316 .nil .nil) .nil) (.node o252 (.node o380 .nil .nil) .nil)))))) (.node (boot_o_6 P) (.node (boot_o_10 P) (.node o18 (.node o34 (.node o66 (.node o130 (.node o258 .nil .nil) (.node o386 .nil .nil)) (.node o194 (.node o322 .nil .nil) .nil)) (.node o98 (.node o162 (.node o290 .nil .nil) (.node o418 .nil .nil)) (.node o226 (.node o354 .nil .nil) .nil))) (.node o50 (.node o82 (.node o146 (.node o274 .nil .nil) (.node o402 .nil .nil)) (.node o210 (.node o338 .nil .nil) .nil)) (.node o114 (.node o178 (.node o306 .nil .nil) (.node o434 .nil .nil)) (.node o242 (.node o370 .nil .nil) .nil)))) (.node o26 (.node o42 (.node o74 (.node o138 (.node o266 .nil .nil) (.node o394 .nil .nil)) (.node o202 (.node o330 .nil .nil) .nil)) (.node o106 (.node o170 (.node o298 .nil .nil) (.node o426 .nil .nil)) (.node o234 (.node o362 .nil .nil) .nil))) (.node o58 (.node o90 (.node o154 (.node o282 .nil .nil) (.node o410 .nil .nil)) (.node o218 (.node o346 .nil .nil) .nil)) (.node o122 (.node o186 (.node o314 .nil .nil) .nil) (.node o250 (.node o378 .nil .nil) .nil))))) (.node o14 (.node o22 (.node o38 (.node o70 (.node o134 (.node o262 .nil .nil) (.node o390 .nil .nil)) (.node o198 (.node o326 .nil .nil) .nil)) (.node o102 (.node o166 (.node o294 .nil .nil) (.node o422 .nil .nil)) (.node o230 (.node o358 .nil .nil) .nil))) (.node o54 (.node o86 (.node o150 (.node o278 .nil .nil) (.node o406 .nil .nil)) (.node o214 (.node o342 .nil .nil) .nil)) (.node o118 (.node o182 (.node o310 .nil .nil) .nil) (.node o246 (.node o374 .nil .nil) .nil)))) (.node (o30 P) (.node o46 (.node o78 (.node o142 (.node o270 .nil .nil) (.node o398 .nil .nil)) (.node o206 (.node o334 .nil .nil) .nil)) (.node o110 (.node o174 (.node o302 .nil .nil) (.node o430 .nil .nil)) (.node o238 (.node o366 .nil .nil) .nil))) (.node o62 (.node o94 (.node o158 (.node o286 .nil .nil) (.node o414 .nil .nil)) (.node o222 (.node o350 .nil .nil) .nil)) (.node o126 (.node o190 (.node o318 .nil .nil) .nil) (.node o254 (.node o382 .nil .nil) .nil)))))))
noncomputable def heapF (P : Params) : Heap := ⟨⟨[boot_o_0 P, boot_o_1 P, o2 P, glob6 P, boot_o_4 P, boot_o_5 P, boot_o_6 P, boot_o_7 P, boot_o_8 P, boot_o_9 P, boot_o_10 P, o11, table6, o13, o14, o15, o16, o17 P, o18, o19, o20, o21, o22, o23, o24, o25, o26, o27, o28, o29, o30 P, o31, o32, o33, o34, o35, o36, o37, o38, o39, o40, o41, o42, o43, o44, o45, o46, o47, o48, o49, o50, o51, o52, o53, o54, o55, o56, o57, o58, o59, o60, o61, o62, o63, o64, o65, o66, o67, o68, o69, o70, o71, o72, o73, o74, o75, o76, o77, o78, o79, o80, o81, o82, o83, o84, o85, o86, o87, o88, o89, o90, o91, o92, o93, o94, o95, o96, o97, o98, o99, o100, o101, o102, o103, o104, o105, o106, o107, o108, o109, o110, o111, o112, o113, o114, o115, o116, o117, o118, o119, o120, o121, o122, o123, o124, o125, o126, o127, o128, o129, o130, o131, o132, o133, o134, o135, o136, o137, o138, o139, o140, o141, o142, o143, o144, o145, o146, o147, o148, o149, o150, o151, o152, o153, o154, o155, o156, o157, o158, o159, o160, o161, o162, o163, o164, o165, o166, o167, o168, o169, o170, o171, o172, o173, o174, o175, o176, o177, o178, o179, o180, o181, o182, o183, o184, o185, o186, o187, o188, o189, o190, o191, o192, o193, o194, o195, o196, o197, o198, o199, o200, o201, o202, o203, o204, o205, o206, o207, o208, o209, o210, o211, o212, o213, o214, o215, o216, o217, o218, o219, o220, o221, o222, o223, o224, o225, o226, o227, o228, o229, o230, o231, o232, o233, o234, o235, o236, o237, o238, o239, o240, o241, o242, o243, o244, o245, o246, o247, o248, o249, o250, o251, o252, o253, o254, o255, o256, o257, o258, o259, o260, o261, o262, o263, o264, o265, o266, o267, o268, o269, o270, o271, o272, o273, o274, o275, o276, o277, o278, o279, o280, o281, o282, o283, o284, o285, o286, o287, o288, o289, o290, o291, o292, o293, o294, o295, o296, o297, o298, o299, o300, o301, o302, o303, o304, o305, o306, o307, o308, o309, o310, o311, o312, o313, o314, o315, o316, o317, o318, o319, o320, o321, o322, o323, o324, o325, o326, o327, o328, o329, o330, o331, o332, o333, o334, o335, o336, o337, o338, o339, o340, o341, o342, o343, o344, o345, o346, o347, o348, o349, o350, o351, o352, o353, o354, o355, o356, o357, o358, o359, o360, o361, o362, o363, o364, o365, o366, o367, o368, o369, o370, o371, o372, o373, o374, o375, o376, o377, o378, o379, o380, o381, o382, o383, o384, o385, o386, o387, o388, o389, o390, o391, o392, o393, o394, o395, o396, o397, o398, o399, o400, o401, o402, o403, o404, o405, o406, o407, o408, o409, o410, o411, o412, o413, o414, o415, o416, o417, o418, o419, o420, o421, o422, o423, o424, o425, o426, o427, o428, o429, o430, o431, o432, o433, o434, o435, o436]⟩, {}⟩
end T
end Mine
end
section
open PySem PySem.W PyProof.Rows
set_option Elab.async false
set_option maxRecDepth 100000


namespace Mine
noncomputable def posAt (k : Nat) : Pos := match stAt k with
  | .FunctionDef _ _ _ _ _ _ _ _ _ p => p
  | _ => ⟨0, 0, 0, 0⟩
noncomputable def recAt (k : Nat) : DefRec := ⟨nameAt k, (fnAt k).params, (fnAt k).body, (fnAt k).scope, posAt k⟩
namespace T
-- the top's run, statement by statement in six pieces: the library's own quick forms of the run, checked by the kernel
abbrev pw : Program := PySem.Challenge.pw_pf0056_01
noncomputable abbrev body : List Stmt := behindTheImports pw
noncomputable def envT : Env := { scope := pw.main.scope, locals := mainNs, globals := mainNs, cells := [], code := .ref 13, frame := some 14 }
noncomputable abbrev cdT : Code := .body body envT
abbrev at0 : Pos := ⟨0, 0, 0, 0⟩
abbrev B0 : List Frame := [topFrame at0]
noncomputable abbrev S (t : Params → BT) (n k : Nat) (w : World) (os : OsState) : SharedT := ⟨t w.params, n, {}, Array.mk [], {}, k, os⟩
noncomputable abbrev S0 := S tree0 15 187
noncomputable abbrev S1 := S tree1 58 256
noncomputable abbrev S2 := S tree2 143 352
noncomputable abbrev S3 := S tree3 224 450
noncomputable abbrev S4 := S tree4 303 557
noncomputable abbrev S5 := S tree5 380 671
noncomputable abbrev S6 := S tree6 437 774
noncomputable def sts1 : List Stmt := body.take 9
noncomputable def sts2 : List Stmt := (body.drop 9).take 14
noncomputable def sts3 : List Stmt := (body.drop 23).take 14
noncomputable def sts4 : List Stmt := (body.drop 37).take 14
noncomputable def sts5 : List Stmt := (body.drop 51).take 14
noncomputable def sts6 : List Stmt := body.drop 65
theorem parts : sts1 ++ (sts2 ++ (sts3 ++ (sts4 ++ (sts5 ++ (sts6 ++ []))))) = body := by kernel_rfl
noncomputable abbrev tb := PySem.W.Fast.tw14364793385576792824
noncomputable abbrev seg := PySem.W.Fast.tw10110043849684766642
abbrev ann : Option Value := some (.ref 6)
theorem q1 : ∀ w, (fun os => seg tb pw w 11 ann 1 374 (S0 w os) (piecesOf sts1 envT cdT at0 B0)) = fun os => some (.next, S1 w os, cdT, ⟨22, 0, 26, 34⟩) := fun w => by kernel_rfl
theorem q2 : ∀ w, (fun os => seg tb pw w 11 ann 1 384 (S1 w os) (piecesOf sts2 envT cdT ⟨22, 0, 26, 34⟩ B0)) = fun os => some (.next, S2 w os, cdT, ⟨56, 0, 57, 53⟩) := fun w => by kernel_rfl
theorem q3 : ∀ w, (fun os => seg tb pw w 11 ann 1 382 (S2 w os) (piecesOf sts3 envT cdT ⟨56, 0, 57, 53⟩ B0)) = fun os => some (.next, S3 w os, cdT, ⟨90, 0, 97, 16⟩) := fun w => by kernel_rfl
theorem q4 : ∀ w, (fun os => seg tb pw w 11 ann 1 386 (S3 w os) (piecesOf sts4 envT cdT ⟨90, 0, 97, 16⟩ B0)) = fun os => some (.next, S4 w os, cdT, ⟨163, 0, 164, 26⟩) := fun w => by kernel_rfl
theorem q5 : ∀ w, (fun os => seg tb pw w 11 ann 1 378 (S4 w os) (piecesOf sts5 envT cdT ⟨163, 0, 164, 26⟩ B0)) = fun os => some (.next, S5 w os, cdT, ⟨227, 0, 227, 8⟩) := fun w => by kernel_rfl
theorem q6 : ∀ w, (fun os => seg tb pw w 11 ann 1 310 (S5 w os) (piecesOf sts6 envT cdT ⟨227, 0, 227, 8⟩ B0)) = fun os => some (.next, S6 w os, cdT, ⟨288, 0, 311, 76⟩) := fun w => by kernel_rfl
theorem qb : ∀ w, (fun os => PySem.W.Fast.tw14374325043358763698 tb pw w 11 ann 1 1 (S0 w os).abs (blockOf body envT cdT at0 B0)) = fun os => some (.next, (S0 w os).abs, cdT, at0) := fun w => by kernel_rfl
theorem qo : ∀ w, (fun os => PySem.W.Fast.tw15667345088766844465 tb pw w 11 ann 12 ⟨boot_heap w.params, Array.mk [], boot_drawn, boot_toks, os⟩ (topStub pw)) = fun os => some ((S0 w os).abs, ⟨PySem.W.Fast.tw11892475500146522536 tb cdT, cdT, at0, B0⟩) := fun w => by kernel_rfl
theorem qe : ∀ w, (fun os => PySem.W.Fast.tw14082659384304107361 tb pw w 11 ann 2 (S6 w os).abs ⟨doneF .next, cdT, ⟨288, 0, 311, 76⟩, B0⟩) = fun os => some (S6 w os).abs := fun w => by kernel_rfl
theorem qh : ∀ P, absHeap (tree6 P) 437 {} = heapF P := fun P => by kernel_rfl
/-- the lines of the text that the head holds on to: not F0, whose value is two lists, nor the `__name__` lines -/
noncomputable def keepIdx : List Nat := [1, 3, 4, 6, 7, 8, 9, 10, 11, 12, 13, 15, 16, 17, 18, 19, 20, 21, 22, 23, 24, 25, 26, 28, 29, 30, 31, 32, 33, 34, 35, 36, 37, 38, 39, 40, 41, 42, 43, 44, 45, 46,
  49, 50, 51, 52, 53, 54, 56, 57, 58, 59, 61, 62, 63, 65, 67, 68, 69, 70, 72, 73, 74, 75]
noncomputable def theView : Program := view pw keepIdx
noncomputable def theLoose : List Str := [Str.ofString "F0"]
noncomputable def asked : List Str := ["R0", "R1", "F0", "abs", "len", "max", "list", "range", "enumerate", "reversed", "int", "sum"]
noncomputable def sites : List Addr := [49, 50, 286, 287, 288]
noncomputable def found : List (Option Value) := [some (.ref 49), some (.ref 50), some (.ref 288), none, none, none, none, none, none, none, none, none]
noncomputable def objs : List Obj := [{ cls := .type "tuple", data := .seq #[.int 0 241, .int 1 242] }, { cls := .type "tuple", data := .seq #[.int 1 244, .int 1 245] }, { cls := .type "list", data := .seq #[] },
     { cls := .type "list", data := .seq #[.ref 50] }, { cls := .type "tuple", data := .seq #[.ref 286, .ref 287] }]
/-- what is looked at behind the top: some names' values, and some objects -/
noncomputable def obs (s : Shared) : Option (List (Option Value) × List (Option Obj)) := match s.heap.get? 3 with
  | some o => match o.data with
    | .dict es _ => some (asked.map (nsFind es), sites.map s.heap.get?)
    | _ => none
  | none => none
noncomputable abbrev theXt (s : Shared) : Bool := xlAt theView [] s && recOk [] s
noncomputable abbrev SF (w : World) (os : OsState) : Shared := ⟨heapF w.params, Array.mk [], {}, 774, os⟩
noncomputable abbrev sees (s : Shared) := PySem.W.Fast.tw4187177175401517315 theView theLoose (importedModules pw.main.body) theXt true s
theorem l1 : ∀ w : World, (fun os => staticsOk (importedModules pw.main.body) (boot_heap w.params) (SF w os).heap) = fun _ => true := fun w => by kernel_rfl
theorem l2 : ∀ w : World, (fun os => namesBound pw (SF w os).heap) = fun _ => true := fun w => by kernel_rfl
theorem l3 : ∀ w : World, (fun os => (gensDone (SF w os), laidKept (boot_heap w.params) (SF w os).heap)) = fun _ => (true, true) := fun w => by kernel_rfl
theorem l4 : ∀ w : World, (fun os => obs (SF w os)) = fun _ => some (found, objs.map some) := fun w => by kernel_rfl
structure Says (h : Heap) : Prop where
  dict : ∃ o es ep, h.get? 3 = some o ∧ o.data = .dict es ep ∧ asked.map (nsFind es) = found
  at0 : h.get? 49 = some { cls := .type "tuple", data := .seq #[.int 0 241, .int 1 242] }
  at1 : h.get? 50 = some { cls := .type "tuple", data := .seq #[.int 1 244, .int 1 245] }
  at2 : h.get? 286 = some { cls := .type "list", data := .seq #[] }
  at3 : h.get? 287 = some { cls := .type "list", data := .seq #[.ref 50] }
  at4 : h.get? 288 = some { cls := .type "tuple", data := .seq #[.ref 286, .ref 287] }
theorem says_of {s : Shared} (e : obs s = some (found, objs.map some)) : Says s.heap := by
  unfold obs at e
  cases h : s.heap.get? 3 with
  | none => rw [h] at e; cases e
  | some o =>
    rw [h] at e
    cases hd : o.data with
    | dict es ep =>
      simp only [hd, Option.some.injEq, Prod.mk.injEq] at e
      obtain ⟨e1, e2⟩ := e
      simp only [sites, objs, List.map_cons, List.map_nil, List.cons.injEq, and_true] at e2
      exact ⟨⟨o, es, ep, h, hd, e1⟩, e2.1, e2.2.1, e2.2.2.1, e2.2.2.2.1, e2.2.2.2.2⟩
    | _ => simp only [hd] at e; cases e
theorem Says.keeps {h h' : Heap} (S : Says h) (k : ∀ b o, h.get? b = some o → h'.get? b = some o) : Says h' := by
  obtain ⟨o, es, ep, a, b, c⟩ := S.dict
  exact ⟨⟨o, es, ep, k _ _ a, b, c⟩, k _ _ S.at0, k _ _ S.at1, k _ _ S.at2, k _ _ S.at3, k _ _ S.at4⟩
-- the lists that the looks ask for, reckoned once
noncomputable def theRecs : List DefRec := (defIdx ++ [75]).map recAt
noncomputable def theNames : List Str := R.mapR (fun x => x.name) theRecs
noncomputable def theLw : List Str := [Str.ofString "F0", Str.ofString "R0", Str.ofString "R1"]
noncomputable def theWl : List (Str × WData) := [(Str.ofString "R0", .tuple [.int 0, .int 1]), (Str.ofString "R1", .tuple [.int 1, .int 1])]
theorem lists : (Fast.tw3399658132070893891 theView, Fast.tw694669760492028198 theView, Fast.tw3247288618530077131 theView, Fast.tw821141287760084731 theView theLoose, Fast.tw11925523677476243305 theView) = (theRecs, [], [], theLw, theWl) := by kernel_rfl
theorem recs_is : Fast.tw3399658132070893891 theView = theRecs := (Prod.mk.inj lists).1
theorem wdefs_is : Fast.tw694669760492028198 theView = [] := (Prod.mk.inj (Prod.mk.inj lists).2).1
theorem drecs_is : Fast.tw3247288618530077131 theView = [] := (Prod.mk.inj (Prod.mk.inj (Prod.mk.inj lists).2).2).1
theorem lw_is : Fast.tw821141287760084731 theView theLoose = theLw := (Prod.mk.inj (Prod.mk.inj (Prod.mk.inj (Prod.mk.inj lists).2).2).2).1
theorem wl_is : Fast.tw11925523677476243305 theView = theWl := (Prod.mk.inj (Prod.mk.inj (Prod.mk.inj (Prod.mk.inj lists).2).2).2).2
-- the looks, said of the heap alone: one and the same term for it, so that what is read is kept
noncomputable abbrev g1 (h : Heap) : Seen :=
  { defs := R.mapR (Fast.tw2020367076256383516 h mainGlobals) theNames,
    ownsOk := R.allR (Fast.tw5991557255702980513 theView) fun o => Fast.tw2817317335113233408 h o.name o.chain o.bm o.newId && Fast.tw16017708745293785899 h o.name,
    names := [], globalsOk := h.isNs mainGlobals, builtinsOk := h.isNs builtinsNs,
    noLimit := Fast.tw15623941606353435126 h && Fast.tw912232860611745870 h, gens := 0 }
noncomputable abbrev g3 (s : Shared) : Bool := Fast.tw10880121769531294198 s.heap theLw theNames (R.mapR (fun x => x.fst) (Fast.tw7409074990110511671 theView)) (R.mapR (fun x => x.name) (Fast.tw13664370479719496447 theView theLw)) &&
  Fast.tw14722251495701143533 s.heap (importedModules pw.main.body) && s.heap.isNs mainGlobals && s.heap.isNs builtinsNs && Fast.tw10994771534591457954 theView s.heap && theXt s && (if true = true then s.gens.size == 0 else !leftWithCleanup s.gens)
theorem all_names (f : Str → Bool) (l : List DefRec) : R.allR l (fun d => f d.name) = R.allR (R.mapR (fun x => x.name) l) f := by
  rw [← R.allR_eq, ← R.mapR_eq, List.all_map]; rfl
noncomputable abbrev g4 (h : Heap) : Bool := R.allR theNames (Fast.tw5930804224584009831 h) && Fast.tw5244371056499926238 h && Fast.tw2578726214315757710 theView h && (!Fast.tw2458874890965802552 theView || Fast.tw9649274521512697073 h)
noncomputable abbrev g5 (s : Shared) : List (Option FnShape) × Bool := Fast.tw16090120013241838585 theView [] s
noncomputable abbrev g6 (s : Shared) : List (Option PlainShape) := R.mapR (fun c => Fast.tw15717526521509864196 s.heap (Fast.tw12515865711710729776 c)) (Fast.tw210736558901404530 theView theLw)
noncomputable abbrev g7 (s : Shared) : List (Option (PlainShape × Bool)) := Fast.tw11698064438423848299 theView theLoose s
noncomputable abbrev g8 (s : Shared) : List (Option FnShape) × Bool := ([], R.allR theWl (Fast.tw1696807537771891022 s.heap))
noncomputable abbrev g9 (s : Shared) : List (Option (List (Option FnShape) × Bool) × Option (PlainShape × Bool)) := Fast.tw7369524293546568484 theView theLoose s
theorem sees_is (s : Shared) : sees s = (g1 s.heap, s.heap.bltView, g3 s, g4 s.heap, g5 s, g6 s, g7 s, g8 s, g9 s) := by
  unfold sees Fast.tw4187177175401517315 Fast.tw479339242167458305 Fast.tw2386780881361962483 Fast.tw7317090234206586261 Fast.tw5160383126252970620
  rw [recs_is, wdefs_is, drecs_is, lw_is, wl_is, all_names]
  rfl
theorem c14 : ∀ w : World, (g1 (heapF w.params), g4 (heapF w.params)) = (({ defs := List.map (fun d => some d.shape) theRecs, ownsOk := true, names := [], globalsOk := true, builtinsOk := true, noLimit := true, gens := 0 } : Seen), true) := fun w => by kernel_rfl
theorem c1 (w : World) : g1 (heapF w.params) = expectedOf theView := (Prod.mk.inj (c14 w)).1.trans (by unfold expectedOf; rw [Fast.te3399658132070893891, recs_is])
theorem c4 (w : World) : g4 (heapF w.params) = true := (Prod.mk.inj (c14 w)).2
theorem c23 : ∀ (w : World) (os : OsState), ((SF w os).heap.bltView, g3 (SF w os)) = (bltViewBooted, true) := fun w os => by kernel_rfl
theorem c5 (w : World) (os : OsState) : g5 (SF w os) = pinGoodD (drecsOf theView) := by
  rw [Fast.te3247288618530077131, drecs_is]; rfl
theorem c6q : ∀ (w : World) (os : OsState), g6 (SF w os) = List.map (fun c => some c.withCmp.plainShape) (Fast.tw210736558901404530 theView theLw) := fun w os => by kernel_rfl
theorem c6 (w : World) (os : OsState) : g6 (SF w os) = plainGoodE theView (looseW theView theLoose) := (c6q w os).trans (by unfold plainGoodE; rw [Fast.te210736558901404530, Fast.te821141287760084731, lw_is])
theorem c7q : ∀ (w : World) (os : OsState), g7 (SF w os) = List.map (fun c => some (c.plainShape, true)) (Fast.tw4354255287344443571 theView theLoose) := fun w os => by kernel_rfl
theorem c7 (w : World) (os : OsState) : g7 (SF w os) = plainGoodD theView theLoose := (c7q w os).trans (by unfold plainGoodD; rw [Fast.te4354255287344443571])
theorem c8q : ∀ (w : World) (os : OsState), g8 (SF w os) = ([], true) := fun w os => by kernel_rfl
theorem c8 (w : World) (os : OsState) : g8 (SF w os) = wideGood theView := (c8q w os).trans (by unfold wideGood; rw [Fast.te694669760492028198, wdefs_is]; rfl)
theorem c9q : ∀ (w : World) (os : OsState), g9 (SF w os) = List.map (fun c => (wclsGood c, (some (c.plainShape, true) : Option (PlainShape × Bool)))) (Fast.tw1571739515156823405 theView theLoose) := fun w os => by kernel_rfl
theorem c9 (w : World) (os : OsState) : g9 (SF w os) = clsGoodW theView theLoose := (c9q w os).trans (by unfold clsGoodW; rw [Fast.te1571739515156823405])
theorem nine {α β γ δ ε ζ η θ ι : Type} {a a' : α} {b b' : β} {c c' : γ} {d d' : δ} {e e' : ε} {f f' : ζ} {g g' : η} {h h' : θ} {i i' : ι} (h1 : a = a') (h2 : b = b') (h3 : c = c') (h4 : d = d') (h5 : e = e') (h6 : f = f') (h7 : g = g') (h8 : h = h') (h9 : i = i') :
    (a, b, c, d, e, f, g, h, i) = (a', b', c', d', e', f', g', h', i') := by
  subst h1 h2 h3 h4 h5 h6 h7 h8 h9; rfl
theorem opens (w : World) (os : OsState) : openSeen theView theLoose (importedModules pw.main.body) theXt true (SF w os) = openGood theView theLoose := by
  obtain ⟨e2, e3⟩ := Prod.mk.inj (c23 w os)
  rw [PySem.W.Fast.te4187177175401517315]
  exact (sees_is (SF w os)).trans (nine (c1 w) e2 e3 (c4 w) (c5 w os) (c6 w os) (c7 w os) (c8 w os) (c9 w os))
/-- the whole of the head from one run: what the run leaves is looked at, not written out -/
theorem left_of {p q : Program} {loose : List Str} {Xt : Shared → Bool} {α : Type} {Yf : Shared → α} {y : α} {N m₀ : Nat} {ann : Option Value} {H₀ : Params → Heap} {gs₀ : Array GenState} {d₀ : Drawn} {k₀ : Nat}
    (open_ : ∀ w : World, (fencedOpening treeTable p w N).map (fun s => (s.heap, s.gens, s.drawn, s.toks)) = some (H₀ w.params, gs₀, d₀, k₀))
    (size : ∀ w : World, ((H₀ w.params).isNs mainGlobals && gs₀.size == 0, (H₀ w.params).objs.size, (H₀ w.params).nsMap mainGlobals "__annotations__") = (true, m₀, ann))
    (run : ∀ (w : World) (os : OsState), ∃ s, topRun treeTable p w m₀ ann N ⟨H₀ w.params, gs₀, d₀, k₀, os⟩ (topStub p) = some s ∧
      (staticsOk (importedModules p.main.body) (H₀ w.params) s.heap && namesBound p s.heap && gensDone s && laidKept (H₀ w.params) s.heap) = true ∧ openSeen q loose (importedModules p.main.body) Xt true s = openGood q loose ∧ Yf s = y) :
    LeftO p q loose Xt Yf (fun _ => y) N true := fun w => by
  obtain ⟨⟨h, gs, d, k, os⟩, e, e'⟩ := Option.map_eq_some_iff.mp (open_ w)
  obtain ⟨rfl, rfl, rfl, rfl⟩ : h = H₀ w.params ∧ gs = gs₀ ∧ d = d₀ ∧ k = k₀ := by simpa using e'
  obtain ⟨z1, z2, z3⟩ : _ ∧ _ ∧ _ := by simpa only [Prod.mk.injEq] using size w
  obtain ⟨s₁, r, l1, l2, l3⟩ := run w os
  have t : topFrom treeTable p w N ⟨H₀ w.params, gs, d, k, os⟩ = some s₁ := by
    unfold topFrom
    dsimp only
    rw [z1, z2, z3, r]
    show (match staticsOk (importedModules p.main.body) (H₀ w.params) s₁.heap && namesBound p s₁.heap && gensDone s₁ && laidKept (H₀ w.params) s₁.heap with | true => _ | false => _) = _
    rw [l1]
  unfold openEnds
  rw [e]
  show (topFrom treeTable p w N _).map _ = _
  rw [t]
  exact congrArg some (Prod.ext l2 l3)

theorem piece {w : World} {n : Nat} {s s' : OsState → SharedT} {l : List Stmt} {p p' : Pos} (h : (fun os => seg tb pw w 11 ann 1 n (s os) (piecesOf l envT cdT p B0)) = fun os => some (.next, s' os, cdT, p')) (os : OsState) :
    segRun treeTable pw w 11 ann 1 n (s os).abs (piecesOf l envT cdT p B0) = some (.next, (s' os).abs, cdT, p') := by
  apply segRun_of
  rw [PySem.W.Fast.te10110043849684766642, PySem.W.Fast.te14364793385576792824]
  exact congrFun h os
theorem block_of {t : String → Option Builtin} {p : Program} {w : World} {n₀ : Nat} {a : Option Value} {env : Env} {q : Pos} {n N : Nat} {s s' r : Shared} {b l : List Stmt} {c : Code} {pos p' : Pos} (e : l = b)
    (h : segRun t p w n₀ a 1 n s (blockOf b env c pos [topFrame q]) = some (.next, s', c, p')) (k : topRun t p w n₀ a N s' (restOf l env c p' [topFrame q]) = some r) : topRun t p w n₀ a (n + N) s ⟨denote t (.body b env), c, pos, [topFrame q]⟩ = some r := by
  subst e
  exact piece_block h k
theorem block (w : World) (os : OsState) : segRun treeTable pw w 11 ann 1 1 (S0 w os).abs (blockOf body envT cdT at0 B0) = some (.next, (S0 w os).abs, cdT, at0) := by
  rw [PySem.W.Fast.te14374325043358763698, PySem.W.Fast.te14364793385576792824]
  exact congrFun (qb w) os
theorem opening_steps (w : World) (os : OsState) : topGo treeTable pw w 11 ann 12 ⟨boot_heap w.params, Array.mk [], boot_drawn, boot_toks, os⟩ (topStub pw) = some ((S0 w os).abs, ⟨denote treeTable cdT, cdT, at0, B0⟩) := by
  rw [PySem.W.Fast.te15667345088766844465, PySem.W.Fast.te11892475500146522536, PySem.W.Fast.te14364793385576792824]
  exact congrFun (qo w) os
theorem closing (w : World) (os : OsState) : topRun treeTable pw w 11 ann 2 (S6 w os).abs ⟨doneF .next, cdT, ⟨288, 0, 311, 76⟩, B0⟩ = some (S6 w os).abs := by
  rw [PySem.W.Fast.te14082659384304107361, PySem.W.Fast.te14364793385576792824]
  exact congrFun (qe w) os
theorem run_abs (w : World) (os : OsState) : topRun treeTable pw w 11 ann (12 + (1 + (374 + (384 + (382 + (386 + (378 + (310 + 2)))))))) ⟨boot_heap w.params, Array.mk [], boot_drawn, boot_toks, os⟩ (topStub pw) = some (S6 w os).abs :=
  go_top (opening_steps w os) (block_of parts (block w os) (piece_app (piece (q1 w) os) (piece_app (piece (q2 w) os) (piece_app (piece (q3 w) os) (piece_app (piece (q4 w) os) (piece_app (piece (q5 w) os) (piece_app (piece (q6 w) os) (piece_nil (closing w os)))))))))
theorem abs_is (w : World) (os : OsState) : (S6 w os).abs = SF w os := by
  show Shared.mk (absHeap (tree6 w.params) 437 {}) _ _ _ _ = _
  rw [qh]
theorem ran (w : World) (os : OsState) : ∃ s, topRun treeTable pw w 11 (some (.ref 6)) 2229 ⟨boot_heap w.params, Array.mk [], boot_drawn, boot_toks, os⟩ (topStub pw) = some s ∧
      (staticsOk (importedModules pw.main.body) (boot_heap w.params) s.heap && namesBound pw s.heap && gensDone s && laidKept (boot_heap w.params) s.heap) = true ∧ openSeen theView theLoose (importedModules pw.main.body) theXt true s = openGood theView theLoose ∧ obs s = some (found, objs.map some) := by
  have r := run_abs w os
  rw [abs_is] at r
  have e1 := congrFun (l1 w) os
  have e2 := congrFun (l2 w) os
  obtain ⟨e3, e4⟩ := Prod.mk.inj (congrFun (l3 w) os)
  refine ⟨SF w os, r, ?_, opens w os, congrFun (l4 w) os⟩
  rw [e1, e2, e3, e4]; rfl
theorem opened : ∀ w : World, (fencedOpening treeTable pw w 2229).map (fun s => (s.heap, s.gens, s.drawn, s.toks)) = some (boot_heap w.params, Array.mk [], boot_drawn, boot_toks) :=
  boot_open (p := pw) (N := 2229) (by kernel_rfl) (by decide +kernel) (fun s => by kernel_rfl)
theorem sized : ∀ w : World, ((boot_heap w.params).isNs mainGlobals && (Array.mk [] : Array GenState).size == 0, (boot_heap w.params).objs.size, (boot_heap w.params).nsMap mainGlobals "__annotations__") = (true, 11, some (.ref 6)) := fun w => by kernel_rfl
theorem tables : PySem.Challenge.rw_pf0056_01.row.prog.tablesWhole = true := by decide +kernel
theorem left : LeftO pw theView theLoose theXt obs (fun _ => some (found, objs.map some)) 2229 true := left_of opened sized ran
theorem wa : Fast.tw8377067652309620493 pw = true := by kernel_rfl
theorem wb0 : R.allR (Fast.tw5923862056798008813 pw.main.body) (Fast.tw3471404346716756564 Fast.tw17691160309236699985) = true := by kernel_rfl
theorem wb1 : R.filterR (Fast.tw13343964577679436407 pw pw.main.body) [(⟨⟨[nat_lit 118, nat_lit 97, nat_lit 114, nat_lit 115]⟩⟩ : Str), ⟨⟨[nat_lit 100, nat_lit 105, nat_lit 114]⟩⟩, ⟨⟨[nat_lit 108, nat_lit 111, nat_lit 99, nat_lit 97, nat_lit 108, nat_lit 115]⟩⟩] = [] := by kernel_rfl
theorem wb2 : Fast.tw8326940854005059898 { strict := !true, foot := none, bare := [] } pw.main.body = true := by kernel_rfl
theorem wb : Fast.tw8326940854005059898 { strict := !R.allR (Fast.tw5923862056798008813 pw.main.body) (Fast.tw3471404346716756564 Fast.tw17691160309236699985), foot := none, bare := R.filterR (Fast.tw13343964577679436407 pw pw.main.body) [(⟨⟨[nat_lit 118, nat_lit 97, nat_lit 114, nat_lit 115]⟩⟩ : Str), ⟨⟨[nat_lit 100, nat_lit 105, nat_lit 114]⟩⟩, ⟨⟨[nat_lit 108, nat_lit 111, nat_lit 99, nat_lit 97, nat_lit 108, nat_lit 115]⟩⟩] } pw.main.body = true := by rw [wb0, wb1]; exact wb2
theorem wc : Fast.tw17119622794617984870 pw pw.main.body (fun _ n => Fast.tw17868728402115742887 n) = true := by kernel_rfl
theorem looks_quick : Fast.tw12908688711261696721 pw = true := by
  unfold Fast.tw12908688711261696721
  refine look_both (look_both (look_both (look_both (look_both ?_ ?_) wa) ?_) ?_) wc
  · kernel_rfl
  · kernel_rfl
  · kernel_rfl
  · exact wb
theorem part_quick : Fast.tw2436336058641802641 (Fast.tw2368527892694137696 PySem.Challenge.rw_pf0056_01) = true := by
  unfold Fast.tw2436336058641802641
  with_reducible repeat' apply look_both
  focus exact looks_quick
  all_goals kernel_rfl
theorem row_quick : Fast.tw17960256430627541270 (Fast.tw2368527892694137696 PySem.Challenge.rw_pf0056_01) = true := by
  unfold Fast.tw17960256430627541270
  with_reducible repeat' apply look_both
  focus exact part_quick
  all_goals kernel_rfl
theorem said_quick : Fast.tw9446332074065402090 PySem.Challenge.rw_pf0056_01 = true := by
  unfold Fast.tw9446332074065402090
  with_reducible repeat' apply look_both
  focus exact row_quick
  all_goals kernel_rfl
theorem said : PySem.Challenge.rw_pf0056_01.wellSaid = true := by
  rw [show @OpenLaw.wellSaid = PySem.W.Fast.tw9446332074065402090 from PySem.W.Fast.te9446332074065402090]
  exact said_quick
end T
end Mine
end
section
open PySem PySem.W PyProof.Rows PySem.Calls
set_option Elab.async false
set_option maxRecDepth 100000
set_option linter.unusedVariables false
namespace Mine
section
variable {w : World} {s₀ : Shared} {mg mb : Str → Option Value} {h : Heap}
abbrev Gd (w : World) (s₀ : Shared) (mg mb : Str → Option Value) (h : Heap) : Prop := Ground T.theView T.theLoose PySem.Challenge.rw_pf0056_01.row.toRowW.records (XL T.theView []) w s₀ mg mb h
noncomputable def theW (w : World) (mg mb : Str → Option Value) (h : Heap) : Wd := ⟨PySem.Challenge.pw_pf0056_01, w, h, mg, mb⟩
theorem fn_at (G : Gd w s₀ mg mb h) (k : Nat) (hk : defOf T.theView (nameAt k) = some (recAt k, [])) (hp : (fnAt k).params.defaults = []) : ∃ a, (theW w mg mb h).FnAt (nameAt k) a (fnAt k) := by
  obtain ⟨a, o, pm, cd, doc, dV, kV, h1, h2, h3, h4, h5⟩ := G.fn hk
  have e1 : dV = .none := by
    rcases h5.pos with ⟨_, e⟩ | ⟨e, _⟩
    · exact e
    · exact absurd hp e
  have e2 : kV = .none := by
    rcases h5.kw with ⟨_, e⟩ | ⟨e, _⟩
    · exact e
    · exact absurd rfl e
  subst e1 e2
  exact ⟨a, h1, o, pm, cd, doc, h2, h3, h4⟩
theorem globs (G : Gd w s₀ mg mb h) (S : T.Says h) : T.asked.map mg = T.found := by
  obtain ⟨o, es, ep, ho, hd, _, hf⟩ := G.T.g
  obtain ⟨o', es', ep', ho', hd', e⟩ := S.dict
  have q := ho.symm.trans ho'
  injection q with q
  subst q
  have q := hd.symm.trans hd'
  injection q with q1 q2
  subst q1
  rw [← e]
  exact List.map_congr_left fun x _ => (hf x).symm
theorem wok (G : Gd w s₀ mg mb h) (S : T.Says h) : (theW w mg mb h).Ok where
  g := G.T.g
  b := G.T.b
  nolimit := G.T.nolimit
  consts x p hx := by
    have hm := mem_of_lookup hx
    have e := globs G S
    simp only [T.asked, T.found, List.map_cons, List.map_nil, List.cons.injEq] at e
    obtain ⟨e0, e1, e2, _⟩ := e
    simp only [gconsts, List.mem_cons, List.not_mem_nil, or_false, Prod.mk.injEq] at hm
    rcases hm with ⟨rfl, rfl⟩ | ⟨rfl, rfl⟩ | ⟨rfl, rfl⟩
    · exact ⟨.ref 49, e0, 49, _, _, rfl, by simp, S.at0, ⟨_, _, rfl, ⟨_, rfl⟩, _, _, rfl, ⟨_, rfl⟩, rfl⟩, by decide⟩
    · exact ⟨.ref 50, e1, 50, _, _, rfl, by simp, S.at1, ⟨_, _, rfl, ⟨_, rfl⟩, _, _, rfl, ⟨_, rfl⟩, rfl⟩, by decide⟩
    · refine ⟨.ref 288, e2, 288, _, _, rfl, by simp, S.at4, ⟨_, _, rfl, ?_, _, _, rfl, ?_, rfl⟩, by decide⟩
      · exact ⟨286, [], _, rfl, by simp, S.at2, rfl, by decide⟩
      · refine ⟨287, [.ref 50], _, rfl, by simp, S.at3, ⟨_, _, rfl, ?_, rfl⟩, by decide⟩
        exact ⟨50, _, _, rfl, by simp, S.at1, ⟨_, _, rfl, ⟨_, rfl⟩, _, _, rfl, ⟨_, rfl⟩, rfl⟩, by decide⟩
  builtins x hx := by
    have e := globs G S
    simp only [T.asked, T.found, List.map_cons, List.map_nil, List.cons.injEq] at e
    obtain ⟨_, _, _, b0, b1, b2, b3, b4, b5, b6, b7, b8, _⟩ := e
    simp only [gbuiltins, List.mem_cons, List.not_mem_nil, or_false] at hx
    rcases hx with rfl | rfl | rfl | rfl | rfl | rfl | rfl | rfl | rfl
    all_goals exact ⟨by assumption, G.T.builtins _ (by decide)⟩
theorem good (G : Gd w s₀ mg mb h) (S : T.Says h) : Good (theW w mg mb h) where
  ok := wok G S
  all k hk := by
    simp only [defIdx, List.mem_cons, List.not_mem_nil, or_false] at hk
    have key : ∀ k, (defOf T.theView (nameAt k) = some (recAt k, [])) → (fnAt k).params.defaults = [] → ∃ a, (theW w mg mb h).FnAt (nameAt k) a (fnAt k) := fun k => fn_at G k
    clear G S
    (repeat' rcases hk with rfl | hk)
    all_goals first | exact key _ (by kernel_rfl) rfl | (subst hk; exact key _ (by kernel_rfl) rfl)
end
theorem walk (H : AllOk) : WalkO T.theView T.theLoose (XL T.theView []) (fun _ h => T.Says h) PySem.Challenge.rw_pf0056_01.row.toRowW (recAt 75) [] (fun f vs => PySem.call f vs) := by
  intro w s₀ s₁ mg mb G Y fa o pm cd doc dV kV ho hd' hcd hD hmg hg args vals as hpre hlay hrd hwl hlo
  have S : T.Says s₁.heap := Y
  wrow_args hpre hlay hrd hwl hlo
  rename_i ns hs hlay0 hL1 hr1 hl2 x4 x3 la lvs x0 hL ra w1 r0 hI hr hc1 hc2
  have e1 : dV = .none := by
    rcases hD.pos with ⟨_, e⟩ | ⟨e, _⟩
    · exact e
    · exact absurd rfl e
  have e2 : kV = .none := by
    rcases hD.kw with ⟨_, e⟩ | ⟨e, _⟩
    · exact e
    · exact absurd rfl e
  subst e1 e2
  have GD := good G S
  obtain ⟨N, hb⟩ := law_body GD (d := 20) (by omega) H ns (by omega)
  have C : CallOk (theW w mg mb s₁.heap) 21 "law" [.ils ns] [] (.bool true) [] :=
    callOk_of_body GD.ok (f := fnAt 75) (names := ["script"]) (N := N) (M₁ := []) ⟨fa, hmg, o, pm, cd, doc, ho, hd', hcd⟩ rfl
      (by intro vals pm code doc h; match vals, h with | [_], _ => rfl) (by decide) (by decide) (by decide) rfl rfl rfl rfl (.same rfl) hb
  refine C fa hmg callerA s₁ [] [.ref la] _ _ ⟨rfl, by decide, by decide⟩ ⟨fun _ _ e => e, rfl, by simp, by simp, by simp⟩ ⟨_, [], rfl, ⟨la, lvs, rfl, by simp, hL, hI⟩, rfl⟩ ?_
  intro v h' tk O' S R
  cases R
  refine ⟨.inl ⟨.bool true, .bool true, [], rfl, fun _ => rfl, .bool true, ?_, fun _ => ⟨by simp, by simp⟩⟩, ⟨fun b o e => .inl (O'.base b o e), fun b o e => ⟨o, O'.base b o e⟩⟩, rfl, ?_⟩
  · kernel_rfl
  · intro y hy
    rw [show ({ s₁ with heap := h', toks := tk } : Shared).gens = s₁.gens from rfl, hg] at hy
    simp at hy
theorem finish (H : AllOk) : PySem.Challenge.rw_pf0056_01.Holds := by
  refine holds_law T.said fun said => ?_
  refine holds_open (q := T.theView) (loose := T.theLoose) (Xt := T.theXt) (XP := XL T.theView []) (Yf := T.obs) (Ya := fun _ => some (T.found, T.objs.map some)) (YP := fun _ h => T.Says h) (N := 2229) (d := recAt 75) (kwd := []) T.left
    (fun _ _ e => T.says_of e) (fun _ _ _ S k => S.keeps k) (fun s e => xl_of s (Bool.and_eq_true_iff.mp e).1) XL.keeps (by kernel_rfl) (by kernel_rfl) (by kernel_rfl) (fun s e => recFacts_of (Bool.and_eq_true_iff.mp e).2)
    rfl said (by decide +kernel) ⟨rfl, rfl, rfl, rfl, rfl, T.tables⟩ ?hw (walk H)
  w_witness2
end Mine
end
theorem PySem.Challenge.cw_pf0056_01_holds : PySem.Challenge.rw_pf0056_01.Holds :=
  Mine.finish Mine.H.allOk
