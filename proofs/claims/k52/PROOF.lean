
import PyProof.Rows.All
import Wide.All
import OpenK.AllK
import Wide.FinOn
import HandS.ForMost
import HandS.Wide
import HandS.WideBits
import HandS.IsInst
import HandS.More
import HandS.EndBits
import HandS.SortInts
import KE.SortData
import HandS.TupLe
import HandS.Exc
import HandS.ExcOwn
import HandS.WordsExc
import HandS.ExcInit
import HandS.ExcField
import HandS.ExcIs
import HandS.TryOnly
import HandS.Small
import KE.KExcIs
import HandS.SetFor
import HandS.Conv
import KE.KDictWalk
import KE.KStateDown
import HandS.Defaults
import HandS.Head0
import HandS.Head1
import HandS.Head2
import HandS.HeadHook1
import HandS.HeadHook2
import PySem.Challenge.RW_spinfloor_k52_whole_near_a_line
set_option Elab.async false
set_option linter.all false
set_option pp.deepTerms false
set_option pp.deepTerms.threshold 4
set_option maxRecDepth 100000
set_option maxHeartbeats 2000000
namespace Sf
open PySem PySem.Spec PyProof.Rows L2

/-! ### least sums with their numbers -/
abbrev CN := Int × Nat
def cad (x y : CN) : CN := if x.1 < y.1 then x else if y.1 < x.1 then y else (x.1, x.2 + y.2)
def cmu (x y : CN) : CN := (x.1 + y.1, x.2 * y.2)
theorem cad_lt {x y : CN} (h : x.1 < y.1) : cad x y = x := by unfold cad; rw [if_pos h]
theorem cad_gt {x y : CN} (h : y.1 < x.1) : cad x y = y := by unfold cad; rw [if_neg (by omega), if_pos h]
theorem cad_eq {x y : CN} (h : x.1 = y.1) : cad x y = (x.1, x.2 + y.2) := by unfold cad; rw [if_neg (by omega), if_neg (by omega)]
theorem cad_comm (x y : CN) : cad x y = cad y x := by
  rcases Int.lt_trichotomy x.1 y.1 with h | h | h
  · rw [cad_lt h, cad_gt h]
  · rw [cad_eq h, cad_eq h.symm, h, Nat.add_comm]
  · rw [cad_gt h, cad_lt h]
theorem cad_assoc (x y z : CN) : cad (cad x y) z = cad x (cad y z) := by
  rcases Int.lt_trichotomy x.1 y.1 with h | h | h
  · rw [cad_lt h]
    rcases Int.lt_trichotomy y.1 z.1 with g | g | g
    · rw [cad_lt g, cad_lt h, cad_lt (by omega)]
    · rw [cad_eq g, cad_lt (y := (y.1, y.2 + z.2)) h, cad_lt (by omega)]
    · rw [cad_gt g]
  · rw [cad_eq h]
    rcases Int.lt_trichotomy y.1 z.1 with g | g | g
    · rw [cad_lt g, cad_lt (x := (x.1, x.2 + y.2)) (by show x.1 < z.1; omega), cad_eq h]
    · rw [cad_eq g, cad_eq (x := (x.1, x.2 + y.2)) (by show x.1 = z.1; omega), cad_eq (y := (y.1, y.2 + z.2)) h, Nat.add_assoc]
    · rw [cad_gt g, cad_gt (x := (x.1, x.2 + y.2)) (by show z.1 < x.1; omega), cad_gt (by omega)]
  · rw [cad_gt h]
    rcases Int.lt_trichotomy y.1 z.1 with g | g | g
    · rw [cad_lt g, cad_gt h]
    · rw [cad_eq g, cad_gt (y := (y.1, y.2 + z.2)) h]
    · rw [cad_gt g, cad_gt (by omega)]
theorem cmu_comm (x y : CN) : cmu x y = cmu y x := by unfold cmu; rw [Int.add_comm, Nat.mul_comm]
theorem cmu_assoc (x y z : CN) : cmu (cmu x y) z = cmu x (cmu y z) := by unfold cmu; rw [Int.add_assoc, Nat.mul_assoc]
theorem cmu_cad (x y z : CN) : cmu x (cad y z) = cad (cmu x y) (cmu x z) := by
  rcases Int.lt_trichotomy y.1 z.1 with h | h | h
  · rw [cad_lt h, cad_lt (by show x.1 + y.1 < x.1 + z.1; omega)]
  · rw [cad_eq h, cad_eq (by show x.1 + y.1 = x.1 + z.1; omega)]; unfold cmu; rw [Nat.mul_add]
  · rw [cad_gt h, cad_gt (by show x.1 + z.1 < x.1 + y.1; omega)]
theorem cad_cmu (x y z : CN) : cmu (cad y z) x = cad (cmu y x) (cmu z x) := by rw [cmu_comm, cmu_cad, cmu_comm x y, cmu_comm x z]
/-- the sum of f 0 .. f n -/
def csm (f : Nat → CN) : Nat → CN
  | 0 => f 0
  | n + 1 => cad (csm f n) (f (n + 1))
theorem csm_congr {f g : Nat → CN} : ∀ {n : Nat}, (∀ i, i ≤ n → f i = g i) → csm f n = csm g n
  | 0, h => h 0 (Nat.le_refl _)
  | n + 1, h => by show cad _ _ = cad _ _; rw [csm_congr fun i hi => h i (by omega), h (n + 1) (Nat.le_refl _)]
theorem csm_cad (f g : Nat → CN) : ∀ n, csm (fun i => cad (f i) (g i)) n = cad (csm f n) (csm g n)
  | 0 => rfl
  | n + 1 => by
    show cad _ _ = cad (cad _ _) (cad _ _)
    rw [csm_cad f g n, cad_assoc, cad_assoc, ← cad_assoc (csm g n), cad_comm (csm g n) (f (n + 1)), cad_assoc]
theorem csm_mul (x : CN) (f : Nat → CN) : ∀ n, csm (fun i => cmu x (f i)) n = cmu x (csm f n)
  | 0 => rfl
  | n + 1 => by show cad _ _ = cmu x (cad _ _); rw [csm_mul x f n, cmu_cad]
theorem csm_mulr (x : CN) (f : Nat → CN) (n : Nat) : csm (fun i => cmu (f i) x) n = cmu (csm f n) x := by
  rw [cmu_comm, ← csm_mul]; exact csm_congr fun i _ => cmu_comm _ _
theorem csm_swap (f : Nat → Nat → CN) (m : Nat) : ∀ n, csm (fun i => csm (fun j => f i j) m) n = csm (fun j => csm (fun i => f i j) n) m
  | 0 => rfl
  | n + 1 => by
    show cad _ _ = _
    rw [csm_swap f m n, ← csm_cad]
    rfl
/-- joined tables of size n + 1 -/
def cjn (n : Nat) (A B : Nat → Nat → CN) (s t : Nat) : CN := csm (fun u => cmu (A s u) (B u t)) n
theorem cjn_assoc (n : Nat) (A B D : Nat → Nat → CN) (s t : Nat) : cjn n (cjn n A B) D s t = cjn n A (cjn n B D) s t := by
  unfold cjn
  have h1 : ∀ u, cmu (csm (fun v => cmu (A s v) (B v u)) n) (D u t) = csm (fun v => cmu (A s v) (cmu (B v u) (D u t))) n := fun u => by
    rw [← csm_mulr]; exact csm_congr fun i _ => cmu_assoc _ _ _
  have h2 : ∀ v, cmu (A s v) (csm (fun u => cmu (B v u) (D u t)) n) = csm (fun u => cmu (A s v) (cmu (B v u) (D u t))) n := fun v => (csm_mul _ _ _).symm
  rw [csm_congr fun i _ => h1 i, csm_congr fun i _ => h2 i, csm_swap]
/-! by a modulus -/
def CEq (m : Nat) (x y : CN) : Prop := x.1 = y.1 ∧ x.2 % m = y.2 % m
theorem CEq.refl (m : Nat) (x : CN) : CEq m x x := ⟨rfl, rfl⟩
theorem CEq.symm {m : Nat} {x y : CN} (h : CEq m x y) : CEq m y x := ⟨h.1.symm, h.2.symm⟩
theorem CEq.trans {m : Nat} {x y z : CN} (h : CEq m x y) (g : CEq m y z) : CEq m x z := ⟨h.1.trans g.1, h.2.trans g.2⟩
theorem CEq.cad {m : Nat} {x y x' y' : CN} (h : CEq m x x') (g : CEq m y y') : CEq m (cad x y) (cad x' y') := by
  obtain ⟨h1, h2⟩ := h
  obtain ⟨g1, g2⟩ := g
  rcases Int.lt_trichotomy x.1 y.1 with l | l | l
  · rw [cad_lt l, cad_lt (by omega)]; exact ⟨h1, h2⟩
  · rw [cad_eq l, cad_eq (by omega)]; exact ⟨h1, by show (x.2 + y.2) % m = (x'.2 + y'.2) % m; rw [Nat.add_mod, h2, g2, ← Nat.add_mod]⟩
  · rw [cad_gt l, cad_gt (by omega)]; exact ⟨g1, g2⟩
theorem CEq.cmu {m : Nat} {x y x' y' : CN} (h : CEq m x x') (g : CEq m y y') : CEq m (cmu x y) (cmu x' y') :=
  ⟨by show x.1 + y.1 = x'.1 + y'.1; rw [h.1, g.1], by show (x.2 * y.2) % m = (x'.2 * y'.2) % m; rw [Nat.mul_mod, h.2, g.2, ← Nat.mul_mod]⟩
theorem CEq.csm {m : Nat} {f g : Nat → CN} : ∀ {n : Nat}, (∀ i, i ≤ n → CEq m (f i) (g i)) → CEq m (csm f n) (csm g n)
  | 0, h => h 0 (Nat.le_refl _)
  | n + 1, h => CEq.cad (CEq.csm fun i hi => h i (by omega)) (h (n + 1) (Nat.le_refl _))
def cmd (m : Nat) (x : CN) : CN := (x.1, x.2 % m)
theorem cmd_eq (m : Nat) (x : CN) : CEq m (cmd m x) x := ⟨rfl, Nat.mod_mod _ _⟩
theorem CEq.red {m : Nat} {x y : CN} (h : CEq m x y) : cmd m x = cmd m y := by unfold cmd; rw [h.1, h.2]
/-- the least of all, and where it is met -/
theorem csm_le (f : Nat → CN) : ∀ n i, i ≤ n → (csm f n).1 ≤ (f i).1
  | 0, i, h => by rw [Nat.le_zero.mp h]; exact Int.le_refl _
  | n + 1, i, h => by
    show (cad _ _).1 ≤ _
    have ih := csm_le f n
    by_cases e : i = n + 1
    · subst e
      rcases Int.lt_trichotomy (csm f n).1 (f (n + 1)).1 with l | l | l
      · rw [cad_lt l]; omega
      · rw [cad_eq l]; show (csm f n).1 ≤ _; omega
      · rw [cad_gt l]; omega
    · have := ih i (by omega)
      rcases Int.lt_trichotomy (csm f n).1 (f (n + 1)).1 with l | l | l
      · rw [cad_lt l]; omega
      · rw [cad_eq l]; show (csm f n).1 ≤ _; omega
      · rw [cad_gt l]; omega
theorem csm_at (f : Nat → CN) : ∀ n, ∃ i, i ≤ n ∧ (f i).1 = (csm f n).1
  | 0 => ⟨0, Nat.le_refl _, rfl⟩
  | n + 1 => by
    obtain ⟨i, hi, e⟩ := csm_at f n
    show ∃ i, i ≤ n + 1 ∧ (f i).1 = (cad _ _).1
    rcases Int.lt_trichotomy (csm f n).1 (f (n + 1)).1 with l | l | l
    · rw [cad_lt l]; exact ⟨i, by omega, e⟩
    · rw [cad_eq l]; exact ⟨i, by omega, e⟩
    · rw [cad_gt l]; exact ⟨n + 1, Nat.le_refl _, rfl⟩
/-- the numbers of those with the sum c, in sum -/
def cnum (f : Nat → CN) (c : Int) : Nat → Nat
  | 0 => 0
  | n + 1 => cnum f c n + if (f n).1 = c then (f n).2 else 0
theorem cnum_none {f : Nat → CN} {c : Int} : ∀ {n : Nat}, (∀ i, i < n → (f i).1 ≠ c) → cnum f c n = 0
  | 0, _ => rfl
  | n + 1, h => by show cnum f c n + _ = 0; rw [cnum_none fun i hi => h i (by omega), if_neg (h n (by omega))]
theorem csm_num (f : Nat → CN) : ∀ n, (csm f n).2 = cnum f (csm f n).1 (n + 1)
  | 0 => by show (f 0).2 = 0 + if (f 0).1 = (f 0).1 then (f 0).2 else 0; rw [if_pos rfl, Nat.zero_add]
  | n + 1 => by
    have ih := csm_num f n
    have hl := csm_le f n
    show (cad (csm f n) (f (n + 1))).2 = cnum f (cad (csm f n) (f (n + 1))).1 (n + 1) + if (f (n + 1)).1 = (cad (csm f n) (f (n + 1))).1 then (f (n + 1)).2 else 0
    rcases Int.lt_trichotomy (csm f n).1 (f (n + 1)).1 with l | l | l
    · rw [cad_lt l, if_neg (by omega), ih]; rfl
    · rw [cad_eq l]
      show (csm f n).2 + (f (n + 1)).2 = cnum f (csm f n).1 (n + 1) + if (f (n + 1)).1 = (csm f n).1 then (f (n + 1)).2 else 0
      rw [if_pos l.symm, ih]
    · rw [cad_gt l, if_pos rfl, cnum_none fun i hi => by have := hl i (by omega); omega, Nat.zero_add]
/-! powers of a table -/
/-- a table to the power k + 1 -/
def cpw (n : Nat) (A : Nat → Nat → CN) : Nat → Nat → Nat → CN
  | 0 => A
  | k + 1 => cjn n (cpw n A k) A
theorem cjn_congr {n : Nat} {A B A' B' : Nat → Nat → CN} {s t : Nat} (h1 : ∀ u, u ≤ n → A s u = A' s u) (h2 : ∀ u, u ≤ n → B u t = B' u t) : cjn n A B s t = cjn n A' B' s t :=
  csm_congr fun i hi => by rw [h1 i hi, h2 i hi]
theorem CEq.cjn {m n : Nat} {A B A' B' : Nat → Nat → CN} {s t : Nat} (h1 : ∀ u, u ≤ n → CEq m (A s u) (A' s u)) (h2 : ∀ u, u ≤ n → CEq m (B u t) (B' u t)) : CEq m (cjn n A B s t) (cjn n A' B' s t) :=
  CEq.csm fun i hi => (h1 i hi).cmu (h2 i hi)
theorem cpw_add (n : Nat) (A : Nat → Nat → CN) (j : Nat) : ∀ k s t, cjn n (cpw n A j) (cpw n A k) s t = cpw n A (j + k + 1) s t
  | 0, s, t => rfl
  | k + 1, s, t => by
    show cjn n (cpw n A j) (cjn n (cpw n A k) A) s t = cjn n (cpw n A (j + k + 1)) A s t
    rw [← cjn_assoc]
    exact cjn_congr (fun u _ => cpw_add n A j k s u) fun u _ => rfl

/-! ### strips, by sums -/
structure Col where
  ac : List Int
  al : List Int
def paid (z : Int) (a b : Bool) : Int := if ((a == b) == decide (z < 0)) = true then (z.natAbs : Int) else 0
def acP (c : Col) (s : Nat) : Int := ((List.range c.ac.length).map fun r => paid (c.ac.getD r 0) (s.testBit r) (s.testBit (r + 1))).sum
def alP (c : Col) (s t : Nat) : Int := ((List.range c.al.length).map fun r => paid (c.al.getD r 0) (s.testBit r) (t.testBit r)).sum
def colT (c : Col) (s t : Nat) : CN := (acP c s + alP c s t, 1)
def colAt (P : List Col) (k : Nat) : Col := P.getD k ⟨[], []⟩
def stepE (n : Nat) (P : List Col) : Nat → Nat → Nat → CN
  | 0 => colT (colAt P 0)
  | k + 1 => cjn n (stepE n P k) (colT (colAt P (k + 1)))
def vec (n : Nat) (P : List Col) : Nat → Nat → CN
  | 0, _ => (0, 1)
  | j + 1, t => csm (fun s => cmu (vec n P j s) (colT (colAt P (j % P.length)) s t)) n
theorem vec_step (n : Nat) (P : List Col) {j : Nat} (hj : j % P.length = 0) : ∀ k, k < P.length → ∀ t, vec n P (j + k + 1) t = csm (fun s => cmu (vec n P j s) (stepE n P k s t)) n
  | 0, _, t => by
    show csm (fun s => cmu (vec n P (j + 0) s) (colT (colAt P ((j + 0) % P.length)) s t)) n = _
    rw [Nat.add_zero, hj]
    rfl
  | k + 1, hk, t => by
    have ih := vec_step n P hj k (by omega)
    show csm (fun s => cmu (vec n P (j + k + 1) s) (colT (colAt P ((j + k + 1) % P.length)) s t)) n = _
    have e : (j + k + 1) % P.length = k + 1 := by rw [Nat.add_assoc, Nat.add_mod, hj, Nat.zero_add, Nat.mod_mod, Nat.mod_eq_of_lt hk]
    rw [e]
    have h := cjn_assoc n (fun _ => vec n P j) (stepE n P k) (colT (colAt P (k + 1))) 0 t
    show csm (fun s => cmu (vec n P (j + k + 1) s) (colT (colAt P (k + 1)) s t)) n = csm (fun s => cmu (vec n P j s) (cjn n (stepE n P k) (colT (colAt P (k + 1))) s t)) n
    rw [csm_congr fun i _ => by rw [ih i]]
    exact h
theorem vec_pow (n : Nat) (P : List Col) (h0 : 0 < P.length) : ∀ k t, vec n P (P.length * (k + 1)) t = csm (fun s => cmu (vec n P 0 s) (cpw n (stepE n P (P.length - 1)) k s t)) n
  | 0, t => by
    have h := vec_step n P (j := 0) (Nat.zero_mod _) (P.length - 1) (by omega) t
    rw [show 0 + (P.length - 1) + 1 = P.length * (0 + 1) by omega] at h
    exact h
  | k + 1, t => by
    have h := vec_step n P (j := P.length * (k + 1)) (Nat.mul_mod_right _ _) (P.length - 1) (by omega) t
    rw [show P.length * (k + 1) + (P.length - 1) + 1 = P.length * (k + 1 + 1) by rw [Nat.mul_succ P.length (k + 1)]; omega] at h
    rw [h, csm_congr fun i _ => by rw [vec_pow n P h0 k i]]
    exact cjn_assoc n (fun _ => vec n P 0) (cpw n (stepE n P (P.length - 1)) k) (stepE n P (P.length - 1)) 0 t
/-! trying all ways -/
theorem csm_split (f : Nat → CN) (a : Nat) : ∀ b, csm f ((a + 1) * (b + 1) - 1) = csm (fun j => csm (fun i => f (i + (a + 1) * j)) a) b
  | 0 => by rw [Nat.zero_add, Nat.mul_one, Nat.add_sub_cancel]; exact csm_congr fun i _ => by rw [Nat.mul_zero, Nat.add_zero]
  | b + 1 => by
    show _ = cad _ _
    rw [← csm_split f a b]
    have key : ∀ m, csm f ((a + 1) * (b + 1) - 1 + (m + 1)) = cad (csm f ((a + 1) * (b + 1) - 1)) (csm (fun i => f (i + (a + 1) * (b + 1))) m) := by
      have hp : 0 < (a + 1) * (b + 1) := Nat.mul_pos (by omega) (by omega)
      intro m
      induction m with
      | zero =>
        show cad (csm f ((a + 1) * (b + 1) - 1)) (f ((a + 1) * (b + 1) - 1 + 1)) = cad _ (f (0 + (a + 1) * (b + 1)))
        rw [Nat.zero_add, Nat.sub_add_cancel hp]
      | succ m ih =>
        show cad (csm f ((a + 1) * (b + 1) - 1 + (m + 1))) (f ((a + 1) * (b + 1) - 1 + (m + 1) + 1)) = cad _ (cad _ (f (m + 1 + (a + 1) * (b + 1))))
        rw [ih, cad_assoc, show (a + 1) * (b + 1) - 1 + (m + 1) + 1 = m + 1 + (a + 1) * (b + 1) by omega]
    have h := key a
    rw [← h, Nat.mul_succ (a + 1) (b + 1)]
    congr 1
    have hp : 0 < (a + 1) * (b + 1) := Nat.mul_pos (by omega) (by omega)
    omega
def sig (rows w c : Nat) : Nat := w / 2 ^ (rows * c) % 2 ^ rows
def pcost (P : List Col) (rows w : Nat) : Nat → Int
  | 0 => 0
  | k + 1 => pcost P rows w k + (acP (colAt P (k % P.length)) (sig rows w k) + alP (colAt P (k % P.length)) (sig rows w k) (sig rows w (k + 1)))
theorem sig_low {rows w k c : Nat} (x : Nat) (hc : c < k) : sig rows (w + 2 ^ (rows * k) * x) c = sig rows w c := by
  unfold sig
  obtain ⟨d, hd⟩ : ∃ d, rows * k = rows * c + rows + d := ⟨rows * (k - c - 1), by
    have : rows * k = rows * (c + 1 + (k - c - 1)) := by congr 1; omega
    rw [this, Nat.mul_add, Nat.mul_add, Nat.mul_one]⟩
  rw [hd, Nat.pow_add, Nat.pow_add, Nat.mul_assoc, Nat.mul_assoc, Nat.add_mul_div_left _ _ (Nat.two_pow_pos _), Nat.add_mul_mod_self_left]
theorem sig_at {rows w k : Nat} (x : Nat) (hw : w < 2 ^ (rows * k)) : sig rows (w + 2 ^ (rows * k) * x) k = x % 2 ^ rows := by
  unfold sig
  rw [Nat.add_mul_div_left _ _ (Nat.two_pow_pos _), Nat.div_eq_of_lt hw, Nat.zero_add]
theorem pcost_low (P : List Col) {rows w m : Nat} (x : Nat) : ∀ k, k < m → pcost P rows (w + 2 ^ (rows * m) * x) k = pcost P rows w k
  | 0, _ => rfl
  | k + 1, hk => by
    show _ + _ = _ + _
    rw [pcost_low P x k (by omega), sig_low x (by omega : k < m), sig_low x hk]
theorem vec_trial (P : List Col) {rows n : Nat} (hn : n + 1 = 2 ^ rows) : ∀ k t, t ≤ n → vec n P k t = csm (fun w => (pcost P rows (w + 2 ^ (rows * k) * t) k, 1)) (2 ^ (rows * k) - 1)
  | 0, t, _ => by
    rw [Nat.mul_zero]
    rfl
  | k + 1, t, ht => by
    show csm (fun s => cmu (vec n P k s) (colT (colAt P (k % P.length)) s t)) n = _
    have hp := Nat.two_pow_pos (rows * k)
    have e1 : 2 ^ (rows * (k + 1)) - 1 = (2 ^ (rows * k) - 1 + 1) * (n + 1) - 1 := by rw [hn, Nat.sub_add_cancel hp, Nat.mul_succ, Nat.pow_add]
    rw [e1, csm_split, Nat.sub_add_cancel hp]
    refine csm_congr fun s hs => ?_
    rw [vec_trial P hn k s hs, ← csm_mulr]
    refine csm_congr fun w hw => ?_
    have hw' : w < 2 ^ (rows * k) := by omega
    have e2 : w + 2 ^ (rows * k) * s + 2 ^ (rows * (k + 1)) * t = w + 2 ^ (rows * k) * (s + 2 ^ rows * t) := by
      rw [Nat.mul_succ, Nat.pow_add, Nat.mul_add, Nat.add_assoc, Nat.mul_assoc]
    have hlt : w + 2 ^ (rows * k) * s < 2 ^ (rows * (k + 1)) := by
      rw [Nat.mul_succ, Nat.pow_add, ← hn]
      have : 2 ^ (rows * k) * (s + 1) ≤ 2 ^ (rows * k) * (n + 1) := Nat.mul_le_mul_left _ (by omega)
      rw [Nat.mul_succ] at this
      omega
    have s1 : sig rows (w + 2 ^ (rows * k) * s + 2 ^ (rows * (k + 1)) * t) k = s := by
      rw [e2, sig_at _ hw', Nat.add_mul_mod_self_left, Nat.mod_eq_of_lt (by omega)]
    have s2 : sig rows (w + 2 ^ (rows * k) * s + 2 ^ (rows * (k + 1)) * t) (k + 1) = t := by
      rw [sig_at _ hlt, Nat.mod_eq_of_lt (by omega)]
    show (_, _) = (pcost P rows (w + 2 ^ (rows * k) * s + 2 ^ (rows * (k + 1)) * t) k + _, 1)
    rw [s1, s2, pcost_low P t k (by omega)]
    rfl
/-- what all ties of a strip of k + 1 columns pay -/
def tcost (P : List Col) (rows w k : Nat) : Int := pcost P rows w k + acP (colAt P (k % P.length)) (sig rows w k)
def total (n : Nat) (P : List Col) (k : Nat) : CN := csm (fun t => cmu (vec n P k t) (acP (colAt P (k % P.length)) t, 1)) n
theorem total_trial (P : List Col) {rows n : Nat} (hn : n + 1 = 2 ^ rows) (k : Nat) : total n P k = csm (fun w => (tcost P rows w k, 1)) (2 ^ (rows * (k + 1)) - 1) := by
  have hp := Nat.two_pow_pos (rows * k)
  have e1 : 2 ^ (rows * (k + 1)) - 1 = (2 ^ (rows * k) - 1 + 1) * (n + 1) - 1 := by rw [hn, Nat.sub_add_cancel hp, Nat.mul_succ, Nat.pow_add]
  rw [e1, csm_split, Nat.sub_add_cancel hp]
  refine csm_congr fun t ht => ?_
  rw [vec_trial P hn k t ht, ← csm_mulr]
  refine csm_congr fun w hw => ?_
  show (_, _) = (pcost P rows (w + 2 ^ (rows * k) * t) k + _, 1)
  rw [sig_at _ (by omega), Nat.mod_eq_of_lt (show t < 2 ^ rows by omega)]
  rfl
/-- the sums over the columns between -/
theorem step_trial (P : List Col) {rows n : Nat} (hn : n + 1 = 2 ^ rows) : ∀ k, k < P.length → ∀ s t, s ≤ n → t ≤ n → stepE n P k s t = csm (fun w => (pcost P rows (s + 2 ^ rows * w + 2 ^ (rows * (k + 1)) * t) (k + 1), 1)) (2 ^ (rows * k) - 1)
  | 0, h0, s, t, hs, ht => by
    rw [Nat.mul_zero]
    show colT (colAt P 0) s t = (pcost P rows (s + 2 ^ rows * 0 + 2 ^ (rows * (0 + 1)) * t) (0 + 1), 1)
    show _ = (0 + _, 1)
    have a1 : sig rows (s + 2 ^ rows * 0 + 2 ^ (rows * (0 + 1)) * t) 0 = s := by
      rw [sig_low t (by omega)]
      unfold sig
      rw [Nat.mul_zero, Nat.mul_zero, Nat.pow_zero, Nat.div_one, Nat.add_zero, Nat.mod_eq_of_lt (by omega)]
    have a2 : sig rows (s + 2 ^ rows * 0 + 2 ^ (rows * (0 + 1)) * t) (0 + 1) = t := by
      rw [sig_at _ (by rw [Nat.mul_zero, Nat.zero_add, Nat.mul_one]; omega), Nat.mod_eq_of_lt (by omega)]
    rw [a1, a2, Nat.zero_mod, Int.zero_add]
    rfl
  | k + 1, hk, s, t, hs, ht => by
    show csm (fun u => cmu (stepE n P k s u) (colT (colAt P (k + 1)) u t)) n = _
    have hp := Nat.two_pow_pos (rows * k)
    have e1 : 2 ^ (rows * (k + 1)) - 1 = (2 ^ (rows * k) - 1 + 1) * (n + 1) - 1 := by rw [hn, Nat.sub_add_cancel hp, Nat.mul_succ, Nat.pow_add]
    rw [e1, csm_split, Nat.sub_add_cancel hp]
    refine csm_congr fun u hu => ?_
    rw [step_trial P hn k (by omega) s u hs hu, ← csm_mulr]
    refine csm_congr fun w hw => ?_
    have hp1 : 2 ^ rows * 2 ^ (rows * k) = 2 ^ (rows * (k + 1)) := by rw [Nat.mul_succ, Nat.pow_add, Nat.mul_comm]
    have e3 : s + 2 ^ rows * (w + 2 ^ (rows * k) * u) = s + 2 ^ rows * w + 2 ^ (rows * (k + 1)) * u := by
      rw [Nat.mul_add, ← Nat.mul_assoc, hp1, Nat.add_assoc]
    have hlow : s + 2 ^ rows * w < 2 ^ (rows * (k + 1)) := by
      have : 2 ^ rows * (w + 1) ≤ 2 ^ rows * 2 ^ (rows * k) := Nat.mul_le_mul_left _ (by omega)
      rw [Nat.mul_succ, hp1] at this
      omega
    have hlt : s + 2 ^ rows * w + 2 ^ (rows * (k + 1)) * u < 2 ^ (rows * (k + 1 + 1)) := by
      rw [show 2 ^ (rows * (k + 1 + 1)) = 2 ^ (rows * (k + 1)) * (n + 1) by rw [Nat.mul_succ rows (k + 1), Nat.pow_add, hn]]
      have : 2 ^ (rows * (k + 1)) * (u + 1) ≤ 2 ^ (rows * (k + 1)) * (n + 1) := Nat.mul_le_mul_left _ (by omega)
      rw [Nat.mul_succ] at this
      omega
    rw [e3]
    have s2 : sig rows (s + 2 ^ rows * w + 2 ^ (rows * (k + 1)) * u + 2 ^ (rows * (k + 1 + 1)) * t) (k + 1 + 1) = t := by
      rw [sig_at _ hlt, Nat.mod_eq_of_lt (by omega)]
    have s1 : sig rows (s + 2 ^ rows * w + 2 ^ (rows * (k + 1)) * u + 2 ^ (rows * (k + 1 + 1)) * t) (k + 1) = u := by
      rw [sig_low t (by omega), sig_at _ hlow, Nat.mod_eq_of_lt (by omega)]
    show (_, _) = (pcost P rows (s + 2 ^ rows * w + 2 ^ (rows * (k + 1)) * u + 2 ^ (rows * (k + 1 + 1)) * t) (k + 1) + _, 1)
    rw [s1, s2, pcost_low P t (k + 1) (by omega), Nat.mod_eq_of_lt hk]
    rfl
theorem csm_ones (g : Nat → Int) (n : Nat) : (csm (fun w => (g w, 1)) n).2 ≤ n + 1 := by
  rw [csm_num]
  have : ∀ c m, cnum (fun w => (g w, 1)) c m ≤ m := fun c m => by
    induction m with
    | zero => exact Nat.le_refl _
    | succ m ih => show cnum (fun w => (g w, 1)) c m + (if g m = c then 1 else 0) ≤ m + 1; split <;> omega
  exact this _ _

/-! ### the least average of a loop, by the walks of as many steps as there are places -/
/-- the least of f 0 .. f n -/
def mnI (f : Nat → Int) : Nat → Int
  | 0 => f 0
  | n + 1 => if f (n + 1) < mnI f n then f (n + 1) else mnI f n
theorem mnI_le (f : Nat → Int) : ∀ n i, i ≤ n → mnI f n ≤ f i
  | 0, i, h => by have : i = 0 := by omega
                  subst this; exact Int.le_refl _
  | n + 1, i, h => by
    show (if f (n + 1) < mnI f n then f (n + 1) else mnI f n) ≤ f i
    by_cases e : i = n + 1
    · subst e; split <;> omega
    · have := mnI_le f n i (by omega)
      split <;> omega
theorem mnI_ex (f : Nat → Int) : ∀ n, ∃ i, i ≤ n ∧ mnI f n = f i
  | 0 => ⟨0, Nat.le_refl _, rfl⟩
  | n + 1 => by
    obtain ⟨i, hi, e⟩ := mnI_ex f n
    by_cases c : f (n + 1) < mnI f n
    · exact ⟨n + 1, Nat.le_refl _, by show (if _ then _ else _) = _; rw [if_pos c]⟩
    · exact ⟨i, by omega, by show (if _ then _ else _) = _; rw [if_neg c]; exact e⟩
theorem mnI_congr {f g : Nat → Int} : ∀ {n : Nat}, (∀ i, i ≤ n → f i = g i) → mnI f n = mnI g n
  | 0, h => h 0 (Nat.le_refl _)
  | n + 1, h => by
    show (if f (n + 1) < mnI f n then f (n + 1) else mnI f n) = (if g (n + 1) < mnI g n then g (n + 1) else mnI g n)
    rw [mnI_congr fun i hi => h i (by omega), h (n + 1) (Nat.le_refl _)]
/-- the least costs of walks of k steps that end at v, places 0 .. n -/
def dW (c : Nat → Nat → Int) (n : Nat) : Nat → Nat → Int
  | 0, _ => 0
  | k + 1, v => mnI (fun u => dW c n k u + c u v) n
/-- heights that only fall -/
def hW (e : Nat → Nat → Int) (n : Nat) : Nat → Nat → Int
  | 0, _ => 0
  | s + 1, v => if mnI (fun u => hW e n s u + e u v) n < hW e n s v then mnI (fun u => hW e n s u + e u v) n else hW e n s v
section
variable {c e : Nat → Nat → Int} {n : Nat}
theorem dW_le {k u v : Nat} (hu : u ≤ n) : dW c n (k + 1) v ≤ dW c n k u + c u v := mnI_le (fun u => dW c n k u + c u v) n u hu
theorem dW_ex (k v : Nat) : ∃ u, u ≤ n ∧ dW c n (k + 1) v = dW c n k u + c u v := mnI_ex (fun u => dW c n k u + c u v) n
theorem hW_le {s u v : Nat} (hu : u ≤ n) : hW e n (s + 1) v ≤ hW e n s u + e u v ∧ hW e n (s + 1) v ≤ hW e n s v := by
  have := mnI_le (fun u => hW e n s u + e u v) n u hu
  show (if _ then _ else _) ≤ _ ∧ (if _ then _ else _) ≤ _
  have this : mnI (fun u => hW e n s u + e u v) n ≤ hW e n s u + e u v := this
  split <;> constructor <;> omega
theorem hW_ex (s v : Nat) : hW e n (s + 1) v = hW e n s v ∨ ∃ u, u ≤ n ∧ hW e n (s + 1) v = hW e n s u + e u v := by
  obtain ⟨u, hu, h⟩ := mnI_ex (fun u => hW e n s u + e u v) n
  have e1 : hW e n (s + 1) v = if mnI (fun u => hW e n s u + e u v) n < hW e n s v then mnI (fun u => hW e n s u + e u v) n else hW e n s v := rfl
  rw [e1]
  split
  · exact .inr ⟨u, hu, h⟩
  · exact .inl rfl
/-- the heights are the least of the walks of at most so many steps -/
theorem hW_lo : ∀ s k v, k ≤ s → hW e n s v ≤ dW e n k v
  | 0, k, v, h => by have : k = 0 := by omega
                     subst this; exact Int.le_refl _
  | s + 1, k, v, h => by
    by_cases z : k ≤ s
    · exact Int.le_trans (hW_le (u := 0) (Nat.zero_le _)).2 (hW_lo s k v z)
    · have : k = s + 1 := by omega
      subst this
      obtain ⟨u, hu, e1⟩ := dW_ex (c := e) (n := n) s v
      rw [e1]
      have h1 := (hW_le (e := e) (s := s) (v := v) hu).1
      have h2 := hW_lo s s u (Nat.le_refl _)
      omega
theorem hW_at : ∀ s v, ∃ k, k ≤ s ∧ hW e n s v = dW e n k v
  | 0, v => ⟨0, Nat.le_refl _, rfl⟩
  | s + 1, v => by
    rcases hW_ex (e := e) (n := n) s v with h | ⟨u, hu, h⟩
    · obtain ⟨k, hk, g⟩ := hW_at s v
      exact ⟨k, by omega, h.trans g⟩
    · obtain ⟨k, hk, g⟩ := hW_at s u
      refine ⟨k + 1, by omega, Int.le_antisymm (hW_lo (s + 1) (k + 1) v (by omega)) ?_⟩
      rw [h, g]
      exact dW_le hu
/-- where each longest walk is no less than some shorter one, no step goes below -/
theorem hW_step {L : Nat} (hA : ∀ v, v ≤ n → ∃ k, k < L ∧ dW e n k v ≤ dW e n L v) {u v : Nat} (hu : u ≤ n) : hW e n L v ≤ hW e n L u + e u v := by
  have key : ∃ k, k < L ∧ hW e n L u = dW e n k u := by
    obtain ⟨k, hk, g⟩ := hW_at (e := e) (n := n) L u
    by_cases z : k < L
    · exact ⟨k, z, g⟩
    · have : k = L := by omega
      subst this
      obtain ⟨k', hk', g'⟩ := hA u hu
      refine ⟨k', hk', Int.le_antisymm (hW_lo k k' u (by omega)) ?_⟩
      rw [g]
      exact g'
  obtain ⟨k, hk, g⟩ := key
  rw [g]
  exact Int.le_trans (hW_lo L (k + 1) v (by omega)) (dW_le hu)
/-- where a longest walk is the least of all, its steps go just along the heights -/
theorem tight_walk {L : Nat} (hA : ∀ v, v ≤ n → ∃ k, k < L ∧ dW e n k v ≤ dW e n L v) {v0 : Nat} (hv : v0 ≤ n) (hB : ∀ k, k < L → dW e n L v0 ≤ dW e n k v0) :
    ∃ f : Nat → Nat, (∀ j, j ≤ L → f j ≤ n) ∧ ∀ j, j < L → hW e n L (f (j + 1)) = hW e n L (f j) + e (f j) (f (j + 1)) := by
  have h0 : hW e n L v0 = dW e n L v0 := by
    obtain ⟨k, hk, g⟩ := hW_at (e := e) (n := n) L v0
    refine Int.le_antisymm (hW_lo L L v0 (Nat.le_refl _)) ?_
    rw [g]
    by_cases z : k < L
    · exact hB k z
    · have : k = L := by omega
      subst this
      exact Int.le_refl _
  have go : ∀ m, m ≤ L → ∃ f : Nat → Nat, (∀ j, L - m ≤ j → j ≤ L → f j ≤ n ∧ hW e n L (f j) = dW e n j (f j)) ∧ ∀ j, L - m ≤ j → j < L → hW e n L (f (j + 1)) = hW e n L (f j) + e (f j) (f (j + 1)) := by
    intro m
    induction m with
    | zero =>
      intro _
      refine ⟨fun _ => v0, fun j h1 h2 => ?_, fun j h1 h2 => absurd h1 (by omega)⟩
      have : j = L := by omega
      subst this
      exact ⟨hv, h0⟩
    | succ m ih =>
      intro hm
      obtain ⟨f, f1, f2⟩ := ih (by omega)
      obtain ⟨j0, hj0⟩ : ∃ j0, L - m = j0 + 1 := ⟨L - m - 1, by omega⟩
      obtain ⟨g1, g2⟩ := f1 (j0 + 1) (by omega) (by omega)
      obtain ⟨u, hu, hd⟩ := dW_ex (c := e) (n := n) j0 (f (j0 + 1))
      have s1 := hW_step hA (u := u) (v := f (j0 + 1)) hu
      have s2 := hW_lo (e := e) (n := n) L j0 u (by omega)
      have hu2 : hW e n L u = dW e n j0 u := by omega
      refine ⟨fun j => if j = j0 then u else f j, fun j h1 h2 => ?_, fun j h1 h2 => ?_⟩
      · show (if j = j0 then u else f j) ≤ n ∧ hW e n L (if j = j0 then u else f j) = dW e n j (if j = j0 then u else f j)
        by_cases z : j = j0
        · rw [if_pos z, z]; exact ⟨hu, hu2⟩
        · rw [if_neg z]; exact f1 j (by omega) h2
      · show hW e n L (if j + 1 = j0 then u else f (j + 1)) = hW e n L (if j = j0 then u else f j) + e (if j = j0 then u else f j) (if j + 1 = j0 then u else f (j + 1))
        by_cases z : j = j0
        · rw [if_neg (by omega), if_pos z, z]; omega
        · rw [if_neg (by omega), if_neg z]; exact f2 j (by omega) h2
  obtain ⟨f, f1, f2⟩ := go L (Nat.le_refl _)
  exact ⟨f, fun j hj => (f1 j (by omega) hj).1, fun j hj => f2 j (by omega) hj⟩
/-- more numbers than places: two are alike -/
theorem two_alike {f : Nat → Nat} : ∀ {n : Nat}, (∀ j, j ≤ n + 1 → f j ≤ n) → ∃ i j, i < j ∧ j ≤ n + 1 ∧ f i = f j := by
  intro n h
  refine Classical.byContradiction fun hc => ?_
  have nd : ((List.range (n + 2)).map f).Nodup := by
    rw [List.Nodup, List.pairwise_map]
    refine List.pairwise_lt_range.imp_of_mem fun {a b} ha hb hab e => hc ⟨a, b, hab, by have := List.mem_range.mp hb; omega, e⟩
  have sub : (List.range (n + 2)).map f ⊆ List.range (n + 1) := fun x hx => by
    obtain ⟨j, hj, rfl⟩ := List.mem_map.mp hx
    exact List.mem_range.mpr (by have := h j (by have := List.mem_range.mp hj; omega); omega)
  have := nd.length_le_of_subset sub
  rw [List.length_map, List.length_range, List.length_range] at this
  omega
/-- places each of which has a step to one of them -/
def Live (t : Nat → Nat → Bool) (n : Nat) (S : Nat → Prop) : Prop := (∃ x, S x) ∧ ∀ x, S x → x ≤ n ∧ ∃ y, S y ∧ t x y = true
theorem live_of {t : Nat → Nat → Bool} {f : Nat → Nat} (h1 : ∀ j, j ≤ n + 1 → f j ≤ n) (h2 : ∀ j, j < n + 1 → t (f j) (f (j + 1)) = true) : ∃ S, Live t n S := by
  obtain ⟨i, j, hij, hj, e⟩ := two_alike h1
  refine ⟨fun x => ∃ k, i ≤ k ∧ k < j ∧ x = f k, ⟨f i, i, Nat.le_refl _, hij, rfl⟩, fun x => ?_⟩
  rintro ⟨k, k1, k2, rfl⟩
  refine ⟨h1 k (by omega), ?_⟩
  by_cases z : k + 1 = j
  · refine ⟨f i, ⟨i, Nat.le_refl _, hij, rfl⟩, ?_⟩
    have := h2 k (by omega)
    rw [z, ← e] at this
    exact this
  · exact ⟨f (k + 1), ⟨k + 1, by omega, by omega, rfl⟩, h2 k (by omega)⟩
/-! with an average of p by q -/
def ovW (c : Nat → Nat → Int) (p : Int) (q : Nat) (u v : Nat) : Int := (q : Int) * c u v - p
theorem dW_ov {p : Int} {q : Nat} : ∀ k v, dW (ovW c p q) n k v = (q : Int) * dW c n k v - p * k
  | 0, v => by show (0 : Int) = q * 0 - p * ((0 : Nat) : Int); simp
  | k + 1, v => by
    have e1 : ∀ u, dW (ovW c p q) n k u + ovW c p q u v = (q : Int) * (dW c n k u + c u v) - p * ((k + 1 : Nat) : Int) := fun u => by
      rw [dW_ov k u]
      unfold ovW
      rw [Int.mul_add, Int.natCast_add, Int.mul_add]
      omega
    obtain ⟨u1, hu1, h1⟩ := dW_ex (c := ovW c p q) (n := n) k v
    obtain ⟨u2, hu2, h2⟩ := dW_ex (c := c) (n := n) k v
    have a1 := dW_le (c := ovW c p q) (n := n) (k := k) (v := v) hu2
    have a2 := dW_le (c := c) (n := n) (k := k) (v := v) hu1
    rw [e1] at h1 a1
    rw [← h2] at a1
    have m := Int.mul_le_mul_of_nonneg_left a2 (Int.natCast_nonneg q)
    omega
/-- what the least average found tells -/
structure AvgOk (c : Nat → Nat → Int) (n : Nat) (p : Int) (q : Nat) : Prop where
  pos : 1 ≤ q
  lo : ∀ v, v ≤ n → ∃ k, k < n + 1 ∧ p * ((n + 1 - k : Nat) : Int) ≤ (dW c n (n + 1) v - dW c n k v) * q
  hi : ∃ v, v ≤ n ∧ ∀ k, k < n + 1 → (dW c n (n + 1) v - dW c n k v) * q ≤ p * ((n + 1 - k : Nat) : Int)
theorem AvgOk.shift {p : Int} {q : Nat} {x y : Int} {k L : Nat} (hk : k < L) : p * ((L - k : Nat) : Int) ≤ (y - x) * q ↔ (q : Int) * x - p * k ≤ (q : Int) * y - p * L := by
  have e : ((L - k : Nat) : Int) = (L : Int) - (k : Int) := by omega
  rw [e, Int.mul_sub, Int.sub_mul, Int.mul_comm y, Int.mul_comm x]
  omega
theorem AvgOk.shift2 {p : Int} {q : Nat} {x y : Int} {k L : Nat} (hk : k < L) : (y - x) * q ≤ p * ((L - k : Nat) : Int) ↔ (q : Int) * y - p * L ≤ (q : Int) * x - p * k := by
  have e : ((L - k : Nat) : Int) = (L : Int) - (k : Int) := by omega
  rw [e, Int.mul_sub, Int.sub_mul, Int.mul_comm y, Int.mul_comm x]
  omega
theorem AvgOk.feas {p : Int} {q : Nat} (h : AvgOk c n p q) {u v : Nat} (hu : u ≤ n) : p ≤ q * c u v + hW (ovW c p q) n (n + 1) u - hW (ovW c p q) n (n + 1) v := by
  have := hW_step (e := ovW c p q) (n := n) (L := n + 1) (fun w hw => by
    obtain ⟨k, hk, g⟩ := h.lo w hw
    refine ⟨k, hk, ?_⟩
    rw [dW_ov, dW_ov]
    exact (AvgOk.shift hk).mp g) (u := u) (v := v) hu
  unfold ovW at this ⊢
  omega
def tgW (c : Nat → Nat → Int) (n : Nat) (p : Int) (q : Nat) (u v : Nat) : Bool := decide ((q : Int) * c u v + hW (ovW c p q) n (n + 1) u - hW (ovW c p q) n (n + 1) v = p)
theorem AvgOk.live {p : Int} {q : Nat} (h : AvgOk c n p q) : ∃ S, Live (tgW c n p q) n S := by
  obtain ⟨v0, hv, hB⟩ := h.hi
  obtain ⟨f, f1, f2⟩ := tight_walk (e := ovW c p q) (n := n) (L := n + 1) (fun w hw => by
    obtain ⟨k, hk, g⟩ := h.lo w hw
    refine ⟨k, hk, ?_⟩
    rw [dW_ov, dW_ov]
    exact (AvgOk.shift hk).mp g) hv (fun k hk => by
    rw [dW_ov, dW_ov]
    exact (AvgOk.shift2 hk).mp (hB k hk))
  refine live_of f1 fun j hj => decide_eq_true ?_
  have := f2 j hj
  unfold ovW at this ⊢
  omega
end

/-! ### defs by name -/
structure Has (P : Program) (w : World) (K : PySem.W.Frag) (mg : Str → Option Value) (base : Heap) (CX : CXT) (k : Nat) (x : Str) (ps : List Str) (sp : Sp) : Prop where
  ex : ∃ f fd, FnOk P w K mg base CX k f fd ps sp ∧ mg x = some (.ref f) ∧ PySem.W.keepIn K (.ref f) = true ∧ Binds K fd ps []
section
variable {P : Program} {w : World} {K : PySem.W.Frag} {mg : Str → Option Value} {base : Heap} {x qual : Str} {ps N : List Str} {sp : Sp} {k : Nat}
theorem Has.mk' {st : Stmt} {f : Addr} {fd : FuncData} (F : Fun K x qual st f fd) (gf : mg x = some (.ref f)) (b : Binds K fd ps []) (S : FnScope N ps (defScope st)) (len : ∀ vs H Q E, sp vs H Q E → vs.length = ps.length)
    (hbody : ∀ (cdv : Value) (A : Around) (outer : List Env) (s : Shared) (H : Hp) (vs : List V) (Q : VK) (E : XK), Room k (A.deeper (envOfC qual (defScope st) s.heap.objs.size f cdv)) → sp vs H Q E →
      ∃ t, PSs (cxOf CX0 P w K mg base N qual (defScope st) f cdv A outer s H E).nox (defBody st) t ∧ t { nx := fun _ H' => Q .non H', rt := Q } (start N vs) H) : Has P w K mg base CX0 (k + 1) x ps sp :=
  ⟨f, fd, F.ok S len hbody, gf, F.kp, b⟩
end
section
variable {X : Cx} {k : Nat} {ps : List Str} {sp : Sp} {x : Str} {p pos : Pos} {e : Expr} {es : List Expr} {t : TA}
theorem pe_fn (h : Has X.prog X.w X.K X.mg X.base CX0 k x ps sp) (hr : Room k X.A) (hg : Gl X x) (ha : PA X (e :: es) t) (hdb : (x == ("__debug__" : Str)) = false := by decide) (he : starEach (e :: es) X.env = (false, eval e X.env) :: starEach es X.env := by rfl) (hpl : (backTo pos (starEach es X.env)).any (·.1) = false := by rfl) :
    PE X (.Call (.Name x p) (e :: es) [] pos) (tCall sp [] E0 t) := by
  obtain ⟨f, fd, F, gf, kp, b⟩ := h.ex
  exact pe_call F hr hg gf kp b .nil pass0 ha hdb he hpl
theorem pe_fn0 (h : Has X.prog X.w X.K X.mg X.base CX0 k x ps sp) (hr : Room k X.A) (hg : Gl X x) (hdb : (x == ("__debug__" : Str)) = false := by decide) :
    PE X (.Call (.Name x p) [] [] pos) (tCall sp [] E0 tNil) := by
  obtain ⟨f, fd, F, gf, kp, b⟩ := h.ex
  exact pe_call0 F hr hg gf kp b .nil pass0 hdb
end
/-! ### lists whose object is known to the sign; the sum of two -/
def LsE (K : PySem.W.Frag) (H : Hp) (a : Addr) (xs : List V) : Prop :=
  Rd H a (.lst xs) ∨ ∃ (its : List Value) (n : Nat), K.lookup a = some { cls := .type "list", data := .seq its.toArray n } ∧ Vals xs its ∧ xs.length ≤ sizeLine
theorem LsE.sq {K : PySem.W.Frag} {H : Hp} {a : Addr} {xs : List V} (h : LsE K H a xs) : SqL K H a xs := by
  rcases h with h | ⟨its, n, h1, h2, h3⟩
  · exact .inl h
  · exact .inr ⟨_, its.toArray, n, h1, rfl, rfl, rfl, by rw [List.size_toArray, ← h2.length]; exact h3, by simpa using h2⟩
theorem LsE.of {K : PySem.W.Frag} {H : Hp} {a : Addr} {xs : List V} (h : H a = some (.lst xs)) : LsE K H a xs := .inl (.inl h)
theorem LsE.same {K : PySem.W.Frag} {H H' : Hp} {a : Addr} {xs : List V} (e : Same H H') (h : LsE K H a xs) : LsE K H' a xs := by
  rcases h with (h | ⟨o, h⟩) | h
  · exact .inl (.inl (e _ _ h))
  · exact .inl (.inr ⟨o, e _ _ h⟩)
  · exact .inr h
section
variable {X : Cx}
theorem LsE.obj {pins : List (Addr × Obj)} {σ : L2.St} {H : Hp} {s : Shared} {a : Addr} {xs : List V} (I : Inv X pins σ H s) (h : LsE X.K H a xs) :
    ∃ (its : List Value) (n : Nat), Vals xs its ∧ s.heap.get? a = some { cls := .type "list", data := .seq its.toArray n } := by
  rcases h with h | ⟨its, n, h1, h2, _⟩
  · obtain ⟨_, its, n, r, e⟩ := h.ok I.hok
    exact ⟨its, n, r, e⟩
  · exact ⟨its, n, h2, I.kIn a _ h1⟩
def rCatE (K : PySem.W.Frag) : R2 := fun x y H Q => ∃ l b xs zs, x = .ref l ∧ y = .ref b ∧ LsE K H l xs ∧ LsE K H b zs ∧ xs.length + zs.length ≤ sizeLine ∧ ∀ p, H p = none → Q (.ref p) (upd H p (.lst (xs ++ zs)))
theorem op_catE : OpR X (binaryOp .Add) (rCatE X.K) := by
  intro pins s σ H x y v u Q I rx ry h
  obtain ⟨l, b, xs, zs, rfl, rfl, hl, hb, hz, q⟩ := h
  cases rx
  cases ry
  obtain ⟨ix, n, rl, el⟩ := hl.obj I
  obtain ⟨iz, m, rb, eb⟩ := hb.obj I
  refine PySem.P.add_list el eb ?_ (by simp only [List.size_toArray, ← rl.length, ← rb.length]; exact hz)
  have join : ix.toArray ++ iz.toArray = (ix ++ iz).toArray := by simp
  rw [join]
  exact ⟨.ref s.heap.objs.size, _, I.lnew (t' := s.toks) (rl.append rb) (by simpa using hz), rfl, q _ I.fresh⟩
end
/-! ### tests -/
theorem ifd {c A B : Prop} [Decidable c] (h1 : c → A) (h2 : ¬ c → B) : if decide c = true then A else B := by
  by_cases h : c
  · simp only [h, decide_true, if_true]; exact h1 h
  · simp only [h, decide_false, Bool.false_eq_true, if_false]; exact h2 h
theorem ifnd {c A B : Prop} [Decidable c] (h1 : ¬ c → A) (h2 : c → B) : if (!decide c) = true then A else B := by
  by_cases h : c
  · simp only [h, decide_true, Bool.not_true, Bool.false_eq_true, if_false]; exact h2 h
  · simp only [h, decide_false, Bool.not_false, if_true]; exact h1 h
theorem ifb {b : Bool} {A B : Prop} (h1 : b = true → A) (h2 : b = false → B) : if b = true then A else B := by
  cases b with
  | true => exact h1 rfl
  | false => exact h2 rfl
theorem ifT {b : Bool} {A B : Prop} (hb : b = true) (h : A) : if b = true then A else B := by rw [if_pos hb]; exact h
theorem ifF {b : Bool} {A B : Prop} (hb : b = false) (h : B) : if b = true then A else B := by rw [hb]; exact h
theorem int_eq {i j : Int} : (V.int i = V.int j) = (i = j) := by simp
theorem same_upd {H : Hp} {p : Addr} {o : HO} (h : H p = none) : Same H (upd H p o) := fun b x e => by
  rw [upd_ne (ne_of_none e h)]
  exact e
/-- a place that is free -/
def New (H : Hp) (p : Addr) : Prop := H p = none
theorem w_new {H : Hp} {R : Addr → Prop} (h : ∀ p, New H p → R p) : ∀ p, H p = none → R p := h
theorem ne_new {H : Hp} {a b : Addr} {o : HO} (h : H a = some o) (n : New H b) : a ≠ b := ne_of_none h n
/-- one more object over what was tracked at H -/
theorem _root_.L2.Same.new {H H' : Hp} {p : Addr} {o : HO} (e : Same H H') (h : New H' p) : Same H (upd H' p o) := e.trans (same_upd h)
theorem _root_.L2.Same.get {H H' : Hp} {p : Addr} {o : HO} (e : Same H H') (h : H p = some o) : H' p = some o := e p o h
theorem New.of {H H' : Hp} {p : Addr} (n : New H' p) (e : Same H H') : New H p := e.free n
/-- an object that H does not track is changed -/
theorem _root_.L2.Same.mut {H H' : Hp} {p : Addr} {o : HO} (e : Same H H') (h : New H p) : Same H (upd H' p o) := fun b x hb => by
  rw [upd_ne (ne_of_none hb h)]
  exact e b x hb
/-! ### isinstance of ints and bools -/
theorem kb_ii : kitB "int" "int" = some true := by decide +kernel
theorem kb_ib : kitB "int" "bool" = some false := by decide +kernel
theorem kb_bb : kitB "bool" "bool" = some true := by decide +kernel
theorem kb_bi : kitB "bool" "int" = some true := by decide +kernel
theorem kb_ll : kitB "list" "list" = some true := by decide +kernel
theorem kb_tt : kitB "tuple" "tuple" = some true := by decide +kernel
theorem kb_ni : kitB "NoneType" "int" = some false := by decide +kernel
theorem kb_nb : kitB "NoneType" "bool" = some false := by decide +kernel
theorem kb_tl : kitB "tuple" "list" = some false := by decide +kernel
theorem kb_lt : kitB "list" "tuple" = some false := by decide +kernel
/-! ### the law's end, the script's list known to the sign, its bits told -/
theorem walk_ofE {l : PySem.W.OpenLaw} {n k : Nat} {q : Program} {loose : List Str} {XP : (Str → Option Value) → Heap → Prop} {YP : World → Heap → Prop} {d : DefRec} {K : Params → PySem.W.Frag} {sp : PySem.W.Frag → Sp}
    (hn : l.most = some n) (hn2 : n ≤ sizeLine) (hdf : d.params.defaults = []) (hr : Room k callerA) (hY : ∀ (w : World) (h : Heap), YP w h → (K w.params).In h)
    (F : ∀ (w : World) (mg : Str → Option Value) (fa : Addr) (h : Heap), (K w.params).In h → h.Ns mainGlobals mg → mg d.name = some (.ref fa) →
      ∃ fd : FuncData, (∀ (s : Shared) (u : Value), BindsTo s fd ⟨[u], []⟩ [("script", u)]) ∧ ∀ base : Heap, (K w.params).In base → base.Ns mainGlobals mg → FnOk l.prog w (K w.params) mg base CX0 k fa fd ["script"] (sp (K w.params)))
    (hsp : ∀ (K : PySem.W.Frag) (H : Hp) (a : Addr) (ns : List Int), ns.length ≤ n → (∀ z ∈ ns, Builtin.Int.intBits z ≤ 1048576) → LsE K H a (ns.map V.int) → sp K [.ref a] H (fun v _ => v = .bl true) fun _ _ _ => False) :
    PySem.W.WalkO q loose XP YP l.row.toRowW d [] (fun f vs => PySem.call f vs) := by
  refine Att.attach_callB hn hdf fun w s₀ s₁ mg mb fa o pm cd doc a vs ns G Y ho hd hcd hmg hobj hints hlen hbits hg => ?_
  obtain ⟨fd, hb, hF⟩ := F w mg fa _ (hY w _ Y) G.T.g hmg
  refine law_call (hY w _ Y) G.T.g G.T.b G.T.builtins G.T.nolimit hg hobj hints (Nat.le_trans hlen hn2) hr hF hb (fun H _ hS => hsp _ H a ns hlen hbits ?_) fun _ _ _ h => h
  rcases hS with h | ⟨ob, its, m, hk, h1, h2, h3, h4, h5⟩
  · exact .inl h
  · have e := (hY w _ Y) a ob hk
    rw [hobj] at e
    cases e
    cases h3
    exact .inr ⟨vs, _, hk, by simpa using h5, by rw [List.length_map]; exact Nat.le_trans hlen hn2⟩
/-! ### bounds of operators -/
theorem cdivw_small {i j : Int} (h : 0 < j) (h2 : j < 2 ^ 200) : CDivW i j := wide_div (b := 200) h (by omega) (by decide) (by decide)
theorem nab_lt {i : Int} {a : Nat} (h1 : -(2 ^ a) < i) (h2 : i < 2 ^ a) : i.natAbs < 2 ^ a := by
  have e : ((2 ^ a : Nat) : Int) = (2 : Int) ^ a := by simp
  omega
theorem cmulx_small {i j : Int} (h1 : -(2 ^ 200) < i) (h2 : i < 2 ^ 200) (h3 : -(2 ^ 200) < j) (h4 : j < 2 ^ 200) : CMulX i j := mulx_ok (nab_lt h1 h2) (nab_lt h3 h4) (by decide)
theorem cshl_one {j : Int} (h : 0 ≤ j) (h2 : j ≤ 100000) : CShl 1 j := by
  have e : ((j.toNat : Nat) : Int) = j := Int.toNat_of_nonneg h
  rw [← e]
  exact shl_ok (n := 1) (by decide) (by omega)
theorem cshl_small {i j : Int} (h0 : -(2 ^ 200) < i) (h1 : i < 2 ^ 200) (h : 0 ≤ j) (h2 : j ≤ 100000) : CShl i j := by
  have e : ((j.toNat : Nat) : Int) = j := Int.toNat_of_nonneg h
  rw [← e]
  exact shl_ok (n := 200) (nab_lt h0 h1) (by omega)
theorem szle {α : Type} {xs : List α} (h : Nat.ble xs.length 1000 = true) : xs.length ≤ sizeLine := Nat.le_trans (Nat.le_of_ble_eq_true h) (by decide)
theorem szlt {α : Type} {xs : List α} (h : xs.length < 1000000) : xs.length < sizeLine := Nat.lt_of_lt_of_le h (by decide)
theorem atI_get {α : Type} {xs : List α} {i : Int} {j : Nat} (e : i = j) (h : j < xs.length) : atI xs i = some xs[j] := by
  subst e
  exact atI_nat (List.getElem?_eq_getElem h)
theorem atI_map {α β : Type} {f : α → β} {xs : List α} {i : Int} {j : Nat} (e : i = j) (h : j < xs.length) : atI (xs.map f) i = some (f xs[j]) := by
  subst e
  exact atI_nat (by rw [List.getElem?_map, List.getElem?_eq_getElem h]; rfl)
/-! ### the readings, one at a time -/
section
variable {σ : L2.St} {H : Hp} {Q : VK} {QT : Bool → Hp → Prop} {QA : List V → Hp → Prop} {D : Ends} {v x y z : V} {ta tb tc te tv : TE} {t u c : TT} {ts us : TS} {tl tr : TA} {r : R2} {g : TG} {gs : TGs} {i j : Nat} {m n : Int} {K : PySem.W.Frag} {a p q C dx : Addr} {f : Str} {xs ys : List V} {fs : List (Str × V)}
theorem w_seq (h : ts { D with nx := us D } σ H) : tSeq ts us D σ H := h
theorem w_next (h : D.nx σ H) : tNext D σ H := h
theorem w_var (h : ∃ v, σ[i]? = some (some v) ∧ Q v H) : tVar i σ H Q := h
theorem w_c (h : Q v H) : tC v σ H Q := h
theorem w_op (h : ta σ H fun x H1 => tb σ H1 fun y H2 => r x y H2 Q) : tOp r ta tb σ H Q := h
theorem w_un {r : V → Hp → VK → Prop} (h : ta σ H fun x H1 => r x H1 Q) : tUn r ta σ H Q := h
theorem w_rI0 {g : Int → Int → V} (h : Q (g m n) H) : rI0 g (.int m) (.int n) H Q := ⟨m, n, rfl, rfl, h⟩
theorem w_mod (h0 : 0 < n) (h : Q (.int (m % n)) H) : rI (fun _ j => 0 < j) (fun i j => .int (i % j)) (.int m) (.int n) H Q := ⟨m, n, rfl, rfl, h0, h⟩
theorem w_div (h0 : 0 < n) (h1 : n < 2 ^ 200) (h : Q (.int (m / n)) H) : rI CDivW (fun i j => .int (i / j)) (.int m) (.int n) H Q := ⟨m, n, rfl, rfl, cdivw_small h0 h1, h⟩
theorem w_shr (h0 : 0 ≤ n) (h : Q (.int (m / 2 ^ n.toNat)) H) : rI (fun _ j => 0 ≤ j) (fun i j => .int (i / 2 ^ j.toNat)) (.int m) (.int n) H Q := ⟨m, n, rfl, rfl, h0, h⟩
theorem w_mul (h1 : -(2 ^ 200) < m) (h2 : m < 2 ^ 200) (h3 : -(2 ^ 200) < n) (h4 : n < 2 ^ 200) (h : Q (.int (m * n)) H) : rI CMulX (fun i j => .int (i * j)) (.int m) (.int n) H Q := ⟨m, n, rfl, rfl, cmulx_small h1 h2 h3 h4, h⟩
theorem w_shl1 (h1 : 0 ≤ n) (h2 : n ≤ 100000) (h : Q (.int (1 * 2 ^ n.toNat)) H) : rI CShl (fun i j => .int (i * 2 ^ j.toNat)) (.int 1) (.int n) H Q := ⟨1, n, rfl, rfl, cshl_one h1 h2, h⟩
theorem w_shl (h1 : -(2 ^ 200) < m) (h2 : m < 2 ^ 200) (h3 : 0 ≤ n) (h4 : n ≤ 100000) (h : Q (.int (m * 2 ^ n.toNat)) H) : rI CShl (fun i j => .int (i * 2 ^ j.toNat)) (.int m) (.int n) H Q := ⟨m, n, rfl, rfl, cshl_small h1 h2 h3 h4, h⟩
theorem w_pow (h0 : CPow m n) (h : Q (.int (m ^ n.toNat)) H) : rI CPow (fun i j => .int (i ^ j.toNat)) (.int m) (.int n) H Q := ⟨m, n, rfl, rfl, h0, h⟩
theorem w_rU {g : Int → V} (h : Q (g m) H) : rU g (.int m) H Q := ⟨m, rfl, h⟩
theorem dec_ii : decide (V.int m = V.int n) = decide (m = n) := by
  by_cases h : m = n
  · rw [h]; simp
  · simp [h]
theorem dec_bb {a b : Bool} : decide (V.bl a = V.bl b) = decide (a = b) := by cases a <;> cases b <;> decide
theorem dec_ss {a b : Str} : decide (V.str a = V.str b) = decide (a = b) := by
  by_cases h : a = b
  · rw [h]; simp
  · simp [h]
theorem w_eqI (h : Q (.bl (decide (m = n))) H) : rEq (.int m) (.int n) H Q := ⟨rfl, by rw [dec_ii]; exact h⟩
theorem w_eqB {a b : Bool} (h : Q (.bl (decide (a = b))) H) : rEq (.bl a) (.bl b) H Q := ⟨rfl, by rw [dec_bb]; exact h⟩
theorem w_eqS {a b : Str} (h : Q (.bl (decide (a = b))) H) : rEq (.str a) (.str b) H Q := ⟨rfl, by rw [dec_ss]; exact h⟩
theorem w_eqNI (h : Q (.bl false) H) : rEq .non (.int n) H Q := ⟨rfl, by rw [decide_eq_false (by simp)]; exact h⟩
theorem w_eqIN (h : Q (.bl false) H) : rEq (.int n) .non H Q := ⟨rfl, by rw [decide_eq_false (by simp)]; exact h⟩
theorem w_neI (h : Q (.bl (!decide (m = n))) H) : rNe (.int m) (.int n) H Q := ⟨rfl, by rw [dec_ii]; exact h⟩
theorem w_neB {a b : Bool} (h : Q (.bl (!decide (a = b))) H) : rNe (.bl a) (.bl b) H Q := ⟨rfl, by rw [dec_bb]; exact h⟩
theorem w_neS {a b : Str} (h : Q (.bl (!decide (a = b))) H) : rNe (.str a) (.str b) H Q := ⟨rfl, by rw [dec_ss]; exact h⟩
theorem w_ixL (hs : SqL K H p xs) (ha : atI xs m = some v) (h : Q v H) : rIxL K (.ref p) (.int m) H Q := ⟨p, xs, m, v, rfl, rfl, hs, ha, h⟩
theorem w_ixT (hs : SqT K H p xs) (ha : atI xs m = some v) (h : Q v H) : rIxT K (.ref p) (.int m) H Q := ⟨p, xs, m, v, rfl, rfl, hs, ha, h⟩
theorem w_ixl (hs : SqL K H p xs) (ha : atI xs m = some v) (h : Q v H) : rIx K (.ref p) (.int m) H Q := .inl ⟨p, xs, m, v, rfl, rfl, hs, ha, h⟩
theorem w_ixt (hs : SqT K H p xs) (ha : atI xs m = some v) (h : Q v H) : rIx K (.ref p) (.int m) H Q := .inr (.inl ⟨p, xs, m, v, rfl, rfl, hs, ha, h⟩)
theorem w_catE (h1 : LsE K H p xs) (h2 : LsE K H q ys) (hz : xs.length + ys.length ≤ sizeLine) (h : ∀ p, H p = none → Q (.ref p) (upd H p (.lst (xs ++ ys)))) : rCatE K (.ref p) (.ref q) H Q := ⟨p, q, xs, ys, rfl, rfl, h1, h2, hz, h⟩
theorem w_rep (h1 : H p = some (.lst xs)) (h2 : -(2 ^ 63) ≤ n) (h3 : n < 2 ^ 63) (h4 : xs.length * n.toNat ≤ sizeLine) (h : ∀ p, H p = none → Q (.ref p) (upd H p (.lst (List.replicate n.toNat xs).flatten))) : rRep (.ref p) (.int n) H Q := ⟨p, n, xs, rfl, rfl, h1, h2, h3, h4, h⟩
theorem w_test (h : te σ H fun x H' => ∃ k, x = .bl k ∧ QT k H') : tTest te σ H QT := h
theorem w_tB (h : te σ H fun x H' => ∃ k, x = .bl k ∧ QT k H') : tB te σ H QT := h
theorem w_bl {b : Bool} {R : Bool → Prop} (h : R b) : ∃ k, V.bl b = .bl k ∧ R k := ⟨b, rfl, h⟩
theorem w_and (h : t σ H fun c H1 => if c = true then u σ H1 QT else QT false H1) : tAnd t u σ H QT := h
theorem w_or (h : t σ H fun c H1 => if c = true then QT true H1 else u σ H1 QT) : tOr t u σ H QT := h
theorem w_not (h : t σ H fun c H1 => QT (!c) H1) : tNot t σ H QT := h
theorem w_andV (h : ta σ H fun x H1 => ∃ c, x = .bl c ∧ if c = true then tb σ H1 Q else Q (.bl false) H1) : tAndV ta tb σ H Q := h
theorem w_orV (h : ta σ H fun x H1 => ∃ c, x = .bl c ∧ if c = true then Q (.bl true) H1 else tb σ H1 Q) : tOrV ta tb σ H Q := h
theorem w_notV (h : ta σ H fun x H1 => ∃ c, x = .bl c ∧ Q (.bl (!c)) H1) : tNotV ta σ H Q := h
theorem w_ifE (h : t σ H fun c H1 => if c = true then ta σ H1 Q else tb σ H1 Q) : tIf t ta tb σ H Q := h
theorem w_asg (h : te σ H fun x H1 => g x σ H1 D.nx) : tAsg te g D σ H := h
theorem w_gn {R : L2.St → Hp → Prop} (h : R (σ.set i (some v)) H) : gName i v σ H R := h
theorem w_gt {R : L2.St → Hp → Prop} {k : Nat} (hs : SqT K H p xs) (hl : xs.length = k) (h : gs xs σ H R) : gTup K k gs (.ref p) σ H R := ⟨p, xs, rfl, hs, hl, h⟩
theorem w_gc {R : L2.St → Hp → Prop} (h : g v σ H fun σ' H' => gs xs σ' H' R) : gCons g gs (v :: xs) σ H R := ⟨v, xs, rfl, h⟩
theorem w_g0 {R : L2.St → Hp → Prop} (h : R σ H) : gNil [] σ H R := ⟨rfl, h⟩
theorem w_gs {R : L2.St → Hp → Prop} {tt : TSet} (h : ta σ H fun o H1 => tb σ H1 fun i H2 => tt o i v H2 fun H3 => R σ H3) : gSub ta tb tt v σ H R := h
theorem w_setL {R : Hp → Prop} (hp : H p = some (.lst xs)) (hj : ixN xs.length m = some j) (h : R (upd H p (.lst (xs.set j v)))) : rSetL (.ref p) (.int m) v H R := ⟨p, xs, m, j, rfl, rfl, hp, hj, h⟩
theorem w_drop (h : te σ H fun _ H1 => D.nx σ H1) : tDrop te D σ H := h
theorem w_ret (h : te σ H D.rt) : tRet te D σ H := h
theorem w_retN (h : D.rt .non H) : tRetN D σ H := h
theorem w_if (h : t σ H fun b H1 => if b = true then ts D σ H1 else us D σ H1) : tIfS t ts us D σ H := h
theorem w_break (h : D.bk σ H) : tBreak D σ H := h
theorem w_cont (h : D.ct σ H) : tCont D σ H := h
theorem w_aug {ti : TIp} (h : ∃ x, σ[i]? = some (some x) ∧ te σ H fun y H1 => ti x y H1 fun z H2 => D.nx (σ.set i (some z)) H2) : tAug i te ti D σ H := h
theorem w_ip {f : Int → Int → Int} (h : Q (.int (f m n)) H) : ipI f (.int m) (.int n) H Q := ⟨m, n, rfl, rfl, h⟩
theorem w_par (h : tl σ H fun vs H1 => ∃ v w, vs = [v, w] ∧ D.nx ((σ.set i (some v)).set j (some w)) H1) : tPar i j tl D σ H := h
theorem w_par2 {R : V → V → Prop} (h : R v x) : ∃ a b, [v, x] = [a, b] ∧ R a b := ⟨v, x, rfl, h⟩
theorem w_nil (h : QA [] H) : tNil σ H QA := h
theorem w_cons (h : ta σ H fun x H1 => tl σ H1 fun xs H2 => QA (x :: xs) H2) : tCons ta tl σ H QA := h
theorem w_call {sp : Sp} {E : XK} (h : tl σ H fun vs H1 => sp vs H1 Q E) : tCall sp [] E tl σ H Q := by
  unfold tCall
  simp only [List.append_nil]
  exact h
theorem w_cb {r : List V → Hp → VK → Prop} (h : tl σ H fun vs H1 => r vs H1 Q) : tCB r tl σ H Q := h
theorem w_tup (h : tl σ H fun xs H1 => xs.length ≤ sizeLine ∧ ∀ p, H1 p = none → Q (.ref p) (upd H1 p (.tup xs))) : tTup tl σ H Q := h
theorem w_lst (h : tl σ H fun xs H1 => xs.length ≤ sizeLine ∧ ∀ p, H1 p = none → Q (.ref p) (upd H1 p (.lst xs))) : tLst tl σ H Q := h
theorem w_sl {r : V → Option Int → Option Int → Hp → VK → Prop} {to tu : TO} (h : te σ H fun x H1 => to σ H1 fun l H2 => tu σ H2 fun u H3 => r x l u H3 Q) : tSl r te to tu σ H Q := h
theorem w_np {R : Option Int → Hp → Prop} (h : R none H) : tNoPart σ H R := h
theorem w_part {R : Option Int → Hp → Prop} (h : te σ H fun x H1 => ∃ i, x = .int i ∧ R (some i) H1) : tPart te σ H R := h
theorem w_partI {R : Int → Prop} (h : R m) : ∃ i, V.int m = .int i ∧ R i := ⟨m, rfl, h⟩
theorem w_slL {lo hi : Option Int} (hs : SqL K H p xs) (h : ∀ q, H q = none → Q (.ref q) (upd H q (.lst (cutV xs lo hi)))) : rSlL K (.ref p) lo hi H Q := ⟨p, xs, rfl, hs, h⟩
theorem w_bm {T : String} {r : V → List V → Hp → VK → Prop} (h : ta σ H fun x H1 => tyV K T x H1 ∧ tl σ H1 fun xs H2 => r x xs H2 Q) : tBM K T r ta tl σ H Q := h
theorem w_bm0 {T : String} {r : V → List V → Hp → VK → Prop} (h : ta σ H fun x H1 => tyV K T x H1 ∧ r x [] H1 Q) : tBM0 K T r ta σ H Q := h
theorem w_tyl {R : Prop} (hs : SqL K H p xs) (h : R) : tyV K "list" (.ref p) H ∧ R := ⟨.inl ⟨rfl, xs, hs⟩, h⟩
theorem w_app (hp : H p = some (.lst xs)) (hl : xs.length < sizeLine) (h : Q .non (upd H p (.lst (xs ++ [v])))) : rAppend (.ref p) [v] H Q := ⟨p, xs, v, rfl, rfl, hp, hl, h⟩
theorem w_rev (hp : H p = some (.lst xs)) (h : Q .non (upd H p (.lst xs.reverse))) : rReverse (.ref p) [] H Q := ⟨p, xs, rfl, rfl, hp, h⟩
theorem w_len {R : List V → Prop} (hs : SqL K H p xs) (h : R xs) : ∃ p' ys, [V.ref p] = [.ref p'] ∧ (SqL K H p' ys ∨ SqT K H p' ys) ∧ R ys := ⟨p, xs, rfl, .inl hs, h⟩
theorem w_lenT {R : List V → Prop} (hs : SqT K H p xs) (h : R xs) : ∃ p' ys, [V.ref p] = [.ref p'] ∧ (SqL K H p' ys ∨ SqT K H p' ys) ∧ R ys := ⟨p, xs, rfl, .inr hs, h⟩
theorem w_isi {s : String} {b : Bool} (hk : kitB "int" s = some b) (h : Q (.bl b) H) : rIsi K [.int m, .ty s] H Q := ⟨_, _, _, _, b, rfl, .ty _, .base (.int _), kit_ty hk, h⟩
theorem w_isb {k : Bool} {s : String} {b : Bool} (hk : kitB "bool" s = some b) (h : Q (.bl b) H) : rIsi K [.bl k, .ty s] H Q := ⟨_, _, _, _, b, rfl, .ty _, .base (.bl _), kit_ty hk, h⟩
theorem w_isn {s : String} {b : Bool} (hk : kitB "NoneType" s = some b) (h : Q (.bl b) H) : rIsi K [.non, .ty s] H Q := ⟨_, _, _, _, b, rfl, .ty _, .base .non, kit_ty hk, h⟩
theorem w_isl {s : String} {b : Bool} (hp : H p = some (.lst xs)) (hk : kitB "list" s = some b) (h : Q (.bl b) H) : rIsi K [.ref p, .ty s] H Q := ⟨_, _, _, _, b, rfl, .ty _, .base (.lst hp), kit_ty hk, h⟩
theorem w_ist {s : String} {b : Bool} (hp : H p = some (.tup xs)) (hk : kitB "tuple" s = some b) (h : Q (.bl b) H) : rIsi K [.ref p, .ty s] H Q := ⟨_, _, _, _, b, rfl, .ty _, .base (.tup hp), kit_ty hk, h⟩
theorem w_2i {R : Int → Int → Prop} (h : R m n) : ∃ i j, [V.int m, V.int n] = [.int i, .int j] ∧ R i j := ⟨m, n, rfl, h⟩
theorem w_1i {R : Int → Prop} (h : R m) : ∃ i, [V.int m] = [.int i] ∧ R i := ⟨m, rfl, h⟩
theorem w_int1 {R : Int → Prop} {S : Prop} (h : R m) : (∃ i, [V.int m] = [.int i] ∧ R i) ∨ S := .inl ⟨m, rfl, h⟩
theorem w_intb {b : Bool} {R : Bool → Prop} {S : Prop} (h : R b) : S ∨ ∃ k, [V.bl b] = [.bl k] ∧ R k := .inr ⟨b, rfl, h⟩
theorem w_isN {R : Prop} (h : R) : V.non = .non ∧ R := ⟨rfl, h⟩
theorem w_fld {v : V} {R : V → Prop} (hp : H p = some (.ins C dx fs)) (hc : Cls K C) (hn : NoAttr K C f) (hl : fs.lookup f = some v) (h : R v) : ∃ a C' dx' fs' v', V.ref p = .ref a ∧ H a = some (.ins C' dx' fs') ∧ Cls K C' ∧ NoAttr K C' f ∧ fs'.lookup f = some v' ∧ R v' := ⟨p, C, dx, fs, v, rfl, hp, hc, hn, hl, h⟩
theorem w_fl (h : ta σ H fun x H1 => ∃ a C dx fs v, x = .ref a ∧ H1 a = some (.ins C dx fs) ∧ Cls K C ∧ NoAttr K C f ∧ fs.lookup f = some v ∧ Q v H1) : tFld K ta f σ H Q := h
theorem w_for {wi : TI} {tu : TS} (h : wi σ H fun J H1 => ∃ W : Nat → Nat → L2.St → Hp → Prop, (∃ m, W 0 m σ H1) ∧ ∀ i m σ H, W i m σ H →
  (J.stop i H ∧ D.nx σ H) ∨ (J.go i H ∧ ∃ N : L2.St → Hp → Prop, (∀ σ' H', N σ' H' → ∃ m', m' < m ∧ W (i + 1) m' σ' H') ∧ ∀ x H', J.yld i H x H' → g x σ H' fun σ2 H2 => tu { D with nx := N, ct := N, bk := D.nx } σ2 H2)) : tFor wi g tu D σ H := h
theorem w_iL {R : It → Hp → Prop} (h : te σ H fun x H1 => ∃ a, x = .ref a ∧ (∃ xs, SqL K H1 a xs) ∧ R (Itl K a) H1) : iList K te σ H R := h
theorem w_iLq {R : Addr → Prop} (hs : SqL K H p xs) (h : R p) : ∃ a, V.ref p = .ref a ∧ (∃ xs, SqL K H a xs) ∧ R a := ⟨p, rfl, ⟨xs, hs⟩, h⟩
theorem w_iTu {R : It → Hp → Prop} (h : te σ H fun x H1 => ∃ a, x = .ref a ∧ (∃ xs, SqT K H1 a xs) ∧ R (Itt K a) H1) : iTup K te σ H R := h
theorem w_iTq {R : Addr → Prop} (hs : SqT K H p xs) (h : R p) : ∃ a, V.ref p = .ref a ∧ (∃ xs, SqT K H a xs) ∧ R a := ⟨p, rfl, ⟨xs, hs⟩, h⟩
theorem w_r1 {R : It → Hp → Prop} (h : tl σ H fun vs H1 => ∃ j : Int, vs = [.int j] ∧ -(2 ^ 62) ≤ j ∧ j < 2 ^ 62 ∧ R (Itr 0 j.toNat) H1) : iRng1 tl σ H R := h
theorem w_r1q {R : Int → Prop} (h1 : -(2 ^ 62) ≤ m) (h2 : m < 2 ^ 62) (h : R m) : ∃ j : Int, [V.int m] = [.int j] ∧ -(2 ^ 62) ≤ j ∧ j < 2 ^ 62 ∧ R j := ⟨m, rfl, h1, h2, h⟩
theorem w_r2 {R : It → Hp → Prop} (h : tl σ H fun vs H1 => ∃ i j : Int, vs = [.int i, .int j] ∧ (-(2 ^ 62) ≤ i ∧ i < 2 ^ 62 ∧ -(2 ^ 62) ≤ j ∧ j < 2 ^ 62) ∧ R (Itr i (j - i).toNat) H1) : iRng2 tl σ H R := h
theorem w_r2q {R : Int → Int → Prop} (h1 : -(2 ^ 62) ≤ m) (h2 : m < 2 ^ 62) (h3 : -(2 ^ 62) ≤ n) (h4 : n < 2 ^ 62) (h : R m n) : ∃ i j : Int, [V.int m, V.int n] = [.int i, .int j] ∧ (-(2 ^ 62) ≤ i ∧ i < 2 ^ 62 ∧ -(2 ^ 62) ≤ j ∧ j < 2 ^ 62) ∧ R i j := ⟨m, n, rfl, ⟨h1, h2, h3, h4⟩, h⟩
theorem w_len1 {R : Prop} (hl : Nat.ble xs.length 1000 = true) (h : R) : xs.length ≤ sizeLine ∧ R := ⟨szle hl, h⟩
end
theorem same_read {K : PySem.W.Frag} {H H' : Hp} {a : Addr} {xs : List V} (e : Same H H') (h : SqT K H a xs) : SqT K H' a xs := by
  rcases h with (h | ⟨o, h⟩) | h
  · exact .inl (.inl (e _ _ h))
  · exact .inl (.inr ⟨o, e _ _ h⟩)
  · exact .inr h
theorem w_iT {A B : Prop} (h : A) : if true = true then A else B := by rw [if_pos rfl]; exact h
theorem w_iF {A B : Prop} (h : B) : if false = true then A else B := by rw [if_neg Bool.false_ne_true]; exact h
theorem w_iNT {A B : Prop} (h : B) : if (!true) = true then A else B := by rw [Bool.not_true, if_neg Bool.false_ne_true]; exact h
theorem w_iNF {A B : Prop} (h : A) : if (!false) = true then A else B := by rw [Bool.not_false, if_pos rfl]; exact h
theorem w_iNN {A B : Prop} {b : Bool} (h : if b = true then A else B) : if (!!b) = true then A else B := by rw [Bool.not_not]; exact h

/-! ### data -/
mutual
theorem dpSame {K : PySem.W.Frag} {H H' : Hp} (e : Same H H') : ∀ (d : PyData) (v : V), Dp K H v d → Dp K H' v d
  | .none, _, h => by cases h; exact .non
  | .bool _, _, h => by cases h; exact .bl _
  | .int _, _, h => by cases h; exact .int _
  | .str _, _, h => by cases h; exact .str _
  | .list ds, _, h => by
    cases h with
    | lst hs ha => exact .lst (e.seq hs) (dpSameAll e ds _ ha)
  | .tuple ds, _, h => by
    cases h with
    | tup hs ha => exact .tup (same_read e hs) (dpSameAll e ds _ ha)
  | .dict _, _, h => by cases h
theorem dpSameAll {K : PySem.W.Frag} {H H' : Hp} (e : Same H H') : ∀ (ds : List PyData) (xs : List V), DpAll K H xs ds → DpAll K H' xs ds
  | [], _, h => by cases h; exact .nil
  | d :: ds, _, h => by
    cases h with
    | cons h1 h2 => exact .cons (dpSame e d _ h1) (dpSameAll e ds _ h2)
end
section
variable {K : PySem.W.Frag} {H H' : Hp} {xs ys : List V} {ds es : List PyData} {v : V} {d : PyData} {a : Addr}
theorem _root_.L2.Dp.same (e : Same H H') (h : Dp K H v d) : Dp K H' v d := dpSame e d v h
theorem _root_.L2.DpAll.same (e : Same H H') (h : DpAll K H xs ds) : DpAll K H' xs ds := dpSameAll e ds xs h
theorem dpaLen : ∀ {xs : List V} {ds : List PyData}, DpAll K H xs ds → xs.length = ds.length
  | _, _, .nil => rfl
  | _, _, .cons _ t => by rw [List.length_cons, List.length_cons, dpaLen t]
theorem dpaGet : ∀ {xs : List V} {ds : List PyData} {i : Nat} {d : PyData}, DpAll K H xs ds → ds[i]? = some d → ∃ v, xs[i]? = some v ∧ Dp K H v d
  | _, _, _, _, .nil, e => by simp at e
  | _, _, 0, _, .cons h _, e => by simp at e; subst e; exact ⟨_, rfl, h⟩
  | _, _, i + 1, _, .cons _ t, e => by
    obtain ⟨v, h1, h2⟩ := dpaGet (i := i) t (by simpa using e)
    exact ⟨v, by simpa using h1, h2⟩
theorem dpaApp : ∀ {xs ys : List V} {ds es : List PyData}, DpAll K H xs ds → DpAll K H ys es → DpAll K H (xs ++ ys) (ds ++ es)
  | _, _, _, _, .nil, h => h
  | _, _, _, _, .cons h t, s => .cons h (dpaApp t s)
theorem dpInts : ∀ ns : List Int, DpAll K H (ns.map V.int) (ns.map PyData.int)
  | [] => .nil
  | n :: r => .cons (.int n) (dpInts r)
theorem dpAll_ints : ∀ {ns : List Int} {xs : List V}, DpAll K H xs (ns.map PyData.int) → xs = ns.map V.int
  | [], _, h => by cases h; rfl
  | n :: r, _, h => by
    cases h with
    | cons h t => cases h; rw [dpAll_ints t]; rfl
theorem dpInt {i : Int} (h : Dp K H v (.int i)) : v = .int i := by cases h; rfl
theorem dpTup (h : Dp K H v (.tuple ds)) : ∃ a xs, v = .ref a ∧ SqT K H a xs ∧ DpAll K H xs ds := by cases h with | tup h1 h2 => exact ⟨_, _, rfl, h1, h2⟩
theorem dpLst (h : Dp K H v (.list ds)) : ∃ a xs, v = .ref a ∧ SqL K H a xs ∧ DpAll K H xs ds := by cases h with | lst h1 h2 => exact ⟨_, _, rfl, h1, h2⟩
theorem dpLstA (h : Dp K H (.ref a) (.list ds)) : ∃ xs, SqL K H a xs ∧ DpAll K H xs ds := by cases h with | lst h1 h2 => exact ⟨_, h1, h2⟩
theorem dpTupA (h : Dp K H (.ref a) (.tuple ds)) : ∃ xs, SqT K H a xs ∧ DpAll K H xs ds := by cases h with | tup h1 h2 => exact ⟨_, h1, h2⟩
end
/-- data that == serves: no dicts, no deeper than n -/
def Good (n : Nat) (d : PyData) : Prop := d.canLay0 = true ∧ d.depth ≤ n
theorem goodInt {n : Nat} {i : Int} : Good n (.int i) := ⟨rfl, Nat.zero_le _⟩
theorem goodBool {n : Nat} {b : Bool} : Good n (.bool b) := ⟨rfl, Nat.zero_le _⟩
theorem goodNone {n : Nat} : Good n .none := ⟨rfl, Nat.zero_le _⟩
theorem goodAll {n : Nat} : ∀ {ds : List PyData}, (∀ d ∈ ds, Good n d) → PyData.canLayAll0 ds = true ∧ PyData.depthAll ds ≤ n
  | [], _ => ⟨rfl, Nat.zero_le _⟩
  | d :: ds, h => by
    obtain ⟨h1, h2⟩ := h d List.mem_cons_self
    obtain ⟨h3, h4⟩ := goodAll fun e he => h e (List.mem_cons_of_mem _ he)
    exact ⟨by simp [PyData.canLayAll0, h1, h3], by simp only [PyData.depthAll]; omega⟩
theorem goodLst {n : Nat} {ds : List PyData} (h : ∀ d ∈ ds, Good n d) : Good (n + 1) (.list ds) := ⟨(goodAll h).1, Nat.succ_le_succ (goodAll h).2⟩
theorem goodTup {n : Nat} {ds : List PyData} (h : ∀ d ∈ ds, Good n d) : Good (n + 1) (.tuple ds) := ⟨(goodAll h).1, Nat.succ_le_succ (goodAll h).2⟩
theorem goodMap {α : Type} {n : Nat} {f : α → PyData} {xs : List α} (h : ∀ x, Good n (f x)) : ∀ d ∈ xs.map f, Good n d := by
  intro d hd
  obtain ⟨x, _, rfl⟩ := List.mem_map.mp hd
  exact h x
theorem Good.mono {n m : Nat} {d : PyData} (h : Good n d) (e : n ≤ m) : Good m d := ⟨h.1, Nat.le_trans h.2 e⟩
theorem Good.shaped {n : Nat} {d : PyData} (h : Good n d) (e : n ≤ 64) : SeqAt.shaped d = true := by
  unfold SeqAt.shaped
  rw [h.1, decide_eq_true (Nat.le_trans h.2 e)]
  rfl
theorem Good.eqv {n : Nat} {d : PyData} (h : Good n d) : PyData.eqv d d = true := SeqAt.eqv_refl d h.1
section
variable {K : PySem.W.Frag} {H : Hp} {x y : V} {d : PyData} {Q : VK} {n : Nat}
/-- two things of the same data are equal -/
theorem w_eqD (h1 : Dp K H x d) (h2 : Dp K H y d) (g : Good n d) (hn : n ≤ 64) (h : Q (.bl true) H) : rEqD K x y H Q := ⟨d, d, h1, h2, g.shaped hn, g.shaped hn, by rw [g.eqv]; exact h⟩
theorem w_neD (h1 : Dp K H x d) (h2 : Dp K H y d) (g : Good n d) (hn : n ≤ 64) (h : Q (.bl false) H) : rNeD K x y H Q := ⟨d, d, h1, h2, g.shaped hn, g.shaped hn, by rw [g.eqv]; exact h⟩
end
/-! ### xs[i] op= e -/
def rGetL (K : PySem.W.Frag) : V → V → Hp → VK → Prop := fun x y H Q => ∃ (p : Addr) (xs : List V) (j : Nat) (v : V), x = .ref p ∧ y = .int j ∧ SqL K H p xs ∧ xs[j]? = some v ∧ Q v H
theorem get_list {X : Cx} : PGet X (rGetL X.K) := by
  intro pins s σ H o i ov iv Q I ro ri h
  obtain ⟨p, xs, j, v, rfl, rfl, hq, he, q⟩ := h
  cases ro
  obtain ⟨t, rfl⟩ := ri
  obtain ⟨its, r, pl, hz⟩ := I.list hq
  obtain ⟨u, eu, ru⟩ := r.get he
  have hj : j < xs.length := (List.getElem?_eq_some_iff.mp he).1
  have hn := line63
  exact wpAny_getItem_list pl.isList (Int.natCast_nonneg j) (by omega) (by simpa using eu) ⟨v, H, I, ru, q⟩
theorem ps_augL {X : Cx} {o i e : Expr} {to ti te : TE} {tip : TIp} {op : Operator} {tpos pos : Pos} (ho : PE X o to) (hi : PE X i ti) (he : PE X e te) (hp : PIp X op tip)
    (ha : ∀ ov iv new, augStore i ov iv new = (do holding [new, ov, iv] (setItem ov iv new); release [new, ov, iv] []; pure .next) := by intros; rfl) : PS X (.AugAssign (.Subscript o i tpos) op e pos) (tAugS to ti te (rGetL X.K) tip rSetL) :=
  ps_augS ho hi get_list he hp set_list ha
section
variable {σ : L2.St} {H : Hp} {Q : VK} {D : Ends} {K : PySem.W.Frag} {p : Addr} {xs : List V} {v : V} {j : Nat}
theorem w_augS {to ti te : TE} {tget : V → V → Hp → VK → Prop} {tip : TIp} {tset : TSet} (h : to σ H fun o H1 => ti σ H1 fun i H2 => tget o i H2 fun x H3 => te σ H3 fun y H4 => tip x y H4 fun z H5 => tset o i z H5 fun H6 => D.nx σ H6) : tAugS to ti te tget tip tset D σ H := h
theorem w_getL (hs : SqL K H p xs) (he : xs[j]? = some v) (h : Q v H) : rGetL K (.ref p) (.int (j : Int)) H Q := ⟨p, xs, j, v, rfl, rfl, hs, he, h⟩
theorem ixN_nat {n j : Nat} (h : j < n) : ixN n (j : Int) = some j := by
  unfold ixN
  rw [if_pos (Int.natCast_nonneg j), if_pos (by omega)]
  simp
end
/-! ### range from nought -/
theorem for_r0 {m : Int} {n : Nat} {g : TG} {tb : TS} {D : Ends} {σ : L2.St} {H : Hp} (hm : m = n) (Pv : Nat → L2.St → Hp → Prop) (h0 : Pv 0 σ H)
    (hs : ∀ i σ H, i < n → Pv i σ H → g (.int (i : Nat)) σ H fun σ2 H2 => tb { D with nx := Pv (i + 1), ct := Pv (i + 1), bk := D.nx } σ2 H2) (hd : ∀ σ H, Pv n σ H → D.nx σ H) :
    ∃ W : Nat → Nat → L2.St → Hp → Prop, (∃ m, W 0 m σ H) ∧ ∀ i k σ H, W i k σ H →
      ((Itr 0 m.toNat).stop i H ∧ D.nx σ H) ∨ ((Itr 0 m.toNat).go i H ∧ ∃ N : L2.St → Hp → Prop, (∀ σ' H', N σ' H' → ∃ m', m' < k ∧ W (i + 1) m' σ' H') ∧ ∀ x H', (Itr 0 m.toNat).yld i H x H' → g x σ H' fun σ2 H2 => tb { D with nx := N, ct := N, bk := D.nx } σ2 H2) := by
  subst hm
  rw [Int.toNat_natCast]
  exact for_range (lo := 0) Pv h0 (fun i σ H hi hp => by rw [Int.zero_add]; exact hs i σ H hi hp) hd
/-! ### bits of numbers from nought on -/
theorem shr_nat (m k : Nat) : (m : Int) / 2 ^ (Int.toNat (k : Int)) = ((m >>> k : Nat) : Int) := by
  rw [Int.toNat_natCast, Nat.shiftRight_eq_div_pow]
  simp
theorem shl_nat (m k : Nat) : (m : Int) * 2 ^ (Int.toNat (k : Int)) = ((m <<< k : Nat) : Int) := by
  rw [Int.toNat_natCast, Nat.shiftLeft_eq]
  simp
theorem shl_one (k : Nat) : (1 : Int) * 2 ^ (Int.toNat (k : Int)) = ((2 ^ k : Nat) : Int) := by
  rw [Int.toNat_natCast, Int.one_mul]
  simp
theorem xor_nat (m n : Nat) : Builtin.bitXor (m : Int) (n : Int) = ((m ^^^ n : Nat) : Int) := by
  have h := Bits.bitXor_pp (x := (m : Int)) (y := (n : Int)) (Int.natCast_nonneg m) (Int.natCast_nonneg n)
  rw [Int.toNat_natCast, Int.toNat_natCast] at h
  exact h
theorem or_nat (m n : Nat) : Builtin.bitOr (m : Int) (n : Int) = ((m ||| n : Nat) : Int) := by
  have h := Bits.bitOr_pp (x := (m : Int)) (y := (n : Int)) (Int.natCast_nonneg m) (Int.natCast_nonneg n)
  rw [Int.toNat_natCast, Int.toNat_natCast] at h
  exact h
theorem and_one (m : Int) (h : 0 ≤ m) : Builtin.bitAnd m 1 = m % 2 := by
  have e := Bits.bitAnd_mask (x := m) 1 h
  simpa using e
theorem bit_nat (m k : Nat) : Builtin.bitAnd ((m : Int) / 2 ^ (Int.toNat (k : Int))) 1 = (((m.testBit k).toNat : Nat) : Int) := by
  rw [shr_nat, and_one _ (Int.natCast_nonneg _), Nat.testBit_eq_decide_div_mod_eq, Nat.shiftRight_eq_div_pow]
  have h : m / 2 ^ k % 2 < 2 := Nat.mod_lt _ (by decide)
  generalize m / 2 ^ k = z at h
  have e : z % 2 = 0 ∨ z % 2 = 1 := by omega
  rcases e with e | e
  · rw [e]; simp; omega
  · rw [e]; simp; omega
theorem bit_dec (m k : Nat) : decide (Builtin.bitAnd ((m : Int) / 2 ^ (Int.toNat (k : Int))) 1 = 1) = m.testBit k := by
  rw [bit_nat]
  cases m.testBit k <;> simp
/-! ### tables by number -/
theorem map_set {α : Type} {f : Nat → α} {m j : Nat} {y : α} : ((List.range m).map f).set j y = (List.range m).map fun r => if r = j then y else f r := by
  apply List.ext_getElem
  · simp
  · intro i h1 h2
    simp only [List.length_set, List.length_map, List.length_range] at h1
    simp only [List.getElem_set, List.getElem_map, List.getElem_range]
    by_cases e : j = i
    · subst e; simp
    · rw [if_neg e, if_neg (Ne.symm e)]
theorem map_at {α : Type} {f : Nat → α} {m j : Nat} (h : j < m) : ((List.range m).map f)[j]? = some (f j) := by
  rw [List.getElem?_map, List.getElem?_range h]
  rfl
theorem map_len {α : Type} {f : Nat → α} {m : Nat} : ((List.range m).map f).length = m := by simp
theorem map_setI {f : Nat → Int} {m j : Nat} {y : Int} : ((List.range m).map fun r => V.int (f r)).set j (V.int y) = (List.range m).map fun r => V.int (if r = j then y else f r) := by
  rw [map_set]
  congr 1
  funext r
  split <;> rfl
/-! ### comprehensions, slices -/
section
variable {σ σ' : L2.St} {H : Hp} {Q : VK} {QT : Bool → Hp → Prop}
theorem w_lc {wi : TI} {g : TG} {tt : TT} {te : TE} {vs : List Nat} (h : wi σ H fun J H1 => ∀ D, New H1 D → ∃ W : Nat → Nat → Hp → Prop, (∃ m, W 0 m (upd H1 D (.lst []))) ∧ ∀ i m H, W i m H →
  (J.stop i H ∧ Q (.ref D) H) ∨ (J.go i H ∧ ∃ Nx : Hp → Prop, (∀ H', Nx H' → ∃ m', m' < m ∧ W (i + 1) m' H') ∧ ∀ x H', J.yld i H x H' → g x (wipe σ vs) H' fun σ2 H2 => wipe σ2 vs = wipe σ vs ∧ tt σ2 H2 fun b H3 =>
    if b = true then te σ2 H3 fun y H4 => ∃ acc, H4 D = some (.lst acc) ∧ acc.length < sizeLine ∧ Nx (upd H4 D (.lst (acc ++ [y]))) else Nx H3)) : tLc wi g tt te vs σ H Q := h
theorem w_wipe {vs : List Nat} {R : Prop} (e : wipe σ vs = wipe σ' vs) (h : R) : wipe σ vs = wipe σ' vs ∧ R := ⟨e, h⟩
theorem w_yes (h : QT true H) : tYes σ H QT := h
theorem cutV_nat (xs : List V) (a b : Nat) : cutV xs (some (a : Int)) (some (b : Int)) = (xs.drop a).take (b - a) := by
  unfold cutV
  rw [HT.sIx_nat, HT.sIx_nat]
  apply List.ext_getElem?
  intro i
  simp only [List.getElem?_take, List.getElem?_drop]
  by_cases ha : a ≤ xs.length
  · rw [Nat.min_eq_left ha]
    by_cases h : i < b - a
    · by_cases h2 : i < min b xs.length - a
      · rw [if_pos h, if_pos h2]
      · rw [if_pos h, if_neg h2, List.getElem?_eq_none (by omega)]
    · rw [if_neg h, if_neg (by omega)]
  · rw [if_neg (by omega)]
    split
    · rw [List.getElem?_eq_none (by omega)]
    · rfl
theorem cutV_from (xs : List V) (a : Nat) : cutV xs (some (a : Int)) none = xs.drop a := by
  unfold cutV
  rw [HT.sIx_nat, HT.sIx_none]
  by_cases h : a ≤ xs.length
  · rw [Nat.min_eq_left h]
    exact List.take_of_length_le (by simp)
  · rw [Nat.min_eq_right (by omega), List.drop_of_length_le (Nat.le_refl _), List.drop_of_length_le (by omega), List.take_nil]
theorem cutV_to (xs : List V) (b : Nat) : cutV xs none (some (b : Int)) = xs.take b := by
  unfold cutV
  rw [HT.sIx_nat, HT.sIx_none, List.drop_zero, Nat.sub_zero]
  by_cases h : b ≤ xs.length
  · rw [Nat.min_eq_left h]
  · rw [Nat.min_eq_right (by omega), List.take_of_length_le (Nat.le_refl _), List.take_of_length_le (by omega)]
end
theorem w_list {K : PySem.W.Frag} {H : Hp} {p : Addr} {xs : List V} {R : List V → Prop} (hs : SqL K H p xs) (h : R xs) : ∃ p' ys, [V.ref p] = [.ref p'] ∧ (SqL K H p' ys ∨ SqT K H p' ys) ∧ R ys := ⟨p, xs, rfl, .inl hs, h⟩
/-! ### a heap without one place -/
def wo (H : Hp) (D : Addr) : Hp := fun b => if b = D then none else H b
section
variable {K : PySem.W.Frag} {H H' H2 : Hp} {D p : Addr} {o : HO} {xs : List V} {ds : List PyData} {v : V} {d : PyData}
theorem wo_same : Same (wo H D) H := fun b o h => by
  unfold wo at h
  split at h
  · cases h
  · exact h
theorem wo_new : New (wo H D) D := if_pos rfl
theorem wo_get (h : H p = some o) (n : p ≠ D) : wo H D p = some o := (if_neg n).trans h
theorem wo_eq : wo (upd H D o) D = wo H D := by
  funext b
  unfold wo
  split
  · rfl
  · rw [upd_ne (by assumption)]
theorem wo_mono (e : Same H H') : Same (wo H D) (wo H' D) := fun b o h => by
  unfold wo at h ⊢
  split at h
  · cases h
  · rw [if_neg (by assumption)]; exact e b o h
theorem same_wo (e : Same H H') (n : New H D) : Same H (wo H' D) := fun b o h => wo_get (e b o h) (ne_new h n)
theorem dpaPush (h : DpAll K (wo H D) xs ds) (e : Same H H2) (hv : Dp K (wo H2 D) v d) : DpAll K (wo (upd H2 D o) D) (xs ++ [v]) (ds ++ [d]) := by
  rw [wo_eq]
  exact dpaApp (h.same (wo_mono e)) (.cons hv .nil)
theorem dpaPushI (h : DpAll K (wo H D) xs ds) {i : Int} : DpAll K (wo (upd H D o) D) (xs ++ [.int i]) (ds ++ [.int i]) := dpaPush h (Same.refl _) (.int i)
end
/-! ### while -/
theorem w_wt {W : Nat → L2.St → Hp → Prop} {tb : TS} {D : Ends} {σ : L2.St} {H : Hp} {m : Nat} (h : tb { D with nx := fun σ' H' => ∃ m', m' < m ∧ W m' σ' H', ct := fun σ' H' => ∃ m', m' < m ∧ W m' σ' H', bk := D.nx } σ H) :
    ∃ N : L2.St → Hp → Prop, (∀ σ' H', N σ' H' → ∃ m', m' < m ∧ W m' σ' H') ∧ tb { D with nx := N, ct := N, bk := D.nx } σ H := ⟨_, fun _ _ h => h, h⟩
theorem and_nat (m n : Nat) : Builtin.bitAnd (m : Int) (n : Int) = ((m &&& n : Nat) : Int) := rfl
/-! ### two ways to read -/
theorem _root_.L2.PE.or {X : Cx} {e : Expr} {t t' : TE} (h : PE X e t) (h' : PE X e t') : PE X e (fun σ H Q => t σ H Q ∨ t' σ H Q) := ⟨fun pins s σ H Q I q => by
  rcases q with q | q
  · exact h.run pins s σ H Q I q
  · exact h'.run pins s σ H Q I q⟩
/-- the same, for an item of a comprehension -/
def tOrE (t t' : TE) : TE := fun σ H Q => t σ H Q ∨ t' σ H Q
theorem _root_.L2.PE.orD {X : Cx} {e : Expr} {t t' : TE} (h : PE X e t) (h' : PE X e t') : PE X e (tOrE t t') := PE.or h h'
theorem w_orE {t t' : TE} {σ : L2.St} {H : Hp} {Q : VK} (h : t σ H Q ∨ t' σ H Q) : tOrE t t' σ H Q := h
/-! ### classes by name -/
structure HasMk (P : Program) (w : World) (K : PySem.W.Frag) (mg : Str → Option Value) (base : Heap) (CX : CXT) (k : Nat) (x : Str) (C : Addr) (ps : List Str) (sp : Sp) : Prop where
  ex : ∃ f fd, FnOk P w K mg base CX k f fd ps sp ∧ Mk K C f ∧ mg x = some (.ref C) ∧ Binds K fd ps []
structure HasMeth (P : Program) (w : World) (K : PySem.W.Frag) (mg : Str → Option Value) (base : Heap) (CX : CXT) (k : Nat) (C : Addr) (m : Str) (ps : List Str) (sp : Sp) : Prop where
  ex : ∃ f fd, FnOk P w K mg base CX k f fd ps sp ∧ Cls K C ∧ Meth K C m f ∧ Binds K fd ps []
/-- a method's body, proved once for whatever class holds it -/
structure HasFn (P : Program) (w : World) (K : PySem.W.Frag) (mg : Str → Option Value) (base : Heap) (CX : CXT) (k : Nat) (f : Addr) (ps : List Str) (sp : Sp) : Prop where
  ex : ∃ fd, FnOk P w K mg base CX k f fd ps sp ∧ Binds K fd ps []
section
variable {P : Program} {w : World} {K : PySem.W.Frag} {mg : Str → Option Value} {base : Heap} {x qual : Str} {ps N : List Str} {sp : Sp} {k : Nat}
theorem HasFn.mk' {st : Stmt} {f : Addr} {fd : FuncData} (F : Fun K x qual st f fd) (b : Binds K fd ps []) (S : FnScope N ps (defScope st)) (len : ∀ vs H Q E, sp vs H Q E → vs.length = ps.length)
    (hbody : ∀ (cdv : Value) (A : Around) (outer : List Env) (s : Shared) (H : Hp) (vs : List V) (Q : VK) (E : XK), Room k (A.deeper (envOfC qual (defScope st) s.heap.objs.size f cdv)) → sp vs H Q E →
      ∃ t, PSs (cxOf CX0 P w K mg base N qual (defScope st) f cdv A outer s H E).nox (defBody st) t ∧ t { nx := fun _ H' => Q .non H', rt := Q } (start N vs) H) : HasFn P w K mg base CX0 (k + 1) f ps sp :=
  ⟨fd, F.ok S len hbody, b⟩
theorem HasFn.mkOf {CX : CXT} {f C : Addr} (h : HasFn P w K mg base CX k f ps sp) (M : Mk K C f) (g : mg x = some (.ref C)) : HasMk P w K mg base CX k x C ps sp := by
  obtain ⟨fd, F, b⟩ := h.ex
  exact ⟨f, fd, F, M, g, b⟩
theorem HasFn.meth {CX : CXT} {f C : Addr} {m : Str} (h : HasFn P w K mg base CX k f ps sp) (c : Cls K C) (M : Meth K C m f) : HasMeth P w K mg base CX k C m ps sp := by
  obtain ⟨fd, F, b⟩ := h.ex
  exact ⟨f, fd, F, c, M, b⟩
end
section
variable {X : Cx} {k : Nat} {ps : List Str} {sp : Sp} {x m : Str} {p pos apos : Pos} {e o : Expr} {es : List Expr} {t : TA} {ta : TE} {C : Addr}
theorem pe_mk (h : HasMk X.prog X.w X.K X.mg X.base CX0 k x C ps sp) (hr : Room (k + 1) X.A) (hg : Gl X x) (ha : PA X (e :: es) t) (hdb : (x == ("__debug__" : Str)) = false := by decide) (he : starEach (e :: es) X.env = (false, eval e X.env) :: starEach es X.env := by rfl) (hpl : (backTo pos (starEach es X.env)).any (·.1) = false := by rfl) :
    PE X (.Call (.Name x p) (e :: es) [] pos) (tMake C sp [] E0 t) := by
  obtain ⟨f, fd, F, M, g, b⟩ := h.ex
  exact pe_make M F hr hg g b .nil pass0 ha hdb he hpl
theorem pe_mt {pl : Sem Bool} (h : HasMeth X.prog X.w X.K X.mg X.base CX0 k C m ps sp) (he : PE X o ta) (hr : Room k X.A) (ha : PA X (e :: es) t)
    (hst : starEach (e :: es) X.env = (false, eval e X.env) :: starEach es X.env := by rfl) (hpl : (backTo pos (starEach es X.env)).any (·.1) = false := by rfl)
    (ht : eval (.Call (.Attribute o m apos) (e :: es) [] pos) X.env = (do
      let v ← eval o X.env
      standAt apos.atName
      let (f, first) ← holding [v] (getMethod v m pl)
      callWith pos f first (backTo pos (starEach (e :: es) X.env)) (backToKw pos (keywordEach [] X.env))) := by rfl) :
    PE X (.Call (.Attribute o m apos) (e :: es) [] pos) (tMeth C m sp [] E0 ta t) := by
  obtain ⟨f, fd, F, c, M, b⟩ := h.ex
  exact pe_meth he c M F hr b .nil pass0 ha hst hpl ht
theorem pe_mt0 {pl : Sem Bool} (h : HasMeth X.prog X.w X.K X.mg X.base CX0 k C m ps sp) (he : PE X o ta) (hr : Room k X.A)
    (ht : eval (.Call (.Attribute o m apos) [] [] pos) X.env = (do
      let v ← eval o X.env
      standAt apos.atName
      let (f, first) ← holding [v] (getMethod v m pl)
      callWith pos f first (backTo pos (starEach [] X.env)) (backToKw pos (keywordEach [] X.env))) := by rfl) :
    PE X (.Call (.Attribute o m apos) [] [] pos) (tMeth C m sp [] E0 ta tNil) := by
  obtain ⟨f, fd, F, c, M, b⟩ := h.ex
  exact pe_meth0 he c M F hr b .nil pass0 ht
end
section
variable {σ : L2.St} {H : Hp} {Q : VK} {D : Ends} {K : PySem.W.Frag} {ta tv : TE} {tl : TA} {sp : Sp} {E : XK} {C p dx : Addr} {fs : List (Str × V)} {f m : Str} {v : V}
theorem w_make (h : tl σ H fun vs H1 => ∀ x dx, New H1 x → New H1 dx → dx ≠ x → sp (.ref x :: vs) (upd (upd H1 dx (.own x)) x (.ins C dx [])) (fun v H2 => v = .non ∧ Q (.ref x) H2) E) : tMake C sp [] E tl σ H Q := by
  unfold tMake
  simp only [List.append_nil]
  exact h
theorem w_meth (h : ta σ H fun x H1 => ∃ a dx fs, x = .ref a ∧ H1 a = some (.ins C dx fs) ∧ fs.lookup m = none ∧ tl σ H1 fun vs H2 => sp (x :: vs) H2 Q E) : tMeth C m sp [] E ta tl σ H Q := by
  unfold tMeth
  simp only [List.append_nil]
  exact h
theorem w_methq {R : Prop} (hp : H p = some (.ins C dx fs)) (hl : fs.lookup m = none) (h : R) : ∃ a dx fs, V.ref p = .ref a ∧ H a = some (.ins C dx fs) ∧ fs.lookup m = none ∧ R := ⟨p, dx, fs, rfl, hp, hl, h⟩
theorem w_sf (h : tv σ H fun y H1 => ta σ H1 fun x H2 => ∃ a C dx fs, x = .ref a ∧ H2 a = some (.ins C dx fs) ∧ Cls K C ∧ NoAttr K C f ∧ fs.length < 1000 ∧ D.nx σ (upd H2 a (.ins C dx (putF f y fs)))) : sFld K ta tv f D σ H := h
theorem w_sfq {R : Addr → Addr → Addr → List (Str × V) → Prop} (hp : H p = some (.ins C dx fs)) (hc : Cls K C) (hn : NoAttr K C f) (hl : fs.length < 1000) (h : R p C dx fs) : ∃ a C' dx' fs', V.ref p = .ref a ∧ H a = some (.ins C' dx' fs') ∧ Cls K C' ∧ NoAttr K C' f ∧ fs'.length < 1000 ∧ R a C' dx' fs' := ⟨p, C, dx, fs, rfl, hp, hc, hn, hl, h⟩
end
/-! ### isinstance of an object -/
structure IsoK (K : PySem.W.Frag) (C : Addr) : Prop where
  cl : Cls K C
  oc : PySem.W.findIn K (.ref C) "__class__" = some (some (.builtin "object.__class__"))
  og : PySem.W.specialIn K (.builtin "object.__class__") "__get__" = some (some (.builtin "getset_descriptor.__get__"))
  ot : PySem.W.takesIn K (.builtin "object.__class__") = some true
  om : PySem.W.mroIn K C (.type "object") = some true
theorem w_iso {K : PySem.W.Frag} {H : Hp} {Q : VK} {p C D dx : Addr} {fs : List (Str × V)} {b : Bool} (hp : H p = some (.ins C dx fs)) (I : IsoK K C) (hk : PySem.W.kitOne K (.ref C) (.ref D) = some b) (h : Q (.bl b) H) : rIsi K [.ref p, .ref D] H Q :=
  ⟨_, _, _, _, b, rfl, .own D, .base (.ins hp I.cl I.oc I.og I.ot I.om), hk, h⟩
theorem w_isoN {K : PySem.W.Frag} {H : Hp} {Q : VK} {D : Addr} {b : Bool} (hk : PySem.W.kitOne K (.type "NoneType") (.ref D) = some b) (h : Q (.bl b) H) : rIsi K [.non, .ref D] H Q :=
  ⟨_, _, _, _, b, rfl, .own D, .base .non, hk, h⟩
theorem kit_own {K : PySem.W.Frag} {C D : Addr} {b : Bool} (h1 : PySem.W.isClsIn K D = true) (h2 : PySem.W.typeIn K (.ref D) = some (.type "type")) (h3 : PySem.W.subIn K (.ref C) (.ref D) = some b) (h4 : PySem.W.subIn K (.ref C) (.ref C) = some true) : PySem.W.kitOne K (.ref C) (.ref D) = some b := by
  unfold PySem.W.kitOne
  by_cases e : C = D
  · subst e
    rw [h4] at h3
    cases h3
    rw [if_pos (by simp)]
  · have hn : ¬ ((Value.ref C == Value.ref D) = true) := by
      intro z
      rw [beq_iff_eq] at z
      cases z
      exact e rfl
    rw [if_neg hn]
    unfold PySem.W.kitCls
    have h5 : (PySem.W.clsIn K D).isSome = true := h1
    show (if ((PySem.W.clsIn K D).isSome && PySem.W.typeIn K (.ref D) == some (.type "type")) = true then PySem.W.subIn K (.ref C) (.ref D) else none) = some b
    rw [h5, h2, if_pos (by simp)]
    exact h3
/-! ### range by steps -/
theorem w_r3 {σ : L2.St} {H : Hp} {ta : TA} {R : It → Hp → Prop} (h : ta σ H fun vs H1 => ∃ (i j c : Int) (n : Nat), vs = [.int i, .int j, .int c] ∧ RgC i j c n ∧ R (Itc i c n) H1) : iRng3 ta σ H R := h
theorem w_r3q {i j c : Int} {n : Nat} {R : Int → Int → Nat → Prop} (hc : RgC i j c n) (h : R i c n) : ∃ (i' j' c' : Int) (n' : Nat), [V.int i, V.int j, V.int c] = [.int i', .int j', .int c'] ∧ RgC i' j' c' n' ∧ R i' c' n' := ⟨i, j, c, n, rfl, hc, h⟩
/-! ### ways joined behind a statement -/
def tCutX (t u : TS) : TS := fun D σ H => ∃ M : L2.St → Hp → Prop, t { D with nx := M } σ H ∧ ∀ σ' H', M σ' H' → u D σ' H'
theorem pss_cutX {X : Cx} {st : Stmt} {more : List Stmt} {t u : TS} (h1 : PS X st t) (h2 : PSs X more u) : PSs X (st :: more) (tCutX t u) := ⟨fun pins s σ H D I h => by
  obtain ⟨M, hm, hu⟩ := h
  refine wpAny_execs_cons (thn (h1.run pins s σ H { D with nx := M } I hm) fun f s1 q => ?_)
  cases f with
  | next => obtain ⟨σ1, H1, I1, q1⟩ := q; exact h2.run pins s1 σ1 H1 D I1 (hu σ1 H1 q1)
  | ret v => exact q
  | brk => exact q
  | cont => exact q⟩
theorem w_cut {t u : TS} {D : Ends} {σ : L2.St} {H : Hp} (M : L2.St → Hp → Prop) (h : t { D with nx := M } σ H) (k : ∀ σ' H', M σ' H' → u D σ' H') : tCutX t u D σ H := ⟨M, h, k⟩
/-! ### dicts with number keys; heaps that grow -/
theorem _root_.L2.Same.add {G H : Hp} {q : Addr} {o : HO} (e : Same G H) (h : H q = some o) : Same (upd G q o) H := fun b u hb => by
  by_cases e2 : b = q
  · subst e2
    rw [upd_same] at hb
    rw [h]
    exact hb
  · rw [upd_ne e2] at hb
    exact e b u hb
theorem New.upd {G : Hp} {p q : Addr} {o : HO} (n : New G p) (h : p ≠ q) : New (upd G q o) p := (upd_ne h).trans n
theorem putK_len {kvs : List (Key × V)} {k : Key} {v : V} : (putK kvs k v).length ≤ kvs.length + 1 := by
  unfold putK
  split <;> simp
theorem w_put {σ : L2.St} {H : Hp} {D : Ends} {td ty tv : TE} (h : tv σ H fun v H1 => td σ H1 fun x H2 => ty σ H2 fun y H3 => ∃ a H4, x = .ref a ∧ DPut H3 a y v H4 ∧ D.nx σ H4) : sDPut td ty tv D σ H := h
theorem w_putI {H : Hp} {a : Addr} {kvs : List (Key × V)} {i : Int} {v : V} {R : Hp → Prop} (e : H a = some (.dK kvs)) (hl : kvs.length < sizeLine) (h : R (upd H a (.dK (putK kvs (.inl i) v)))) : ∃ a' H4, V.ref a = .ref a' ∧ DPut H a' (.int i) v H4 ∧ R H4 := ⟨a, _, rfl, DPut.k (k := .inl i) e hl, h⟩
theorem w_getI {H : Hp} {a : Addr} {kvs : List (Key × V)} {i : Int} {v : V} {R : V → Prop} (e : H a = some (.dK kvs)) (hv : valV kvs (.inl i) = some v) (h : R v) : ∃ a' v', V.ref a = .ref a' ∧ DGet H a' (.int i) (some v') ∧ R v' := ⟨a, v, rfl, by rw [← hv]; exact DGet.k (k := .inl i) e, h⟩
theorem w_inI {H : Hp} {a : Addr} {kvs : List (Key × V)} {i : Int} {R : Option V → Prop} (e : H a = some (.dK kvs)) (h : R (valV kvs (.inl i))) : ∃ a' o, V.ref a = .ref a' ∧ DGet H a' (.int i) o ∧ R o := ⟨a, _, rfl, DGet.k (k := .inl i) e, h⟩
theorem w_din {σ : L2.St} {H : Hp} {Q : VK} {td ty : TE} (h : ty σ H fun y H1 => td σ H1 fun x H2 => ∃ a o, x = .ref a ∧ DGet H2 a y o ∧ Q (.bl o.isSome) H2) : tDIn ty td σ H Q := h
theorem w_dni {σ : L2.St} {H : Hp} {Q : VK} {td ty : TE} (h : ty σ H fun y H1 => td σ H1 fun x H2 => ∃ a o, x = .ref a ∧ DGet H2 a y o ∧ Q (.bl (!o.isSome)) H2) : tDNotIn ty td σ H Q := h
theorem w_dg {σ : L2.St} {H : Hp} {Q : VK} {td ty : TE} (h : td σ H fun x H1 => ty σ H1 fun y H2 => ∃ a v, x = .ref a ∧ DGet H2 a y (some v) ∧ Q v H2) : tDGet td ty σ H Q := h
theorem w_dn {σ : L2.St} {H : Hp} {Q : VK} (h : ∀ p, New H p → Q (.ref p) (upd H p (.dK []))) : tDNewK σ H Q := h
/-- a dict with number keys: what it holds -/
def Holds (kvs : List (Key × V)) (S : List Nat) (g : Nat → V) : Prop := kvs.length ≤ S.length ∧ ∀ d : Nat, valV kvs (.inl (d : Int)) = if d ∈ S then some (g d) else none
theorem Holds.nil {g : Nat → V} : Holds [] [] g := ⟨Nat.le_refl _, fun d => by simp [valV]⟩
theorem Holds.put {kvs : List (Key × V)} {S : List Nat} {g : Nat → V} (h : Holds kvs S g) (x : Nat) : Holds (putK kvs (.inl (x : Int)) (g x)) (S ++ [x]) g := by
  refine ⟨by have := putK_len (kvs := kvs) (k := .inl (x : Int)) (v := g x); have := h.1; simp; omega, fun d => ?_⟩
  rw [valV_put, h.2]
  by_cases e : d = x
  · subst e; simp
  · have : ¬ ((.inl (d : Int) : Key) = .inl (x : Int)) := fun z => e (by have := Sum.inl.inj z; omega)
    rw [if_neg this]
    simp [e]
theorem lc_r0 {m : Int} {n : Nat} {g : TG} {tt : TT} {te : TE} {vs : List Nat} {σ : L2.St} {H1 : Hp} {D : Addr} {Qd : Hp → Prop} (hm : m = n) (Pv : Nat → Hp → Prop) (h0 : Pv 0 (upd H1 D (.lst [])))
    (hs : ∀ i H, i < n → Pv i H → g (.int (i : Nat)) (wipe σ vs) H fun σ2 H2 => wipe σ2 vs = wipe σ vs ∧ tt σ2 H2 fun b H3 =>
      if b = true then te σ2 H3 fun y H4 => ∃ acc, H4 D = some (.lst acc) ∧ acc.length < sizeLine ∧ Pv (i + 1) (upd H4 D (.lst (acc ++ [y]))) else Pv (i + 1) H3) (hd : ∀ H, Pv n H → Qd H) :
    ∃ W : Nat → Nat → Hp → Prop, (∃ m, W 0 m (upd H1 D (.lst []))) ∧ ∀ i k H, W i k H →
      ((Itr 0 m.toNat).stop i H ∧ Qd H) ∨ ((Itr 0 m.toNat).go i H ∧ ∃ Nx : Hp → Prop, (∀ H', Nx H' → ∃ m', m' < k ∧ W (i + 1) m' H') ∧ ∀ x H', (Itr 0 m.toNat).yld i H x H' → g x (wipe σ vs) H' fun σ2 H2 => wipe σ2 vs = wipe σ vs ∧ tt σ2 H2 fun b H3 =>
        if b = true then te σ2 H3 fun y H4 => ∃ acc, H4 D = some (.lst acc) ∧ acc.length < sizeLine ∧ Nx (upd H4 D (.lst (acc ++ [y]))) else Nx H3) := by
  subst hm
  rw [Int.toNat_natCast]
  exact lc_range (lo := 0) Pv h0 (fun i H hi hp => by rw [Int.zero_add]; exact hs i H hi hp) hd
theorem w_acc {H : Hp} {D : Addr} {acc : List V} {R : List V → Prop} (h1 : H D = some (.lst acc)) (h2 : acc.length < sizeLine) (h : R acc) : ∃ acc', H D = some (.lst acc') ∧ acc'.length < sizeLine ∧ R acc' := ⟨acc, h1, h2, h⟩
/-! ### enumerate -/
theorem for_enumX {K : PySem.W.Frag} {a : Addr} {xs : List V} {g : TG} {tb : TS} {D : Ends} {σ : L2.St} {H : Hp} (Pv : Nat → L2.St → Hp → Prop) (h0 : Pv 0 σ H) (hl : ∀ i σ H, i ≤ xs.length → Pv i σ H → SqL K H a xs)
    (hs : ∀ i x σ H p, xs[i]? = some x → Pv i σ H → New H p → g (.ref p) σ (upd H p (.tup [.int (i : Nat), x])) fun σ2 H2 => tb { D with nx := Pv (i + 1), ct := Pv (i + 1), bk := D.nx } σ2 H2) (hd : ∀ σ H, Pv xs.length σ H → D.nx σ H) :
    ∃ W : Nat → Nat → L2.St → Hp → Prop, (∃ m, W 0 m σ H) ∧ ∀ i m σ H, W i m σ H →
      ((Ite K a).stop i H ∧ D.nx σ H) ∨ ((Ite K a).go i H ∧ ∃ N : L2.St → Hp → Prop, (∀ σ' H', N σ' H' → ∃ m', m' < m ∧ W (i + 1) m' σ' H') ∧ ∀ x H', (Ite K a).yld i H x H' → g x σ H' fun σ2 H2 => tb { D with nx := N, ct := N, bk := D.nx } σ2 H2) := by
  refine ⟨fun i m σ H => i + m = xs.length ∧ Pv i σ H, ⟨xs.length, by omega, h0⟩, fun i m σ H hW => ?_⟩
  obtain ⟨e, p⟩ := hW
  have q := hl i σ H (by omega) p
  cases m with
  | zero =>
    have e2 : i = xs.length := by omega
    subst e2
    exact .inl ⟨⟨xs, q, Nat.le_refl _⟩, hd σ H p⟩
  | succ m =>
    have hi : i < xs.length := by omega
    refine .inr ⟨⟨xs, xs[i], q, List.getElem?_eq_getElem hi⟩, Pv (i + 1), fun σ' H' h => ⟨m, by omega, by omega, h⟩, fun x H' hy => ?_⟩
    obtain ⟨T, y, rfl, nT, rfl, hx⟩ := hy
    exact hs i y σ H T (hx xs q) p nT
theorem w_enum {σ : L2.St} {H : Hp} {K : PySem.W.Frag} {ta : TA} {R : It → Hp → Prop} (h : ta σ H fun vs H1 => ∃ a xs, vs = [.ref a] ∧ SqL K H1 a xs ∧ R (Ite K a) H1) : iEnum K ta σ H R := h
theorem w_enq {H : Hp} {K : PySem.W.Frag} {p : Addr} {xs : List V} {R : Addr → Prop} (hs : SqL K H p xs) (h : R p) : ∃ a xs, [V.ref p] = [.ref a] ∧ SqL K H a xs ∧ R a := ⟨p, xs, rfl, hs, h⟩

/-! ### rules that name the written part -/
section
variable {X : Cx}
theorem ix_listK (K : PySem.W.Frag) (hK : X.K = K := by rfl) : IxR X (rIxL K) := by subst hK; exact ix_list
theorem ix_tupK (K : PySem.W.Frag) (hK : X.K = K := by rfl) : IxR X (rIxT K) := by subst hK; exact ix_tup
theorem ix_seqK (K : PySem.W.Frag) (hK : X.K = K := by rfl) : IxR X (rIx K) := by subst hK; exact ix_seq
theorem sl_listK (K : PySem.W.Frag) (hK : X.K = K := by rfl) : SlR X (rSlL K) := by subst hK; exact sl_list
def rLenK (K : PySem.W.Frag) : List V → Hp → VK → Prop := fun xs H Q => ∃ p ys, xs = [.ref p] ∧ (SqL K H p ys ∨ SqT K H p ys) ∧ Q (.int ys.length) H
theorem call_lenK (K : PySem.W.Frag) (hK : X.K = K := by rfl) : CallR X (.builtin "len") (rLenK K) := by subst hK; exact call_len_seq
def rListK (K : PySem.W.Frag) : List V → Hp → VK → Prop := fun xs H Q => ∃ p ys, xs = [.ref p] ∧ (SqL K H p ys ∨ SqT K H p ys) ∧ ∀ l, H l = none → Q (.ref l) (upd H l (.lst ys))
theorem call_listK (K : PySem.W.Frag) (hK : X.K = K := by rfl) : CallR X (.type "list") (rListK K) := by subst hK; exact call_list_of
theorem call_isiK' (K : PySem.W.Frag) (hK : X.K = K := by rfl) : CallR X (.builtin "isinstance") (rIsi K) := by subst hK; exact call_isi
theorem cr_sumK (K : PySem.W.Frag) (hc : X.calm = true) (hK : X.K = K := by rfl) : CallR X (.builtin "sum") (rSum K) := by subst hK; exact cr_sum hc
theorem cr_maxK (K : PySem.W.Frag) (hc : X.calm = true) (hK : X.K = K := by rfl) : CallR X (.builtin "max") (rMax K) := by subst hK; exact cr_max hc
theorem cr_minK (K : PySem.W.Frag) (hc : X.calm = true) (hK : X.K = K := by rfl) : CallR X (.builtin "min") (rMin K) := by subst hK; exact cr_min hc
theorem cr_allK (K : PySem.W.Frag) (hc : X.calm = true) (hK : X.K = K := by rfl) : CallR X (.builtin "all") (rAll K) := by subst hK; exact cr_all hc
theorem cr_anyK (K : PySem.W.Frag) (hc : X.calm = true) (hK : X.K = K := by rfl) : CallR X (.builtin "any") (rAny K) := by subst hK; exact cr_any hc
theorem cr_sortedIK (K : PySem.W.Frag) (hK : X.K = K := by rfl) : CallR X (.builtin "sorted") (rSortedI K) := by subst hK; exact cr_sortedI
theorem op_eqDK (K : PySem.W.Frag) (hu : X.A.units + 64 < cLine) (hK : X.K = K := by rfl) : OpR X (compareOp .Eq) (rEqD K) := by subst hK; exact op_eqD hu
theorem op_neDK (K : PySem.W.Frag) (hu : X.A.units + 64 < cLine) (hK : X.K = K := by rfl) : OpR X (compareOp .NotEq) (rNeD K) := by subst hK; exact op_neD hu
theorem op_inK (K : PySem.W.Frag) (hK : X.K = K := by rfl) : OpR X (compareOp .In) (rIn K false) := by subst hK; exact op_in_seq
theorem op_notInK (K : PySem.W.Frag) (hK : X.K = K := by rfl) : OpR X (compareOp .NotIn) (rIn K true) := by subst hK; exact op_notIn_seq
theorem mt_indexK (K : PySem.W.Frag) (hK : X.K = K := by rfl) : MtR X "list.index" (rIndex K) := by subst hK; exact mt_index
theorem w_lenK {K : PySem.W.Frag} {H : Hp} {Q : VK} {p : Addr} {xs : List V} (hs : SqL K H p xs) (h : Q (.int xs.length) H) : rLenK K [.ref p] H Q := ⟨p, xs, rfl, .inl hs, h⟩
theorem w_lenTK {K : PySem.W.Frag} {H : Hp} {Q : VK} {p : Addr} {xs : List V} (hs : SqT K H p xs) (h : Q (.int xs.length) H) : rLenK K [.ref p] H Q := ⟨p, xs, rfl, .inr hs, h⟩
theorem w_listK {K : PySem.W.Frag} {H : Hp} {Q : VK} {p : Addr} {xs : List V} (hs : SqL K H p xs) (h : ∀ l, New H l → Q (.ref l) (upd H l (.lst xs))) : rListK K [.ref p] H Q := ⟨p, xs, rfl, .inl hs, h⟩
end
section
variable {X : Cx} {e o : Expr} {f name : Str} {pos apos cpos : Pos} {ta to : TE} {t : TA} {es : List Expr}
theorem pe_fldK (K : PySem.W.Frag) (he : PE X e ta) (hb : attributeBase e f X.env (eval e X.env) = eval e X.env) (hK : X.K = K := by rfl) : PE X (.Attribute e f pos) (tFld K ta f) := by subst hK; exact pe_fld he hb
theorem pe_bmK (K : PySem.W.Frag) {T : String} {r : V → List V → Hp → VK → Prop} (h : PE X (.Call (.Attribute o name apos) es [] cpos) (tBM X.K T r to t)) (hK : X.K = K := by rfl) : PE X (.Call (.Attribute o name apos) es [] cpos) (tBM K T r to t) := by subst hK; exact h
theorem pe_bm0K (K : PySem.W.Frag) {T : String} {r : V → List V → Hp → VK → Prop} (h : PE X (.Call (.Attribute o name apos) es [] cpos) (tBM0 X.K T r to)) (hK : X.K = K := by rfl) : PE X (.Call (.Attribute o name apos) es [] cpos) (tBM0 K T r to) := by subst hK; exact h
theorem pi_listK (K : PySem.W.Frag) {tg l : Expr} {tl : TE} (hl : PE X l tl) (hK : X.K = K := by rfl) : PI X tg l (iList K tl) := by subst hK; exact pi_list hl
theorem pi_tupK (K : PySem.W.Frag) {tg l : Expr} {tl : TE} (hl : PE X l tl) (hK : X.K = K := by rfl) : PI X tg l (iTup K tl) := by subst hK; exact pi_tup hl
theorem pg_tupK (K : PySem.W.Frag) {es : List Expr} {k n : Nat} {t : TGs} (hc : X.calm = true) (h : PGs X es t) (hn : (assignEach es X.env).length = n := by rfl) (hst : (assignEach es X.env).findIdx? (·.1) = none := by rfl) (hK : X.K = K := by rfl) : PG X (.Tuple es k pos) (gTup K n t) := by subst hK; exact pg_tup hc h hn hst
end
/-! ### list.insert -/
theorem w_ins {H : Hp} {p : Addr} {xs : List V} {m : Int} {v : V} {R : Addr → List V → Int → V → Prop} (hp : H p = some (.lst xs)) (hl : xs.length < sizeLine) (h0 : 0 ≤ m) (h1 : m < 2 ^ 63) (h : R p xs m v) :
    ∃ (l : Addr) (ys : List V) (i : Int) (y : V), V.ref p = .ref l ∧ [V.int m, v] = [.int i, y] ∧ H l = some (.lst ys) ∧ ys.length < sizeLine ∧ 0 ≤ i ∧ i < 2 ^ 63 ∧ R l ys i y := ⟨p, xs, m, v, rfl, rfl, hp, hl, h0, h1, h⟩

/-! ### the head by facts: what is asked of the heap behind the top -/
section
open PySem PySem.Spec PyProof.Rows L2
def stQ (g : Addr → Option Obj) (f : Obj → List Addr) (as : List Addr) : List Addr := as.flatMap fun a => match g a with
  | some o => f o
  | none => []
def rfF (o : Obj) : List Addr := match o.data with
  | .func fd => He.refV fd.code ++ He.refV fd.defaults
  | .cls cd => [cd.ns]
  | _ => []
def rfD (o : Obj) : List Addr := match o.data with
  | .dict es _ => es.toList.flatMap fun e => He.refV e.val
  | _ => []
def asQ (g : Addr → Option Obj) : List Addr := mainGlobals :: (stQ g rfD [mainGlobals] ++ (stQ g rfF (stQ g rfD [mainGlobals]) ++ (stQ g rfD (stQ g rfF (stQ g rfD [mainGlobals])) ++ stQ g rfF (stQ g rfD (stQ g rfF (stQ g rfD [mainGlobals]))))))
def obsK (fs : PySem.W.Frag → List Bool) (fn : List He.DefD) (K : PySem.W.Frag) : He.AlD := ((fs K).all (fun b => b) && fn.all fun d => d.ok K, fn.map fun d => He.fnW K d.at_)
def valK (fn : List He.DefD) : He.AlD := (true, fn.map He.DefD.val)
def SaysK (fs : PySem.W.Frag → List Bool) (fn : List He.DefD) (K : PySem.W.Frag) : Prop := obsK fs fn K = valK fn
def obsKG (fs : PySem.W.Frag → List Bool) (fn : List He.DefD) (g : Addr → Option Obj) : He.AlD := obsK fs fn (He.frG g (asQ g))
def hookK (fs : PySem.W.Frag → List Bool) (fn : List He.DefD) : PySem.W.Hook where
  α := He.AlD
  obs := fun s => obsKG fs fn s.heap.get?
  val := fun _ => valK fn
  says := fun _ h => ∃ K : PySem.W.Frag, K.In h ∧ SaysK fs fn K
  of := fun _ _ e => ⟨_, He.frG_in, e⟩
  keeps := fun _ _ _ ⟨K, hK, c⟩ k => ⟨K, PySem.W.Frag.In.keeps hK k, c⟩
theorem obsKG_eq {fs : PySem.W.Frag → List Bool} {fn : List He.DefD} {g : Addr → Option Obj} {s : Shared} (h : ∀ a, g a = s.heap.get? a) : obsKG fs fn g = (hookK fs fn).obs s := by
  have e : g = s.heap.get? := funext h
  rw [e] <;> rfl
theorem SaysK.fact {fs : PySem.W.Frag → List Bool} {fn : List He.DefD} {K : PySem.W.Frag} (c : SaysK fs fn K) {b : Bool} (i : Nat) (h : (fs K)[i]? = some b) : b = true := by
  have c1 := (He.ba (show ((fs K).all (fun b => b) && fn.all fun d => d.ok K) = true from congrArg (fun z : He.AlD => z.1) c)).1
  exact List.all_eq_true.mp c1 b (List.mem_of_getElem? h)
theorem SaysK.is {fs : PySem.W.Frag → List Bool} {fn : List He.DefD} {K : PySem.W.Frag} (c : SaysK fs fn K) {p : Prop} [Decidable p] (i : Nat) (h : (fs K)[i]? = some (decide p)) : p := of_decide_eq_true (c.fact i h)
theorem SaysK.def_ {fs : PySem.W.Frag → List Bool} {fn : List He.DefD} {K : PySem.W.Frag} (c : SaysK fs fn K) (i : Nat) {d : He.DefD} (h : fn[i]? = some d) : ∃ fd, FunD K d.name d.qual d.params d.body d.scope (d.dvs K) (d.kws K) (He.fAd K d.at_) fd := by
  have c2 := (He.ba (show ((fs K).all (fun b => b) && fn.all fun d => d.ok K) = true from congrArg (fun z : He.AlD => z.1) c)).2
  have e : fn.map (fun d => He.fnW K d.at_) = fn.map He.DefD.val := congrArg (fun z : He.AlD => z.2) c
  have e2 : (fn.map fun d => He.fnW K d.at_)[i]? = (fn.map He.DefD.val)[i]? := by rw [e]
  rw [List.getElem?_map, List.getElem?_map, h] at e2
  exact He.DefD.funD (Option.some.inj e2) (List.all_eq_true.mp c2 d (List.mem_of_getElem? h))
theorem fnl_of {K : PySem.W.Frag} {x q : Str} {ps : Arguments} {b : List Stmt} {sc : Scope} {f : Addr} {fd : FuncData} (D : FunD K x q ps b sc [] [] f fd) :
    ∃ oc od kV doc pm an cdv ct osl, K.lookup f = some ⟨oc, od, .func (PySem.W.fnOf x q ps b sc .none kV doc pm an cdv ct), osl⟩ ∧ PySem.W.codeIn K cdv q = true ∧ PySem.W.keepIn K (.ref f) = true := by
  obtain ⟨oc, od, dV, kV, doc, pm, an, cdv, ct, osl, rfl, lk, hc, hd, _⟩ := D.ex
  rcases hd with ⟨_, rfl⟩ | ⟨z, _⟩
  · exact ⟨oc, od, kV, doc, pm, an, cdv, ct, osl, lk, hc, D.kp⟩
  · exact absurd rfl z
theorem fnd0_of {K : PySem.W.Frag} {x q : Str} {ps : Arguments} {b : List Stmt} {sc : Scope} {f : Addr} {fd : FuncData} (D : FunD K x q ps b sc [.non] [] f fd) :
    ∃ oc od T kV doc pm an cdv ct osl oc2 od2 n2 sl2, K.lookup f = some ⟨oc, od, .func (PySem.W.fnOf x q ps b sc (.ref T) kV doc pm an cdv ct), osl⟩ ∧ K.lookup T = some ⟨oc2, od2, .seq #[Value.none] n2, sl2⟩ ∧ PySem.W.codeIn K cdv q = true ∧ PySem.W.keepIn K (.ref f) = true := by
  obtain ⟨oc, od, dV, kV, doc, pm, an, cdv, ct, osl, rfl, lk, hc, hd, _⟩ := D.ex
  rcases hd with ⟨z, _⟩ | ⟨_, T, o, its, n, rfl, hT, ho, hv⟩
  · cases z
  · obtain ⟨oc2, od2, dt2, sl2⟩ := o
    cases hv with
    | cons r hv =>
      cases hv
      cases r
      simp only at ho
      subst ho
      exact ⟨oc, od, T, kV, doc, pm, an, cdv, ct, osl, oc2, od2, n, sl2, lk, hT, hc, D.kp⟩
theorem fndi_of {K : PySem.W.Frag} {x q : Str} {ps : Arguments} {b : List Stmt} {sc : Scope} {f : Addr} {fd : FuncData} {i : Int} (D : FunD K x q ps b sc [.int i] [] f fd) :
    ∃ oc od T kV doc pm an cdv ct osl oc2 od2 n2 sl2 tk, K.lookup f = some ⟨oc, od, .func (PySem.W.fnOf x q ps b sc (.ref T) kV doc pm an cdv ct), osl⟩ ∧ K.lookup T = some ⟨oc2, od2, .seq #[Value.int i tk] n2, sl2⟩ ∧ PySem.W.codeIn K cdv q = true ∧ PySem.W.keepIn K (.ref f) = true := by
  obtain ⟨oc, od, dV, kV, doc, pm, an, cdv, ct, osl, rfl, lk, hc, hd, _⟩ := D.ex
  rcases hd with ⟨z, _⟩ | ⟨_, T, o, its, n, rfl, hT, ho, hv⟩
  · cases z
  · obtain ⟨oc2, od2, dt2, sl2⟩ := o
    cases hv with
    | cons r hv =>
      cases hv
      obtain ⟨tk, rfl⟩ := r
      simp only at ho
      subst ho
      exact ⟨oc, od, T, kV, doc, pm, an, cdv, ct, osl, oc2, od2, n, sl2, tk, lk, hT, hc, D.kp⟩
theorem intK_ok {K : PySem.W.Frag} {x : Str} {i : Int} (c : (He.Fa.int x i).ok K = true) : ∃ t, PySem.W.nsIn K mainGlobals x = some (some (.int i t)) := by
  have c2 : (match PySem.W.nsIn K mainGlobals x with
    | some (some (.int j _)) => decide (j = i)
    | _ => false) = true := c
  cases e : PySem.W.nsIn K mainGlobals x with
  | none => rw [e] at c2; cases c2
  | some o =>
    rw [e] at c2
    cases o with
    | none => cases c2
    | some v =>
      cases v with
      | int j t =>
        have ej : j = i := of_decide_eq_true c2
        rw [ej]
        exact ⟨t, rfl⟩
      | _ => cases c2
theorem strK_ok {K : PySem.W.Frag} {x z : Str} (c : (He.Fa.str x z).ok K = true) : ∃ t, PySem.W.nsIn K mainGlobals x = some (some (.str z t)) := by
  have c2 : (match PySem.W.nsIn K mainGlobals x with
    | some (some (.str y _)) => decide (y = z)
    | _ => false) = true := c
  cases e : PySem.W.nsIn K mainGlobals x with
  | none => rw [e] at c2; cases c2
  | some o =>
    rw [e] at c2
    cases o with
    | none => cases c2
    | some v =>
      cases v with
      | str y t =>
        have ej : y = z := of_decide_eq_true c2
        rw [ej]
        exact ⟨t, rfl⟩
      | _ => cases c2
def slB : List (Option Value) → Bool
  | [_, _, _, _, some (.builtin n), _] => decide (n = "ValueError.__new__")
  | _ => false
theorem slB_ok {sl : List (Option Value)} (h : slB sl = true) : ∃ m0 m1 m2 m3 m5, sl = [m0, m1, m2, m3, some (.builtin "ValueError.__new__"), m5] := by
  unfold slB at h
  split at h
  · have h := of_decide_eq_true h
    subst h
    exact ⟨_, _, _, _, _, rfl⟩
  · cases h
/-- a class object of an exception -/
def excB (K : PySem.W.Frag) (C : Addr) (bm : List Value) : Bool := match K.lookup C with
  | some ⟨cl, _, .cls cd, sl⟩ => decide (cl = .type "type") && (decide (cd.mro = .ref C :: bm) && (cd.hasDict && (!cd.hasDel && slB sl.toList)))
  | _ => false
theorem excB_ok {K : PySem.W.Frag} {C : Addr} {bm : List Value} (h : excB K C bm = true) : ∃ nm q N bs sn su ab col dd m0 m1 m2 m3 m5, K.lookup C = some (excClassObj nm q C N bs bm true sn su ab col dd m0 m1 m2 m3 m5 "ValueError.__new__") := by
  unfold excB at h
  cases e : K.lookup C with
  | none => rw [e] at h; cases h
  | some o =>
    rw [e] at h
    obtain ⟨cl, dd, dt, sl⟩ := o
    cases dt with
    | cls cd =>
      obtain ⟨g1, r1⟩ := He.ba h
      obtain ⟨g2, r2⟩ := He.ba r1
      obtain ⟨g3, r3⟩ := He.ba r2
      obtain ⟨g4, g5⟩ := He.ba r3
      obtain ⟨sl⟩ := sl
      obtain ⟨m0, m1, m2, m3, m5, rfl⟩ := slB_ok g5
      obtain ⟨c1, c2, c3, c4, c5, c6, c7, c8, c9, c10, c11⟩ := cd
      have e1 : cl = .type "type" := of_decide_eq_true g1
      have e2 : c3 = .ref C :: bm := of_decide_eq_true g2
      have e3 : c6 = true := g3
      have e4 : (!c11) = true := g4
      have e4 : c11 = false := by simpa using e4
      subst e1 e2 e3 e4
      exact ⟨_, _, _, _, _, _, _, _, _, _, _, _, _, _, rfl⟩
    | _ => cases h
/-- the end, the written part told by a Hook -/
theorem walk_ofK {l : PySem.W.OpenLaw} {n k : Nat} {q : Program} {loose : List Str} {XP : (Str → Option Value) → Heap → Prop} {YP : World → Heap → Prop} {d : DefRec} {sp : PySem.W.Frag → Sp}
    (hn : l.most = some n) (hn2 : n ≤ sizeLine) (hdf : d.params.defaults = []) (hr : Room k callerA)
    (F : ∀ (w : World) (mg : Str → Option Value) (fa : Addr) (h : Heap), YP w h → h.Ns mainGlobals mg → mg d.name = some (.ref fa) → ∃ K : PySem.W.Frag, K.In h ∧
      ∃ fd : FuncData, (∀ (s : Shared) (u : Value), BindsTo s fd ⟨[u], []⟩ [("script", u)]) ∧ ∀ base : Heap, K.In base → base.Ns mainGlobals mg → FnOk l.prog w K mg base CX0 k fa fd ["script"] (sp K))
    (hsp : ∀ (K : PySem.W.Frag) (H : Hp) (a : Addr) (ns : List Int), ns.length ≤ n → (∀ z ∈ ns, Builtin.Int.intBits z ≤ 1048576) → LsE K H a (ns.map V.int) → sp K [.ref a] H (fun v _ => v = .bl true) fun _ _ _ => False) :
    PySem.W.WalkO q loose XP YP l.row.toRowW d [] (fun f vs => PySem.call f vs) := by
  refine Att.attach_callB hn hdf fun w s₀ s₁ mg mb fa o pm cd doc a vs ns G Y ho hd hcd hmg hobj hints hlen hbits hg => ?_
  obtain ⟨K, KX, fd, hb, hF⟩ := F w mg fa _ Y G.T.g hmg
  refine law_call KX G.T.g G.T.b G.T.builtins G.T.nolimit hg hobj hints (Nat.le_trans hlen hn2) hr hF hb (fun H hO hS => hsp _ H a ns hlen hbits ?_) fun _ _ _ h => h
  rcases hS with h | ⟨ob, its, m, hk, h1, h2, h3, h4, h5⟩
  · exact .inl h
  · have e := KX a ob hk
    rw [hobj] at e
    cases e
    cases h3
    exact .inr ⟨vs, _, hk, by simpa using h5, by rw [List.length_map]; exact Nat.le_trans hlen hn2⟩
end


/-! ### a list laid aside while an expression runs -/
theorem wo_obj {P : Program} {w : World} {H : Hp} {h : Heap} {pd : Addr} {xs : List V} (hok : HOk P w H h) (hp : H pd = some (.lst xs)) : HOk P w (wo H pd) h := fun a o e => by
  have e2 : H a = some o := wo_same a o e
  refine (hok a o e2).stay (fun _ _ _ q => q) (fun b q => wo_get q ?_) fun b ys q => wo_get q ?_
  · intro z; subst z; rw [hp] at q; cases q
  · intro z; subst z; rw [hp] at q; cases q
theorem PE.frm {X : Cx} {e : Expr} {t : TE} (h : PE X e t) : PE X e (fun σ H Q => t σ H Q ∨ ∃ (pd : Addr) (xs : List V), H pd = some (.lst xs) ∧ t σ (wo H pd) fun v H' => H' pd = none → Q v (upd H' pd (.lst xs))) := ⟨fun pins s σ H Q I q => by
  rcases q with q | ⟨pd, xs, hp, q⟩
  · exact h.run pins s σ H Q I q
  · obtain ⟨hz, its, n, r, ho⟩ := I.hok pd _ hp
    have hloc : pd ≠ X.env.locals := fun z => by have := I.free; rw [← z, hp] at this; cases this
    have hfs : pd ∉ X.fs := fun z => by
      have : pd ∈ frs X.stack := by
        rcases I.ok.stk with e | ⟨e, ef⟩
        · rw [e]; exact z
        · rw [e]
          unfold frs
          rw [List.filterMap_cons]
          split
          · exact z
          · exact List.mem_cons_of_mem _ z
      have := I.stkFree pd this
      rw [hp] at this; cases this
    have ne : ∀ {b : Addr} {o : HO}, H b = some o → (∀ ys, o ≠ .lst ys) → b ≠ pd := fun {b o} e hn z => by subst z; rw [hp] at e; cases e; exact hn _ rfl
    have I' : Inv X ((pd, { cls := .type "list", data := .seq its.toArray n }) :: pins) σ (wo H pd) s := {
      ok := I.ok
      os := I.os
      bare := I.bare
      base := {
        keep := I.base.keep
        slot := I.base.slot
        free := fun b o q n hx => by
          unfold wo
          split
          · rfl
          · exact I.base.free b o q n hx
        there := I.base.there
        tups := fun b ys q => by have e := I.base.tups b ys q; exact wo_get e (ne e fun _ z => by cases z)
        frzs := fun b o u q => by have e := I.base.frzs b o u q; exact wo_get e (ne e fun _ z => by cases z)
        tbls := fun b ps q => by obtain ⟨m, e⟩ := I.base.tbls b ps q; exact ⟨m, wo_get e (ne e fun _ z => by cases z)⟩ }
      loc := I.loc
      cell := I.cell
      free := by
        unfold wo
        split
        · rfl
        · exact I.free
      freeC := fun x c e => by
        unfold wo
        split
        · rfl
        · exact I.freeC x c e
      pin := fun p hp' => by
        rcases List.mem_append.mp hp' with hm | hm
        · obtain ⟨a1, a2, a3, a4, a5⟩ := I.pin p (List.mem_append_left _ hm)
          exact ⟨a1, by unfold wo; split; rfl; exact a2, a3, a4, a5⟩
        · rcases List.mem_cons.mp hm with rfl | hm
          · exact ⟨ho, wo_new, hloc, hfs, fun v z => by cases z⟩
          · obtain ⟨a1, a2, a3, a4, a5⟩ := I.pin p (List.mem_append_right _ hm)
            exact ⟨a1, by unfold wo; split; rfl; exact a2, a3, a4, a5⟩
      hok := wo_obj I.hok hp
      len := I.len }
    refine thn (h.run _ s σ _ _ I' q) fun u s1 hh => ?_
    obtain ⟨v, H1, I1, rv, q1⟩ := hh
    obtain ⟨p1, p2, p3, p4, p5⟩ := I1.pin (pd, { cls := .type "list", data := .seq its.toArray n }) (List.mem_append_right _ List.mem_cons_self)
    have ne1 : ∀ {b : Addr} {o : HO}, H1 b = some o → b ≠ pd := fun {b o} e z => by subst z; rw [p2] at e; cases e
    refine ⟨v, upd H1 pd (.lst xs), {
      ok := I1.ok
      os := I1.os
      bare := I1.bare
      base := {
        keep := I1.base.keep
        slot := I1.base.slot
        free := fun b o q n hx => by
          have e := I.base.free b o q n hx
          rw [upd_ne (fun z => by subst z; rw [hp] at e; cases e)]
          exact I1.base.free b o q n hx
        there := I1.base.there
        tups := fun b ys q => by have e := I1.base.tups b ys q; rw [upd_ne (ne1 e)]; exact e
        frzs := fun b o u q => by have e := I1.base.frzs b o u q; rw [upd_ne (ne1 e)]; exact e
        tbls := fun b ps q => by obtain ⟨m, e⟩ := I1.base.tbls b ps q; exact ⟨m, by rw [upd_ne (ne1 e)]; exact e⟩ }
      loc := I1.loc
      cell := I1.cell
      free := by rw [upd_ne (Ne.symm p3)]; exact I1.free
      freeC := fun x c e => by
        have := I.freeC x c e
        rw [upd_ne (fun z => by subst z; rw [hp] at this; cases this)]
        exact I1.freeC x c e
      pin := fun p hp' => by
        have hn : p.1 ≠ pd := by
          obtain ⟨_, a2, _⟩ := I.pin p hp'
          intro z
          rw [z, hp] at a2
          cases a2
        have hm : p ∈ X.pn ++ (pd, { cls := .type "list", data := .seq its.toArray n }) :: pins := by
          rcases List.mem_append.mp hp' with hm | hm
          · exact List.mem_append_left _ hm
          · exact List.mem_append_right _ (List.mem_cons_of_mem _ hm)
        obtain ⟨a1, a2, a3, a4, a5⟩ := I1.pin p hm
        exact ⟨a1, by rw [upd_ne hn]; exact a2, a3, a4, a5⟩
      hok := fun a o e => by
        by_cases ea : a = pd
        · subst ea
          rw [upd_same] at e
          cases e
          exact ⟨hz, its, n, r, p1⟩
        · rw [upd_ne ea] at e
          refine (I1.hok a o e).stay (fun _ _ _ q => q) (fun b q => ?_) fun b ys q => ?_
          · rw [upd_ne (ne1 q)]; exact q
          · rw [upd_ne (ne1 q)]; exact q
      len := I1.len }, rv, q1 p2⟩⟩
theorem wo_upd {H : Hp} {pd : Addr} {o : HO} (h : H pd = some o) : upd (wo H pd) pd o = H := by
  funext b
  by_cases e : b = pd
  · subst e; rw [upd_same, h]
  · rw [upd_ne e]; exact if_neg e
/-- the same, for an item of a comprehension -/
def tFrm (t : TE) : TE := fun σ H Q => t σ H Q ∨ ∃ (pd : Addr) (xs : List V), H pd = some (.lst xs) ∧ t σ (wo H pd) fun v H' => H' pd = none → Q v (upd H' pd (.lst xs))
theorem PE.frm2 {X : Cx} {e : Expr} {t : TE} (h : PE X e t) : PE X e (tFrm t) := PE.frm h
theorem w_frm {t : TE} {σ : L2.St} {H : Hp} {Q : VK} {pd : Addr} {xs : List V} (hp : H pd = some (.lst xs)) (h : t σ (wo H pd) fun v H' => H' pd = none → Q v (upd H' pd (.lst xs))) : tFrm t σ H Q := .inr ⟨pd, xs, hp, h⟩

/-! ### for k, v in d.items(), the keys of d tuples (own rule, from the kit's raw steps) -/
section
variable {X : Cx} {pins : List (Addr × Obj)} {σ : L2.St} {H : Hp} {s : Shared} {d : Addr} {o : Obj} {P : Program} {w : World} {K : PySem.W.Frag}
theorem Inv.frzTv {kvs : List (List L2.Key × V)} (I : Inv X pins σ H s) (h : H d = some (.frz o (.dT kvs))) :
    (d == sysModules) = false ∧ s.heap.get? d = some o ∧ o.ExactDict ∧ ∃ (es : Array DictEntry) (ep : Nat), o.data = .dict es ep ∧ es.size = kvs.length ∧ (kvs.map (·.1)).Nodup ∧
      ∀ (i : Nat) (k : List L2.Key) (v : V), kvs[i]? = some (k, v) → ∃ (en : DictEntry) (q : Addr), es[i]? = some en ∧ en.key = .ref q ∧ H q = some (.tup (k.map kV)) ∧ RelV v en.val := by
  obtain ⟨hd, z, hs, xs, pr, o', es, ep, ho, hx, hdt, he, nd⟩ := I.hok d _ h
  rw [hd] at ho
  cases ho
  have hk : kvs.map (·.1) = xs.map (·.1) := by
    clear he nd z h hd hx hdt
    induction pr with
    | nil => rfl
    | cons r t ih => rw [List.map_cons, List.map_cons, ih, r.1]
  refine ⟨hs, hd, hx, es, ep, hdt, ?_, by rw [hk]; exact nd, fun i k v e => ?_⟩
  · have l1 : es.size = xs.length := size_of_entries he
    have l2 : kvs.length = xs.length := Paired.length pr
    omega
  · obtain ⟨b, hb, e1, e2, e3⟩ := paired_get pr e
    have q := entry_at he i
    rw [hb] at q
    exact ⟨_, b.2.1, q, rfl, e2, e3⟩
/-- the pairs of the locked dict at d, each a new tuple of the key's own tuple and the value -/
def ItiT (d : Addr) (o : Obj) (kvs : List (List L2.Key × V)) : It :=
  ⟨fun i H => H d = some (.frz o (.dT kvs)) ∧ i < kvs.length, fun i H x H' => ∃ T k v q, kvs[i]? = some (k, v) ∧ (kvs.map (·.1)).Nodup ∧ H q = some (.tup (k.map kV)) ∧ x = .ref T ∧ H T = none ∧ H' = upd H T (.tup [.ref q, v]), fun i H => H d = some (.frz o (.dT kvs)) ∧ kvs.length ≤ i⟩
theorem dict_epT {o : Obj} {es es' : Array DictEntry} {ep ep' : Nat} (h : o.data = .dict es ep) (h' : o.data = .dict es' ep') : es' = es ∧ ep' = ep := by
  rw [h] at h'
  cases h'
  exact ⟨rfl, rfl⟩
theorem turn_itemsT {kvs : List (List L2.Key × V)} {es : Array DictEntry} {ep : Nat} {elts : List Expr} {kk : Nat} {tpos : Pos} (it : Addr) (hod : o.data = .dict es ep) :
    Turn P w K (.Tuple elts kk tpos) (ItiT d o kvs) [it] it (fun i h => ∃ ok ov, IsItemIter h it d i kvs.length ep ok ov) where
  mem := by simp
  obj := fun i h st b hb => by
    have e : b = it := by simpa using hb
    subst e
    obtain ⟨ok, ov, e⟩ := st
    exact ⟨_, e, fun v z => nomatch z⟩
  keep := fun i h h' st k => let ⟨ok, ov, e⟩ := st; ⟨ok, ov, k it (by simp) _ e⟩
  item := by
    intro X hP hw hK hc i pins s σ H E I hf st hg
    subst hP hw hK
    obtain ⟨hd, hi⟩ := hg
    obtain ⟨hs, hgd, hx, es', ep', hdt, hsz, nd, ent⟩ := Inv.frzTv I hd
    obtain ⟨rfl, rfl⟩ := dict_epT hod hdt
    obtain ⟨⟨k, v⟩, hkv⟩ : ∃ p, kvs[i]? = some p := ⟨kvs[i], List.getElem?_eq_getElem hi⟩
    obtain ⟨en, q, hen, hkey, hq, hrv⟩ := ent i k v hkv
    obtain ⟨hlt', hene⟩ := Array.getElem?_eq_some_iff.mp hen
    obtain ⟨ok, ov, he⟩ := st
    have hlt : it < s.heap.objs.size := Heap.lt_size he
    have he2 : IsItemIter s.heap it d i es'.size ep' ok ov := by rw [hsz]; exact he
    refine wpAny_pyNext_items_item_raw he2 ⟨o, hgd, hx, hdt⟩ hlt' fun h' ho hT hz hk => ?_
    refine ⟨_, rfl, wpAny_letOwnedTupleGo_items (s := { s with heap := h' }) ho fun h'' he' sb => ?_⟩
    have hT2 : h''.get? s.heap.objs.size = some { cls := .type "tuple", data := .seq #[es'[i].key, es'[i].val] } := (sb.2 _ (Nat.ne_of_gt hlt)).trans hT
    rw [hene, hkey] at hT2
    have new : ObjOk X.prog X.w (upd H s.heap.objs.size (.tup [.ref q, v])) h'' s.heap.objs.size (.tup [.ref q, v]) :=
      ⟨by show 2 ≤ sizeLine; decide, [.ref q, en.val], .cons rfl (.cons hrv .nil), ⟨_, hT2, rfl, _, rfl⟩⟩
    have I1 : Inv X pins σ (upd H s.heap.objs.size (.tup [.ref q, v])) { s with heap := h'' } :=
      I.turnedNew (t' := s.toks) (ch := [it]) (fun b ob hb e => (sb.2 b (by simpa using hb)).trans (hk b ob (by simpa using hb) e)) hf (Nat.le_refl _) new
    refine ⟨.ref s.heap.objs.size, _, I1, rfl, ⟨_, k, v, q, hkv, nd, hq, rfl, I.hok.fresh (Nat.le_refl _), rfl⟩, (by rw [← hsz]; exact ⟨_, _, he'⟩), fun b hb => ?_⟩
    · have e : b = it := by simpa using hb
      rw [e, upd_ne (Nat.ne_of_lt hlt)]
      exact (hf it (by simp)).1
  done := by
    intro X hP hw hK hc i pins s σ H E I hf st hg
    subst hP hw hK
    obtain ⟨hd, hi⟩ := hg
    obtain ⟨f0, f1, f2, f3, f4, f5⟩ := hf it (by simp)
    obtain ⟨hs, hgd, hx, es', ep', hdt, hsz, nd, ent⟩ := Inv.frzTv I hd
    obtain ⟨rfl, rfl⟩ := dict_epT hod hdt
    obtain ⟨ok, ov, he⟩ := st
    have he2 : IsItemIter s.heap it d i es'.size ep' ok ov := by rw [hsz]; exact he
    exact wpAny_pyNext_items_end_raw (I.ok.hd hc) he2 ⟨o, hgd, hx, hdt⟩ (by omega) fun h' eb => ⟨rfl, I.turned (t' := s.toks) (fun b ob hb e => eb b ob hb e) f0 f1 f3 f4 f5⟩
  self := fun A i s Q E st h => let ⟨_, _, e⟩ := st; PySem.W.kcp_self e h
end
section
variable {X : Cx} {e : Expr} {td : TE} {apos cpos : Pos}
def iItemsT (td : TE) : TI := fun σ H R => td σ H fun x H1 => ∃ d o kvs, x = .ref d ∧ H1 d = some (.frz o (.dT kvs)) ∧ R (ItiT d o kvs) H1
theorem pi_itemsT {elts : List Expr} {kk : Nat} {tpos : Pos} (he : PE X e td) (hbase : attributeBase e "items" X.env (eval e X.env) = eval e X.env := by rfl) (hline : (apos.endLine == cpos.line) = true := by rfl) :
    PI X (.Tuple elts kk tpos) (.Call (.Attribute e "items" apos) [] [] cpos) (iItemsT td) := by
  refine ⟨fun pins s σ H R I h => ?_⟩
  refine wpAny_Call_method (T := "dict") (id := "dict.items") hbase rfl hline PySem.F.plainAttrs_dict PySem.F.slot_dict_items PySem.F.type_dict_items (thn (he.run pins s σ H _ I h) fun u s1 ⟨x, H1, I1, rx, d, o, kvs, ex, hd, q⟩ => ?_)
  subst ex
  obtain rfl : u = Value.ref d := rx
  obtain ⟨hs, hgd, hx, es, ep, hdt, hsz, nd, ent⟩ := Inv.frzTv I1 hd
  have hr : s1.heap.DictRaw d es ep := ⟨o, hgd, hx, hdt⟩
  have hr2 : (s1.heap.push { cls := .type "dict_items", data := .fields #[.ref d] }).DictRaw d es ep := ⟨o, Heap.get?_push_of_some _ hgd, hx, hdt⟩
  refine ⟨hr.typeIs, (fun b e => by cases e; exact ⟨o, hgd, hx.2.1⟩), ?_⟩
  have I2 : Inv X pins σ H1 { s1 with heap := s1.heap.push { cls := .type "dict_items", data := .fields #[.ref d] } } := I1.kept (t' := s1.toks) fun b ob q => Heap.get?_push_of_some _ q
  have fin : wpAny (model X.prog X.w) X.A (pyIter (.ref s1.heap.objs.size)) (PIE X pins σ (.Tuple elts kk tpos) R) X.xe { s1 with heap := s1.heap.push { cls := .type "dict_items", data := .fields #[.ref d] } } := by
    refine wpAny_pyIter_items_raw (d := d) ⟨_, Heap.get?_push_size _ rfl, rfl, rfl⟩ hr2 (pi_one (tk := s1.toks) I2 _ (turn_itemsT _ hdt) ⟨.none, .none, ?_⟩ q)
    rw [← hsz]
    exact Heap.get?_push_size _ rfl
  show wpAny _ _ (callWith cpos (.builtin "dict.items") [.ref d] [] []) _ X.xe s1
  exact method_meetsIn PySem.F.slot_dict_items PySem.F.entry_dict_items rfl (PySem.evalArgs_none ⟨rfl, hr.typeIs, PySem.F.args_dict_items_1 _, _, meets_dict_items_raw d hs, ⟨es, ep, hr⟩, fin⟩)
theorem w_itemsT {td : TE} {σ : L2.St} {H : Hp} {R : It → Hp → Prop} (h : td σ H fun x H1 => ∃ d o kvs, x = .ref d ∧ H1 d = some (.frz o (.dT kvs)) ∧ R (ItiT d o kvs) H1) : iItemsT td σ H R := h
theorem for_itemsT {d : Addr} {o : Obj} {kvs : List (List L2.Key × V)} {g : TG} {tb : TS} {D : Ends} {σ : L2.St} {H : Hp} (Pv : Nat → L2.St → Hp → Prop) (h0 : Pv 0 σ H) (hl : ∀ i σ H, Pv i σ H → H d = some (.frz o (.dT kvs)))
    (hs : ∀ i k v q σ H T, kvs[i]? = some (k, v) → (kvs.map (·.1)).Nodup → H q = some (.tup (k.map kV)) → Pv i σ H → New H T → g (.ref T) σ (upd H T (.tup [.ref q, v])) fun σ2 H2 => tb { D with nx := Pv (i + 1), ct := Pv (i + 1), bk := D.nx } σ2 H2) (hd : ∀ σ H, Pv kvs.length σ H → D.nx σ H) :
    ∃ W : Nat → Nat → L2.St → Hp → Prop, (∃ m, W 0 m σ H) ∧ ∀ i m σ H, W i m σ H →
      ((ItiT d o kvs).stop i H ∧ D.nx σ H) ∨ ((ItiT d o kvs).go i H ∧ ∃ N : L2.St → Hp → Prop, (∀ σ' H', N σ' H' → ∃ m', m' < m ∧ W (i + 1) m' σ' H') ∧ ∀ x H', (ItiT d o kvs).yld i H x H' → g x σ H' fun σ2 H2 => tb { D with nx := N, ct := N, bk := D.nx } σ2 H2) := by
  refine ⟨fun i m σ H => i + m = kvs.length ∧ Pv i σ H, ⟨kvs.length, by omega, h0⟩, fun i m σ H hW => ?_⟩
  obtain ⟨e, p⟩ := hW
  have q := hl i σ H p
  cases m with
  | zero =>
    have e2 : i = kvs.length := by omega
    subst e2
    exact .inl ⟨⟨q, Nat.le_refl _⟩, hd σ H p⟩
  | succ m =>
    refine .inr ⟨⟨q, by omega⟩, Pv (i + 1), fun σ' H' h => ⟨m, by omega, by omega, h⟩, fun x H' hy => ?_⟩
    obtain ⟨T, k, v, q, hk, nd, hq, rfl, nT, rfl⟩ := hy
    exact hs i k v q σ H T hk nd hq p nT
end

/-! ### steps of the reading -/
local macro_rules | `(tactic| walk_at "len") => `(tactic| (intro vs H Q E h; first | (obtain ⟨e, _⟩ := h; subst e; rfl) | (obtain ⟨_, e, _⟩ := h; subst e; rfl) | (obtain ⟨_, _, e, _⟩ := h; subst e; rfl) | (obtain ⟨_, _, _, e, _⟩ := h; subst e; rfl) | (obtain ⟨_, _, _, _, e, _⟩ := h; subst e; rfl) | (obtain ⟨_, _, _, _, _, e, _⟩ := h; subst e; rfl) | (obtain ⟨_, _, _, _, _, _, e, _⟩ := h; subst e; rfl) | (obtain ⟨_, _, _, _, _, _, _, e, _⟩ := h; subst e; rfl) | (obtain ⟨_, _, _, _, _, _, _, _, e, _⟩ := h; subst e; rfl) | (obtain ⟨_, _, _, _, _, _, _, _, _, e, _⟩ := h; subst e; rfl) | (obtain ⟨_, _, _, _, _, _, _, _, _, _, e, _⟩ := h; subst e; rfl) | (obtain ⟨_, _, _, _, _, _, _, _, _, _, _, e, _⟩ := h; subst e; rfl) | (obtain ⟨_, _, _, _, _, _, _, _, _, _, _, _, e, _⟩ := h; subst e; rfl) | (obtain ⟨_, _, _, _, _, _, _, _, _, _, _, _, _, e, _⟩ := h; subst e; rfl)))
/-- p ≠ q -/
local macro_rules | `(tactic| walk_at "ne1") => `(tactic| (refine ne_new (H := ?H) (o := ?o) ?a ?b; (case b => assumption); (case a => walk_at "hp")))
local macro_rules | `(tactic| walk_at "ne") => `(tactic| first
  | assumption | (apply Ne.symm; assumption) | walk_at "ne1" | (apply Ne.symm; walk_at "ne1") | fail)
/-- H p = some o -/
local macro_rules | `(tactic| walk_at "hp") => `(tactic| first
  | assumption
  | exact upd_same
  | (refine (upd_ne ?n).trans ?h; (case n => walk_at "ne"); (case h => walk_at "hp"))
  | (refine Same.get (H := ?H) ?s ?h; (case s => assumption); (case h => assumption)) | fail)
local macro_rules | `(tactic| walk_at "sq") => `(tactic| first
  | assumption
  | exact SqL.of (by walk_at "hp") | exact SqT.of (by walk_at "hp")
  | (refine Same.seq (H := ?H) ?s ?h; (case h => assumption); (case s => walk_at "same"))
  | (refine same_read (H := ?H) ?s ?h; (case h => assumption); (case s => walk_at "same")) | fail)
/-- a later new object was free ahead -/
local macro_rules | `(tactic| walk_at "fr") => `(tactic| first | assumption | (refine New.of (H' := ?H) ?n ?s; (case n => assumption); (case s => walk_at "same")) | fail)
/-- what was tracked stays -/
local macro_rules | `(tactic| walk_at "same") => `(tactic| first | assumption | exact Same.refl _ | (refine Same.new ?_ (by assumption); walk_at "same") | (refine Same.mut ?s ?n; (case n => walk_at "fr"); (case s => walk_at "same")) | (refine Same.trans (H1 := ?H1) ?a ?b; (case b => assumption); (case a => walk_at "same")) | fail)
local macro_rules | `(tactic| walk_at "side") => `(tactic| first | decide | omega | (with_reducible assumption) | fail)
local macro_rules | `(tactic| walk_at "at") => `(tactic| first | rfl | assumption | exact atI_nat (by assumption) | fail)
local macro_rules | `(tactic| walk_at "ll") => `(tactic| first | omega | (simp only [List.length_append, List.length_cons, List.length_nil, List.length_map, List.length_range, List.length_set, List.length_replicate]; omega) | (simp only [List.length_append, List.length_cons, List.length_nil, List.length_map, List.length_range, List.length_set, List.length_replicate] at *; omega) | (simp; done) | (simp; omega) | fail)
local macro_rules | `(tactic| walk_at "ix") => `(tactic| first | assumption | (refine ixN_nat ?_; walk_at "ll") | rfl | fail)
local macro_rules | `(tactic| walk_at "szlt") => `(tactic| first | assumption | (refine szlt ?_; walk_at "ll") | fail)
local macro_rules | `(tactic| walk_at "szk") => `(tactic| first | assumption | (refine szlt ?_; omega) | fail)
/-- one step -/
local macro_rules | `(tactic| walk_at "st") => `(tactic| first
  | with_reducible refine w_iT ?_
  | with_reducible refine w_iF ?_
  | with_reducible refine w_iNT ?_
  | with_reducible refine w_iNF ?_
  | with_reducible refine w_iNN ?_
  | with_reducible refine w_seq ?_
  | with_reducible refine w_asg ?_
  | with_reducible refine w_gn ?_
  | with_reducible refine w_c ?_
  | with_reducible refine w_op ?_
  | with_reducible refine w_ret ?_
  | with_reducible refine w_if ?_
  | with_reducible refine w_test ?_
  | with_reducible refine w_rI0 ?_
  | with_reducible refine w_cons ?_
  | with_reducible refine w_nil ?_
  | with_reducible refine w_call ?_
  | with_reducible refine w_cb ?_
  | with_reducible refine w_drop ?_
  | with_reducible refine w_next ?_
  | with_reducible refine w_eqI ?_
  | with_reducible refine w_neI ?_
  | ((with_reducible refine w_var ?_); refine ⟨_, rfl, ?_⟩)
  | ((with_reducible refine w_aug ?_); refine ⟨_, rfl, ?_⟩)
  | with_reducible refine w_eqB ?_
  | with_reducible refine w_neB ?_
  | with_reducible refine w_tB ?_
  | with_reducible refine w_bl ?_
  | with_reducible refine w_and ?_
  | with_reducible refine w_or ?_
  | with_reducible refine w_not ?_
  | with_reducible refine w_andV ?_
  | with_reducible refine w_orV ?_
  | with_reducible refine w_notV ?_
  | with_reducible refine w_ifE ?_
  | with_reducible refine w_un ?_
  | with_reducible refine w_rU ?_
  | with_reducible refine w_ip ?_
  | with_reducible refine w_gc ?_
  | with_reducible refine w_g0 ?_
  | with_reducible refine w_gs ?_
  | with_reducible refine w_tup ?_
  | with_reducible refine w_lst ?_
  | with_reducible refine w_sl ?_
  | with_reducible refine w_np ?_
  | with_reducible refine w_part ?_
  | with_reducible refine w_partI ?_
  | with_reducible refine w_bm ?_
  | with_reducible refine w_bm0 ?_
  | with_reducible refine w_for ?_
  | with_reducible refine w_lc ?_
  | with_reducible refine w_yes ?_
  | with_reducible refine w_make ?_
  | with_reducible refine w_meth ?_
  | with_reducible refine w_sf ?_
  | with_reducible refine w_r3 ?_
  | with_reducible refine w_din ?_
  | with_reducible refine w_dni ?_
  | with_reducible refine w_dg ?_
  | with_reducible refine w_put ?_
  | with_reducible refine w_dn ?_
  | with_reducible refine w_enum ?_
  | with_reducible refine w_iL ?_
  | with_reducible refine w_iTu ?_
  | with_reducible refine w_r1 ?_
  | with_reducible refine w_r2 ?_
  | with_reducible refine w_int1 ?_
  | with_reducible refine w_intb ?_
  | with_reducible refine w_fl ?_
  | with_reducible refine w_retN ?_
  | with_reducible refine w_break ?_
  | with_reducible refine w_cont ?_
  | with_reducible refine w_par ?_
  | with_reducible refine w_par2 ?_
  | with_reducible refine w_eqS ?_
  | with_reducible refine w_neS ?_
  | with_reducible refine w_eqNI ?_
  | with_reducible refine w_eqIN ?_
  | with_reducible refine w_callS ?_
  | with_reducible refine w_ost ?_
  | with_reducible refine w_xf ?_
  | with_reducible refine w_mko ?_
  | with_reducible refine w_makeS ?_
  | ((with_reducible refine w_mod ?s0 ?_); (case s0 => walk_at "side"))
  | ((with_reducible refine w_div ?s0 ?s1 ?_); (case s0 => walk_at "side"); (case s1 => walk_at "side"))
  | ((with_reducible refine w_shr ?s0 ?_); (case s0 => walk_at "side"))
  | ((with_reducible refine w_shl1 ?s0 ?s1 ?_); (case s0 => walk_at "side"); (case s1 => walk_at "side"))
  | ((with_reducible refine w_mul ?s0 ?s1 ?s2 ?s3 ?_); (case s0 => walk_at "side"); (case s1 => walk_at "side"); (case s2 => walk_at "side"); (case s3 => walk_at "side"))
  | ((with_reducible refine w_shl ?s0 ?s1 ?s2 ?s3 ?_); (case s0 => walk_at "side"); (case s1 => walk_at "side"); (case s2 => walk_at "side"); (case s3 => walk_at "side"))
  | ((with_reducible refine w_r1q ?s0 ?s1 ?_); (case s0 => walk_at "side"); (case s1 => walk_at "side"))
  | ((with_reducible refine w_r2q ?s0 ?s1 ?s2 ?s3 ?_); (case s0 => walk_at "side"); (case s1 => walk_at "side"); (case s2 => walk_at "side"); (case s3 => walk_at "side"))
  | ((with_reducible refine w_ixL (xs := ?xs) (v := ?v) ?s0 ?s1 ?_); (case s0 => walk_at "sq"); (case s1 => walk_at "at"))
  | ((with_reducible refine w_ixT (xs := ?xs) (v := ?v) ?s0 ?s1 ?_); (case s0 => walk_at "sq"); (case s1 => walk_at "at"))
  | ((with_reducible refine w_ixl (xs := ?xs) (v := ?v) ?s0 ?s1 ?_); (case s0 => walk_at "sq"); (case s1 => walk_at "at"))
  | ((with_reducible refine w_ixt (xs := ?xs) (v := ?v) ?s0 ?s1 ?_); (case s0 => walk_at "sq"); (case s1 => walk_at "at"))
  | ((with_reducible refine w_lenK (xs := ?xs) ?s0 ?_); (case s0 => walk_at "sq"))
  | ((with_reducible refine w_lenTK (xs := ?xs) ?s0 ?_); (case s0 => walk_at "sq"))
  | ((with_reducible refine w_listK (xs := ?xs) ?s0 ?_); (case s0 => walk_at "sq"))
  | ((with_reducible refine w_len (xs := ?xs) ?s0 ?_); (case s0 => walk_at "sq"))
  | ((with_reducible refine w_lenT (xs := ?xs) ?s0 ?_); (case s0 => walk_at "sq"))
  | ((with_reducible refine w_iLq (xs := ?xs) ?s0 ?_); (case s0 => walk_at "sq"))
  | ((with_reducible refine w_iTq (xs := ?xs) ?s0 ?_); (case s0 => walk_at "sq"))
  | ((with_reducible refine w_tyl (xs := ?xs) ?s0 ?_); (case s0 => walk_at "sq"))
  | ((with_reducible refine w_slL (xs := ?xs) ?s0 ?_); (case s0 => walk_at "sq"))
  | ((with_reducible refine w_gt (xs := ?xs) ?s0 ?s1 ?_); (case s0 => walk_at "sq"); (case s1 => rfl))
  | ((with_reducible refine w_setL (xs := ?xs) (j := ?j) ?s0 ?s1 ?_); (case s0 => walk_at "hp"); (case s1 => walk_at "ix"))
  | ((with_reducible refine w_app (xs := ?xs) ?s0 ?s1 ?_); (case s0 => walk_at "hp"); (case s1 => walk_at "szlt"))
  | ((with_reducible refine w_rev (xs := ?xs) ?s0 ?_); (case s0 => walk_at "hp"))
  | with_reducible refine w_isi kb_ii ?_
  | with_reducible refine w_isi kb_ib ?_
  | with_reducible refine w_isb kb_bb ?_
  | with_reducible refine w_isb kb_bi ?_
  | with_reducible refine w_isn kb_ni ?_
  | with_reducible refine w_isn kb_nb ?_
  | ((with_reducible refine w_isl (xs := ?xs) ?s0 kb_ll ?_); (case s0 => walk_at "hp"))
  | ((with_reducible refine w_isl (xs := ?xs) ?s0 kb_lt ?_); (case s0 => walk_at "hp"))
  | ((with_reducible refine w_ist (xs := ?xs) ?s0 kb_tt ?_); (case s0 => walk_at "hp"))
  | ((with_reducible refine w_ist (xs := ?xs) ?s0 kb_tl ?_); (case s0 => walk_at "hp"))
  | with_reducible refine w_len1 rfl ?_
  | with_reducible refine w_isN ?_
  | with_reducible refine w_2i ?_
  | with_reducible refine w_1i ?_
  | with_reducible refine w_augS ?_
  | ((with_reducible refine w_getL (xs := ?xs) (v := ?v) ?s0 ?s1 ?_); (case s0 => walk_at "sq"); (case s1 => assumption))
  | ((with_reducible refine w_wipe ?s0 ?_); (case s0 => rfl))
  | ((with_reducible refine w_inI (kvs := ?kvs) ?s0 ?_); (case s0 => walk_at "hp"))
  | ((with_reducible refine w_putI (kvs := ?kvs) ?s0 ?s1 ?_); (case s0 => walk_at "hp"); (case s1 => walk_at "szk"))
  | ((with_reducible refine w_ins (xs := ?xs) ?s0 ?s1 ?s2 ?s3 ?_); (case s0 => walk_at "hp"); (case s1 => walk_at "szlt"); (case s2 => walk_at "side"); (case s3 => walk_at "side"))
  | ((with_reducible refine w_pow ?s0 ?_); (case s0 => exact ⟨by decide, by decide, by decide⟩))
  | ((with_reducible refine ifd (fun h => ?c) (fun _ => ?_)); (case c => exfalso; omega))
  | ((with_reducible refine ifd (fun _ => ?_) (fun h => ?c)); (case c => exfalso; omega))
  | ((with_reducible refine ifnd (fun h => ?c) (fun _ => ?_)); (case c => exfalso; omega))
  | ((with_reducible refine ifnd (fun _ => ?_) (fun h => ?c)); (case c => exfalso; omega))
  | fail)
local macro_rules | `(tactic| walk_at "sts") => `(tactic| repeat (walk_at "st"))

def topS (i : Nat) : Stmt := PySem.Challenge.pw_spinfloor_k52_whole_near_a_line.main.body.getD i (.Pass ⟨0, 0, 0, 0⟩)
abbrev s_way_to : Stmt := topS 5
theorem sc_way_to : FnScope ["row", "table", "goal", "modulus", "low", "many", "mid", "cost"] ["row", "table", "goal", "modulus"] (defScope s_way_to) := ⟨rfl, rfl, rfl, by decide +kernel, rfl, by decide +kernel, by decide +kernel⟩
abbrev s_row_joined : Stmt := topS 6
theorem sc_row_joined : FnScope ["row", "table", "modulus", "goal"] ["row", "table", "modulus"] (defScope s_row_joined) := ⟨rfl, rfl, rfl, by decide +kernel, rfl, by decide +kernel, by decide +kernel⟩
abbrev s_tables_joined : Stmt := topS 7
theorem sc_tables_joined : FnScope ["one", "two", "modulus", "row"] ["one", "two", "modulus"] (defScope s_tables_joined) := ⟨rfl, rfl, rfl, by decide +kernel, rfl, by decide +kernel, by decide +kernel⟩
abbrev s_by_modulus : Stmt := topS 8
theorem sc_by_modulus : FnScope ["row", "modulus", "entry"] ["row", "modulus"] (defScope s_by_modulus) := ⟨rfl, rfl, rfl, by decide +kernel, rfl, by decide +kernel, by decide +kernel⟩
abbrev s_table_power : Stmt := topS 9
theorem sc_table_power : FnScope ["table", "times", "modulus", "square", "found", "row"] ["table", "times", "modulus"] (defScope s_table_power) := ⟨rfl, rfl, rfl, by decide +kernel, rfl, by decide +kernel, by decide +kernel⟩
abbrev s_Tie___init__ : Stmt := inClass (topS 11) 0
theorem sc_Tie___init__ : FnScope ["self", "one", "two", "strength"] ["self", "one", "two", "strength"] (defScope s_Tie___init__) := ⟨rfl, rfl, rfl, by decide +kernel, rfl, by decide +kernel, by decide +kernel⟩
abbrev s_Pull_wish : Stmt := inClass (topS 12) 0
theorem sc_Pull_wish : FnScope ["self"] ["self"] (defScope s_Pull_wish) := ⟨rfl, rfl, rfl, by decide +kernel, rfl, by decide +kernel, by decide +kernel⟩
abbrev s_Push_wish : Stmt := inClass (topS 13) 0
theorem sc_Push_wish : FnScope ["self"] ["self"] (defScope s_Push_wish) := ⟨rfl, rfl, rfl, by decide +kernel, rfl, by decide +kernel, by decide +kernel⟩
abbrev s_Tie_unpleased : Stmt := inClass (topS 11) 3
theorem sc_Tie_unpleased : FnScope ["self", "laying", "down"] ["self", "laying"] (defScope s_Tie_unpleased) := ⟨rfl, rfl, rfl, by decide +kernel, rfl, by decide +kernel, by decide +kernel⟩
abbrev s_Tie_price : Stmt := inClass (topS 11) 4
theorem sc_Tie_price : FnScope ["self", "laying"] ["self", "laying"] (defScope s_Tie_price) := ⟨rfl, rfl, rfl, by decide +kernel, rfl, by decide +kernel, by decide +kernel⟩
abbrev s_tie_of : Stmt := topS 14
theorem sc_tie_of : FnScope ["one", "two", "signed"] ["one", "two", "signed"] (defScope s_tie_of) := ⟨rfl, rfl, rfl, by decide +kernel, rfl, by decide +kernel, by decide +kernel⟩
abbrev s_rows_of : Stmt := topS 18
theorem sc_rows_of : FnScope ["pattern", "rows", "across", "along"] ["pattern"] (defScope s_rows_of) := ⟨rfl, rfl, rfl, by decide +kernel, rfl, by decide +kernel, by decide +kernel⟩
abbrev s_across_price : Stmt := topS 19
theorem sc_across_price : FnScope ["column", "signs", "across", "r"] ["column", "signs"] (defScope s_across_price) := ⟨rfl, rfl, rfl, by decide +kernel, rfl, by decide +kernel, by decide +kernel⟩
abbrev s_along_price : Stmt := topS 20
theorem sc_along_price : FnScope ["column", "signs", "after", "along", "rows", "laying", "r"] ["column", "signs", "after"] (defScope s_along_price) := ⟨rfl, rfl, rfl, by decide +kernel, rfl, by decide +kernel, by decide +kernel⟩
abbrev s_column_table : Stmt := topS 21
theorem sc_column_table : FnScope ["column", "size", "found", "signs", "own", "after"] ["column"] (defScope s_column_table) := ⟨rfl, rfl, rfl, by decide +kernel, rfl, by decide +kernel, by decide +kernel⟩
abbrev s_step_table : Stmt := topS 22
theorem sc_step_table : FnScope ["pattern", "found", "column"] ["pattern"] (defScope s_step_table) := ⟨rfl, rfl, rfl, by decide +kernel, rfl, by decide +kernel, by decide +kernel⟩
abbrev s_strip_least : Stmt := topS 23
theorem sc_strip_least : FnScope ["pattern", "columns", "modulus", "rows", "repeats", "rest", "row", "column", "ends", "low", "many", "signs"] ["pattern", "columns", "modulus"] (defScope s_strip_least) := ⟨rfl, rfl, rfl, by decide +kernel, rfl, by decide +kernel, by decide +kernel⟩
abbrev s_lows_of : Stmt := topS 25
theorem sc_lows_of : FnScope ["row", "entry"] ["row"] (defScope s_lows_of) := ⟨rfl, rfl, rfl, by decide +kernel, rfl, by decide +kernel, by decide +kernel⟩
abbrev s_lowest_into : Stmt := topS 26
theorem sc_lowest_into : FnScope ["heights", "costs", "goal", "start"] ["heights", "costs", "goal"] (defScope s_lowest_into) := ⟨rfl, rfl, rfl, by decide +kernel, rfl, by decide +kernel, by decide +kernel⟩
abbrev s_walks : Stmt := topS 27
theorem sc_walks : FnScope ["costs", "size", "found", "step", "place", "goal"] ["costs"] (defScope s_walks) := ⟨rfl, rfl, rfl, by decide +kernel, rfl, by decide +kernel, by decide +kernel⟩
abbrev s_steepest : Stmt := topS 28
theorem sc_steepest : FnScope ["found", "place", "last", "best", "step", "rise"] ["found", "place"] (defScope s_steepest) := ⟨rfl, rfl, rfl, by decide +kernel, rfl, by decide +kernel, by decide +kernel⟩
abbrev s_lowest_average : Stmt := topS 29
theorem sc_lowest_average : FnScope ["costs", "found", "best", "place", "here", "one", "two"] ["costs"] (defScope s_lowest_average) := ⟨rfl, rfl, rfl, by decide +kernel, rfl, by decide +kernel, by decide +kernel⟩
abbrev s_slopes_of : Stmt := topS 30
theorem sc_slopes_of : FnScope ["costs", "top", "bottom", "size", "over", "heights", "step", "row", "place", "cost", "goal"] ["costs", "top", "bottom"] (defScope s_slopes_of) := ⟨rfl, rfl, rfl, by decide +kernel, rfl, by decide +kernel, by decide +kernel⟩
abbrev s_loop_of : Stmt := topS 31
theorem sc_loop_of : FnScope ["tight", "alive", "many", "place", "walk", "goal"] ["tight"] (defScope s_loop_of) := ⟨rfl, rfl, rfl, by decide +kernel, rfl, by decide +kernel, by decide +kernel⟩
abbrev s_long_run : Stmt := topS 32
theorem sc_long_run : FnScope ["pattern", "row", "costs", "top", "bottom", "slopes", "tight", "start", "goal"] ["pattern"] (defScope s_long_run) := ⟨rfl, rfl, rfl, by decide +kernel, rfl, by decide +kernel, by decide +kernel⟩
abbrev s_law_cell : Stmt := topS 34
theorem sc_law_cell : FnScope ["script", "k"] ["script", "k"] (defScope s_law_cell) := ⟨rfl, rfl, rfl, by decide +kernel, rfl, by decide +kernel, by decide +kernel⟩
abbrev s_law_whole : Stmt := topS 35
theorem sc_law_whole : FnScope ["found"] ["found"] (defScope s_law_whole) := ⟨rfl, rfl, rfl, by decide +kernel, rfl, by decide +kernel, by decide +kernel⟩
abbrev s_law_pair : Stmt := topS 36
theorem sc_law_pair : FnScope ["found"] ["found"] (defScope s_law_pair) := ⟨rfl, rfl, rfl, by decide +kernel, rfl, by decide +kernel, by decide +kernel⟩
abbrev s_law_strength : Stmt := topS 37
theorem sc_law_strength : FnScope ["cell", "mode"] ["cell", "mode"] (defScope s_law_strength) := ⟨rfl, rfl, rfl, by decide +kernel, rfl, by decide +kernel, by decide +kernel⟩
abbrev s_law_pattern : Stmt := topS 38
theorem sc_law_pattern : FnScope ["script", "rows", "period", "mode", "count", "told", "k", "cell", "pattern", "j"] ["script", "rows", "period", "mode"] (defScope s_law_pattern) := ⟨rfl, rfl, rfl, by decide +kernel, rfl, by decide +kernel, by decide +kernel⟩
abbrev s_law_copy : Stmt := topS 39
theorem sc_law_copy : FnScope ["pattern", "column"] ["pattern"] (defScope s_law_copy) := ⟨rfl, rfl, rfl, by decide +kernel, rfl, by decide +kernel, by decide +kernel⟩
abbrev s_law : Stmt := topS 40
theorem sc_law : FnScope ["script", "first", "rows", "period", "pattern", "repeats", "found", "apart", "over", "last", "more", "columns", "told", "gone", "strength", "part"] ["script"] (defScope s_law) := ⟨rfl, rfl, rfl, by decide +kernel, rfl, by decide +kernel, by decide +kernel⟩
structure Bl (mg : Str → Option Value) : Prop where
  range : mg "range" = none
  len : mg "len" = none
  sum : mg "sum" = none
  divmod : mg "divmod" = none
  min : mg "min" = none
  abs : mg "abs" = none
  list : mg "list" = none
  any : mg "any" = none
  isinstance : mg "isinstance" = none
  int : mg "int" = none
  bool : mg "bool" = none
  tuple : mg "tuple" = none
  max : mg "max" = none
  all : mg "all" = none
structure Txt (K : PySem.W.Frag) (mg : Str → Option Value) (C_Pull C_Push : Addr) : Prop where
  g_Pull : mg "Pull" = some (.ref C_Pull)
  g_Push : mg "Push" = some (.ref C_Push)
  cl_Pull : Cls K C_Pull
  mk_Pull : PySem.W.makesIn K C_Pull = true
  kp_Pull : PySem.W.keepIn K (.ref C_Pull) = true
  n_Pull_one : NoAttr K C_Pull "one"
  n_Pull_two : NoAttr K C_Pull "two"
  n_Pull_strength : NoAttr K C_Pull "strength"
  cl_Push : Cls K C_Push
  mk_Push : PySem.W.makesIn K C_Push = true
  kp_Push : PySem.W.keepIn K (.ref C_Push) = true
  n_Push_one : NoAttr K C_Push "one"
  n_Push_two : NoAttr K C_Push "two"
  n_Push_strength : NoAttr K C_Push "strength"
  k_MOST_MODULUS : ∃ t, mg "MOST_MODULUS" = some (.int 1000000000 t)
  k_MOST_COLUMNS : ∃ t, mg "MOST_COLUMNS" = some (.int 1000000000000000000 t)
def fsQ (K : PySem.W.Frag) : List Bool := [
  decide (PySem.W.nsIn K mainGlobals "Pull" = some (some (.ref (He.ga K "Pull")))),
  decide (PySem.W.nsIn K mainGlobals "Push" = some (some (.ref (He.ga K "Push")))),
  decide (PySem.W.nsIn K mainGlobals "way_to" = some (some (.ref (He.fAd K ("way_to", none))))),
  decide (PySem.W.nsIn K mainGlobals "row_joined" = some (some (.ref (He.fAd K ("row_joined", none))))),
  decide (PySem.W.nsIn K mainGlobals "tables_joined" = some (some (.ref (He.fAd K ("tables_joined", none))))),
  decide (PySem.W.nsIn K mainGlobals "by_modulus" = some (some (.ref (He.fAd K ("by_modulus", none))))),
  decide (PySem.W.nsIn K mainGlobals "table_power" = some (some (.ref (He.fAd K ("table_power", none))))),
  decide (PySem.W.findIn K (.ref (He.ga K "Pull")) "__init__" = some (some (.ref (He.fAd K ("Tie", some "__init__"))))),
  decide (PySem.W.findIn K (.ref (He.ga K "Push")) "__init__" = some (some (.ref (He.fAd K ("Tie", some "__init__"))))),
  decide (PySem.W.isFn K (.ref (He.fAd K ("Tie", some "__init__"))) = true),
  decide (PySem.W.findIn K (.ref (He.ga K "Pull")) "wish" = some (some (.ref (He.fAd K ("Pull", some "wish"))))),
  decide (PySem.W.isFn K (.ref (He.fAd K ("Pull", some "wish"))) = true),
  decide (PySem.W.findIn K (.ref (He.ga K "Push")) "wish" = some (some (.ref (He.fAd K ("Push", some "wish"))))),
  decide (PySem.W.isFn K (.ref (He.fAd K ("Push", some "wish"))) = true),
  decide (PySem.W.findIn K (.ref (He.ga K "Pull")) "unpleased" = some (some (.ref (He.fAd K ("Tie", some "unpleased"))))),
  decide (PySem.W.findIn K (.ref (He.ga K "Push")) "unpleased" = some (some (.ref (He.fAd K ("Tie", some "unpleased"))))),
  decide (PySem.W.isFn K (.ref (He.fAd K ("Tie", some "unpleased"))) = true),
  decide (PySem.W.findIn K (.ref (He.ga K "Pull")) "price" = some (some (.ref (He.fAd K ("Tie", some "price"))))),
  decide (PySem.W.findIn K (.ref (He.ga K "Push")) "price" = some (some (.ref (He.fAd K ("Tie", some "price"))))),
  decide (PySem.W.isFn K (.ref (He.fAd K ("Tie", some "price"))) = true),
  decide (PySem.W.nsIn K mainGlobals "tie_of" = some (some (.ref (He.fAd K ("tie_of", none))))),
  decide (PySem.W.nsIn K mainGlobals "rows_of" = some (some (.ref (He.fAd K ("rows_of", none))))),
  decide (PySem.W.nsIn K mainGlobals "across_price" = some (some (.ref (He.fAd K ("across_price", none))))),
  decide (PySem.W.nsIn K mainGlobals "along_price" = some (some (.ref (He.fAd K ("along_price", none))))),
  decide (PySem.W.nsIn K mainGlobals "column_table" = some (some (.ref (He.fAd K ("column_table", none))))),
  decide (PySem.W.nsIn K mainGlobals "step_table" = some (some (.ref (He.fAd K ("step_table", none))))),
  decide (PySem.W.nsIn K mainGlobals "strip_least" = some (some (.ref (He.fAd K ("strip_least", none))))),
  decide (PySem.W.nsIn K mainGlobals "lows_of" = some (some (.ref (He.fAd K ("lows_of", none))))),
  decide (PySem.W.nsIn K mainGlobals "lowest_into" = some (some (.ref (He.fAd K ("lowest_into", none))))),
  decide (PySem.W.nsIn K mainGlobals "walks" = some (some (.ref (He.fAd K ("walks", none))))),
  decide (PySem.W.nsIn K mainGlobals "steepest" = some (some (.ref (He.fAd K ("steepest", none))))),
  decide (PySem.W.nsIn K mainGlobals "lowest_average" = some (some (.ref (He.fAd K ("lowest_average", none))))),
  decide (PySem.W.nsIn K mainGlobals "slopes_of" = some (some (.ref (He.fAd K ("slopes_of", none))))),
  decide (PySem.W.nsIn K mainGlobals "loop_of" = some (some (.ref (He.fAd K ("loop_of", none))))),
  decide (PySem.W.nsIn K mainGlobals "long_run" = some (some (.ref (He.fAd K ("long_run", none))))),
  decide (PySem.W.nsIn K mainGlobals "_law_cell" = some (some (.ref (He.fAd K ("_law_cell", none))))),
  decide (PySem.W.nsIn K mainGlobals "_law_whole" = some (some (.ref (He.fAd K ("_law_whole", none))))),
  decide (PySem.W.nsIn K mainGlobals "_law_pair" = some (some (.ref (He.fAd K ("_law_pair", none))))),
  decide (PySem.W.nsIn K mainGlobals "_law_strength" = some (some (.ref (He.fAd K ("_law_strength", none))))),
  decide (PySem.W.nsIn K mainGlobals "_law_pattern" = some (some (.ref (He.fAd K ("_law_pattern", none))))),
  decide (PySem.W.nsIn K mainGlobals "_law_copy" = some (some (.ref (He.fAd K ("_law_copy", none))))),
  decide (PySem.W.nsIn K mainGlobals "law" = some (some (.ref (He.fAd K ("law", none))))),
  decide (PySem.W.nsIn K mainGlobals "range" = some none),
  decide (PySem.W.nsIn K mainGlobals "len" = some none),
  decide (PySem.W.nsIn K mainGlobals "sum" = some none),
  decide (PySem.W.nsIn K mainGlobals "divmod" = some none),
  decide (PySem.W.nsIn K mainGlobals "min" = some none),
  decide (PySem.W.nsIn K mainGlobals "abs" = some none),
  decide (PySem.W.nsIn K mainGlobals "list" = some none),
  decide (PySem.W.nsIn K mainGlobals "any" = some none),
  decide (PySem.W.nsIn K mainGlobals "isinstance" = some none),
  decide (PySem.W.nsIn K mainGlobals "int" = some none),
  decide (PySem.W.nsIn K mainGlobals "bool" = some none),
  decide (PySem.W.nsIn K mainGlobals "tuple" = some none),
  decide (PySem.W.nsIn K mainGlobals "max" = some none),
  decide (PySem.W.nsIn K mainGlobals "all" = some none),
  decide (PySem.W.plainGet K (He.ga K "Pull") Str.empty = true),
  decide (PySem.W.hasDictIn K (He.ga K "Pull") = true),
  decide (PySem.W.plainOver K (He.ga K "Pull") = true),
  decide (PySem.W.findIn K (.ref (He.ga K "Pull")) "__setattr__" = some (some (.builtin "object.__setattr__"))),
  decide (PySem.W.makesIn K (He.ga K "Pull") = true),
  decide (PySem.W.keepIn K (.ref (He.ga K "Pull")) = true),
  decide (PySem.W.findIn K (.ref (He.ga K "Pull")) "one" = some none),
  decide (PySem.W.findIn K (.ref (He.ga K "Pull")) "two" = some none),
  decide (PySem.W.findIn K (.ref (He.ga K "Pull")) "strength" = some none),
  decide (PySem.W.plainGet K (He.ga K "Push") Str.empty = true),
  decide (PySem.W.hasDictIn K (He.ga K "Push") = true),
  decide (PySem.W.plainOver K (He.ga K "Push") = true),
  decide (PySem.W.findIn K (.ref (He.ga K "Push")) "__setattr__" = some (some (.builtin "object.__setattr__"))),
  decide (PySem.W.makesIn K (He.ga K "Push") = true),
  decide (PySem.W.keepIn K (.ref (He.ga K "Push")) = true),
  decide (PySem.W.findIn K (.ref (He.ga K "Push")) "one" = some none),
  decide (PySem.W.findIn K (.ref (He.ga K "Push")) "two" = some none),
  decide (PySem.W.findIn K (.ref (He.ga K "Push")) "strength" = some none),
  (He.Fa.int "MOST_MODULUS" 1000000000).ok K,
  (He.Fa.int "MOST_COLUMNS" 1000000000000000000).ok K]
def fnQ : List He.DefD := [
  ⟨("way_to", none), "way_to", "way_to", defArgs s_way_to, defBody s_way_to, defScope s_way_to, [], []⟩,
  ⟨("row_joined", none), "row_joined", "row_joined", defArgs s_row_joined, defBody s_row_joined, defScope s_row_joined, [], []⟩,
  ⟨("tables_joined", none), "tables_joined", "tables_joined", defArgs s_tables_joined, defBody s_tables_joined, defScope s_tables_joined, [], []⟩,
  ⟨("by_modulus", none), "by_modulus", "by_modulus", defArgs s_by_modulus, defBody s_by_modulus, defScope s_by_modulus, [], []⟩,
  ⟨("table_power", none), "table_power", "table_power", defArgs s_table_power, defBody s_table_power, defScope s_table_power, [], []⟩,
  ⟨("Tie", some "__init__"), "__init__", "Tie.__init__", defArgs s_Tie___init__, defBody s_Tie___init__, defScope s_Tie___init__, [], []⟩,
  ⟨("Pull", some "wish"), "wish", "Pull.wish", defArgs s_Pull_wish, defBody s_Pull_wish, defScope s_Pull_wish, [], []⟩,
  ⟨("Push", some "wish"), "wish", "Push.wish", defArgs s_Push_wish, defBody s_Push_wish, defScope s_Push_wish, [], []⟩,
  ⟨("Tie", some "unpleased"), "unpleased", "Tie.unpleased", defArgs s_Tie_unpleased, defBody s_Tie_unpleased, defScope s_Tie_unpleased, [], []⟩,
  ⟨("Tie", some "price"), "price", "Tie.price", defArgs s_Tie_price, defBody s_Tie_price, defScope s_Tie_price, [], []⟩,
  ⟨("tie_of", none), "tie_of", "tie_of", defArgs s_tie_of, defBody s_tie_of, defScope s_tie_of, [], []⟩,
  ⟨("rows_of", none), "rows_of", "rows_of", defArgs s_rows_of, defBody s_rows_of, defScope s_rows_of, [], []⟩,
  ⟨("across_price", none), "across_price", "across_price", defArgs s_across_price, defBody s_across_price, defScope s_across_price, [], []⟩,
  ⟨("along_price", none), "along_price", "along_price", defArgs s_along_price, defBody s_along_price, defScope s_along_price, [], []⟩,
  ⟨("column_table", none), "column_table", "column_table", defArgs s_column_table, defBody s_column_table, defScope s_column_table, [], []⟩,
  ⟨("step_table", none), "step_table", "step_table", defArgs s_step_table, defBody s_step_table, defScope s_step_table, [], []⟩,
  ⟨("strip_least", none), "strip_least", "strip_least", defArgs s_strip_least, defBody s_strip_least, defScope s_strip_least, [], []⟩,
  ⟨("lows_of", none), "lows_of", "lows_of", defArgs s_lows_of, defBody s_lows_of, defScope s_lows_of, [], []⟩,
  ⟨("lowest_into", none), "lowest_into", "lowest_into", defArgs s_lowest_into, defBody s_lowest_into, defScope s_lowest_into, [], []⟩,
  ⟨("walks", none), "walks", "walks", defArgs s_walks, defBody s_walks, defScope s_walks, [], []⟩,
  ⟨("steepest", none), "steepest", "steepest", defArgs s_steepest, defBody s_steepest, defScope s_steepest, [], []⟩,
  ⟨("lowest_average", none), "lowest_average", "lowest_average", defArgs s_lowest_average, defBody s_lowest_average, defScope s_lowest_average, [], []⟩,
  ⟨("slopes_of", none), "slopes_of", "slopes_of", defArgs s_slopes_of, defBody s_slopes_of, defScope s_slopes_of, [], []⟩,
  ⟨("loop_of", none), "loop_of", "loop_of", defArgs s_loop_of, defBody s_loop_of, defScope s_loop_of, [], []⟩,
  ⟨("long_run", none), "long_run", "long_run", defArgs s_long_run, defBody s_long_run, defScope s_long_run, [], []⟩,
  ⟨("_law_cell", none), "_law_cell", "_law_cell", defArgs s_law_cell, defBody s_law_cell, defScope s_law_cell, [], []⟩,
  ⟨("_law_whole", none), "_law_whole", "_law_whole", defArgs s_law_whole, defBody s_law_whole, defScope s_law_whole, [], []⟩,
  ⟨("_law_pair", none), "_law_pair", "_law_pair", defArgs s_law_pair, defBody s_law_pair, defScope s_law_pair, [], []⟩,
  ⟨("_law_strength", none), "_law_strength", "_law_strength", defArgs s_law_strength, defBody s_law_strength, defScope s_law_strength, [], []⟩,
  ⟨("_law_pattern", none), "_law_pattern", "_law_pattern", defArgs s_law_pattern, defBody s_law_pattern, defScope s_law_pattern, [], []⟩,
  ⟨("_law_copy", none), "_law_copy", "_law_copy", defArgs s_law_copy, defBody s_law_copy, defScope s_law_copy, [], []⟩,
  ⟨("law", none), "law", "law", defArgs s_law, defBody s_law, defScope s_law, [], []⟩]
def loQ0 : List PySem.Str := ["FloorError", "BadTie", "BadStrip", "way_to", "row_joined", "tables_joined", "by_modulus", "table_power", "Tie", "Pull", "Push", "tie_of", "MOST_COLUMNS", "MOST_MODULUS", "rows_of", "across_price", "along_price", "column_table", "step_table", "strip_least", "lows_of", "lowest_into", "walks", "steepest", "lowest_average", "slopes_of", "loop_of", "long_run", "_law_cell", "_law_whole"]
def loQ1 : List PySem.Str := ["_law_pair", "_law_strength", "_law_pattern", "_law_copy"]
def loQ : List PySem.Str := loQ0 ++ loQ1
abbrev hkQ : PySem.W.Hook := hookK fsQ fnQ
def obQ (s : PySem.W.SharedT) : He.AlD := obsKG fsQ fnQ (HandSHeadRun.getT s)
theorem obQ_eq (s : PySem.W.SharedT) : obQ s = hkQ.obs s.abs := obsKG_eq (HandSHeadRun.getT_eq s)
theorem runQ (w : World) : HandSHeadRun.RunEq (PySem.W.OpenLaw.row PySem.Challenge.rw_spinfloor_k52_whole_near_a_line) (PySem.W.view (PySem.W.OpenLaw.row PySem.Challenge.rw_spinfloor_k52_whole_near_a_line).prog [40]) hkQ obQ 4000 loQ w := by
  intro os
  kernel_rfl
abbrev qQ : Program := PySem.W.view (PySem.W.OpenLaw.row PySem.Challenge.rw_spinfloor_k52_whole_near_a_line).prog [40]
set_option maxRecDepth 100000 in
set_option maxHeartbeats 0 in
theorem headQ (hcall : PySem.W.WalkO qQ loQ (PySem.W.XL qQ []) hkQ.says (PySem.W.OpenLaw.row PySem.Challenge.rw_spinfloor_k52_whole_near_a_line).toRowW (HandSHeadRun.topDef (PySem.W.OpenLaw.row PySem.Challenge.rw_spinfloor_k52_whole_near_a_line).prog 40) [] fun f vs => PySem.call f vs) : PySem.Challenge.rw_spinfloor_k52_whole_near_a_line.Holds := by
  w_on; o_law
  refine HandSHeadRun.head_any (r := (PySem.W.OpenLaw.row PySem.Challenge.rw_spinfloor_k52_whole_near_a_line)) (q := qQ) (H := hkQ) (ob := obQ) (M := 4000) (loose := loQ) (d := (HandSHeadRun.topDef (PySem.W.OpenLaw.row PySem.Challenge.rw_spinfloor_k52_whole_near_a_line).prog 40)) (kwd := []) obQ_eq (by kernel_rfl) (fun s => by kernel_rfl) runQ (by kernel_rfl) (by kernel_rfl) (by kernel_rfl) (by rfl) (by first | assumption | decide +kernel) (by decide +kernel) ⟨rfl, rfl, rfl, rfl, rfl, by decide +kernel⟩ ?hw hcall
  case hw => w_witness2
/-! ### ties -/
structure Ti where
  push : Bool
  one : Nat
  two : Nat
  s : Nat
def tf (a b s : Int) : List (Str × V) := [("one", .int a), ("two", .int b), ("strength", .int s)]
theorem tf_one (a b s : Int) : (tf a b s).lookup ("one" : Str) = some (.int a) := by rfl
theorem tf_two (a b s : Int) : (tf a b s).lookup ("two" : Str) = some (.int b) := by rfl
theorem tf_str (a b s : Int) : (tf a b s).lookup ("strength" : Str) = some (.int s) := by rfl
theorem tf_eq (a b s : Int) : putF "strength" (.int s) (putF "two" (.int b) (putF "one" (.int a) [])) = tf a b s := by rfl
def clsOf (CP CQ : Addr) (push : Bool) : Addr := if push = true then CQ else CP
def TieAt (CP CQ : Addr) (H : Hp) (p : Addr) (t : Ti) : Prop := ∃ dx, H p = some (.ins (clsOf CP CQ t.push) dx (tf t.one t.two t.s))
theorem TieAt.same {CP CQ : Addr} {H H' : Hp} {p : Addr} {t : Ti} (h : TieAt CP CQ H p t) (e : Same H H') : TieAt CP CQ H' p t := by
  obtain ⟨dx, h⟩ := h
  exact ⟨dx, e _ _ h⟩
/-- a list of ties: where each stands -/
def TiesIn (CP CQ : Addr) (H : Hp) (ps : List Addr) (ts : List Ti) : Prop := ps.length = ts.length ∧ ∀ (i : Nat) (p : Addr) (t : Ti), ps[i]? = some p → ts[i]? = some t → TieAt CP CQ H p t
def TiesAt (K : PySem.W.Frag) (CP CQ : Addr) (H : Hp) (a : Addr) (ts : List Ti) : Prop := ∃ ps : List Addr, SqL K H a (ps.map V.ref) ∧ TiesIn CP CQ H ps ts
theorem TiesIn.same {CP CQ : Addr} {H H' : Hp} {ps : List Addr} {ts : List Ti} (h : TiesIn CP CQ H ps ts) (e : Same H H') : TiesIn CP CQ H' ps ts := ⟨h.1, fun i p t a b => (h.2 i p t a b).same e⟩
theorem TiesAt.same {K : PySem.W.Frag} {CP CQ : Addr} {H H' : Hp} {a : Addr} {ts : List Ti} (h : TiesAt K CP CQ H a ts) (e : Same H H') : TiesAt K CP CQ H' a ts := by
  obtain ⟨ps, h1, h2⟩ := h
  exact ⟨ps, e.seq h1, h2.same e⟩
theorem TiesIn.nil {CP CQ : Addr} {H : Hp} : TiesIn CP CQ H [] [] := ⟨rfl, fun i p t a _ => by simp at a⟩
theorem TieAt.ins {CP CQ : Addr} {H : Hp} {p D : Addr} {t : Ti} {xs ys : List V} (h : TieAt CP CQ H p t) (hD : H D = some (.lst xs)) : TieAt CP CQ (upd H D (.lst ys)) p t := by
  obtain ⟨dx, h⟩ := h
  exact ⟨dx, by rw [upd_ne (ne_of h hD (by intro z; cases z))]; exact h⟩
theorem TiesIn.lst {CP CQ : Addr} {H : Hp} {D : Addr} {ps : List Addr} {ts : List Ti} {xs ys : List V} (h : TiesIn CP CQ H ps ts) (hD : H D = some (.lst xs)) : TiesIn CP CQ (upd H D (.lst ys)) ps ts :=
  ⟨h.1, fun i p t a b => (h.2 i p t a b).ins hD⟩
theorem TiesIn.push {CP CQ : Addr} {H : Hp} {p : Addr} {t : Ti} {ps : List Addr} {ts : List Ti} (h : TiesIn CP CQ H ps ts) (hp : TieAt CP CQ H p t) : TiesIn CP CQ H (ps ++ [p]) (ts ++ [t]) := by
  refine ⟨by simp [h.1], fun i p' t' a b => ?_⟩
  have hl := h.1
  by_cases e : i < ps.length
  · rw [List.getElem?_append_left e] at a
    rw [List.getElem?_append_left (by omega)] at b
    exact h.2 i p' t' a b
  · have e2 : i = ps.length := by
      have := (List.getElem?_eq_some_iff.mp a).1
      simp at this
      omega
    subst e2
    rw [List.getElem?_append_right (Nat.le_refl _), Nat.sub_self] at a
    rw [List.getElem?_append_right (by omega), hl, Nat.sub_self] at b
    simp at a b
    subst a b
    exact hp
theorem TiesIn.get {CP CQ : Addr} {H : Hp} {ps : List Addr} {ts : List Ti} (h : TiesIn CP CQ H ps ts) {i : Nat} {t : Ti} (e : ts[i]? = some t) : ∃ p, (ps.map V.ref)[i]? = some (.ref p) ∧ TieAt CP CQ H p t := by
  have hi : i < ps.length := by have := (List.getElem?_eq_some_iff.mp e).1; rw [h.1]; exact this
  exact ⟨ps[i], by rw [List.getElem?_map, List.getElem?_eq_getElem hi]; rfl, h.2 i _ _ (List.getElem?_eq_getElem hi) e⟩
theorem made_same {H : Hp} {x dx C : Addr} {fs : List (Str × V)} (h1 : New H x) (h2 : New H dx) (h3 : dx ≠ x) : Same H (upd (upd H dx (.own x)) x (.ins C dx fs)) :=
  ((Same.refl H).new h2).new (show upd H dx (.own x) x = none by rw [upd_ne (Ne.symm h3)]; exact h1)
section
variable {P : Program} {w : World} {K : PySem.W.Frag} {mg : Str → Option Value} {base : Heap} {C_Pull C_Push : Addr}
structure TieCls (K : PySem.W.Frag) (CP CQ : Addr) : Prop where
  cp : Cls K CP
  cq : Cls K CQ
  p1 : NoAttr K CP "one"
  p2 : NoAttr K CP "two"
  p3 : NoAttr K CP "strength"
  q1 : NoAttr K CQ "one"
  q2 : NoAttr K CQ "two"
  q3 : NoAttr K CQ "strength"
theorem TieCls.cl (T : TieCls K C_Pull C_Push) (push : Bool) : Cls K (clsOf C_Pull C_Push push) := by cases push; exact T.cp; exact T.cq
theorem TieCls.n1 (T : TieCls K C_Pull C_Push) (push : Bool) : NoAttr K (clsOf C_Pull C_Push push) "one" := by cases push; exact T.p1; exact T.q1
theorem TieCls.n2 (T : TieCls K C_Pull C_Push) (push : Bool) : NoAttr K (clsOf C_Pull C_Push push) "two" := by cases push; exact T.p2; exact T.q2
theorem TieCls.n3 (T : TieCls K C_Pull C_Push) (push : Bool) : NoAttr K (clsOf C_Pull C_Push push) "strength" := by cases push; exact T.p3; exact T.q3
theorem Txt.tie {C_Pull C_Push : Addr} (T : Txt K mg C_Pull C_Push) : TieCls K C_Pull C_Push := ⟨T.cl_Pull, T.cl_Push, T.n_Pull_one, T.n_Pull_two, T.n_Pull_strength, T.n_Push_one, T.n_Push_two, T.n_Push_strength⟩
theorem w_t1 {H : Hp} {p : Addr} {t : Ti} {R : V → Prop} (T : TieCls K C_Pull C_Push) (hp : TieAt C_Pull C_Push H p t) (h : R (.int (t.one : Nat))) : ∃ a C' dx' fs' v', V.ref p = .ref a ∧ H a = some (.ins C' dx' fs') ∧ Cls K C' ∧ NoAttr K C' "one" ∧ fs'.lookup ("one" : Str) = some v' ∧ R v' := by
  obtain ⟨dx, e⟩ := hp
  exact ⟨p, _, dx, _, _, rfl, e, T.cl _, T.n1 _, tf_one _ _ _, h⟩
theorem w_t2 {H : Hp} {p : Addr} {t : Ti} {R : V → Prop} (T : TieCls K C_Pull C_Push) (hp : TieAt C_Pull C_Push H p t) (h : R (.int (t.two : Nat))) : ∃ a C' dx' fs' v', V.ref p = .ref a ∧ H a = some (.ins C' dx' fs') ∧ Cls K C' ∧ NoAttr K C' "two" ∧ fs'.lookup ("two" : Str) = some v' ∧ R v' := by
  obtain ⟨dx, e⟩ := hp
  exact ⟨p, _, dx, _, _, rfl, e, T.cl _, T.n2 _, tf_two _ _ _, h⟩
theorem w_t3 {H : Hp} {p : Addr} {t : Ti} {R : V → Prop} (T : TieCls K C_Pull C_Push) (hp : TieAt C_Pull C_Push H p t) (h : R (.int (t.s : Nat))) : ∃ a C' dx' fs' v', V.ref p = .ref a ∧ H a = some (.ins C' dx' fs') ∧ Cls K C' ∧ NoAttr K C' "strength" ∧ fs'.lookup ("strength" : Str) = some v' ∧ R v' := by
  obtain ⟨dx, e⟩ := hp
  exact ⟨p, _, dx, _, _, rfl, e, T.cl _, T.n3 _, tf_str _ _ _, h⟩
def spTInit (CP CQ : Addr) : Sp := fun vs H Q _ => ∃ (p dx : Addr) (t : Ti), vs = [.ref p, .int t.one, .int t.two, .int t.s] ∧ H p = some (.ins (clsOf CP CQ t.push) dx []) ∧ t.one ≠ t.two ∧ Q .non (upd H p (.ins (clsOf CP CQ t.push) dx (tf t.one t.two t.s)))
theorem ok_Tie___init__ {f : Addr} {fd : FuncData} (F : Fun K "__init__" "Tie.__init__" s_Tie___init__ f fd) (B : Bl mg) {C_Pull C_Push : Addr} (T : Txt K mg C_Pull C_Push) : HasFn P w K mg base CX0 1 f ["self", "one", "two", "strength"] (spTInit C_Pull C_Push) := by
  refine HasFn.mk' F (F.binds (ps := ["self", "one", "two", "strength"]) fun _ _ _ _ _ _ us hl => match us, hl with | [_, _, _, _], _ => rfl) sc_Tie___init__ (by walk_at "len") (fun cdv A outer s H vs Q E hr h => ?_)
  obtain ⟨p, dx, t, rfl, hp, hne, q⟩ := h
  refine ⟨_, (pss_cons (ps_if (PW.pt (pw_or (pt_cmpR op_eq (pv 1) (pv 2) (nomark _)) (pw_or (pt_cmpR op_lt (pv 1) pe_int (nomark _)) (pw_or (pt_cmpR op_lt (pv 2) pe_int (nomark _)) (pw_or1 (pt_cmpR op_lt (pv 3) pe_int (nomark _))))))) (pss_one ps_never) pss_nil)
 (pss_cons (ps_fld (pv 0) (pv 1) rfl)
 (pss_cons (ps_fld (pv 0) (pv 2) rfl)
 (pss_one (ps_fld (pv 0) (pv 3) rfl))))), ?_⟩
  walk_at "sts"
  refine w_sfq hp (T.tie.cl _) (T.tie.n1 _) (by show 0 < 1000; decide) ?_
  walk_at "sts"
  refine w_sfq upd_same (T.tie.cl _) (T.tie.n2 _) (by show 1 < 1000; decide) ?_
  walk_at "sts"
  refine w_sfq upd_same (T.tie.cl _) (T.tie.n3 _) (by show 2 < 1000; decide) ?_
  walk_at "sts"
  rw [tf_eq, upd_upd, upd_upd]
  exact q
end

section
variable {P : Program} {w : World} {K : PySem.W.Frag} {mg : Str → Option Value} {base : Heap} {C_Pull C_Push : Addr}
theorem tf_no (a b s : Int) {m : Str} (h1 : ¬ m = "one") (h2 : ¬ m = "two") (h3 : ¬ m = "strength") : (tf a b s).lookup m = none := by
  unfold tf
  simp [List.lookup, h1, h2, h3, beq_eq_false_iff_ne.mpr]
/-- a method of either kind, called -/
theorem w_mt {σ : L2.St} {H : Hp} {Q : VK} {ta : TE} {tl : TA} {m : Str} {sp : Sp} {p : Addr} {t : Ti} (h1 : ¬ m = "one") (h2 : ¬ m = "two") (h3 : ¬ m = "strength")
    (ha : ∀ R : VK, R (.ref p) H → ta σ H R) (ht : TieAt C_Pull C_Push H p t) (h : tl σ H fun vs H2 => sp (.ref p :: vs) H2 Q E0) : tMeth C_Pull m sp [] E0 ta tl σ H Q ∨ tMeth C_Push m sp [] E0 ta tl σ H Q := by
  obtain ⟨dx, e⟩ := ht
  cases hp : t.push with
  | true =>
    rw [hp] at e
    exact .inr (w_meth (ha _ (w_methq e (tf_no _ _ _ h1 h2 h3) h)))
  | false =>
    rw [hp] at e
    exact .inl (w_meth (ha _ (w_methq e (tf_no _ _ _ h1 h2 h3) h)))
theorem w_mt2 {σ : L2.St} {H : Hp} {Q : VK} {ta : TE} {tl : TA} {m : Str} {sp sq : Sp} {p : Addr} {t : Ti} (h1 : ¬ m = "one") (h2 : ¬ m = "two") (h3 : ¬ m = "strength")
    (ha : ∀ R : VK, R (.ref p) H → ta σ H R) (ht : TieAt C_Pull C_Push H p t) (hp : t.push = false → tl σ H fun vs H2 => sp (.ref p :: vs) H2 Q E0) (hq : t.push = true → tl σ H fun vs H2 => sq (.ref p :: vs) H2 Q E0) : tMeth C_Pull m sp [] E0 ta tl σ H Q ∨ tMeth C_Push m sq [] E0 ta tl σ H Q := by
  obtain ⟨dx, e⟩ := ht
  cases hb : t.push with
  | true =>
    rw [hb] at e
    exact .inr (w_meth (ha _ (w_methq e (tf_no _ _ _ h1 h2 h3) (hq hb))))
  | false =>
    rw [hb] at e
    exact .inl (w_meth (ha _ (w_methq e (tf_no _ _ _ h1 h2 h3) (hp hb))))
def wishOf (t : Ti) : Int := if t.push = true then 1 else 0
def spWish (CP CQ : Addr) (b : Bool) : Sp := fun vs H Q _ => ∃ (p : Addr) (t : Ti), vs = [.ref p] ∧ t.push = b ∧ TieAt CP CQ H p t ∧ Q (.int (wishOf t)) H
theorem ok_Pull_wish {f : Addr} {fd : FuncData} (F : Fun K "wish" "Pull.wish" s_Pull_wish f fd) (B : Bl mg) {C_Pull C_Push : Addr} (T : Txt K mg C_Pull C_Push) : HasFn P w K mg base CX0 1 f ["self"] (spWish C_Pull C_Push false) := by
  refine HasFn.mk' F (F.binds (ps := ["self"]) fun _ _ _ _ _ _ us hl => match us, hl with | [_], _ => rfl) sc_Pull_wish (by walk_at "len") (fun cdv A outer s H vs Q E hr h => ?_)
  obtain ⟨p, t, rfl, hp, ht, q⟩ := h
  refine ⟨_, (pss_one (ps_ret pe_int)), ?_⟩
  walk_at "sts"
  unfold wishOf at q
  rw [hp] at q
  exact q
theorem ok_Push_wish {f : Addr} {fd : FuncData} (F : Fun K "wish" "Push.wish" s_Push_wish f fd) (B : Bl mg) {C_Pull C_Push : Addr} (T : Txt K mg C_Pull C_Push) : HasFn P w K mg base CX0 1 f ["self"] (spWish C_Pull C_Push true) := by
  refine HasFn.mk' F (F.binds (ps := ["self"]) fun _ _ _ _ _ _ us hl => match us, hl with | [_], _ => rfl) sc_Push_wish (by walk_at "len") (fun cdv A outer s H vs Q E hr h => ?_)
  obtain ⟨p, t, rfl, hp, ht, q⟩ := h
  refine ⟨_, (pss_one (ps_ret pe_int)), ?_⟩
  walk_at "sts"
  unfold wishOf at q
  rw [hp] at q
  exact q
end

section
variable {P : Program} {w : World} {K : PySem.W.Frag} {mg : Str → Option Value} {base : Heap} {C_Pull C_Push : Addr}
def unp (t : Ti) (l : Nat) : Bool := (l.testBit t.one == l.testBit t.two) == t.push
theorem par_bits (x y : Nat) : (x + y) % 2 = if (decide (x % 2 = 1) == decide (y % 2 = 1)) = true then 0 else 1 := by
  have hx : x % 2 = 0 ∨ x % 2 = 1 := by omega
  have hy : y % 2 = 0 ∨ y % 2 = 1 := by omega
  rcases hx with h | h <;> rcases hy with h2 | h2 <;> simp [h, h2] <;> omega
theorem unp_eq (t : Ti) (l : Nat) : (!decide (Builtin.bitAnd ((l : Int) / 2 ^ (Int.toNat (t.one : Int)) + (l : Int) / 2 ^ (Int.toNat (t.two : Int))) 1 = wishOf t)) = unp t l := by
  rw [shr_nat, shr_nat, ← Int.natCast_add, and_one _ (Int.natCast_nonneg _)]
  unfold unp wishOf
  rw [Nat.testBit_eq_decide_div_mod_eq, Nat.testBit_eq_decide_div_mod_eq, ← Nat.shiftRight_eq_div_pow, ← Nat.shiftRight_eq_div_pow]
  have h := par_bits (l >>> t.one) (l >>> t.two)
  generalize l >>> t.one = x at h ⊢
  generalize l >>> t.two = y at h ⊢
  have e : ((x + y : Nat) : Int) % 2 = (((x + y) % 2 : Nat) : Int) := by omega
  rw [e, h]
  generalize (decide (x % 2 = 1) == decide (y % 2 = 1)) = b
  cases b <;> cases t.push <;> decide
def spUnp (CP CQ : Addr) : Sp := fun vs H Q _ => ∃ (p : Addr) (t : Ti) (l : Nat), vs = [.ref p, .int l] ∧ TieAt CP CQ H p t ∧ Q (.bl (unp t l)) H
theorem ok_Tie_unpleased {f : Addr} {fd : FuncData} (F : Fun K "unpleased" "Tie.unpleased" s_Tie_unpleased f fd) (B : Bl mg) {C_Pull C_Push : Addr} (T : Txt K mg C_Pull C_Push) (h_Pull_wish : HasMeth P w K mg base CX0 1 C_Pull "wish" ["self"] (spWish C_Pull C_Push false)) (h_Push_wish : HasMeth P w K mg base CX0 1 C_Push "wish" ["self"] (spWish C_Pull C_Push true)) : HasFn P w K mg base CX0 2 f ["self", "laying"] (spUnp C_Pull C_Push) := by
  refine HasFn.mk' F (F.binds (ps := ["self", "laying"]) fun _ _ _ _ _ _ us hl => match us, hl with | [_, _], _ => rfl) sc_Tie_unpleased (by walk_at "len") (fun cdv A outer s H vs Q E hr h => ?_)
  obtain ⟨p, t, l, rfl, ht, q⟩ := h
  refine ⟨_, (pss_cons (ps_set (i := 2) sc_Tie_unpleased.nd rfl (.inl rfl) (pe_op op_add (pe_op op_shr (pv 1) (pe_fldK K (pv 0) rfl)) (pe_op op_shr (pv 1) (pe_fldK K (pv 0) rfl))))
 (pss_one (ps_ret (pe_cmpR op_ne (pe_op op_and (pv 2) pe_int) (PE.or (pe_mt0 h_Pull_wish (pv 0) (hr.mono (by decide))) (pe_mt0 h_Push_wish (pv 0) (hr.mono (by decide)))) (nomark _))))), ?_⟩
  walk_at "sts"
  refine w_t1 T.tie ht ?_
  walk_at "sts"
  refine w_t2 T.tie ht ?_
  walk_at "sts"
  refine w_mt2 (p := p) (t := t) (by decide +kernel) (by decide +kernel) (by decide +kernel) (fun R h => ⟨_, rfl, h⟩) ht (fun hb => ?_) (fun hb => ?_)
  all_goals
    walk_at "sts"
    refine ⟨p, t, rfl, hb, ht, ?_⟩
    walk_at "sts"
    rw [unp_eq]
    exact q
def spPrice (CP CQ : Addr) : Sp := fun vs H Q _ => ∃ (p : Addr) (t : Ti) (l : Nat), vs = [.ref p, .int l] ∧ TieAt CP CQ H p t ∧ Q (.int (if unp t l = true then (t.s : Int) else 0)) H
theorem ok_Tie_price {f : Addr} {fd : FuncData} (F : Fun K "price" "Tie.price" s_Tie_price f fd) (B : Bl mg) {C_Pull C_Push : Addr} (T : Txt K mg C_Pull C_Push) (h_Pull_unpleased : HasMeth P w K mg base CX0 2 C_Pull "unpleased" ["self", "laying"] (spUnp C_Pull C_Push)) (h_Push_unpleased : HasMeth P w K mg base CX0 2 C_Push "unpleased" ["self", "laying"] (spUnp C_Pull C_Push)) : HasFn P w K mg base CX0 3 f ["self", "laying"] (spPrice C_Pull C_Push) := by
  refine HasFn.mk' F (F.binds (ps := ["self", "laying"]) fun _ _ _ _ _ _ us hl => match us, hl with | [_, _], _ => rfl) sc_Tie_price (by walk_at "len") (fun cdv A outer s H vs Q E hr h => ?_)
  obtain ⟨p, t, l, rfl, ht, q⟩ := h
  refine ⟨_, (pss_one (ps_ret (pe_ifExp (pt_val (PE.or (pe_mt h_Pull_unpleased (pv 0) (hr.mono (by decide)) (pa_cons (pv 1) pa_nil)) (pe_mt h_Push_unpleased (pv 0) (hr.mono (by decide)) (pa_cons (pv 1) pa_nil)))) (pe_fldK K (pv 0) rfl) pe_int))), ?_⟩
  walk_at "sts"
  refine w_mt (p := p) (t := t) (by decide +kernel) (by decide +kernel) (by decide +kernel) (fun R h => ⟨_, rfl, h⟩) ht ?_
  walk_at "sts"
  refine ⟨p, t, l, rfl, ht, ?_⟩
  walk_at "sts"
  refine ifb (fun hc => ?_) (fun hc => ?_)
  · rw [if_pos hc] at q
    walk_at "sts"
    refine w_t3 T.tie ht ?_
    exact q
  · rw [hc] at q
    walk_at "sts"
    exact q
def spAcross (CP CQ : Addr) : Sp := fun vs H Q _ => ∃ (p : Addr) (t : Ti) (z : Int), vs = [.ref p, .int z] ∧ TieAt CP CQ H p t ∧ Q (.int (if z = (t.one : Int) then (t.two : Int) else (t.one : Int))) H
end

section
variable {P : Program} {w : World} {K : PySem.W.Frag} {mg : Str → Option Value} {base : Heap} {C_Pull C_Push : Addr}
def tieZ (a b : Nat) (z : Int) : Ti := ⟨decide (z < 0), a, b, z.natAbs⟩
def spTieOf (CP CQ : Addr) : Sp := fun vs H Q _ => ∃ (a b : Nat) (z : Int), vs = [.int a, .int b, .int z] ∧ a ≠ b ∧ ∀ p H', Same H H' → New H p → TieAt CP CQ H' p (tieZ a b z) → Q (.ref p) H'
theorem ok_tie_of {f : Addr} {fd : FuncData} (F : Fun K "tie_of" "tie_of" s_tie_of f fd) (gf : mg "tie_of" = some (.ref f)) (B : Bl mg) {C_Pull C_Push : Addr} (T : Txt K mg C_Pull C_Push) (h_mk_Push : HasMk P w K mg base CX0 1 "Push" C_Push ["self", "one", "two", "strength"] (spTInit C_Pull C_Push)) (h_mk_Pull : HasMk P w K mg base CX0 1 "Pull" C_Pull ["self", "one", "two", "strength"] (spTInit C_Pull C_Push)) : Has P w K mg base CX0 3 "tie_of" ["one", "two", "signed"] (spTieOf C_Pull C_Push) := by
  refine Has.mk' F gf (F.binds (ps := ["one", "two", "signed"]) fun _ _ _ _ _ _ us hl => match us, hl with | [_, _, _], _ => rfl) sc_tie_of (by walk_at "len") (fun cdv A outer s H vs Q E hr h => ?_)
  obtain ⟨a, b, z, rfl, hne, q⟩ := h
  refine ⟨_, (pss_cons (ps_if (pt_cmpR op_ge (pv 2) pe_int (nomark _)) (pss_one (ps_ret (pe_mk h_mk_Pull (hr.mono (by decide)) (by rfl) (pa_cons (pv 0) (pa_cons (pv 1) (pa_cons (pv 2) pa_nil)))))) pss_nil)
 (pss_one (ps_ret (pe_mk h_mk_Push (hr.mono (by decide)) (by rfl) (pa_cons (pv 0) (pa_cons (pv 1) (pa_cons (pe_un un_neg (pv 2)) pa_nil))))))), ?_⟩
  walk_at "sts"
  refine ifd (fun hc => ?_) (fun hc => ?_)
  · walk_at "sts"
    intro x dx nx nd hd
    have hz : decide (z < 0) = false := decide_eq_false (by omega)
    refine ⟨x, dx, tieZ a b z, ?_, ?_, hne, rfl, ?_⟩
    · show [V.ref x, V.int a, V.int b, V.int z] = [V.ref x, V.int a, V.int b, V.int (z.natAbs : Nat)]
      rw [show ((z.natAbs : Nat) : Int) = z by omega]
    · unfold tieZ clsOf
      simp only [hz, Bool.false_eq_true, if_false]
      exact upd_same
    · rw [upd_upd]
      exact q _ _ (made_same nx nd hd) nx ⟨dx, upd_same⟩
  · walk_at "sts"
    intro x dx nx nd hd
    have hz : decide (z < 0) = true := decide_eq_true (by omega)
    refine ⟨x, dx, tieZ a b z, ?_, ?_, hne, rfl, ?_⟩
    · show [V.ref x, V.int a, V.int b, V.int (-z)] = [V.ref x, V.int a, V.int b, V.int (z.natAbs : Nat)]
      rw [show ((z.natAbs : Nat) : Int) = -z by omega]
    · unfold tieZ clsOf
      simp only [hz, if_true]
      exact upd_same
    · rw [upd_upd]
      exact q _ _ (made_same nx nd hd) nx ⟨dx, upd_same⟩
end

/-! ### data of webs -/
def dRow (r : List Nat) : PyData := .list (r.map fun x : Nat => .int (x : Int))
def dRows (T : List (List Nat)) : PyData := .list (T.map dRow)
def iv (r : List Nat) : List V := r.map fun x : Nat => V.int (x : Int)
theorem iv_len (r : List Nat) : (iv r).length = r.length := by unfold iv; simp
theorem iv_at {r : List Nat} {i : Nat} (h : i < r.length) : (iv r)[i]? = some (.int ((r.getD i 0 : Nat) : Int)) := by
  unfold iv
  rw [List.getElem?_map, List.getD_eq_getElem?_getD, List.getElem?_eq_getElem h]
  rfl
theorem iv_app (r s : List Nat) : iv (r ++ s) = iv r ++ iv s := by unfold iv; simp
theorem take_snoc {l : List Nat} {i : Nat} (h : i < l.length) : l.take (i + 1) = l.take i ++ [l.getD i 0] := by
  rw [List.take_add_one, List.getElem?_eq_getElem h, List.getD_eq_getElem?_getD, List.getElem?_eq_getElem h]
  rfl
theorem iv_flat (r : List Nat) : (iv r).all flatV = true := by
  rw [List.all_eq_true]
  intro v hv
  obtain ⟨x, _, rfl⟩ := List.mem_map.mp hv
  rfl
theorem dpRowA {K : PySem.W.Frag} {H : Hp} {a : Addr} {r : List Nat} (h : Dp K H (.ref a) (dRow r)) : SqL K H a (iv r) := by
  obtain ⟨xs, h1, h2⟩ := dpLstA h
  have e := dpAll_ints (ns := r.map fun x : Nat => (x : Int)) (by rw [List.map_map]; exact h2)
  rw [List.map_map] at e
  have e2 : xs = iv r := e
  rw [← e2]
  exact h1
theorem dpRow {K : PySem.W.Frag} {H : Hp} {a : Addr} {r : List Nat} (h : SqL K H a (iv r)) : Dp K H (.ref a) (dRow r) := by
  have := dpInts (K := K) (H := H) (r.map fun x : Nat => (x : Int))
  rw [List.map_map, List.map_map] at this
  exact .lst h this
theorem goodRow (r : List Nat) : Good 1 (dRow r) := goodLst (goodMap fun _ => goodInt)
theorem goodRows (T : List (List Nat)) : Good 2 (dRows T) := goodLst (goodMap fun r => goodRow r)
theorem w_idx {K : PySem.W.Frag} {H : Hp} {Q : VK} {p : Addr} {r : List Nat} {x : Nat} (hs : SqL K H p (iv r)) (hx : x ∈ r) (h : Q (.int ((r.idxOf x : Nat) : Int)) H) : rIndex K (.ref p) [.int (x : Int)] H Q := by
  have hl : r.idxOf x < r.length := List.idxOf_lt_length_of_mem hx
  refine ⟨p, iv r, .int (x : Int), r.idxOf x, .int ((r.getD (r.idxOf x) 0 : Nat) : Int), rfl, rfl, hs, rfl, iv_flat r, iv_at hl, ?_, ?_, h⟩
  · have : r.getD (r.idxOf x) 0 = x := by
      rw [List.getD_eq_getElem?_getD, List.getElem?_eq_getElem hl]
      exact List.getElem_idxOf hl
    rw [this]
    simp [eqV]
  · intro m z' hm hz
    have hml : m < r.length := by omega
    rw [iv_at hml] at hz
    cases hz
    have hne : r.getD m 0 ≠ x := by
      rw [List.getD_eq_getElem?_getD, List.getElem?_eq_getElem hml]
      have := List.not_of_lt_findIdx (xs := r) (p := (· == x)) hm
      simpa using this
    show (((r.getD m 0 : Nat) : Int) == (x : Int)) = false
    rw [beq_eq_false_iff_ne]
    omega
theorem iv_map (r : List Nat) : iv r = (r.map fun x : Nat => (x : Int)).map V.int := by unfold iv; rw [List.map_map]; rfl

theorem inV_iv (x : Nat) (r : List Nat) : inV (.int (x : Int)) (iv r) = decide (x ∈ r) := by
  unfold inV iv
  induction r with
  | nil => rfl
  | cons a r ih =>
    rw [List.map_cons, List.any_cons, ih]
    have : eqV (.int (a : Int)) (.int (x : Int)) = decide (a = x) := by
      show decide _ = _
      by_cases h : a = x
      · simp [h]
      · simp [h]; omega
    rw [this]
    by_cases h : x = a
    · subst h; simp
    · simp [h, Ne.symm h]
theorem w_notin {K : PySem.W.Frag} {H : Hp} {Q : VK} {p : Addr} {r : List Nat} {x : Nat} (hs : SqL K H p (iv r)) (h : Q (.bl (!decide (x ∈ r))) H) : rIn K true (.int (x : Int)) (.ref p) H Q :=
  ⟨p, iv r, rfl, .inl hs, rfl, iv_flat r, by rw [inV_iv]; exact h⟩
theorem w_in {K : PySem.W.Frag} {H : Hp} {Q : VK} {p : Addr} {r : List Nat} {x : Nat} (hs : SqL K H p (iv r)) (h : Q (.bl (decide (x ∈ r))) H) : rIn K false (.int (x : Int)) (.ref p) H Q :=
  ⟨p, iv r, rfl, .inl hs, rfl, iv_flat r, by rw [inV_iv]; exact h⟩

theorem w_istS {K : PySem.W.Frag} {H : Hp} {Q : VK} {p : Addr} {xs : List V} {s : String} {b : Bool} (hp : SqT K H p xs) (hk : kitB "tuple" s = some b) (h : Q (.bl b) H) : rIsi K [.ref p, .ty s] H Q := by
  rcases hp with (hp | ⟨o, hp⟩) | ⟨o, its, n, h1, h2, _⟩
  · exact ⟨_, _, _, _, b, rfl, .ty _, .base (.tup hp), kit_ty hk, h⟩
  · exact ⟨_, _, _, _, b, rfl, .ty _, .fTuple hp, kit_ty hk, h⟩
  · exact ⟨_, _, _, _, b, rfl, .ty _, .kTuple h1 h2, kit_ty hk, h⟩

/-! ### lists whose members stand beside them -/
theorem wo_self {H : Hp} {D : Addr} (h : H D = none) : wo H D = H := by
  funext b
  by_cases e : b = D
  · subst e; rw [h]; exact if_pos rfl
  · exact if_neg e
def GrD (K : PySem.W.Frag) (H : Hp) (D : Addr) (ds : List PyData) : Prop := ∃ xs, H D = some (.lst xs) ∧ DpAll K (wo H D) xs ds
theorem GrD.new {K : PySem.W.Frag} {H : Hp} {D : Addr} : GrD K (upd H D (.lst [])) D [] := ⟨[], upd_same, .nil⟩
theorem GrD.same {K : PySem.W.Frag} {H H' : Hp} {D : Addr} {ds : List PyData} (h : GrD K H D ds) (e : Same H H') : GrD K H' D ds := by
  obtain ⟨xs, h1, h2⟩ := h
  exact ⟨xs, e _ _ h1, h2.same (wo_mono e)⟩
theorem GrD.dp {K : PySem.W.Frag} {H : Hp} {D : Addr} {ds : List PyData} (h : GrD K H D ds) : Dp K H (.ref D) (.list ds) := by
  obtain ⟨xs, h1, h2⟩ := h
  exact .lst (SqL.of h1) (h2.same wo_same)
/-- put at the end, the list laid aside while the member was made -/
theorem GrD.put {K : PySem.W.Frag} {H H' : Hp} {D : Addr} {ds : List PyData} {d : PyData} {v : V} {xs : List V} (h : DpAll K (wo H D) xs ds) (e : Same (wo H D) H') (n : H' D = none) (hv : Dp K H' v d) {o : HO} : GrD K (upd (upd H' D o) D (.lst (xs ++ [v]))) D (ds ++ [d]) := by
  refine ⟨xs ++ [v], upd_same, ?_⟩
  rw [wo_eq, wo_eq, wo_self n]
  exact dpaApp (h.same e) (.cons hv .nil)
/-- put at the end -/
theorem GrD.push {K : PySem.W.Frag} {H H' : Hp} {D : Addr} {ds : List PyData} {d : PyData} {v : V} {xs : List V} (h : DpAll K (wo H D) xs ds) (e : Same H H') (hv : Dp K (wo H' D) v d) : GrD K (upd H' D (.lst (xs ++ [v]))) D (ds ++ [d]) :=
  ⟨xs ++ [v], upd_same, dpaPush h e hv⟩
theorem GrD.len {K : PySem.W.Frag} {H : Hp} {D : Addr} {xs : List V} {ds : List PyData} (h : DpAll K (wo H D) xs ds) : xs.length = ds.length := dpaLen h
theorem range_snoc {α : Type} (f : Nat → α) (i : Nat) : (List.range (i + 1)).map f = (List.range i).map f ++ [f i] := by rw [List.range_succ, List.map_append]; rfl
theorem w_islS {K : PySem.W.Frag} {H : Hp} {Q : VK} {p : Addr} {xs : List V} {s : String} {b : Bool} (hp : SqL K H p xs) (hk : kitB "list" s = some b) (h : Q (.bl b) H) : rIsi K [.ref p, .ty s] H Q := by
  rcases hp with (hp | ⟨o, hp⟩) | ⟨o, its, n, h1, h2, _⟩
  · exact ⟨_, _, _, _, b, rfl, .ty _, .base (.lst hp), kit_ty hk, h⟩
  · exact ⟨_, _, _, _, b, rfl, .ty _, .base (.frz hp), kit_ty hk, h⟩
  · exact ⟨_, _, _, _, b, rfl, .ty _, .kList h1 h2, kit_ty hk, h⟩
theorem range_put {α β : Type} (g : α → β) (A : Nat → α) (f : α) (i : Nat) : (List.range (i + 1)).map (fun s => g (if s = i then f else A s)) = (List.range i).map (fun s => g (A s)) ++ [g f] := by
  rw [range_snoc, if_pos rfl, List.map_congr_left fun s hs => by rw [if_neg (by have := List.mem_range.mp hs; omega)]]

/-! ### tables in the store -/
theorem w_minL {K : PySem.W.Frag} {H : Hp} {Q : VK} {a : Addr} {ns : List Int} (hs : SqL K H a (ns.map V.int)) (h0 : 0 < ns.length) (h : ∀ m, m ∈ ns → (∀ y, y ∈ ns → m ≤ y) → Q (.int m) H) : rMin K [.ref a] H Q := ⟨a, ns, rfl, hs, h0, h⟩
theorem csm_min {F : Nat → CN} {n : Nat} {m : Int} (h1 : m ∈ (List.range (n + 1)).map fun i => (F i).1) (h2 : ∀ y, y ∈ (List.range (n + 1)).map (fun i => (F i).1) → m ≤ y) : m = (csm F n).1 := by
  obtain ⟨i, hi, rfl⟩ := List.mem_map.mp h1
  have hi := List.mem_range.mp hi
  obtain ⟨j, hj, e⟩ := csm_at F n
  have a := h2 _ (List.mem_map.mpr ⟨j, List.mem_range.mpr (by omega), rfl⟩)
  have b := csm_le F n i (by omega)
  omega
def dCN (x : CN) : PyData := .tuple ([x.1, (x.2 : Int)].map PyData.int)
def dCRow (f : Nat → CN) (n : Nat) : PyData := .list ((List.range n).map fun j => dCN (f j))
def dTab (A : Nat → Nat → CN) (r n : Nat) : PyData := .list ((List.range r).map fun i => dCRow (A i) n)
theorem goodCN (x : CN) : Good 1 (dCN x) := goodTup (goodMap fun _ => goodInt)
theorem goodCRow (f : Nat → CN) (n : Nat) : Good 2 (dCRow f n) := goodLst (goodMap fun _ => goodCN _)
theorem goodTab (A : Nat → Nat → CN) (r n : Nat) : Good 3 (dTab A r n) := goodLst (goodMap fun _ => goodCRow _ _)
theorem dpCN {K : PySem.W.Frag} {H : Hp} {p : Addr} {x : CN} (h : SqT K H p [.int x.1, .int (x.2 : Nat)]) : Dp K H (.ref p) (dCN x) := .tup h (dpInts [x.1, (x.2 : Int)])
theorem cnAt {K : PySem.W.Frag} {H : Hp} {v : V} {x : CN} (h : Dp K H v (dCN x)) : ∃ p, v = .ref p ∧ SqT K H p [.int x.1, .int (x.2 : Nat)] := by
  obtain ⟨p, ys, rfl, h3, h4⟩ := dpTup h
  rw [dpAll_ints (ns := [x.1, (x.2 : Int)]) h4] at h3
  exact ⟨p, rfl, h3⟩
theorem crowAt {K : PySem.W.Frag} {H : Hp} {a : Addr} {f : Nat → CN} {n : Nat} (h : Dp K H (.ref a) (dCRow f n)) : ∃ xs, SqL K H a xs ∧ xs.length = n ∧ ∀ i, i < n → ∃ p, xs[i]? = some (.ref p) ∧ SqT K H p [.int (f i).1, .int ((f i).2 : Nat)] := by
  obtain ⟨xs, h1, h2⟩ := dpLstA h
  refine ⟨xs, h1, by have := dpaLen h2; simpa using this, fun i hi => ?_⟩
  obtain ⟨v, e, d⟩ := dpaGet (i := i) h2 (map_at hi)
  obtain ⟨p, rfl, d2⟩ := cnAt d
  exact ⟨p, e, d2⟩
theorem tabAt {K : PySem.W.Frag} {H : Hp} {a : Addr} {A : Nat → Nat → CN} {r n : Nat} (h : Dp K H (.ref a) (dTab A r n)) : ∃ xs, SqL K H a xs ∧ xs.length = r ∧ ∀ i, i < r → ∃ p, xs[i]? = some (.ref p) ∧ Dp K H (.ref p) (dCRow (A i) n) := by
  obtain ⟨xs, h1, h2⟩ := dpLstA h
  refine ⟨xs, h1, by have := dpaLen h2; simpa using this, fun i hi => ?_⟩
  obtain ⟨v, e, d⟩ := dpaGet (i := i) h2 (map_at hi)
  obtain ⟨p, _, rfl, _, _⟩ := dpLst d
  exact ⟨p, e, d⟩
def TabIn (K : PySem.W.Frag) (H : Hp) (p : Addr) (A : Nat → Nat → CN) (r n : Nat) : Prop := ∃ xs, H p = some (.lst xs) ∧ DpAll K H xs ((List.range r).map fun i => dCRow (A i) n)
theorem TabIn.same {K : PySem.W.Frag} {H H' : Hp} {p : Addr} {A : Nat → Nat → CN} {r n : Nat} (h : TabIn K H p A r n) (e : Same H H') : TabIn K H' p A r n := by
  obtain ⟨xs, h1, h2⟩ := h
  exact ⟨xs, e _ _ h1, h2.same e⟩
theorem TabIn.dp {K : PySem.W.Frag} {H : Hp} {p : Addr} {A : Nat → Nat → CN} {r n : Nat} (h : TabIn K H p A r n) : Dp K H (.ref p) (dTab A r n) := by
  obtain ⟨xs, h1, h2⟩ := h
  exact .lst (SqL.of h1) h2
theorem TabIn.of {K : PySem.W.Frag} {H : Hp} {p : Addr} {A : Nat → Nat → CN} {r n : Nat} (h : GrD K H p ((List.range r).map fun i => dCRow (A i) n)) : TabIn K H p A r n := by
  obtain ⟨xs, h1, h2⟩ := h
  exact ⟨xs, h1, h2.same wo_same⟩
def lwV (F : Nat → CN) : Nat → V
  | 0 => .non
  | j + 1 => .int (csm F j).1
def mnV (F : Nat → CN) : Nat → Nat
  | 0 => 0
  | j + 1 => (csm F j).2
theorem dec_int_non (i : Int) : decide (V.int i = V.non) = false := decide_eq_false (by simp)
theorem dec_non_non : decide (V.non = V.non) = true := rfl
theorem crow_congr {f g : Nat → CN} {n : Nat} (h : ∀ i, i < n → f i = g i) : dCRow f n = dCRow g n := by
  unfold dCRow
  rw [List.map_congr_left fun i hi => by rw [h i (List.mem_range.mp hi)]]
theorem tab_congr {A B : Nat → Nat → CN} {r n : Nat} (h : ∀ i j, i < r → j < n → A i j = B i j) : dTab A r n = dTab B r n := by
  unfold dTab
  rw [List.map_congr_left fun i hi => crow_congr fun j hj => h i j (List.mem_range.mp hi) hj]
section
variable {P : Program} {w : World} {K : PySem.W.Frag} {mg : Str → Option Value} {base : Heap} {C_Pull C_Push : Addr}
def jF (f : Nat → CN) (B : Nat → Nat → CN) (g u : Nat) : CN := cmu (f u) (B u g)
def spWayTo (K : PySem.W.Frag) : Sp := fun vs H Q _ => ∃ (pr pt : Addr) (f : Nat → CN) (B : Nat → Nat → CN) (n g m : Nat), vs = [.ref pr, .ref pt, .int g, .int m] ∧ Dp K H (.ref pr) (dCRow f (n + 1)) ∧ Dp K H (.ref pt) (dTab B (n + 1) (n + 1)) ∧ g ≤ n ∧ 0 < m ∧ n ≤ 100 ∧ (∀ i, i ≤ n → (f i).2 < 2 ^ 200) ∧ (∀ i j, i ≤ n → j ≤ n → (B i j).2 < 2 ^ 200) ∧
  ∀ p H', Same H H' → New H p → H' p = some (.tup [.int (csm (jF f B g) n).1, .int ((csm (jF f B g) n).2 % m : Nat)]) → Q (.ref p) H'
theorem ok_way_to {f : Addr} {fd : FuncData} (F : Fun K "way_to" "way_to" s_way_to f fd) (gf : mg "way_to" = some (.ref f)) (B : Bl mg) {C_Pull C_Push : Addr} (T : Txt K mg C_Pull C_Push) : Has P w K mg base CX0 1 "way_to" ["row", "table", "goal", "modulus"] (spWayTo K) := by
  refine Has.mk' F gf (F.binds (ps := ["row", "table", "goal", "modulus"]) fun _ _ _ _ _ _ us hl => match us, hl with | [_, _, _, _], _ => rfl) sc_way_to (by walk_at "len") (fun cdv A outer s H vs Q E hr h => ?_)
  obtain ⟨pr, pt, f, B', n, g, m, rfl, hrw, ht, hg, hm, hn, hf, hB, q⟩ := h
  obtain ⟨rs, hrs, hrl, hra⟩ := crowAt hrw
  obtain ⟨ts, hts, htl, hta⟩ := tabAt ht
  refine ⟨_, (pss_cons (ps_set (i := 4) sc_way_to.nd rfl (.inl rfl) pe_non)
 (pss_cons (ps_set (i := 5) sc_way_to.nd rfl (.inl rfl) pe_int)
 (pss_cons (ps_for PassesOwn.never rfl (pi_range1 (by rfl) B.range (pa_cons (pe_callB (call_lenK K) (by rfl) B.len (by decide +kernel) (pa_cons (pv 1) pa_nil)) pa_nil)) (pg_name (i := 6) sc_way_to.nd rfl (.inl rfl)) (pss_cons (ps_set (i := 7) sc_way_to.nd rfl (.inl rfl) (pe_op op_add (pe_ix (ix_tupK K) (pe_ix (ix_listK K) (pv 0) (pv 6) (fun _ _ => rfl)) pe_int (fun _ _ => rfl)) (pe_ix (ix_tupK K) (pe_ix (ix_listK K) (pe_ix (ix_listK K) (pv 1) (pv 6) (fun _ _ => rfl)) (pv 2) (fun _ _ => rfl)) pe_int (fun _ _ => rfl))))
 (pss_cons (ps_if (PW.pt (pw_or (pt_cmpR op_isN (pv 4) pe_non (nomark _)) (pw_or1 (pt_cmpR op_lt (pv 7) (pv 4) (nomark _))))) (pss_cons (ps_set (i := 4) sc_way_to.nd rfl (.inl rfl) (pv 7))
 (pss_one (ps_set (i := 5) sc_way_to.nd rfl (.inl rfl) pe_int))) pss_nil)
 (pss_one (ps_if (pt_cmpR op_eq (pv 7) (pv 4) (nomark _)) (pss_one (ps_aug (i := 5) sc_way_to.nd rfl (.inl rfl) (pe_op op_mulX (pe_ix (ix_tupK K) (pe_ix (ix_listK K) (pv 0) (pv 6) (fun _ _ => rfl)) pe_int (fun _ _ => rfl)) (pe_ix (ix_tupK K) (pe_ix (ix_listK K) (pe_ix (ix_listK K) (pv 1) (pv 6) (fun _ _ => rfl)) (pv 2) (fun _ _ => rfl)) pe_int (fun _ _ => rfl))) ip_add)) pss_nil)))))
 (pss_one (ps_ret (pe_tup (pa_cons (pv 4) (pa_cons (pe_op op_mod (pv 5) (pv 3)) pa_nil)))))))), ?_⟩
  walk_at "sts"
  refine for_r0 (n := n + 1) ?_ (fun i σ H' => ∃ (y6 y7 : Option V), σ = [some (.ref pr), some (.ref pt), some (.int (g : Nat)), some (.int (m : Nat)), some (lwV (jF f B' g) i), some (.int (mnV (jF f B' g) i : Nat)), y6, y7] ∧ H' = H) ?_ ?_ ?_
  · rw [htl]
  · exact ⟨_, _, rfl, rfl⟩
  · rintro i σ H' hi ⟨y6, y7, rfl, rfl⟩
    obtain ⟨p1, a1, a2⟩ := hra i hi
    obtain ⟨p2, b1, b2⟩ := hta i hi
    obtain ⟨xs2, c1, c2, c3⟩ := crowAt b2
    obtain ⟨p3, d1, d2⟩ := c3 g (by omega)
    have f1 := hf i (by omega)
    have f2 := hB i g (by omega) hg
    have e : jF f B' g i = ((f i).1 + (B' i g).1, (f i).2 * (B' i g).2) := rfl
    walk_at "sts"
    cases i with
    | zero =>
      show _
      have e1 : lwV (jF f B' g) (0 + 1) = .int ((f 0).1 + (B' 0 g).1) := rfl
      have e2 : mnV (jF f B' g) (0 + 1) = (f 0).2 * (B' 0 g).2 := rfl
      rw [e1, e2]
      rw [show decide (lwV (jF f B' g) 0 = V.non) = true from rfl]
      walk_at "sts"
      rw [Int.zero_add, ← Int.natCast_mul]
      exact ⟨_, _, rfl, rfl⟩
    | succ j =>
      rw [show lwV (jF f B' g) (j + 1) = .int (csm (jF f B' g) j).1 from rfl, show mnV (jF f B' g) (j + 1) = (csm (jF f B' g) j).2 from rfl, dec_int_non]
      have e0 : csm (jF f B' g) (j + 1) = cad (csm (jF f B' g) j) (jF f B' g (j + 1)) := rfl
      have e1 : lwV (jF f B' g) (j + 1 + 1) = .int (csm (jF f B' g) (j + 1)).1 := rfl
      have e2 : mnV (jF f B' g) (j + 1 + 1) = (csm (jF f B' g) (j + 1)).2 := rfl
      have e3 : (jF f B' g (j + 1)).1 = (f (j + 1)).1 + (B' (j + 1) g).1 := rfl
      have e4 : (jF f B' g (j + 1)).2 = (f (j + 1)).2 * (B' (j + 1) g).2 := rfl
      walk_at "sts"
      refine ifd (fun hc => ?_) (fun hc => ?_)
      · rw [cad_gt (by rw [e3]; exact hc)] at e0
        rw [e1, e2, e0, e3, e4]
        walk_at "sts"
        rw [Int.zero_add, ← Int.natCast_mul]
        exact ⟨_, _, rfl, rfl⟩
      · walk_at "sts"
        refine ifd (fun hd => ?_) (fun hd => ?_)
        · rw [cad_eq (by rw [e3]; omega)] at e0
          rw [e1, e2, e0, e4]
          walk_at "sts"
          rw [← Int.natCast_mul, ← Int.natCast_add]
          exact ⟨_, _, rfl, rfl⟩
        · rw [cad_lt (by rw [e3]; omega)] at e0
          rw [e1, e2, e0]
          walk_at "sts"
          exact ⟨_, _, rfl, rfl⟩
  · rintro σ H' ⟨y6, y7, rfl, rfl⟩
    rw [show lwV (jF f B' g) (n + 1) = .int (csm (jF f B' g) n).1 from rfl, show mnV (jF f B' g) (n + 1) = (csm (jF f B' g) n).2 from rfl]
    walk_at "sts"
    refine w_new fun p np => ?_
    exact q p _ (same_upd np) np upd_same
def spRowJ (K : PySem.W.Frag) : Sp := fun vs H Q _ => ∃ (pr pt : Addr) (f : Nat → CN) (B : Nat → Nat → CN) (n m : Nat), vs = [.ref pr, .ref pt, .int m] ∧ Dp K H (.ref pr) (dCRow f (n + 1)) ∧ Dp K H (.ref pt) (dTab B (n + 1) (n + 1)) ∧ 0 < m ∧ n ≤ 100 ∧ (∀ i, i ≤ n → (f i).2 < 2 ^ 200) ∧ (∀ i j, i ≤ n → j ≤ n → (B i j).2 < 2 ^ 200) ∧
  ∀ p H', Same H H' → New H p → Dp K H' (.ref p) (dCRow (fun g => cmd m (csm (jF f B g) n)) (n + 1)) → Q (.ref p) H'
theorem ok_row_joined {f : Addr} {fd : FuncData} (F : Fun K "row_joined" "row_joined" s_row_joined f fd) (gf : mg "row_joined" = some (.ref f)) (B : Bl mg) {C_Pull C_Push : Addr} (T : Txt K mg C_Pull C_Push) (h_way_to : Has P w K mg base CX0 1 "way_to" ["row", "table", "goal", "modulus"] (spWayTo K)) : Has P w K mg base CX0 2 "row_joined" ["row", "table", "modulus"] (spRowJ K) := by
  refine Has.mk' F gf (F.binds (ps := ["row", "table", "modulus"]) fun _ _ _ _ _ _ us hl => match us, hl with | [_, _, _], _ => rfl) sc_row_joined (by walk_at "len") (fun cdv A outer s H vs Q E hr h => ?_)
  obtain ⟨pr, pt, f, B', n, m, rfl, hrw, ht, hm, hn, hf, hB, q⟩ := h
  obtain ⟨ts, hts, htl, hta⟩ := tabAt ht
  refine ⟨_, (pss_one (ps_ret (pe_lc (own := [("goal", 3)]) rfl sc_row_joined.nd (pi_range1 (by rfl) B.range (pa_cons (pe_callB (call_lenK K) (by rfl) B.len (by decide +kernel) (pa_cons (pv 1) pa_nil)) pa_nil)) (blkOk_by (own := [("goal", 3)]) (N := ["row", "table", "modulus", "goal"]) (sc := defScope s_row_joined) (by decide +kernel)) (fun _ _ _ _ _ => pg_name (i := 3) sc_row_joined.nd rfl (Or.inl rfl)) (fun _ _ _ _ _ => pts_nil) (fun _ _ _ _ _ => (pe_fn h_way_to (hr.mono (by decide)) (by rfl) (pa_cons (pv 0) (pa_cons (pv 1) (pa_cons (pv 3) (pa_cons (pv 2) pa_nil))))))))), ?_⟩
  walk_at "sts"
  intro D nD
  refine lc_r0 (n := n + 1) ?_ (fun i H' => GrD K H' D ((List.range i).map fun g => dCN (cmd m (csm (jF f B' g) n))) ∧ Same H H') ?_ ?_ ?_
  · rw [htl]
  · exact ⟨GrD.new, same_upd nD⟩
  · rintro i H' hi ⟨⟨xs, x1, x2⟩, s1⟩
    have hxl := dpaLen x2
    rw [List.length_map, List.length_range] at hxl
    walk_at "sts"
    refine ⟨pr, pt, f, B', n, i, m, rfl, hrw.same s1, ht.same s1, by omega, hm, hn, hf, hB, fun p H2 s2 n2 hp => ?_⟩
    have hDp : D ≠ p := ne_new x1 n2
    refine ⟨xs, s2 _ _ x1, szlt (by omega), ?_, (s1.trans s2).mut nD⟩
    rw [range_snoc]
    exact GrD.push x2 s2 (dpCN (SqT.of (wo_get hp (Ne.symm hDp))))
  · rintro H' ⟨hG, s1⟩
    exact q D H' s1 nD hG.dp
def spTabsJ (K : PySem.W.Frag) : Sp := fun vs H Q _ => ∃ (pa pb : Addr) (A B : Nat → Nat → CN) (r n m : Nat), vs = [.ref pa, .ref pb, .int m] ∧ Dp K H (.ref pa) (dTab A r (n + 1)) ∧ Dp K H (.ref pb) (dTab B (n + 1) (n + 1)) ∧ 0 < m ∧ n ≤ 100 ∧ r ≤ 100 ∧ (∀ i j, i < r → j ≤ n → (A i j).2 < 2 ^ 200) ∧ (∀ i j, i ≤ n → j ≤ n → (B i j).2 < 2 ^ 200) ∧
  ∀ p H', Same H H' → New H p → Dp K H' (.ref p) (dTab (fun s t => cmd m (cjn n A B s t)) r (n + 1)) → TabIn K H' p (fun s t => cmd m (cjn n A B s t)) r (n + 1) → Q (.ref p) H'
theorem ok_tables_joined {f : Addr} {fd : FuncData} (F : Fun K "tables_joined" "tables_joined" s_tables_joined f fd) (gf : mg "tables_joined" = some (.ref f)) (B : Bl mg) {C_Pull C_Push : Addr} (T : Txt K mg C_Pull C_Push) (h_row_joined : Has P w K mg base CX0 2 "row_joined" ["row", "table", "modulus"] (spRowJ K)) : Has P w K mg base CX0 3 "tables_joined" ["one", "two", "modulus"] (spTabsJ K) := by
  refine Has.mk' F gf (F.binds (ps := ["one", "two", "modulus"]) fun _ _ _ _ _ _ us hl => match us, hl with | [_, _, _], _ => rfl) sc_tables_joined (by walk_at "len") (fun cdv A outer s H vs Q E hr h => ?_)
  obtain ⟨pa, pb, A', B', r, n, m, rfl, ha, hb, hm, hn, hr', hA, hB, q⟩ := h
  obtain ⟨ts, hts, htl, hta⟩ := tabAt ha
  refine ⟨_, (pss_one (ps_ret (pe_lc (own := [("row", 3)]) rfl sc_tables_joined.nd (pi_listK K (pv 0)) (blkOk_by (own := [("row", 3)]) (N := ["one", "two", "modulus", "row"]) (sc := defScope s_tables_joined) (by decide +kernel)) (fun _ _ _ _ _ => pg_name (i := 3) sc_tables_joined.nd rfl (Or.inl rfl)) (fun _ _ _ _ _ => pts_nil) (fun _ _ _ _ _ => (PE.frm2 (pe_fn h_row_joined (hr.mono (by decide)) (by rfl) (pa_cons (pv 3) (pa_cons (pv 1) (pa_cons (pv 2) pa_nil))))))))), ?_⟩
  walk_at "sts"
  intro D nD
  refine lc_list (xs := ts) (fun i H' => GrD K H' D ((List.range i).map fun s => dCRow (fun t => cmd m (cjn n A' B' s t)) (n + 1)) ∧ Same H H') ?_ ?_ ?_ ?_
  · exact ⟨GrD.new, same_upd nD⟩
  · rintro i H' _ ⟨_, s1⟩
    exact s1.seq hts
  · rintro i v H' hv ⟨⟨xs, x1, x2⟩, s1⟩
    have hi : i < r := by rw [← htl]; exact (List.getElem?_eq_some_iff.mp hv).1
    obtain ⟨pr, e1, e2⟩ := hta i hi
    rw [hv] at e1
    cases e1
    have hxl := dpaLen x2
    rw [List.length_map, List.length_range] at hxl
    have s2 := same_wo s1 nD
    walk_at "sts"
    refine w_frm x1 ?_
    walk_at "sts"
    refine ⟨pr, pb, A' i, B', n, m, rfl, e2.same s2, hb.same s2, hm, hn, fun j hj => hA i j hi hj, hB, fun p H3 s3 n3 hp => ?_⟩
    walk_at "sts"
    intro h3
    walk_at "sts"
    refine ⟨xs, upd_same, szlt (by omega), ?_, ?_⟩
    · rw [range_snoc]
      exact GrD.put x2 s3 h3 hp
    · rw [upd_upd]
      exact (s2.trans s3).trans (same_upd h3)
  · rintro H' ⟨hG, s1⟩
    rw [htl] at hG
    exact q D H' s1 nD hG.dp (.of hG)
end

/-! ### powers of tables -/
theorem cmd_cjn (m n : Nat) (A : Nat → Nat → CN) (a b s t : Nat) : cmd m (cjn n (fun s t => cmd m (cpw n A a s t)) (fun s t => cmd m (cpw n A b s t)) s t) = cmd m (cpw n A (a + b + 1) s t) := by
  rw [← cpw_add]
  exact CEq.red (CEq.cjn (fun u _ => cmd_eq _ _) fun u _ => cmd_eq _ _)
theorem cmd_cjnF (m n : Nat) (A : Nat → Nat → CN) (a b : Nat) : (fun s t => cmd m (cjn n (fun s t => cmd m (cpw n A a s t)) (fun s t => cmd m (cpw n A b s t)) s t)) = fun s t => cmd m (cpw n A (a + b + 1) s t) := by
  funext s t
  exact cmd_cjn m n A a b s t
theorem dec_ref_non (p : Addr) : decide (V.ref p = V.non) = false := decide_eq_false (by simp)
theorem cmd_lt {m : Nat} (h : 0 < m) (x : CN) : (cmd m x).2 < m := Nat.mod_lt _ h
section
variable {P : Program} {w : World} {K : PySem.W.Frag} {mg : Str → Option Value} {base : Heap} {C_Pull C_Push : Addr}
def spByMod (K : PySem.W.Frag) : Sp := fun vs H Q _ => ∃ (pr : Addr) (f : Nat → CN) (n m : Nat), vs = [.ref pr, .int m] ∧ Dp K H (.ref pr) (dCRow f n) ∧ 0 < m ∧ n ≤ 1000 ∧
  ∀ p H', Same H H' → New H p → Dp K H' (.ref p) (dCRow (fun j => cmd m (f j)) n) → Q (.ref p) H'
theorem ok_by_modulus {f : Addr} {fd : FuncData} (F : Fun K "by_modulus" "by_modulus" s_by_modulus f fd) (gf : mg "by_modulus" = some (.ref f)) (B : Bl mg) {C_Pull C_Push : Addr} (T : Txt K mg C_Pull C_Push) : Has P w K mg base CX0 1 "by_modulus" ["row", "modulus"] (spByMod K) := by
  refine Has.mk' F gf (F.binds (ps := ["row", "modulus"]) fun _ _ _ _ _ _ us hl => match us, hl with | [_, _], _ => rfl) sc_by_modulus (by walk_at "len") (fun cdv A outer s H vs Q E hr h => ?_)
  obtain ⟨pr, f, n, m, rfl, hrw, hm, hn, q⟩ := h
  obtain ⟨rs, hrs, hrl, hra⟩ := crowAt hrw
  refine ⟨_, (pss_one (ps_ret (pe_lc (own := [("entry", 2)]) rfl sc_by_modulus.nd (pi_listK K (pv 0)) (blkOk_by (own := [("entry", 2)]) (N := ["row", "modulus", "entry"]) (sc := defScope s_by_modulus) (by decide +kernel)) (fun _ _ _ _ _ => pg_name (i := 2) sc_by_modulus.nd rfl (Or.inl rfl)) (fun _ _ _ _ _ => pts_nil) (fun _ _ _ _ _ => (pe_tup (pa_cons (pe_ix (ix_tupK K) (pv 2) pe_int (fun _ _ => rfl)) (pa_cons (pe_op op_mod (pe_ix (ix_tupK K) (pv 2) pe_int (fun _ _ => rfl)) (pv 1)) pa_nil))))))), ?_⟩
  walk_at "sts"
  intro D nD
  refine lc_list (xs := rs) (fun i H' => GrD K H' D ((List.range i).map fun j => dCN (cmd m (f j))) ∧ Same H H') ?_ ?_ ?_ ?_
  · exact ⟨GrD.new, same_upd nD⟩
  · rintro i H' _ ⟨_, s1⟩
    exact s1.seq hrs
  · rintro i v H' hv ⟨⟨xs, x1, x2⟩, s1⟩
    have hi : i < n := by rw [← hrl]; exact (List.getElem?_eq_some_iff.mp hv).1
    obtain ⟨pe, e1, e2⟩ := hra i hi
    rw [hv] at e1
    cases e1
    have e3 := same_read s1 e2
    have hxl := dpaLen x2
    rw [List.length_map, List.length_range] at hxl
    walk_at "sts"
    refine w_new fun p np => ?_
    have hDp : D ≠ p := ne_new x1 np
    have sp := same_upd (o := .tup [.int (f i).1, .int (((f i).2 : Int) % (m : Int))]) np
    refine ⟨xs, sp _ _ x1, szlt (by omega), ?_, (s1.trans sp).mut nD⟩
    rw [range_snoc]
    exact GrD.push x2 sp (dpCN (SqT.of (wo_get upd_same (Ne.symm hDp))))
  · rintro H' ⟨hG, s1⟩
    rw [hrl] at hG
    exact q D H' s1 nD hG.dp
def spPower (K : PySem.W.Frag) : Sp := fun vs H Q _ => ∃ (pt : Addr) (A : Nat → Nat → CN) (n N m : Nat), vs = [.ref pt, .int N, .int m] ∧ Dp K H (.ref pt) (dTab A (n + 1) (n + 1)) ∧ 0 < m ∧ m ≤ 2 ^ 200 ∧ n ≤ 99 ∧ 1 ≤ N ∧
  ∀ p H', Same H H' → New H p → Dp K H' (.ref p) (dTab (fun s t => cmd m (cpw n A (N - 1) s t)) (n + 1) (n + 1)) → TabIn K H' p (fun s t => cmd m (cpw n A (N - 1) s t)) (n + 1) (n + 1) → Q (.ref p) H'
theorem ok_table_power {f : Addr} {fd : FuncData} (F : Fun K "table_power" "table_power" s_table_power f fd) (gf : mg "table_power" = some (.ref f)) (B : Bl mg) {C_Pull C_Push : Addr} (T : Txt K mg C_Pull C_Push) (h_by_modulus : Has P w K mg base CX0 1 "by_modulus" ["row", "modulus"] (spByMod K)) (h_tables_joined : Has P w K mg base CX0 3 "tables_joined" ["one", "two", "modulus"] (spTabsJ K)) : Has P w K mg base CX0 4 "table_power" ["table", "times", "modulus"] (spPower K) := by
  refine Has.mk' F gf (F.binds (ps := ["table", "times", "modulus"]) fun _ _ _ _ _ _ us hl => match us, hl with | [_, _, _], _ => rfl) sc_table_power (by walk_at "len") (fun cdv A outer s H vs Q E hr h => ?_)
  obtain ⟨pt, A', n, N, m, rfl, ht, hm, hm2, hn, hN, q⟩ := h
  obtain ⟨ts, hts, htl, hta⟩ := tabAt ht
  refine ⟨_, (pss_cons (ps_setLc (i := 3) (own := [("row", 5)]) rfl sc_table_power.nd rfl rfl (sw_true rfl rfl rfl (by decide +kernel)) (pi_listK K (pv 0)) (blkOk_by (own := [("row", 5)]) (N := ["table", "times", "modulus", "square", "found", "row"]) (sc := defScope s_table_power) (by decide +kernel)) (fun _ _ _ _ _ => pg_name (i := 5) sc_table_power.nd rfl (Or.inl rfl)) (fun _ _ _ _ _ => pts_nil) (fun _ _ _ _ _ => (PE.frm2 (pe_fn h_by_modulus (hr.mono (by decide)) (by rfl) (pa_cons (pv 5) (pa_cons (pv 2) pa_nil))))))
 (pss_cons (ps_set (i := 4) sc_table_power.nd rfl (.inl rfl) pe_non)
 (pss_cons (ps_while PassesOwn.never (pt_cmpR op_gt (pv 1) pe_int (nomark _)) (pss_cutX (ps_if (pt_cmpR op_eq (pe_op op_and (pv 1) pe_int) pe_int (nomark _)) (pss_one (ps_set (i := 4) sc_table_power.nd rfl (.inl rfl) (pe_ifExp (pt_cmpR op_isN (pv 4) pe_non (nomark _)) (pv 3) (pe_fn h_tables_joined (hr.mono (by decide)) (by rfl) (pa_cons (pv 4) (pa_cons (pv 3) (pa_cons (pv 2) pa_nil))))))) pss_nil)
 (pss_cons (ps_set (i := 1) sc_table_power.nd rfl (.inl rfl) (pe_op op_shr (pv 1) pe_int))
 (pss_one (ps_if (pt_cmpR op_gt (pv 1) pe_int (nomark _)) (pss_one (ps_set (i := 3) sc_table_power.nd rfl (.inl rfl) (pe_fn h_tables_joined (hr.mono (by decide)) (by rfl) (pa_cons (pv 3) (pa_cons (pv 3) (pa_cons (pv 2) pa_nil)))))) pss_nil)))))
 (pss_one (ps_ret (pv 4)))))), ?_⟩
  walk_at "sts"
  intro D nD
  refine lc_list (xs := ts) (fun i H' => GrD K H' D ((List.range i).map fun s => dCRow (fun t => cmd m (A' s t)) (n + 1)) ∧ Same H H') ?_ ?_ ?_ ?_
  · exact ⟨GrD.new, same_upd nD⟩
  · rintro i H' _ ⟨_, s1⟩
    exact s1.seq hts
  · rintro i v H' hv ⟨⟨xs, x1, x2⟩, s1⟩
    have hi : i < n + 1 := by rw [← htl]; exact (List.getElem?_eq_some_iff.mp hv).1
    obtain ⟨pr, e1, e2⟩ := hta i hi
    rw [hv] at e1
    cases e1
    have hxl := dpaLen x2
    rw [List.length_map, List.length_range] at hxl
    have s2 := same_wo s1 nD
    walk_at "sts"
    refine w_frm x1 ?_
    walk_at "sts"
    refine ⟨pr, A' i, n + 1, m, rfl, e2.same s2, hm, by omega, fun p H3 s3 n3 hp => ?_⟩
    walk_at "sts"
    intro h3
    walk_at "sts"
    refine ⟨xs, upd_same, szlt (by omega), ?_, ?_⟩
    · rw [range_snoc]
      exact GrD.put x2 s3 h3 hp
    · rw [upd_upd]
      exact (s2.trans s3).trans (same_upd h3)
  rintro H1 ⟨hG, s1⟩
  rw [htl] at hG
  have hD : Dp K H1 (.ref D) (dTab (fun s t => cmd m (cpw n A' 0 s t)) (n + 1) (n + 1)) := hG.dp
  have hD0 : TabIn K H1 D (fun s t => cmd m (cpw n A' 0 s t)) (n + 1) (n + 1) := .of hG
  walk_at "sts"
  refine ⟨fun k σ H' => ∃ (t a : Nat) (pq : Addr) (fo : V) (y5 : Option V), σ = [some (.ref pt), some (.int (t : Nat)), some (.int (m : Nat)), some (.ref pq), some fo, y5] ∧ Same H H' ∧ New H pq ∧ (0 < t → Dp K H' (.ref pq) (dTab (fun s u => cmd m (cpw n A' a s u)) (n + 1) (n + 1)) ∧ TabIn K H' pq (fun s u => cmd m (cpw n A' a s u)) (n + 1) (n + 1)) ∧ k = t ∧
    ((fo = .non ∧ N = t * (a + 1)) ∨ ∃ pf b, fo = .ref pf ∧ New H pf ∧ Dp K H' (.ref pf) (dTab (fun s u => cmd m (cpw n A' b s u)) (n + 1) (n + 1)) ∧ TabIn K H' pf (fun s u => cmd m (cpw n A' b s u)) (n + 1) (n + 1) ∧ N = b + 1 + t * (a + 1)), ⟨N, N, 0, D, .non, _, rfl, s1, nD, fun _ => ⟨hD, hD0⟩, rfl, .inl ⟨rfl, by omega⟩⟩, ?_⟩
  rintro k σ H' ⟨t, a, pq, fo, y5, rfl, s2, nq, hq, rfl, hfo⟩
  walk_at "sts"
  refine ifd (fun hc => ?_) (fun hc => ?_)
  · refine w_wt ?_
    have ht0 : 0 < k := by omega
    obtain ⟨hq1, hqx⟩ := hq ht0
    have e1 : (k : Int) / 2 ^ Int.toNat 1 = ((k / 2 : Nat) : Int) := by
      show (k : Int) / 2 = _
      omega
    have hlt : ∀ b s t, ((fun s u => cmd m (cpw n A' b s u)) s t : CN).2 < 2 ^ 200 := fun b s t => Nat.lt_of_lt_of_le (cmd_lt hm _) hm2
    walk_at "sts"
    refine w_cut (fun σ' H2 => ∃ (fo' : V), σ' = [some (.ref pt), some (.int (k : Nat)), some (.int (m : Nat)), some (.ref pq), some fo', y5] ∧ Same H' H2 ∧ ((fo' = .non ∧ N = k / 2 * (2 * (a + 1))) ∨ ∃ pf b, fo' = .ref pf ∧ New H pf ∧ Dp K H2 (.ref pf) (dTab (fun s u => cmd m (cpw n A' b s u)) (n + 1) (n + 1)) ∧ TabIn K H2 pf (fun s u => cmd m (cpw n A' b s u)) (n + 1) (n + 1) ∧ N = b + 1 + k / 2 * (2 * (a + 1)))) ?_ ?_
    · walk_at "sts"
      rw [and_one _ (Int.natCast_nonneg _)]
      have ek : k * (a + 1) = k % 2 * (a + 1) + k / 2 * (2 * (a + 1)) := by
        rw [← Nat.mul_assoc, ← Nat.add_mul]
        congr 1
        omega
      refine ifd (fun hd => ?_) (fun hd => ?_)
      · rw [show k % 2 = 1 by omega, Nat.one_mul] at ek
        walk_at "sts"
        rcases hfo with ⟨rfl, h0⟩ | ⟨pf, b, rfl, nf, hf, hx, h0⟩
        · rw [dec_non_non]
          walk_at "sts"
          exact ⟨_, rfl, Same.refl _, .inr ⟨pq, a, rfl, nq, hq1, hqx, by omega⟩⟩
        · rw [dec_ref_non]
          walk_at "sts"
          refine ⟨pf, pq, _, _, n + 1, n, m, rfl, hf, hq1, hm, by omega, by omega, fun i j _ _ => hlt _ _ _, fun i j _ _ => hlt _ _ _, fun p H2 s3 n3 hp hpx => ?_⟩
          rw [cmd_cjnF] at hp hpx
          exact ⟨_, rfl, s3, .inr ⟨p, b + a + 1, rfl, n3.of s2, hp, hpx, by omega⟩⟩
      · rw [show k % 2 = 0 by omega, Nat.zero_mul, Nat.zero_add] at ek
        walk_at "sts"
        refine ⟨_, rfl, Same.refl _, ?_⟩
        rcases hfo with ⟨rfl, h0⟩ | ⟨pf, b, rfl, nf, hf, hx, h0⟩
        · exact .inl ⟨rfl, by omega⟩
        · exact .inr ⟨pf, b, rfl, nf, hf, hx, by omega⟩
    rintro σ' H2 ⟨fo', rfl, s3, hfo'⟩
    have hq2 := hq1.same s3
    walk_at "sts"
    rw [e1]
    refine ifd (fun hd => ?_) (fun hd => ?_)
    · walk_at "sts"
      refine ⟨pq, pq, _, _, n + 1, n, m, rfl, hq2, hq2, hm, by omega, by omega, fun i j _ _ => hlt _ _ _, fun i j _ _ => hlt _ _ _, fun p H3 s4 n4 hp hpx => ?_⟩
      rw [cmd_cjnF] at hp hpx
      walk_at "sts"
      refine ⟨_, by omega, k / 2, a + a + 1, p, fo', _, rfl, (s2.trans s3).trans s4, n4.of (s2.trans s3), fun _ => ⟨hp, hpx⟩, rfl, ?_⟩
      rw [show a + a + 1 + 1 = 2 * (a + 1) by omega]
      rcases hfo' with ⟨rfl, h0⟩ | ⟨pf, b, rfl, nf, hf, hx, h0⟩
      · exact .inl ⟨rfl, h0⟩
      · exact .inr ⟨pf, b, rfl, nf, hf.same s4, hx.same s4, h0⟩
    · walk_at "sts"
      have hk0 : k / 2 = 0 := by omega
      refine ⟨_, by omega, k / 2, a, pq, fo', _, rfl, s2.trans s3, nq, fun h => absurd h (by omega), rfl, ?_⟩
      rw [hk0, Nat.zero_mul] at hfo' ⊢
      exact hfo'
  · have ht0 : k = 0 := by omega
    subst ht0
    rcases hfo with ⟨rfl, h0⟩ | ⟨pf, b, rfl, nf, hf, hx, h0⟩
    · omega
    · walk_at "sts"
      have eb : N - 1 = b := by omega
      subst eb
      exact q pf H' s2 nf hf hx
end

/-! ### patterns in the store -/
def dInts (l : List Int) : PyData := .list (l.map PyData.int)
def dCol (c : Col) : PyData := .tuple [dInts c.ac, dInts c.al]
def dPat (P : List Col) : PyData := .list (P.map dCol)
theorem goodInts (l : List Int) : Good 1 (dInts l) := goodLst (goodMap fun _ => goodInt)
theorem goodCol (c : Col) : Good 2 (dCol c) := goodTup fun d hd => by
  rcases List.mem_cons.mp hd with rfl | hd
  · exact goodInts _
  · rcases List.mem_cons.mp hd with rfl | hd
    · exact goodInts _
    · cases hd
theorem goodPat (P : List Col) : Good 3 (dPat P) := goodLst (goodMap goodCol)
def ColAt (K : PySem.W.Frag) (H : Hp) (v : V) (c : Col) : Prop := ∃ pc pa pb, v = .ref pc ∧ SqT K H pc [.ref pa, .ref pb] ∧ SqL K H pa (c.ac.map V.int) ∧ SqL K H pb (c.al.map V.int)
theorem ColAt.same {K : PySem.W.Frag} {H H' : Hp} {v : V} {c : Col} (h : ColAt K H v c) (e : Same H H') : ColAt K H' v c := by
  obtain ⟨pc, pa, pb, h0, h1, h2, h3⟩ := h
  exact ⟨pc, pa, pb, h0, same_read e h1, e.seq h2, e.seq h3⟩
theorem dpIntsA {K : PySem.W.Frag} {H : Hp} {v : V} {l : List Int} (h : Dp K H v (dInts l)) : ∃ p, v = .ref p ∧ SqL K H p (l.map V.int) := by
  obtain ⟨p, xs, rfl, h1, h2⟩ := dpLst h
  rw [dpAll_ints h2] at h1
  exact ⟨p, rfl, h1⟩
theorem dpIntsL {K : PySem.W.Frag} {H : Hp} {p : Addr} {l : List Int} (h : SqL K H p (l.map V.int)) : Dp K H (.ref p) (dInts l) := .lst h (dpInts l)
theorem colOf {K : PySem.W.Frag} {H : Hp} {v : V} {c : Col} (h : Dp K H v (dCol c)) : ColAt K H v c := by
  obtain ⟨pc, xs, rfl, h1, h2⟩ := dpTup h
  cases h2 with
  | cons a h2 =>
    cases h2 with
    | cons b h2 =>
      cases h2
      obtain ⟨pa, rfl, ha⟩ := dpIntsA a
      obtain ⟨pb, rfl, hb⟩ := dpIntsA b
      exact ⟨pc, pa, pb, rfl, h1, ha, hb⟩
theorem colDp {K : PySem.W.Frag} {H : Hp} {v : V} {c : Col} (h : ColAt K H v c) : Dp K H v (dCol c) := by
  obtain ⟨pc, pa, pb, rfl, h1, h2, h3⟩ := h
  exact .tup h1 (.cons (dpIntsL h2) (.cons (dpIntsL h3) .nil))
theorem patAt {K : PySem.W.Frag} {H : Hp} {a : Addr} {P : List Col} (h : Dp K H (.ref a) (dPat P)) : ∃ xs, SqL K H a xs ∧ xs.length = P.length ∧ ∀ i, i < P.length → ∃ v, xs[i]? = some v ∧ ColAt K H v (colAt P i) := by
  obtain ⟨xs, h1, h2⟩ := dpLstA h
  refine ⟨xs, h1, by have := dpaLen h2; simpa using this, fun i hi => ?_⟩
  have e : (P.map dCol)[i]? = some (dCol (colAt P i)) := by
    unfold colAt
    rw [List.getElem?_map, List.getD_eq_getElem?_getD, List.getElem?_eq_getElem hi]
    rfl
  obtain ⟨v, e1, d⟩ := dpaGet h2 e
  exact ⟨v, e1, colOf d⟩
structure PatOk (P : List Col) (rows : Nat) : Prop where
  l0 : 1 ≤ P.length
  l1 : P.length ≤ 6
  r0 : 1 ≤ rows
  r1 : rows ≤ 3
  al : ∀ i, i < P.length → (colAt P i).al.length = rows
  ac : ∀ i, i < P.length → (colAt P i).ac.length + 1 = rows
theorem ints_at {l : List Int} {i : Nat} (h : i < l.length) : (l.map V.int)[i]? = some (.int (l.getD i 0)) := by
  rw [List.getElem?_map, List.getD_eq_getElem?_getD, List.getElem?_eq_getElem h]
  rfl
theorem map_snocI (f : Nat → Int) (i : Nat) : ((List.range (i + 1)).map f).map V.int = ((List.range i).map f).map V.int ++ [.int (f i)] := by rw [range_snoc, List.map_append]; rfl
theorem unp_paid (a b : Nat) (z : Int) (l : Nat) : (if unp (tieZ a b z) l = true then ((tieZ a b z).s : Int) else 0) = paid z (l.testBit a) (l.testBit b) := rfl
theorem w_chain {σ : L2.St} {H : Hp} {Q : VK} {r r' : R2} {ta tb tc : TE} (h : ta σ H fun x H1 => tb σ H1 fun y H2 => r x y H2 fun z H3 => ∃ k, z = .bl k ∧ (if k = true then tc σ H3 fun w' H4 => r' y w' H4 Q else Q (.bl false) H3)) : tChain r r' ta tb tc σ H Q := h
section
variable {P : Program} {w : World} {K : PySem.W.Frag} {mg : Str → Option Value} {base : Heap} {C_Pull C_Push : Addr}
theorem w_mtZ {σ : L2.St} {H : Hp} {Q : VK} {ta : TE} {tl : TA} {m : Str} {sp : Sp} {z : Int} {a b : Nat} (h1 : ¬ m = "one") (h2 : ¬ m = "two") (h3 : ¬ m = "strength")
    (hz : ∀ R : VK, (∀ p H', Same H H' → New H p → TieAt C_Pull C_Push H' p (tieZ a b z) → R (.ref p) H') → ta σ H R) (h : ∀ p H', Same H H' → TieAt C_Pull C_Push H' p (tieZ a b z) → tl σ H' fun vs H2 => sp (.ref p :: vs) H2 Q E0) : tMeth C_Pull m sp [] E0 ta tl σ H Q ∨ tMeth C_Push m sp [] E0 ta tl σ H Q := by
  by_cases c : z < 0
  · refine .inr (w_meth (hz _ fun p H' s n ht => ?_))
    obtain ⟨dx, e⟩ := id ht
    have hp : (tieZ a b z).push = true := decide_eq_true c
    rw [hp] at e
    exact w_methq e (tf_no _ _ _ h1 h2 h3) (h p H' s ht)
  · refine .inl (w_meth (hz _ fun p H' s n ht => ?_))
    obtain ⟨dx, e⟩ := id ht
    have hp : (tieZ a b z).push = false := decide_eq_false c
    rw [hp] at e
    exact w_methq e (tf_no _ _ _ h1 h2 h3) (h p H' s ht)
def spRows (K : PySem.W.Frag) : Sp := fun vs H Q _ => ∃ (p : Addr) (P : List Col) (rows : Nat), vs = [.ref p] ∧ Dp K H (.ref p) (dPat P) ∧ PatOk P rows ∧ Q (.int rows) H
theorem ok_rows_of {f : Addr} {fd : FuncData} (F : Fun K "rows_of" "rows_of" s_rows_of f fd) (gf : mg "rows_of" = some (.ref f)) (B : Bl mg) {C_Pull C_Push : Addr} (T : Txt K mg C_Pull C_Push) : Has P w K mg base CX0 1 "rows_of" ["pattern"] (spRows K) := by
  refine Has.mk' F gf (F.binds (ps := ["pattern"]) fun _ _ _ _ _ _ us hl => match us, hl with | [_], _ => rfl) sc_rows_of (by walk_at "len") (fun cdv A outer s H vs Q E hr h => ?_)
  obtain ⟨p, P', rows, rfl, hP, hok, q⟩ := h
  obtain ⟨xs, hxs, hxl, hxa⟩ := patAt hP
  obtain ⟨v0, e0, pc0, pa0, pb0, rfl, c1, c2, c3⟩ := hxa 0 hok.l0
  have hal := hok.al 0 hok.l0
  have l0 := hok.l0
  have l1 := hok.l1
  have r0 := hok.r0
  have r1 := hok.r1
  have hal' : ((colAt P' 0).al.map V.int).length = rows := by rw [List.length_map]; exact hal
  refine ⟨_, (pss_cons (ps_if (pt_not (pt_chain op_le op_le pe_int (pe_callB (call_lenK K) (by rfl) B.len (by decide +kernel) (pa_cons (pv 0) pa_nil)) pe_int)) (pss_one ps_never) pss_nil)
 (pss_cons (ps_set (i := 1) sc_rows_of.nd rfl (.inl rfl) (pe_callB (call_lenK K) (by rfl) B.len (by decide +kernel) (pa_cons (pe_ix (ix_tupK K) (pe_ix (ix_listK K) (pv 0) pe_int (fun _ _ => rfl)) pe_int (fun _ _ => rfl)) pa_nil)))
 (pss_cons (ps_if (pt_not (pt_chain op_le op_le pe_int (pv 1) pe_int)) (pss_one ps_never) pss_nil)
 (pss_cons (ps_for PassesOwn.never rfl (pi_listK K (pv 0)) (pg_tupK K rfl (pgs_cons (pg_name (i := 2) sc_rows_of.nd rfl (.inl rfl)) (pgs_cons (pg_name (i := 3) sc_rows_of.nd rfl (.inl rfl)) pgs_nil))) (pss_one (ps_if (PW.pt (pw_or (pt_cmpR op_ne (pe_callB (call_lenK K) (by rfl) B.len (by decide +kernel) (pa_cons (pv 3) pa_nil)) (pv 1) (nomark _)) (pw_or1 (pt_cmpR op_ne (pe_callB (call_lenK K) (by rfl) B.len (by decide +kernel) (pa_cons (pv 2) pa_nil)) (pe_op op_sub (pv 1) pe_int) (nomark _))))) (pss_one ps_never) pss_nil)))
 (pss_one (ps_ret (pv 1))))))), ?_⟩
  walk_at "sts"
  refine w_chain ?_
  walk_at "sts"
  refine w_chain ?_
  walk_at "sts"
  refine for_list (xs := xs) (fun i σ H' => ∃ (y2 y3 : Option V), σ = [some (.ref p), some (.int (rows : Nat)), y2, y3] ∧ H' = H) ?_ ?_ ?_ ?_
  · rw [← hal']
    exact ⟨_, _, rfl, rfl⟩
  · rintro i σ H' _ ⟨_, _, _, rfl⟩
    exact hxs
  · rintro i v σ H' hv ⟨y2, y3, rfl, rfl⟩
    have hi : i < P'.length := by rw [← hxl]; exact (List.getElem?_eq_some_iff.mp hv).1
    obtain ⟨v', e1, pc, pa, pb, rfl, d1, d2, d3⟩ := hxa i hi
    rw [hv] at e1
    cases e1
    have h1 := hok.al i hi
    have h2 := hok.ac i hi
    have h1' : ((colAt P' i).al.map V.int).length = rows := by rw [List.length_map]; exact h1
    have h2' : ((colAt P' i).ac.map V.int).length + 1 = rows := by rw [List.length_map]; exact h2
    walk_at "sts"
    exact ⟨_, _, rfl, rfl⟩
  · rintro σ H' ⟨y2, y3, rfl, rfl⟩
    walk_at "sts"
    exact q
def spAcr (K : PySem.W.Frag) : Sp := fun vs H Q _ => ∃ (pc : Addr) (c : Col) (s : Nat), vs = [.ref pc, .int s] ∧ ColAt K H (.ref pc) c ∧ c.ac.length ≤ 100 ∧ ∀ H', Same H H' → Q (.int (acP c s)) H'
theorem ok_across_price {f : Addr} {fd : FuncData} (F : Fun K "across_price" "across_price" s_across_price f fd) (gf : mg "across_price" = some (.ref f)) (B : Bl mg) {C_Pull C_Push : Addr} (T : Txt K mg C_Pull C_Push) (h_tie_of : Has P w K mg base CX0 3 "tie_of" ["one", "two", "signed"] (spTieOf C_Pull C_Push)) (h_Pull_price : HasMeth P w K mg base CX0 3 C_Pull "price" ["self", "laying"] (spPrice C_Pull C_Push)) (h_Push_price : HasMeth P w K mg base CX0 3 C_Push "price" ["self", "laying"] (spPrice C_Pull C_Push)) : Has P w K mg base CX0 4 "across_price" ["column", "signs"] (spAcr K) := by
  refine Has.mk' F gf (F.binds (ps := ["column", "signs"]) fun _ _ _ _ _ _ us hl => match us, hl with | [_, _], _ => rfl) sc_across_price (by walk_at "len") (fun cdv A outer s H vs Q E hr h => ?_)
  obtain ⟨pc, c, s0, rfl, ⟨pc', pa, pb, e, c1, c2, c3⟩, hl, q⟩ := h
  cases e
  have hl' : (c.ac.map V.int).length ≤ 100 := by rw [List.length_map]; exact hl
  refine ⟨_, (pss_cons (ps_set (i := 2) sc_across_price.nd rfl (.inr rfl) (pe_ix (ix_tupK K) (pv 0) pe_int (fun _ _ => rfl)))
 (pss_one (ps_ret (pe_callB (cr_sumK K rfl) (by rfl) B.sum (by decide +kernel) (pa_cons (pe_lc (own := [("r", 3)]) rfl sc_across_price.nd (pi_range1 (by rfl) B.range (pa_cons (pe_callB (call_lenK K) (by rfl) B.len (by decide +kernel) (pa_cons (pv 2) pa_nil)) pa_nil)) (blkOk_by (own := [("r", 3)]) (N := ["column", "signs", "across", "r"]) (sc := defScope s_across_price) (by decide +kernel)) (fun _ _ _ _ _ => pg_name (i := 3) sc_across_price.nd rfl (Or.inl rfl)) (fun _ _ _ _ _ => pts_nil) (fun _ _ _ _ _ => (PE.orD (pe_mt h_Pull_price (pe_fn h_tie_of (hr.mono (by decide)) (by rfl) (pa_cons (pv 3) (pa_cons (pe_op op_add (pv 3) pe_int) (pa_cons (pe_ix (ix_listK K) (pv 2) (pv 3) (fun _ _ => rfl)) pa_nil)))) (hr.mono (by decide)) (pa_cons (pv 1) pa_nil)) (pe_mt h_Push_price (pe_fn h_tie_of (hr.mono (by decide)) (by rfl) (pa_cons (pv 3) (pa_cons (pe_op op_add (pv 3) pe_int) (pa_cons (pe_ix (ix_listK K) (pv 2) (pv 3) (fun _ _ => rfl)) pa_nil)))) (hr.mono (by decide)) (pa_cons (pv 1) pa_nil))))) pa_nil))))), ?_⟩
  walk_at "sts"
  intro D nD
  refine lc_r0 (n := c.ac.length) ?_ (fun i H' => H' D = some (.lst (((List.range i).map fun r => paid (c.ac.getD r 0) (s0.testBit r) (s0.testBit (r + 1))).map V.int)) ∧ Same H H') ?_ ?_ ?_
  · rw [List.length_map]
  · exact ⟨upd_same, same_upd nD⟩
  · rintro i H' hi ⟨l1, s1⟩
    have e1 := ints_at hi
    have c4 := s1.seq c2
    have e2 : paid (c.ac.getD i 0) (s0.testBit i) (s0.testBit (i + 1)) = (if unp (tieZ i (i + 1) (c.ac.getD i 0)) s0 = true then ((tieZ i (i + 1) (c.ac.getD i 0)).s : Int) else 0) := rfl
    walk_at "sts"
    refine w_orE (w_mtZ (z := c.ac.getD i 0) (a := i) (b := i + 1) (by decide +kernel) (by decide +kernel) (by decide +kernel) (fun R hR => ?_) fun p H2 s2 ht => ?_)
    · walk_at "sts"
      exact ⟨i, i + 1, _, rfl, by omega, hR⟩
    · walk_at "sts"
      refine ⟨p, _, s0, rfl, ht, ?_⟩
      refine ⟨_, s2 _ _ l1, szlt (by simp; omega), ?_, (s1.trans s2).mut nD⟩
      rw [upd_same, map_snocI, e2]
  rintro H' ⟨l1, s1⟩
  walk_at "sts"
  refine ⟨D, _, rfl, SqL.of l1, ?_⟩
  exact q H' s1
def spAlg (K : PySem.W.Frag) : Sp := fun vs H Q _ => ∃ (pc : Addr) (c : Col) (s t : Nat), vs = [.ref pc, .int s, .int t] ∧ ColAt K H (.ref pc) c ∧ c.al.length ≤ 100 ∧ s < 2 ^ c.al.length ∧ t < 2 ^ 100 ∧ ∀ H', Same H H' → Q (.int (alP c s t)) H'
theorem ok_along_price {f : Addr} {fd : FuncData} (F : Fun K "along_price" "along_price" s_along_price f fd) (gf : mg "along_price" = some (.ref f)) (B : Bl mg) {C_Pull C_Push : Addr} (T : Txt K mg C_Pull C_Push) (h_tie_of : Has P w K mg base CX0 3 "tie_of" ["one", "two", "signed"] (spTieOf C_Pull C_Push)) (h_Pull_price : HasMeth P w K mg base CX0 3 C_Pull "price" ["self", "laying"] (spPrice C_Pull C_Push)) (h_Push_price : HasMeth P w K mg base CX0 3 C_Push "price" ["self", "laying"] (spPrice C_Pull C_Push)) : Has P w K mg base CX0 4 "along_price" ["column", "signs", "after"] (spAlg K) := by
  refine Has.mk' F gf (F.binds (ps := ["column", "signs", "after"]) fun _ _ _ _ _ _ us hl => match us, hl with | [_, _, _], _ => rfl) sc_along_price (by walk_at "len") (fun cdv A outer s H vs Q E hr h => ?_)
  obtain ⟨pc, c, s0, t0, rfl, ⟨pc', pa, pb, e, c1, c2, c3⟩, hl, hs0, ht0, q⟩ := h
  cases e
  have hl' : (c.al.map V.int).length ≤ 100 := by rw [List.length_map]; exact hl
  have hb1 : ∀ r, r < c.al.length → (s0 ||| t0 <<< c.al.length).testBit r = s0.testBit r := fun r hr => by
    rw [Nat.testBit_or, Nat.testBit_shiftLeft, decide_eq_false (by omega), Bool.false_and, Bool.or_false]
  have hb2 : ∀ r, r < c.al.length → (s0 ||| t0 <<< c.al.length).testBit (r + c.al.length) = t0.testBit r := fun r hr => by
    rw [Nat.testBit_or, Nat.testBit_shiftLeft, decide_eq_true (by omega), Bool.true_and, Nat.add_sub_cancel, Nat.testBit_lt_two_pow (Nat.lt_of_lt_of_le hs0 (Nat.pow_le_pow_right (by decide) (by omega))), Bool.false_or]
  refine ⟨_, (pss_cons (ps_set (i := 3) sc_along_price.nd rfl (.inr rfl) (pe_ix (ix_tupK K) (pv 0) pe_int (fun _ _ => rfl)))
 (pss_cons (ps_set (i := 4) sc_along_price.nd rfl (.inr rfl) (pe_callB (call_lenK K) (by rfl) B.len (by decide +kernel) (pa_cons (pv 3) pa_nil)))
 (pss_cons (ps_set (i := 5) sc_along_price.nd rfl (.inr rfl) (pe_op op_or (pv 1) (pe_op op_shlW (pv 2) (pv 4))))
 (pss_one (ps_ret (pe_callB (cr_sumK K rfl) (by rfl) B.sum (by decide +kernel) (pa_cons (pe_lc (own := [("r", 6)]) rfl sc_along_price.nd (pi_range1 (by rfl) B.range (pa_cons (pv 4) pa_nil)) (blkOk_by (own := [("r", 6)]) (N := ["column", "signs", "after", "along", "rows", "laying", "r"]) (sc := defScope s_along_price) (by decide +kernel)) (fun _ _ _ _ _ => pg_name (i := 6) sc_along_price.nd rfl (Or.inl rfl)) (fun _ _ _ _ _ => pts_nil) (fun _ _ _ _ _ => (PE.orD (pe_mt h_Pull_price (pe_fn h_tie_of (hr.mono (by decide)) (by rfl) (pa_cons (pv 6) (pa_cons (pe_op op_add (pv 6) (pv 4)) (pa_cons (pe_ix (ix_listK K) (pv 3) (pv 6) (fun _ _ => rfl)) pa_nil)))) (hr.mono (by decide)) (pa_cons (pv 5) pa_nil)) (pe_mt h_Push_price (pe_fn h_tie_of (hr.mono (by decide)) (by rfl) (pa_cons (pv 6) (pa_cons (pe_op op_add (pv 6) (pv 4)) (pa_cons (pe_ix (ix_listK K) (pv 3) (pv 6) (fun _ _ => rfl)) pa_nil)))) (hr.mono (by decide)) (pa_cons (pv 5) pa_nil))))) pa_nil))))))), ?_⟩
  walk_at "sts"
  rw [List.length_map, shl_nat, or_nat]
  generalize s0 ||| t0 <<< c.al.length = l0 at hb1 hb2
  intro D nD
  refine lc_r0 (n := c.al.length) rfl (fun i H' => H' D = some (.lst (((List.range i).map fun r => paid (c.al.getD r 0) (s0.testBit r) (t0.testBit r)).map V.int)) ∧ Same H H') ?_ ?_ ?_
  · exact ⟨upd_same, same_upd nD⟩
  · rintro i H' hi ⟨l1, s1⟩
    have e1 := ints_at hi
    have c4 := s1.seq c3
    have e2 : (if unp (tieZ i (i + c.al.length) (c.al.getD i 0)) l0 = true then ((tieZ i (i + c.al.length) (c.al.getD i 0)).s : Int) else 0) = paid (c.al.getD i 0) (s0.testBit i) (t0.testBit i) := by
      rw [unp_paid, hb1 i hi, hb2 i hi]
    walk_at "sts"
    refine w_orE (w_mtZ (z := c.al.getD i 0) (a := i) (b := i + c.al.length) (by decide +kernel) (by decide +kernel) (by decide +kernel) (fun R hR => ?_) fun p H2 s2 ht => ?_)
    · walk_at "sts"
      exact ⟨i, i + c.al.length, _, rfl, by omega, hR⟩
    · walk_at "sts"
      refine ⟨p, _, l0, rfl, ht, ?_⟩
      refine ⟨_, s2 _ _ l1, szlt (by simp; omega), ?_, (s1.trans s2).mut nD⟩
      rw [upd_same, map_snocI, e2]
  rintro H' ⟨l1, s1⟩
  walk_at "sts"
  refine ⟨D, _, rfl, SqL.of l1, ?_⟩
  exact q H' s1
def spColT (K : PySem.W.Frag) : Sp := fun vs H Q _ => ∃ (pc : Addr) (c : Col) (n : Nat), vs = [.ref pc] ∧ ColAt K H (.ref pc) c ∧ c.al.length ≤ 10 ∧ c.ac.length ≤ 100 ∧ n + 1 = 2 ^ c.al.length ∧
  ∀ p H', Same H H' → New H p → TabIn K H' p (colT c) (n + 1) (n + 1) → Q (.ref p) H'
theorem ok_column_table {f : Addr} {fd : FuncData} (F : Fun K "column_table" "column_table" s_column_table f fd) (gf : mg "column_table" = some (.ref f)) (B : Bl mg) {C_Pull C_Push : Addr} (T : Txt K mg C_Pull C_Push) (h_across_price : Has P w K mg base CX0 4 "across_price" ["column", "signs"] (spAcr K)) (h_along_price : Has P w K mg base CX0 4 "along_price" ["column", "signs", "after"] (spAlg K)) : Has P w K mg base CX0 5 "column_table" ["column"] (spColT K) := by
  refine Has.mk' F gf (F.binds (ps := ["column"]) fun _ _ _ _ _ _ us hl => match us, hl with | [_], _ => rfl) sc_column_table (by walk_at "len") (fun cdv A outer s H vs Q E hr h => ?_)
  obtain ⟨pc, c, n, rfl, hc, hl, hl2, hn, q⟩ := h
  obtain ⟨pc', pa, pb, e, c1, c2, c3⟩ := id hc
  cases e
  have hl' : (c.al.map V.int).length ≤ 10 := by rw [List.length_map]; exact hl
  have hn2 : n + 1 ≤ 1024 := by rw [hn]; exact Nat.pow_le_pow_right (by decide) hl
  refine ⟨_, (pss_cons (ps_set (i := 1) sc_column_table.nd rfl (.inl rfl) (pe_op op_shlW pe_int (pe_callB (call_lenK K) (by rfl) B.len (by decide +kernel) (pa_cons (pe_ix (ix_tupK K) (pv 0) pe_int (fun _ _ => rfl)) pa_nil))))
 (pss_cons (ps_set (i := 2) sc_column_table.nd rfl (.inl rfl) (pe_lst pa_nil))
 (pss_cons (ps_for PassesOwn.never rfl (pi_range1 (by rfl) B.range (pa_cons (pv 1) pa_nil)) (pg_name (i := 3) sc_column_table.nd rfl (.inr rfl)) (pss_cons (ps_set (i := 4) sc_column_table.nd rfl (.inr rfl) (pe_fn h_across_price (hr.mono (by decide)) (by rfl) (pa_cons (pv 0) (pa_cons (pv 3) pa_nil))))
 (pss_one (ps_expr (pe_bmK K (pe_bm PySem.F.plainAttrs_list PySem.F.slot_list_append PySem.F.type_list_append mt_append (pv 2) (pa_cons (pe_lc (own := [("after", 5)]) rfl sc_column_table.nd (pi_range1 (by rfl) B.range (pa_cons (pv 1) pa_nil)) (blkOk_by (own := [("after", 5)]) (N := ["column", "size", "found", "signs", "own", "after"]) (sc := defScope s_column_table) (by decide +kernel)) (fun _ _ _ _ _ => pg_name (i := 5) sc_column_table.nd rfl (Or.inl rfl)) (fun _ _ _ _ _ => pts_nil) (fun _ _ _ _ _ => (pe_tup (pa_cons (pe_op op_add (pv 4) (pe_fn h_along_price (hr.mono (by decide)) (by rfl) (pa_cons (pv 0) (pa_cons (pv 3) (pa_cons (pv 5) pa_nil))))) (pa_cons pe_int pa_nil))))) pa_nil)))))))
 (pss_one (ps_ret (pv 2)))))), ?_⟩
  walk_at "sts"
  refine w_new fun F nF => ?_
  rw [List.length_map, shl_one, ← hn]
  walk_at "sts"
  refine for_r0 (n := n + 1) rfl (fun i σ H' => ∃ (y3 y4 y5 : Option V), σ = [some (.ref pc), some (.int ((n + 1 : Nat) : Int)), some (.ref F), y3, y4, y5] ∧ GrD K H' F ((List.range i).map fun i => dCRow (colT c i) (n + 1)) ∧ Same H H') ?_ ?_ ?_
  · exact ⟨_, _, _, rfl, GrD.new, same_upd nF⟩
  · rintro i σ H' hi ⟨y3, y4, y5, rfl, ⟨xs, x1, x2⟩, s1⟩
    have hxl := dpaLen x2
    rw [List.length_map, List.length_range] at hxl
    walk_at "sts"
    refine ⟨pc, c, i, rfl, hc.same s1, hl2, fun H2 s2 => ?_⟩
    walk_at "sts"
    intro R nR
    have hFR : F ≠ R := ne_new (s2 _ _ x1) nR
    refine lc_r0 (n := n + 1) rfl (fun j H3 => (∃ ys, H3 R = some (.lst ys) ∧ DpAll K (wo (wo H3 R) F) ys ((List.range j).map fun t => dCN (colT c i t))) ∧ Same H2 H3) ?_ ?_ ?_
    · exact ⟨⟨[], upd_same, .nil⟩, same_upd nR⟩
    · rintro j H3 hj ⟨⟨ys, z1, z2⟩, s3⟩
      have hyl := dpaLen z2
      rw [List.length_map, List.length_range] at hyl
      walk_at "sts"
      refine ⟨pc, c, i, j, rfl, hc.same ((s1.trans s2).trans s3), by omega, by omega, by have : n + 1 ≤ 2 ^ 100 := Nat.le_trans hn2 (by decide); omega, fun H4 s4 => ?_⟩
      walk_at "sts"
      refine w_new fun p np => ?_
      have sp := same_upd (o := .tup [.int (acP c i + alP c i j), .int 1]) np
      have s34 := s4.trans sp
      have hRp : R ≠ p := ne_new (s4 _ _ z1) np
      have hFp : F ≠ p := ne_new ((s2.trans (s3.trans s4)) _ _ x1) np
      refine ⟨ys, s34 _ _ z1, szlt (by omega), ⟨_, upd_same, ?_⟩, (s3.trans s34).mut nR⟩
      rw [wo_eq, range_snoc]
      exact dpaApp (z2.same (wo_mono (wo_mono s34))) (.cons (dpCN (x := colT c i j) (SqT.of (wo_get (wo_get upd_same (Ne.symm hRp)) (Ne.symm hFp)))) .nil)
    · rintro H3 ⟨⟨ys, z1, z2⟩, s3⟩
      have s23 := s2.trans s3
      have hx3 := s23 _ _ x1
      walk_at "sts"
      refine ⟨_, _, _, rfl, ?_, (s1.trans s23).mut nF⟩
      rw [range_snoc (fun i => dCRow (colT c i) (n + 1)) i]
      exact GrD.push x2 s23 (.lst (SqL.of (wo_get z1 (Ne.symm hFR))) (z2.same (wo_mono wo_same)))
  · rintro σ H' ⟨y3, y4, y5, rfl, hG, s1⟩
    walk_at "sts"
    exact q F H' s1 nF (.of hG)
def BM : Nat := 1000000000
def spStepT (K : PySem.W.Frag) : Sp := fun vs H Q _ => ∃ (p : Addr) (P : List Col) (rows n : Nat), vs = [.ref p] ∧ Dp K H (.ref p) (dPat P) ∧ PatOk P rows ∧ n + 1 = 2 ^ rows ∧
  ∀ r H', Same H H' → New H r → TabIn K H' r (fun s t => cmd BM (stepE n P (P.length - 1) s t)) (n + 1) (n + 1) → Q (.ref r) H'
theorem ok_step_table {f : Addr} {fd : FuncData} (F : Fun K "step_table" "step_table" s_step_table f fd) (gf : mg "step_table" = some (.ref f)) (B : Bl mg) {C_Pull C_Push : Addr} (T : Txt K mg C_Pull C_Push) (h_rows_of : Has P w K mg base CX0 1 "rows_of" ["pattern"] (spRows K)) (h_column_table : Has P w K mg base CX0 5 "column_table" ["column"] (spColT K)) (h_tables_joined : Has P w K mg base CX0 3 "tables_joined" ["one", "two", "modulus"] (spTabsJ K)) : Has P w K mg base CX0 6 "step_table" ["pattern"] (spStepT K) := by
  refine Has.mk' F gf (F.binds (ps := ["pattern"]) fun _ _ _ _ _ _ us hl => match us, hl with | [_], _ => rfl) sc_step_table (by walk_at "len") (fun cdv A outer s H vs Q E hr h => ?_)
  obtain ⟨p, P', rows, n, rfl, hP, hok, hn, q⟩ := h
  obtain ⟨xs, hxs, hxl, hxa⟩ := patAt hP
  have hn2 : n + 1 ≤ 8 := by rw [hn]; exact Nat.le_trans (Nat.pow_le_pow_right (by decide) hok.r1) (by decide)
  have hcol : ∀ i, i < P'.length → (colAt P' i).al.length ≤ 10 ∧ (colAt P' i).ac.length ≤ 100 ∧ n + 1 = 2 ^ (colAt P' i).al.length := fun i hi => by
    have h1 := hok.al i hi
    have h2 := hok.ac i hi
    have h3 := hok.r1
    exact ⟨by omega, by omega, by rw [h1]; exact hn⟩
  have hl0 := hok.l0
  have hl1 := hok.l1
  refine ⟨_, (pss_cons (ps_expr (pe_fn h_rows_of (hr.mono (by decide)) (by rfl) (pa_cons (pv 0) pa_nil)))
 (pss_cons (ps_set (i := 1) sc_step_table.nd rfl (.inl rfl) (pe_fn h_column_table (hr.mono (by decide)) (by rfl) (pa_cons (pe_ix (ix_listK K) (pv 0) pe_int (fun _ _ => rfl)) pa_nil)))
 (pss_cons (ps_for PassesOwn.never rfl (pi_listK K (pe_slice (sl_listK K) (pv 0) (po_some pe_int) po_none)) (pg_name (i := 2) sc_step_table.nd rfl (.inl rfl)) (pss_one (ps_set (i := 1) sc_step_table.nd rfl (.inl rfl) (pe_fn h_tables_joined (hr.mono (by decide)) (by rfl) (pa_cons (pv 1) (pa_cons (pe_fn h_column_table (hr.mono (by decide)) (by rfl) (pa_cons (pv 2) pa_nil)) (pa_cons (pe_glob (v := .int 1000000000) (by rfl) T.k_MOST_MODULUS.choose_spec ⟨_, rfl⟩) pa_nil)))))))
 (pss_one (ps_ret (pv 1)))))), ?_⟩
  walk_at "sts"
  refine ⟨p, P', rows, rfl, hP, hok, ?_⟩
  obtain ⟨v0, e0, hc0⟩ := hxa 0 hl0
  obtain ⟨pc0, _, _, ev0, _⟩ := id hc0
  subst ev0
  obtain ⟨b1, b2, b3⟩ := hcol 0 hl0
  walk_at "sts"
  refine ⟨pc0, colAt P' 0, n, rfl, hc0, b1, b2, b3, fun r1 H1 s1 n1 ht1 => ?_⟩
  have hxs1 := s1.seq hxs
  walk_at "sts"
  refine w_new fun ps nps => ?_
  rw [show (some (1 : Int)) = some ((1 : Nat) : Int) from rfl, cutV_from]
  have sp := same_upd (o := .lst (xs.drop 1)) nps
  have hps : upd H1 ps (.lst (xs.drop 1)) ps = some (.lst (xs.drop 1)) := upd_same
  have hdl : (xs.drop 1).length = P'.length - 1 := by rw [List.length_drop]; omega
  have e0' : (fun s t => cmd BM (stepE n P' 0 s t)) = colT (colAt P' 0) := by funext s t; rfl
  rw [← e0'] at ht1
  have ht2 := ht1.same sp
  have sH2 := s1.trans sp
  generalize upd H1 ps (.lst (xs.drop 1)) = H2 at sp hps ht2 sH2 ⊢
  walk_at "sts"
  refine for_list (xs := xs.drop 1) (fun i σ H' => ∃ (r : Addr) (y2 : Option V), σ = [some (.ref p), some (.ref r), y2] ∧ Same H2 H' ∧ New H r ∧ TabIn K H' r (fun s t => cmd BM (stepE n P' i s t)) (n + 1) (n + 1)) ?_ ?_ ?_ ?_
  · exact ⟨r1, _, rfl, Same.refl _, n1, ht2⟩
  · rintro i σ H' _ ⟨_, _, _, s3, _, _⟩
    exact s3.seq (SqL.of hps)
  · rintro i v σ H' hv ⟨r, y2, rfl, s3, nr, ht⟩
    have hi : i + 1 < P'.length := by have := (List.getElem?_eq_some_iff.mp hv).1; omega
    obtain ⟨v', e1, hc⟩ := hxa (i + 1) hi
    rw [List.getElem?_drop, Nat.add_comm 1 i, e1] at hv
    cases hv
    obtain ⟨pc, _, _, ev, _⟩ := id hc
    subst ev
    obtain ⟨b1, b2, b3⟩ := hcol (i + 1) hi
    walk_at "sts"
    refine ⟨pc, colAt P' (i + 1), n, rfl, hc.same (sH2.trans s3), b1, b2, b3, fun r2 H4 s4 n4 ht4 => ?_⟩
    walk_at "sts"
    have hlt : ∀ s t, (cmd BM (stepE n P' i s t)).2 < 2 ^ 200 := fun s t => Nat.lt_of_lt_of_le (cmd_lt (by decide) _) (by decide)
    refine ⟨r, r2, _, _, n + 1, n, BM, rfl, (ht.same s4).dp, ht4.dp, by decide, by omega, by omega, fun i j _ _ => hlt _ _, fun i j _ _ => by show 1 < 2 ^ 200; decide, fun r3 H5 s5 n5 _ ht5 => ?_⟩
    have e5 : (fun s t => cmd BM (cjn n (fun s t => cmd BM (stepE n P' i s t)) (colT (colAt P' (i + 1))) s t)) = fun s t => cmd BM (stepE n P' (i + 1) s t) := by
      funext s t
      exact CEq.red (CEq.cjn (fun u _ => cmd_eq _ _) fun u _ => CEq.refl _ _)
    rw [e5] at ht5
    have s345 := s3.trans (s4.trans s5)
    walk_at "sts"
    exact ⟨r3, _, rfl, s345, n5.of (sH2.trans (s3.trans s4)), ht5⟩
  · rintro σ H' ⟨r, y2, rfl, s3, nr, ht⟩
    rw [hdl] at ht
    walk_at "sts"
    exact q r H' (sH2.trans s3) nr ht
end

theorem nat_mod (a b : Nat) : ((a : Int) % (b : Int)) = ((a % b : Nat) : Int) := rfl
theorem cpw_congr {n : Nat} {A B : Nat → Nat → CN} (h : ∀ s t, s ≤ n → t ≤ n → A s t = B s t) : ∀ k s t, s ≤ n → t ≤ n → cpw n A k s t = cpw n B k s t
  | 0, s, t, hs, ht => h s t hs ht
  | k + 1, s, t, hs, ht => cjn_congr (fun u hu => cpw_congr h k s u hs hu) fun u hu => h u t hu ht
theorem step_small {P : List Col} {rows n : Nat} (hok : PatOk P rows) (hn : n + 1 = 2 ^ rows) {s t : Nat} (hs : s ≤ n) (ht : t ≤ n) : (stepE n P (P.length - 1) s t).2 ≤ 32768 := by
  have h0 := hok.l0
  have h1 := hok.l1
  have h2 := hok.r1
  rw [step_trial P hn (P.length - 1) (by omega) s t hs ht]
  have h3 := csm_ones (fun w => pcost P rows (s + 2 ^ rows * w + 2 ^ (rows * (P.length - 1 + 1)) * t) (P.length - 1 + 1)) (2 ^ (rows * (P.length - 1)) - 1)
  have h4 : rows * (P.length - 1) ≤ 3 * 5 := Nat.mul_le_mul h2 (by omega)
  have h5 : 2 ^ (rows * (P.length - 1)) ≤ 2 ^ 15 := Nat.pow_le_pow_right (by decide) h4
  have h6 := Nat.two_pow_pos (rows * (P.length - 1))
  have h7 : (2 : Nat) ^ 15 = 32768 := by decide
  omega
theorem cmd_small {m : Nat} {x : CN} (h : x.2 < m) : cmd m x = x := by unfold cmd; rw [Nat.mod_eq_of_lt h]
theorem crowDp {K : PySem.W.Frag} {H : Hp} {D : Addr} {f : Nat → CN} {n : Nat} (h : GrD K H D ((List.range n).map fun j => dCN (f j))) : Dp K H (.ref D) (dCRow f n) := h.dp
section
variable {P : Program} {w : World} {K : PySem.W.Frag} {mg : Str → Option Value} {base : Heap} {C_Pull C_Push : Addr}
def spStripL (K : PySem.W.Frag) : Sp := fun vs H Q _ => ∃ (p : Addr) (P : List Col) (rows n k m : Nat), vs = [.ref p, .int ((k + 1 : Nat) : Int), .int m] ∧ Dp K H (.ref p) (dPat P) ∧ PatOk P rows ∧ n + 1 = 2 ^ rows ∧ k + 1 ≤ 1000000000000000000 ∧ 2 ≤ m ∧ m ≤ 1000000000 ∧
  ∀ r H', Same H H' → New H r → H' r = some (.tup [.int (total n P k).1, .int ((total n P k).2 % m : Nat)]) → Q (.ref r) H'
theorem ok_strip_least {f : Addr} {fd : FuncData} (F : Fun K "strip_least" "strip_least" s_strip_least f fd) (gf : mg "strip_least" = some (.ref f)) (B : Bl mg) {C_Pull C_Push : Addr} (T : Txt K mg C_Pull C_Push) (h_rows_of : Has P w K mg base CX0 1 "rows_of" ["pattern"] (spRows K)) (h_row_joined : Has P w K mg base CX0 2 "row_joined" ["row", "table", "modulus"] (spRowJ K)) (h_table_power : Has P w K mg base CX0 4 "table_power" ["table", "times", "modulus"] (spPower K)) (h_column_table : Has P w K mg base CX0 5 "column_table" ["column"] (spColT K)) (h_across_price : Has P w K mg base CX0 4 "across_price" ["column", "signs"] (spAcr K)) (h_step_table : Has P w K mg base CX0 6 "step_table" ["pattern"] (spStepT K)) : Has P w K mg base CX0 7 "strip_least" ["pattern", "columns", "modulus"] (spStripL K) := by
  refine Has.mk' F gf (F.binds (ps := ["pattern", "columns", "modulus"]) fun _ _ _ _ _ _ us hl => match us, hl with | [_, _, _], _ => rfl) sc_strip_least (by walk_at "len") (fun cdv A outer s H vs Q E hr h => ?_)
  obtain ⟨p, P', rows, n, k, m, rfl, hP, hok, hn, hk, hm1, hm2, q⟩ := h
  obtain ⟨xs, hxs, hxl, hxa⟩ := patAt hP
  have hn2 : n + 1 ≤ 8 := by rw [hn]; exact Nat.le_trans (Nat.pow_le_pow_right (by decide) hok.r1) (by decide)
  have hcol : ∀ i, i < P'.length → (colAt P' i).al.length ≤ 10 ∧ (colAt P' i).ac.length ≤ 100 ∧ n + 1 = 2 ^ (colAt P' i).al.length := fun i hi => by
    have h1 := hok.al i hi
    have h2 := hok.ac i hi
    have h3 := hok.r1
    exact ⟨by omega, by omega, by rw [h1]; exact hn⟩
  have hl0 := hok.l0
  have hl1 := hok.l1
  have hr1 := hok.r1
  refine ⟨_, (pss_cons (ps_set (i := 3) sc_strip_least.nd rfl (.inl rfl) (pe_fn h_rows_of (hr.mono (by decide)) (by rfl) (pa_cons (pv 0) pa_nil)))
 (pss_cons (ps_if (PW.pt (pw_or (pt_not (pt_chain op_le op_le pe_int (pv 1) (pe_glob (v := .int 1000000000000000000) (by rfl) T.k_MOST_COLUMNS.choose_spec ⟨_, rfl⟩))) (pw_or1 (pt_not (pt_chain op_le op_le pe_int (pv 2) (pe_glob (v := .int 1000000000) (by rfl) T.k_MOST_MODULUS.choose_spec ⟨_, rfl⟩)))))) (pss_one ps_never) pss_nil)
 (pss_cons (ps_asg (pe_callB call_divmod (by rfl) B.divmod (by decide +kernel) (pa_cons (pe_op op_sub (pv 1) pe_int) (pa_cons (pe_callB (call_lenK K) (by rfl) B.len (by decide +kernel) (pa_cons (pv 0) pa_nil)) pa_nil))) (pg_tupK K rfl (pgs_cons (pg_name (i := 4) sc_strip_least.nd rfl (.inl rfl)) (pgs_cons (pg_name (i := 5) sc_strip_least.nd rfl (.inr rfl)) pgs_nil))))
 (pss_cons (ps_set (i := 6) sc_strip_least.nd rfl (.inr rfl) (pe_lc (own := [("signs", 11)]) rfl sc_strip_least.nd (pi_range1 (by rfl) B.range (pa_cons (pe_op op_shlW pe_int (pv 3)) pa_nil)) (blkOk_by (own := [("signs", 11)]) (N := ["pattern", "columns", "modulus", "rows", "repeats", "rest", "row", "column", "ends", "low", "many", "signs"]) (sc := defScope s_strip_least) (by decide +kernel)) (fun _ _ _ _ _ => pg_name (i := 11) sc_strip_least.nd rfl (Or.inl rfl)) (fun _ _ _ _ _ => pts_nil) (fun _ _ _ _ _ => (pe_tup (pa_cons pe_int (pa_cons pe_int pa_nil))))))
 (pss_cutX (ps_if (pt_cmpR op_gt (pv 4) pe_int (nomark _)) (pss_one (ps_set (i := 6) sc_strip_least.nd rfl (.inr rfl) (pe_fn h_row_joined (hr.mono (by decide)) (by rfl) (pa_cons (pv 6) (pa_cons (pe_fn h_table_power (hr.mono (by decide)) (by rfl) (pa_cons (pe_fn h_step_table (hr.mono (by decide)) (by rfl) (pa_cons (pv 0) pa_nil)) (pa_cons (pv 4) (pa_cons (pv 2) pa_nil)))) (pa_cons (pv 2) pa_nil)))))) pss_nil)
 (pss_cons (ps_for PassesOwn.never rfl (pi_listK K (pe_slice (sl_listK K) (pv 0) po_none (po_some (pv 5)))) (pg_name (i := 7) sc_strip_least.nd rfl (.inl rfl)) (pss_one (ps_set (i := 6) sc_strip_least.nd rfl (.inr rfl) (pe_fn h_row_joined (hr.mono (by decide)) (by rfl) (pa_cons (pv 6) (pa_cons (pe_fn h_column_table (hr.mono (by decide)) (by rfl) (pa_cons (pv 7) pa_nil)) (pa_cons (pv 2) pa_nil)))))))
 (pss_cons (ps_set (i := 8) sc_strip_least.nd rfl (.inr rfl) (pe_lc (own := [("signs", 11)]) rfl sc_strip_least.nd (pi_range1 (by rfl) B.range (pa_cons (pe_op op_shlW pe_int (pv 3)) pa_nil)) (blkOk_by (own := [("signs", 11)]) (N := ["pattern", "columns", "modulus", "rows", "repeats", "rest", "row", "column", "ends", "low", "many", "signs"]) (sc := defScope s_strip_least) (by decide +kernel)) (fun _ _ _ _ _ => pg_name (i := 11) sc_strip_least.nd rfl (Or.inl rfl)) (fun _ _ _ _ _ => pts_nil) (fun _ _ _ _ _ => (pe_op op_add (pe_ix (ix_tupK K) (pe_ix (ix_listK K) (pv 6) (pv 11) (fun _ _ => rfl)) pe_int (fun _ _ => rfl)) (pe_fn h_across_price (hr.mono (by decide)) (by rfl) (pa_cons (pe_ix (ix_listK K) (pv 0) (pv 5) (fun _ _ => rfl)) (pa_cons (pv 11) pa_nil)))))))
 (pss_cons (ps_set (i := 9) sc_strip_least.nd rfl (.inr rfl) (pe_callB (cr_minK K rfl) (by rfl) B.min (by decide +kernel) (pa_cons (pv 8) pa_nil)))
 (pss_cons (ps_set (i := 10) sc_strip_least.nd rfl (.inl rfl) (pe_callB (cr_sumK K rfl) (by rfl) B.sum (by decide +kernel) (pa_cons (pe_lc (own := [("signs", 11)]) rfl sc_strip_least.nd (pi_range1 (by rfl) B.range (pa_cons (pe_op op_shlW pe_int (pv 3)) pa_nil)) (blkOk_by (own := [("signs", 11)]) (N := ["pattern", "columns", "modulus", "rows", "repeats", "rest", "row", "column", "ends", "low", "many", "signs"]) (sc := defScope s_strip_least) (by decide +kernel)) (fun _ _ _ _ _ => pg_name (i := 11) sc_strip_least.nd rfl (Or.inl rfl)) (fun _ _ _ _ _ => (pts_one (pt_cmpR op_eq (pe_ix (ix_listK K) (pv 8) (pv 11) (fun _ _ => rfl)) (pv 9) (nomark _)))) (fun _ _ _ _ _ => (pe_ix (ix_tupK K) (pe_ix (ix_listK K) (pv 6) (pv 11) (fun _ _ => rfl)) pe_int (fun _ _ => rfl)))) pa_nil)))
 (pss_one (ps_ret (pe_tup (pa_cons (pv 9) (pa_cons (pe_op op_mod (pv 10) (pv 2)) pa_nil)))))))))))))), ?_⟩
  walk_at "sts"
  refine ⟨p, P', rows, rfl, hP, hok, ?_⟩
  walk_at "sts"
  refine w_chain ?_
  walk_at "sts"
  refine w_chain ?_
  walk_at "sts"
  rw [hxl]
  obtain ⟨rep, hrep⟩ : ∃ rep, rep = k / P'.length := ⟨_, rfl⟩
  obtain ⟨rest, hrest⟩ : ∃ rest, rest = k % P'.length := ⟨_, rfl⟩
  have hkr : k = P'.length * rep + rest := by rw [hrep, hrest]; exact (Nat.div_add_mod k P'.length).symm
  have hrl : rest < P'.length := by rw [hrest]; exact Nat.mod_lt _ hl0
  have hrk : rep ≤ k := by rw [hrep]; exact Nat.div_le_self _ _
  have e1 : (((k + 1 : Nat) : Int) - 1) / (P'.length : Int) = (rep : Int) := by
    rw [show ((k + 1 : Nat) : Int) - 1 = (k : Int) by omega, hrep]
    rfl
  have e2 : (((k + 1 : Nat) : Int) - 1) % (P'.length : Int) = (rest : Int) := by
    rw [show ((k + 1 : Nat) : Int) - 1 = (k : Int) by omega, hrest]
    rfl
  refine ⟨⟨by omega, by omega⟩, w_new fun pt np => ?_⟩
  rw [e1, e2]
  have s0 := same_upd (o := .tup [.int (rep : Int), .int (rest : Int)]) np
  have hpt : SqT K (upd H pt (.tup [.int (rep : Int), .int (rest : Int)])) pt [.int (rep : Int), .int (rest : Int)] := SqT.of upd_same
  generalize upd H pt (.tup [.int (rep : Int), .int (rest : Int)]) = H0 at s0 hpt ⊢
  walk_at "sts"
  rw [shl_one, ← hn]
  refine ⟨by omega, by omega, fun D nD => ?_⟩
  refine lc_r0 (n := n + 1) rfl (fun i H' => GrD K H' D ((List.range i).map fun _ => dCN (0, 1)) ∧ Same H0 H') ?_ ?_ ?_
  · exact ⟨GrD.new, same_upd nD⟩
  · rintro i H' hi ⟨⟨ys, x1, x2⟩, s1⟩
    have hyl := dpaLen x2
    rw [List.length_map, List.length_range] at hyl
    walk_at "sts"
    refine w_new fun p2 np2 => ?_
    have hDp : D ≠ p2 := ne_new x1 np2
    have sp := same_upd (o := .tup [.int 0, .int 1]) np2
    refine ⟨ys, sp _ _ x1, szlt (by omega), ?_, (s1.trans sp).mut nD⟩
    rw [range_snoc]
    exact GrD.push x2 sp (dpCN (x := (0, 1)) (SqT.of (wo_get upd_same (Ne.symm hDp))))
  rintro H1 ⟨hG1, s1⟩
  have hD1 : Dp K H1 (.ref D) (dCRow (fun _ => (0, 1)) (n + 1)) := hG1.dp
  have s01 := s0.trans s1
  walk_at "sts"
  refine w_cut (fun σ' H2 => ∃ (pr : Addr) (g : Nat → CN), σ' = [some (.ref p), some (.int ((k + 1 : Nat) : Int)), some (.int (m : Nat)), some (.int (rows : Nat)), some (.int (rep : Nat)), some (.int (rest : Nat)), some (.ref pr), none, none, none, none, none] ∧ Same H1 H2 ∧ Dp K H2 (.ref pr) (dCRow g (n + 1)) ∧ ∀ t, t ≤ n → CEq m (g t) (vec n P' (P'.length * rep) t) ∧ (g t).2 < 2 ^ 200) ?_ ?_
  · walk_at "sts"
    refine ifd (fun hc => ?_) (fun hc => ?_)
    · walk_at "sts"
      refine ⟨p, P', rows, n, rfl, hP.same s01, hok, hn, fun r H2 s2 n2 ht2 => ?_⟩
      walk_at "sts"
      refine ⟨r, _, n, rep, m, rfl, ht2.dp, by omega, by omega, by omega, by omega, fun r3 H3 s3 n3 ht3 _ => ?_⟩
      walk_at "sts"
      refine ⟨D, r3, fun _ => (0, 1), _, n, m, rfl, (hD1.same s2).same s3, ht3, by omega, by omega, fun i hi => by show 1 < 2 ^ 200; decide, fun i j _ _ => Nat.lt_of_lt_of_le (cmd_lt (by omega) _) (Nat.le_trans hm2 (by decide)), fun r4 H4 s4 n4 hr4 => ?_⟩
      refine ⟨r4, _, rfl, s2.trans (s3.trans s4), hr4, fun t ht => ⟨?_, Nat.lt_of_lt_of_le (cmd_lt (by omega) _) (Nat.le_trans hm2 (by decide))⟩⟩
      refine (cmd_eq _ _).trans ?_
      rw [show rep = rep - 1 + 1 by omega, vec_pow n P' hl0, show rep - 1 + 1 - 1 = rep - 1 by omega]
      refine CEq.csm fun u hu => CEq.cmu (CEq.refl _ _) ((cmd_eq _ _).trans ?_)
      rw [cpw_congr (fun s t hs ht => cmd_small (Nat.lt_of_le_of_lt (step_small hok hn hs ht) (by decide))) (rep - 1) u t hu ht]
      exact CEq.refl _ _
    · walk_at "sts"
      have hr0 : rep = 0 := by omega
      refine ⟨D, _, rfl, Same.refl _, hD1, fun t ht => ⟨?_, by show 1 < 2 ^ 200; decide⟩⟩
      rw [hr0]
      exact CEq.refl _ _
  rintro σ' H2 ⟨pr, g, rfl, s2, hg, hgv⟩
  have s02 := s01.trans s2
  have hxs2 := s02.seq hxs
  walk_at "sts"
  refine w_new fun ps nps => ?_
  rw [cutV_to]
  have sp := same_upd (o := .lst (xs.take rest)) nps
  have hps : upd H2 ps (.lst (xs.take rest)) ps = some (.lst (xs.take rest)) := upd_same
  have hg3 := hg.same sp
  have s03 := s02.trans sp
  have htl : (xs.take rest).length = rest := by rw [List.length_take]; omega
  generalize upd H2 ps (.lst (xs.take rest)) = H3 at sp hps hg3 s03 ⊢
  clear hG1 s0 s1 s01 s02 s2 sp hg hxs2 hD1 hpt
  walk_at "sts"
  refine for_list (xs := xs.take rest) (fun i σ H' => ∃ (pr : Addr) (g : Nat → CN) (y7 : Option V), σ = [some (.ref p), some (.int ((k + 1 : Nat) : Int)), some (.int (m : Nat)), some (.int (rows : Nat)), some (.int (rep : Nat)), some (.int (rest : Nat)), some (.ref pr), y7, none, none, none, none] ∧ Same H3 H' ∧ Dp K H' (.ref pr) (dCRow g (n + 1)) ∧ ∀ t, t ≤ n → CEq m (g t) (vec n P' (P'.length * rep + i) t) ∧ (g t).2 < 2 ^ 200) ?_ ?_ ?_ ?_
  · exact ⟨pr, g, _, rfl, Same.refl _, hg3, hgv⟩
  · rintro i σ H' _ ⟨_, _, _, _, s4, _⟩
    exact s4.seq (SqL.of hps)
  · clear hg3 hgv
    rintro i v σ H' hv ⟨pr, g, y7, rfl, s4, hg, hgv⟩
    have hi : i < rest := by rw [← htl]; exact (List.getElem?_eq_some_iff.mp hv).1
    obtain ⟨v', e3, hc⟩ := hxa i (by omega)
    rw [List.getElem?_take_of_lt hi, e3] at hv
    cases hv
    obtain ⟨pc, _, _, ev, _⟩ := id hc
    subst ev
    obtain ⟨b1, b2, b3⟩ := hcol i (by omega)
    walk_at "sts"
    refine ⟨pc, colAt P' i, n, rfl, hc.same (s03.trans s4), b1, b2, b3, fun r2 H4 s5 n5 ht4 => ?_⟩
    walk_at "sts"
    refine ⟨pr, r2, g, _, n, m, rfl, hg.same s5, ht4.dp, by omega, by omega, fun j hj => (hgv j hj).2, fun i j _ _ => by show 1 < 2 ^ 200; decide, fun r4 H5 s6 n6 hr4 => ?_⟩
    walk_at "sts"
    refine ⟨r4, _, _, rfl, s4.trans (s5.trans s6), hr4, fun t ht => ⟨?_, Nat.lt_of_lt_of_le (cmd_lt (by omega) _) (Nat.le_trans hm2 (by decide))⟩⟩
    refine (cmd_eq _ _).trans ?_
    show CEq m _ (csm (fun s => cmu (vec n P' (P'.length * rep + i) s) (colT (colAt P' ((P'.length * rep + i) % P'.length)) s t)) n)
    rw [Nat.mul_add_mod, Nat.mod_eq_of_lt (show i < P'.length by omega)]
    exact CEq.csm fun u hu => CEq.cmu (hgv u hu).1 (CEq.refl _ _)
  clear hg3 hgv
  rintro σ H4 ⟨pr, g, y7, rfl, s4, hg, hgv⟩
  rw [htl, ← hkr] at hgv
  have hk2 : k % P'.length = rest := hrest.symm
  have s04 := s03.trans s4
  have hxs4 := s04.seq hxs
  obtain ⟨rs, hrs, hrl2, hra⟩ := crowAt hg
  obtain ⟨v', e3, hc⟩ := hxa rest hrl
  obtain ⟨pc, _, _, ev, _⟩ := id hc
  subst ev
  have hc4 := hc.same s04
  obtain ⟨b1, b2, b3⟩ := hcol rest hrl
  walk_at "sts"
  rw [shl_one, ← hn]
  refine ⟨by omega, by omega, fun E nE => ?_⟩
  have hF : ∀ t, cmu (g t) (acP (colAt P' rest) t, 1) = ((g t).1 + acP (colAt P' rest) t, (g t).2) := fun t => by unfold cmu; rw [Nat.mul_one]
  refine lc_r0 (n := n + 1) rfl (fun i H' => H' E = some (.lst (((List.range i).map fun t => (cmu (g t) (acP (colAt P' rest) t, 1)).1).map V.int)) ∧ Same H4 H') ?_ ?_ ?_
  · exact ⟨upd_same, same_upd nE⟩
  · rintro i H' hi ⟨l1, s5⟩
    obtain ⟨p1, a1, a2⟩ := hra i hi
    have hrs5 := s5.seq hrs
    have a3 := same_read s5 a2
    have hxs5 := s5.seq hxs4
    walk_at "sts"
    refine ⟨pc, colAt P' rest, i, rfl, hc4.same s5, b2, fun H6 s6 => ?_⟩
    walk_at "sts"
    refine ⟨_, s6 _ _ l1, szlt (by simp; omega), ?_, (s5.trans s6).mut nE⟩
    rw [upd_same, map_snocI]
    rfl
  rintro H5 ⟨l5, s5⟩
  walk_at "sts"
  refine w_minL (SqL.of l5) (by simp) fun low hl1 hl2 => ?_
  have hlow := csm_min hl1 hl2
  subst hlow
  have hrs5 := s5.seq hrs
  have l5q := SqL.of (K := K) l5
  walk_at "sts"
  rw [shl_one, ← hn]
  refine ⟨by omega, by omega, fun G nG => ?_⟩
  have hGE : E ≠ G := ne_new l5 nG
  refine lc_r0 (n := n + 1) rfl (fun i H' => ∃ zs : List Int, H' G = some (.lst (zs.map V.int)) ∧ zs.length ≤ i ∧ zs.sum = ((cnum (fun t => cmu (g t) (acP (colAt P' rest) t, 1)) (csm (fun t => cmu (g t) (acP (colAt P' rest) t, 1)) n).1 i : Nat) : Int) ∧ Same H5 H') ?_ ?_ ?_
  · exact ⟨[], upd_same, Nat.le_refl _, rfl, same_upd nG⟩
  · rintro i H' hi ⟨zs, z1, z2, z3, s6⟩
    obtain ⟨p1, a1, a2⟩ := hra i hi
    have hrs6 := s6.seq hrs5
    have a3 := same_read (s5.trans s6) a2
    have l6q := s6.seq l5q
    have hst : cnum (fun t => cmu (g t) (acP (colAt P' rest) t, 1)) (csm (fun t => cmu (g t) (acP (colAt P' rest) t, 1)) n).1 (i + 1) = cnum (fun t => cmu (g t) (acP (colAt P' rest) t, 1)) (csm (fun t => cmu (g t) (acP (colAt P' rest) t, 1)) n).1 i + if (cmu (g i) (acP (colAt P' rest) i, 1)).1 = (csm (fun t => cmu (g t) (acP (colAt P' rest) t, 1)) n).1 then (g i).2 * 1 else 0 := rfl
    have e7 : (((List.range (n + 1)).map fun t => (cmu (g t) (acP (colAt P' rest) t, 1)).1).map V.int)[i]? = some (.int (cmu (g i) (acP (colAt P' rest) i, 1)).1) := by rw [List.map_map, map_at hi]; rfl
    walk_at "sts"
    refine ifd (fun hc => ?_) (fun hc => ?_)
    · rw [if_pos hc, Nat.mul_one] at hst
      walk_at "sts"
      refine ⟨_, z1, szlt (by simp; omega), zs ++ [((g i).2 : Int)], ?_, by simp; omega, ?_, s6.mut nG⟩
      · rw [upd_same, List.map_append]
        rfl
      · rw [List.sum_append, z3, hst]
        simp
    · rw [if_neg hc] at hst
      walk_at "sts"
      exact ⟨zs, z1, by omega, by rw [z3, hst]; rfl, s6⟩
  rintro H6 ⟨zs, z1, z2, z3, s6⟩
  walk_at "sts"
  refine ⟨G, zs, rfl, SqL.of z1, ?_⟩
  rw [z3, ← csm_num]
  have hT : CEq m (csm (fun t => cmu (g t) (acP (colAt P' rest) t, 1)) n) (total n P' k) := by
    unfold total
    rw [hk2]
    exact CEq.csm fun u hu => CEq.cmu (hgv u hu).1 (CEq.refl _ _)
  walk_at "sts"
  refine w_new fun pr2 nr2 => ?_
  have sN := same_upd (o := .tup [.int (csm (fun t => cmu (g t) (acP (colAt P' rest) t, 1)) n).1, .int (((csm (fun t => cmu (g t) (acP (colAt P' rest) t, 1)) n).2 : Int) % (m : Int))]) nr2
  have s06 := s04.trans (s5.trans s6)
  refine q pr2 _ (s06.trans sN) (nr2.of s06) ?_
  rw [← hT.1, ← hT.2]
  exact upd_same
end

section
variable {P : Program} {w : World} {K : PySem.W.Frag} {mg : Str → Option Value} {base : Heap} {C_Pull C_Push : Addr}
def rowI (f : Nat → Int) (n : Nat) : List Int := (List.range n).map f
theorem rowI_len (f : Nat → Int) (n : Nat) : (rowI f n).length = n := by unfold rowI; rw [List.length_map, List.length_range]
theorem rowI_lenV (f : Nat → Int) (n : Nat) : ((rowI f n).map V.int).length = n := by rw [List.length_map, rowI_len]
theorem rowI_at (f : Nat → Int) {n i : Nat} (h : i < n) : ((rowI f n).map V.int)[i]? = some (.int (f i)) := by
  unfold rowI
  rw [List.getElem?_map, List.getElem?_map, List.getElem?_range h]
  rfl
theorem rowI_snoc (f : Nat → Int) (n : Nat) : (rowI f n).map V.int ++ [V.int (f n)] = (rowI f (n + 1)).map V.int := by
  unfold rowI
  rw [List.range_succ, List.map_append, List.map_append]
  rfl
theorem rowI_congr {f g : Nat → Int} {n : Nat} (h : ∀ i, i < n → f i = g i) : rowI f n = rowI g n := List.map_congr_left fun i hi => h i (List.mem_range.mp hi)
def dMat (c : Nat → Nat → Int) (r n : Nat) : PyData := .list ((List.range r).map fun i => dInts (rowI (c i) n))
theorem matAt {K : PySem.W.Frag} {H : Hp} {a : Addr} {c : Nat → Nat → Int} {r n : Nat} (h : Dp K H (.ref a) (dMat c r n)) : ∃ xs, SqL K H a xs ∧ xs.length = r ∧ ∀ i, i < r → ∃ p, xs[i]? = some (.ref p) ∧ SqL K H p ((rowI (c i) n).map V.int) := by
  obtain ⟨xs, h1, h2⟩ := dpLstA h
  refine ⟨xs, h1, by have := dpaLen h2; simpa using this, fun i hi => ?_⟩
  obtain ⟨v, e, d⟩ := dpaGet (i := i) h2 (map_at hi)
  obtain ⟨p, rfl, d2⟩ := dpIntsA d
  exact ⟨p, e, d2⟩
theorem mat_congr {A B : Nat → Nat → Int} {r n : Nat} (h : ∀ i j, i < r → j < n → A i j = B i j) : dMat A r n = dMat B r n := by
  unfold dMat
  rw [List.map_congr_left fun i hi => by rw [rowI_congr fun j hj => h i j (List.mem_range.mp hi) hj]]
theorem mnI_of {F : Nat → Int} {n : Nat} {m : Int} (h1 : m ∈ rowI F (n + 1)) (h2 : ∀ y, y ∈ rowI F (n + 1) → m ≤ y) : m = mnI F n := by
  obtain ⟨i, hi, rfl⟩ := List.mem_map.mp h1
  have hi := List.mem_range.mp hi
  obtain ⟨j, hj, e⟩ := mnI_ex F n
  have a := h2 _ (List.mem_map.mpr ⟨j, List.mem_range.mpr (by omega), rfl⟩)
  have b := mnI_le F n i (by omega)
  omega
def spLows (K : PySem.W.Frag) : Sp := fun vs H Q _ => ∃ (p : Addr) (f : Nat → CN) (n : Nat), vs = [.ref p] ∧ Dp K H (.ref p) (dCRow f n) ∧ n ≤ 1000 ∧ ∀ r H', Same H H' → New H r → H' r = some (.lst ((rowI (fun i => (f i).1) n).map V.int)) → Q (.ref r) H'
theorem ok_lows_of {f : Addr} {fd : FuncData} (F : Fun K "lows_of" "lows_of" s_lows_of f fd) (gf : mg "lows_of" = some (.ref f)) (B : Bl mg) {C_Pull C_Push : Addr} (T : Txt K mg C_Pull C_Push) : Has P w K mg base CX0 1 "lows_of" ["row"] (spLows K) := by
  refine Has.mk' F gf (F.binds (ps := ["row"]) fun _ _ _ _ _ _ us hl => match us, hl with | [_], _ => rfl) sc_lows_of (by walk_at "len") (fun cdv A outer s H vs Q E hr h => ?_)
  obtain ⟨p, f, n, rfl, hp, hn, q⟩ := h
  obtain ⟨xs, hxs, hxl, hxa⟩ := crowAt hp
  refine ⟨_, (pss_one (ps_ret (pe_lc (own := [("entry", 1)]) rfl sc_lows_of.nd (pi_listK K (pv 0)) (blkOk_by (own := [("entry", 1)]) (N := ["row", "entry"]) (sc := defScope s_lows_of) (by decide +kernel)) (fun _ _ _ _ _ => pg_name (i := 1) sc_lows_of.nd rfl (Or.inl rfl)) (fun _ _ _ _ _ => pts_nil) (fun _ _ _ _ _ => (pe_ix (ix_tupK K) (pv 1) pe_int (fun _ _ => rfl)))))), ?_⟩
  walk_at "sts"
  intro D nD
  refine lc_list (K := K) (xs := xs) (fun i H' => H' D = some (.lst ((rowI (fun i => (f i).1) i).map V.int)) ∧ Same H H') ?_ ?_ ?_ ?_
  · exact ⟨upd_same, same_upd nD⟩
  · rintro i H' _ ⟨_, s1⟩
    exact s1.seq hxs
  · rintro i v H' hv ⟨l1, s1⟩
    have hi : i < n := by rw [← hxl]; exact (List.getElem?_eq_some_iff.mp hv).1
    obtain ⟨pc, e1, e2⟩ := hxa i hi
    rw [hv] at e1
    cases e1
    have e3 := same_read s1 e2
    walk_at "sts"
    refine ⟨_, l1, szlt (by rw [rowI_lenV]; omega), ?_, s1.mut nD⟩
    rw [upd_same, rowI_snoc (fun i => (f i).1)]
  · rintro H' ⟨l1, s1⟩
    rw [hxl] at l1
    exact q D H' s1 nD l1
def spLowInto (K : PySem.W.Frag) : Sp := fun vs H Q _ => ∃ (ph pc : Addr) (f : Nat → Int) (c : Nat → Nat → Int) (n g : Nat), vs = [.ref ph, .ref pc, .int g] ∧ SqL K H ph ((rowI f (n + 1)).map V.int) ∧ Dp K H (.ref pc) (dMat c (n + 1) (n + 1)) ∧ g ≤ n ∧ n ≤ 100 ∧ ∀ H', Same H H' → Q (.int (mnI (fun u => f u + c u g) n)) H'
theorem ok_lowest_into {f : Addr} {fd : FuncData} (F : Fun K "lowest_into" "lowest_into" s_lowest_into f fd) (gf : mg "lowest_into" = some (.ref f)) (B : Bl mg) {C_Pull C_Push : Addr} (T : Txt K mg C_Pull C_Push) : Has P w K mg base CX0 1 "lowest_into" ["heights", "costs", "goal"] (spLowInto K) := by
  refine Has.mk' F gf (F.binds (ps := ["heights", "costs", "goal"]) fun _ _ _ _ _ _ us hl => match us, hl with | [_, _, _], _ => rfl) sc_lowest_into (by walk_at "len") (fun cdv A outer s H vs Q E hr h => ?_)
  obtain ⟨ph, pc, f, c, n, g, rfl, hf, hc, hg, hn, q⟩ := h
  obtain ⟨xs, hxs, hxl, hxa⟩ := matAt hc
  refine ⟨_, (pss_one (ps_ret (pe_callB (cr_minK K rfl) (by rfl) B.min (by decide +kernel) (pa_cons (pe_lc (own := [("start", 3)]) rfl sc_lowest_into.nd (pi_range1 (by rfl) B.range (pa_cons (pe_callB (call_lenK K) (by rfl) B.len (by decide +kernel) (pa_cons (pv 1) pa_nil)) pa_nil)) (blkOk_by (own := [("start", 3)]) (N := ["heights", "costs", "goal", "start"]) (sc := defScope s_lowest_into) (by decide +kernel)) (fun _ _ _ _ _ => pg_name (i := 3) sc_lowest_into.nd rfl (Or.inl rfl)) (fun _ _ _ _ _ => pts_nil) (fun _ _ _ _ _ => (pe_op op_add (pe_ix (ix_listK K) (pv 0) (pv 3) (fun _ _ => rfl)) (pe_ix (ix_listK K) (pe_ix (ix_listK K) (pv 1) (pv 3) (fun _ _ => rfl)) (pv 2) (fun _ _ => rfl))))) pa_nil)))), ?_⟩
  walk_at "sts"
  intro D nD
  rw [hxl]
  refine lc_r0 (n := n + 1) rfl (fun i H' => H' D = some (.lst ((rowI (fun u => f u + c u g) i).map V.int)) ∧ Same H H') ?_ ?_ ?_
  · exact ⟨upd_same, same_upd nD⟩
  · rintro i H' hi ⟨l1, s1⟩
    obtain ⟨pr, e1, e2⟩ := hxa i hi
    have e3 := s1.seq e2
    have hf1 := s1.seq hf
    have hx1 := s1.seq hxs
    have a1 := rowI_at f hi
    have a2 := rowI_at (c i) (show g < n + 1 by omega)
    walk_at "sts"
    refine ⟨_, l1, szlt (by rw [rowI_lenV]; omega), ?_, s1.mut nD⟩
    rw [upd_same, rowI_snoc (fun u => f u + c u g)]
  · rintro H' ⟨l1, s1⟩
    refine w_minL (SqL.of l1) (by rw [rowI_len]; omega) fun m m1 m2 => ?_
    rw [mnI_of m1 m2]
    exact q H' s1
theorem matAt_last {K : PySem.W.Frag} {H : Hp} {c : Nat → Nat → Int} {i n : Nat} {zs : List V} (h : DpAll K H zs ((List.range (i + 1)).map fun k => dInts (rowI (c k) n))) (hl : zs.length = i + 1) : ∃ p, atI zs (-1) = some (.ref p) ∧ SqL K H p ((rowI (c i) n).map V.int) := by
  obtain ⟨v, e, d⟩ := dpaGet (i := i) h (map_at (by omega))
  obtain ⟨p, rfl, d2⟩ := dpIntsA d
  refine ⟨p, ?_, d2⟩
  have hx : ixN zs.length (-1) = some i := by
    rw [hl]
    unfold ixN
    rw [if_neg (by omega), if_pos (by omega)]
    congr 1
    omega
  unfold atI
  rw [hx]
  exact e
def spWalksK (K : PySem.W.Frag) : Sp := fun vs H Q _ => ∃ (pc : Addr) (c : Nat → Nat → Int) (n : Nat), vs = [.ref pc] ∧ Dp K H (.ref pc) (dMat c (n + 1) (n + 1)) ∧ n ≤ 100 ∧ ∀ r H', Same H H' → New H r → Dp K H' (.ref r) (dMat (dW c n) (n + 2) (n + 1)) → Q (.ref r) H'
theorem ok_walks {f : Addr} {fd : FuncData} (F : Fun K "walks" "walks" s_walks f fd) (gf : mg "walks" = some (.ref f)) (B : Bl mg) {C_Pull C_Push : Addr} (T : Txt K mg C_Pull C_Push) (h_lowest_into : Has P w K mg base CX0 1 "lowest_into" ["heights", "costs", "goal"] (spLowInto K)) : Has P w K mg base CX0 2 "walks" ["costs"] (spWalksK K) := by
  refine Has.mk' F gf (F.binds (ps := ["costs"]) fun _ _ _ _ _ _ us hl => match us, hl with | [_], _ => rfl) sc_walks (by walk_at "len") (fun cdv A outer s H vs Q E hr h => ?_)
  obtain ⟨pc, c, n, rfl, hc, hn, q⟩ := h
  obtain ⟨xs, hxs, hxl, hxa⟩ := matAt hc
  refine ⟨_, (pss_cons (ps_set (i := 1) sc_walks.nd rfl (.inl rfl) (pe_callB (call_lenK K) (by rfl) B.len (by decide +kernel) (pa_cons (pv 0) pa_nil)))
 (pss_cons (ps_set (i := 2) sc_walks.nd rfl (.inr rfl) (pe_lst (pa_cons (pe_lc (own := [("place", 4)]) rfl sc_walks.nd (pi_range1 (by rfl) B.range (pa_cons (pv 1) pa_nil)) (blkOk_by (own := [("place", 4)]) (N := ["costs", "size", "found", "step", "place", "goal"]) (sc := defScope s_walks) (by decide +kernel)) (fun _ _ _ _ _ => pg_name (i := 4) sc_walks.nd rfl (Or.inl rfl)) (fun _ _ _ _ _ => pts_nil) (fun _ _ _ _ _ => pe_int)) pa_nil)))
 (pss_cons (ps_for PassesOwn.never rfl (pi_range1 (by rfl) B.range (pa_cons (pv 1) pa_nil)) (pg_name (i := 3) sc_walks.nd rfl (.inl rfl)) (pss_one (ps_expr (pe_bmK K (pe_bm PySem.F.plainAttrs_list PySem.F.slot_list_append PySem.F.type_list_append mt_append (pv 2) (pa_cons (pe_lc (own := [("goal", 5)]) rfl sc_walks.nd (pi_range1 (by rfl) B.range (pa_cons (pv 1) pa_nil)) (blkOk_by (own := [("goal", 5)]) (N := ["costs", "size", "found", "step", "place", "goal"]) (sc := defScope s_walks) (by decide +kernel)) (fun _ _ _ _ _ => pg_name (i := 5) sc_walks.nd rfl (Or.inl rfl)) (fun _ _ _ _ _ => pts_nil) (fun _ _ _ _ _ => (pe_fn h_lowest_into (hr.mono (by decide)) (by rfl) (pa_cons (pe_ix (ix_listK K) (pv 2) (pe_un un_neg pe_int) (fun _ _ => rfl)) (pa_cons (pv 0) (pa_cons (pv 5) pa_nil)))))) pa_nil))))))
 (pss_one (ps_ret (pv 2)))))), ?_⟩
  walk_at "sts"
  rw [hxl]
  intro D0 nD0
  refine lc_r0 (n := n + 1) rfl (fun i H' => H' D0 = some (.lst ((rowI (fun _ => 0) i).map V.int)) ∧ Same H H') ?_ ?_ ?_
  · exact ⟨upd_same, same_upd nD0⟩
  · rintro i H' hi ⟨l1, s1⟩
    walk_at "sts"
    refine ⟨_, l1, szlt (by rw [rowI_lenV]; omega), ?_, s1.mut nD0⟩
    rw [upd_same]
    exact congrArg (fun z => some (HO.lst z)) (rowI_snoc (fun _ => 0) i)
  rintro H1 ⟨l1, s1⟩
  walk_at "sts"
  refine w_new fun F nF => ?_
  have t1 := same_upd (o := .lst [.ref D0]) nF
  have hDF : D0 ≠ F := ne_new l1 nF
  have G1 : GrD K (upd H1 F (.lst [.ref D0])) F ((List.range 1).map fun k => dInts (rowI (dW c n k) (n + 1))) := ⟨[.ref D0], upd_same, .cons (dpIntsL (SqL.of (wo_get (t1 _ _ l1) hDF))) .nil⟩
  have s2 := s1.trans t1
  have nF' : New H F := nF.of s1
  generalize upd H1 F (.lst [.ref D0]) = H2 at t1 G1 s2 ⊢
  walk_at "sts"
  refine for_r0 (n := n + 1) rfl (fun i σ' H' => ∃ (y3 : Option V), σ' = [some (.ref pc), some (.int ((n + 1 : Nat) : Int)), some (.ref F), y3, none, none] ∧ Same H H' ∧ GrD K H' F ((List.range (i + 1)).map fun k => dInts (rowI (dW c n k) (n + 1)))) ?_ ?_ ?_
  · exact ⟨_, rfl, s2, G1⟩
  · rintro i σ' H' hi ⟨y3, rfl, s3, zs, x1, x2⟩
    have hzl : zs.length = i + 1 := by have := dpaLen x2; simpa using this
    have x1s := SqL.of (K := K) x1
    walk_at "sts"
    intro D nD
    have hFD : F ≠ D := ne_new x1 nD
    refine lc_r0 (n := n + 1) rfl (fun j H4 => H4 D = some (.lst ((rowI (dW c n (i + 1)) j).map V.int)) ∧ Same H' H4) ?_ ?_ ?_
    · exact ⟨upd_same, same_upd nD⟩
    · rintro j H4 hj ⟨l4, s4⟩
      obtain ⟨pr, k1, k2⟩ := matAt_last x2 hzl
      have k3 := s4.seq (wo_same.seq k2)
      have x4 := s4.seq x1s
      walk_at "sts"
      refine ⟨pr, pc, dW c n i, c, n, j, rfl, k3, hc.same (s3.trans s4), by omega, hn, fun H5 s5 => ?_⟩
      refine ⟨_, s5 _ _ l4, szlt (by rw [rowI_lenV]; omega), ?_, (s4.trans s5).mut nD⟩
      rw [upd_same]
      exact congrArg (fun z => some (HO.lst z)) (rowI_snoc (dW c n (i + 1)) j)
    · rintro H4 ⟨l4, s4⟩
      have x4 := s4 _ _ x1
      have hsz : zs.length < sizeLine := szlt (by omega)
      walk_at "sts"
      refine ⟨_, rfl, (s3.trans s4).mut nF', ?_⟩
      rw [List.range_succ, List.map_append]
      exact GrD.push x2 s4 (dpIntsL (SqL.of (wo_get l4 (Ne.symm hFD))))
  · rintro σ' H' ⟨y3, rfl, s3, hG⟩
    walk_at "sts"
    exact q F H' s3 nF' hG.dp
end

/-! ### fractions over the steps behind -/
theorem frac_trans {x a r : Int} {b c d : Nat} (hb : 0 < b) (h1 : x * b ≤ a * d) (h2 : a * c ≤ r * b) : x * c ≤ r * d := by
  have e1 : (x * b) * c ≤ (a * d) * c := Int.mul_le_mul_of_nonneg_right h1 (Int.natCast_nonneg c)
  have e2 : (a * c) * d ≤ (r * b) * d := Int.mul_le_mul_of_nonneg_right h2 (Int.natCast_nonneg d)
  have e3 : (b : Int) * (x * c) ≤ (b : Int) * (r * d) := by
    have f1 : (b : Int) * (x * c) = (x * b) * c := by ac_rfl
    have f2 : (b : Int) * (r * d) = (r * b) * d := by ac_rfl
    have f3 : (a * d) * c = (a * c) * (d : Int) := by ac_rfl
    rw [f1, f2]
    rw [f3] at e1
    exact Int.le_trans e1 e2
  exact Int.le_of_mul_le_mul_left e3 (by omega)
theorem frac_trans2 {a a5 a' : Int} {b b5 b' : Nat} (hb : 0 < b) (h1 : a5 * b ≤ a * b5) (h2 : a * b' ≤ a' * b) : a5 * b' ≤ a' * b5 := by
  have e1 : (a5 * b) * b' ≤ (a * b5) * b' := Int.mul_le_mul_of_nonneg_right h1 (Int.natCast_nonneg b')
  have e2 : (a * b') * b5 ≤ (a' * b) * b5 := Int.mul_le_mul_of_nonneg_right h2 (Int.natCast_nonneg b5)
  have e3 : (b : Int) * (a5 * b') ≤ (b : Int) * (a' * b5) := by
    have f1 : (b : Int) * (a5 * b') = (a5 * b) * b' := by ac_rfl
    have f2 : (b : Int) * (a' * b5) = (a' * b) * b5 := by ac_rfl
    have f3 : (a * b5) * b' = (a * b') * (b5 : Int) := by ac_rfl
    rw [f1, f2]
    rw [f3] at e1
    exact Int.le_trans e1 e2
  exact Int.le_of_mul_le_mul_left e3 (by omega)
/-- the greatest average of the steps behind some of the first m steps -/
def StpM (d : Nat → Int) (L m : Nat) (a : Int) (b : Nat) : Prop := ∃ k, k < m ∧ a = d L - d k ∧ b = L - k ∧ ∀ j, j < m → (d L - d j) * b ≤ a * ((L - j : Nat) : Int)
theorem StpM.one (d : Nat → Int) (L : Nat) : StpM d L 1 (d L - d 0) L := ⟨0, by omega, rfl, rfl, fun j hj => by
  have : j = 0 := by omega
  subst this
  exact Int.le_refl _⟩
theorem StpM.up {d : Nat → Int} {L m : Nat} {a : Int} {b : Nat} (h : StpM d L m a b) (hm : m < L) :
    ((d L - d m) * b > a * ((L - m : Nat) : Int) → StpM d L (m + 1) (d L - d m) (L - m)) ∧ (¬ (d L - d m) * b > a * ((L - m : Nat) : Int) → StpM d L (m + 1) a b) := by
  obtain ⟨k, hk, ha, hb, hj⟩ := h
  refine ⟨fun g => ⟨m, by omega, rfl, rfl, fun j hj' => ?_⟩, fun g => ⟨k, by omega, ha, hb, fun j hj' => ?_⟩⟩
  · by_cases e : j = m
    · subst e; exact Int.le_refl _
    · exact frac_trans (b := b) (by omega) (hj j (by omega)) (by omega)
  · by_cases e : j = m
    · subst e; omega
    · exact hj j (by omega)
theorem dW_bd {c : Nat → Nat → Int} {n : Nat} {B : Int} (h : ∀ u v, u ≤ n → v ≤ n → 0 ≤ c u v ∧ c u v ≤ B) : ∀ k v, v ≤ n → 0 ≤ dW c n k v ∧ dW c n k v ≤ k * B
  | 0, v, _ => by show (0 : Int) ≤ 0 ∧ (0 : Int) ≤ ((0 : Nat) : Int) * B; simp
  | k + 1, v, hv => by
    obtain ⟨u, hu, e⟩ := dW_ex (c := c) (n := n) k v
    have i1 := dW_bd h k u hu
    have i2 := h u v hu hv
    rw [e]
    have : ((k + 1 : Nat) : Int) * B = k * B + B := by rw [Int.natCast_add, Int.add_mul]; simp
    omega
section
variable {P : Program} {w : World} {K : PySem.W.Frag} {mg : Str → Option Value} {base : Heap} {C_Pull C_Push : Addr}
def spSteep (K : PySem.W.Frag) : Sp := fun vs H Q _ => ∃ (pf : Addr) (D : Nat → Nat → Int) (n v : Nat), vs = [.ref pf, .int v] ∧ Dp K H (.ref pf) (dMat D (n + 2) (n + 1)) ∧ v ≤ n ∧ n ≤ 100 ∧ (∀ k, k ≤ n + 1 → 0 ≤ D k v ∧ D k v ≤ 2 ^ 150) ∧
  ∀ p H' a b, Same H H' → New H p → H' p = some (.tup [.int a, .int (b : Nat)]) → StpM (fun k => D k v) (n + 1) (n + 1) a b → Q (.ref p) H'
theorem ok_steepest {f : Addr} {fd : FuncData} (F : Fun K "steepest" "steepest" s_steepest f fd) (gf : mg "steepest" = some (.ref f)) (B : Bl mg) {C_Pull C_Push : Addr} (T : Txt K mg C_Pull C_Push) : Has P w K mg base CX0 1 "steepest" ["found", "place"] (spSteep K) := by
  refine Has.mk' F gf (F.binds (ps := ["found", "place"]) fun _ _ _ _ _ _ us hl => match us, hl with | [_, _], _ => rfl) sc_steepest (by walk_at "len") (fun cdv A outer s H vs Q E hr h => ?_)
  obtain ⟨pf, D, n, v, rfl, hD, hv, hn, hb, q⟩ := h
  obtain ⟨xs, hxs, hxl, hxa⟩ := matAt hD
  have p150 : (2 : Int) ^ 150 = 1427247692705959881058285969449495136382746624 := by decide
  rw [p150] at hb
  obtain ⟨pL, eL, sL⟩ := hxa (n + 1) (by omega)
  obtain ⟨p0, e0, s0⟩ := hxa 0 (by omega)
  have vL := rowI_at (D (n + 1)) (show v < n + 1 by omega)
  have v0 := rowI_at (D 0) (show v < n + 1 by omega)
  refine ⟨_, (pss_cons (ps_set (i := 2) sc_steepest.nd rfl (.inl rfl) (pe_op op_sub (pe_callB (call_lenK K) (by rfl) B.len (by decide +kernel) (pa_cons (pv 0) pa_nil)) pe_int))
 (pss_cons (ps_set (i := 3) sc_steepest.nd rfl (.inl rfl) (pe_tup (pa_cons (pe_op op_sub (pe_ix (ix_listK K) (pe_ix (ix_listK K) (pv 0) (pv 2) (fun _ _ => rfl)) (pv 1) (fun _ _ => rfl)) (pe_ix (ix_seqK K) (pe_ix (ix_listK K) (pv 0) pe_int (fun _ _ => rfl)) (pv 1) (fun _ _ => rfl))) (pa_cons (pv 2) pa_nil))))
 (pss_cons (ps_for PassesOwn.never rfl (pi_range2 (by rfl) B.range (pa_cons pe_int (pa_cons (pv 2) pa_nil))) (pg_name (i := 4) sc_steepest.nd rfl (.inl rfl)) (pss_cons (ps_set (i := 5) sc_steepest.nd rfl (.inl rfl) (pe_op op_sub (pe_ix (ix_listK K) (pe_ix (ix_listK K) (pv 0) (pv 2) (fun _ _ => rfl)) (pv 1) (fun _ _ => rfl)) (pe_ix (ix_listK K) (pe_ix (ix_listK K) (pv 0) (pv 4) (fun _ _ => rfl)) (pv 1) (fun _ _ => rfl))))
 (pss_one (ps_if (pt_cmpR op_gt (pe_op op_mulX (pv 5) (pe_ix (ix_tupK K) (pv 3) pe_int (fun _ _ => rfl))) (pe_op op_mulX (pe_ix (ix_tupK K) (pv 3) pe_int (fun _ _ => rfl)) (pe_op op_sub (pv 2) (pv 4))) (nomark _)) (pss_one (ps_set (i := 3) sc_steepest.nd rfl (.inl rfl) (pe_tup (pa_cons (pv 5) (pa_cons (pe_op op_sub (pv 2) (pv 4)) pa_nil))))) pss_nil))))
 (pss_one (ps_ret (pv 3)))))), ?_⟩
  walk_at "sts"
  rw [hxl, show ((n + 2 : Nat) : Int) - 1 = ((n + 1 : Nat) : Int) by omega]
  walk_at "sts"
  refine w_new fun pb npb => ?_
  have t1 := same_upd (o := .tup [.int (D (n + 1) v - D 0 v), .int ((n + 1 : Nat) : Int)]) npb
  have e1 : upd H pb (.tup [.int (D (n + 1) v - D 0 v), .int ((n + 1 : Nat) : Int)]) pb = some (.tup [.int (D (n + 1) v - D 0 v), .int ((n + 1 : Nat) : Int)]) := upd_same
  generalize upd H pb (.tup [.int (D (n + 1) v - D 0 v), .int ((n + 1 : Nat) : Int)]) = H1 at t1 e1 ⊢
  walk_at "sts"
  rw [show (((n + 1 : Nat) : Int) - 1).toNat = n by omega]
  refine for_range (lo := 1) (n := n) (fun i σ' H' => ∃ (a : Int) (b : Nat) (p : Addr) (y4 y5 : Option V), σ' = [some (.ref pf), some (.int (v : Nat)), some (.int ((n + 1 : Nat) : Int)), some (.ref p), y4, y5] ∧ Same H H' ∧ New H p ∧ H' p = some (.tup [.int a, .int (b : Nat)]) ∧ StpM (fun k => D k v) (n + 1) (i + 1) a b) ?_ ?_ ?_
  · exact ⟨_, _, pb, _, _, rfl, t1, npb, e1, StpM.one _ _⟩
  · rintro i σ' H' hi ⟨a, b, p, y4, y5, rfl, s1, np, e2, hS⟩
    obtain ⟨ps, eS, sS⟩ := hxa (i + 1) (by omega)
    have vS := rowI_at (D (i + 1)) (show v < n + 1 by omega)
    have hx1 := s1.seq hxs
    have sL1 := s1.seq sL
    have sS1 := s1.seq sS
    have e2s := SqT.of (K := K) e2
    have hSS := hS
    obtain ⟨k, hk, ha, hbb, _⟩ := hSS
    have ha : a = D (n + 1) v - D k v := ha
    have b1 := hb (n + 1) (by omega)
    have b2 := hb k (by omega)
    have b3 := hb (i + 1) (by omega)
    obtain ⟨u1, u2⟩ := hS.up (show i + 1 < n + 1 by omega)
    rw [show (1 : Int) + (i : Int) = ((i + 1 : Nat) : Int) by omega]
    walk_at "sts"
    rw [show ((n + 1 : Nat) : Int) - ((i + 1 : Nat) : Int) = ((n + 1 - (i + 1) : Nat) : Int) by omega]
    walk_at "sts"
    refine ifd (fun g => ?_) (fun g => ?_)
    · walk_at "sts"
      rw [show ((n + 1 : Nat) : Int) - ((i + 1 : Nat) : Int) = ((n + 1 - (i + 1) : Nat) : Int) by omega]
      refine w_new fun pr npr => ?_
      exact ⟨_, _, pr, _, _, rfl, s1.trans (same_upd npr), npr.of s1, upd_same, u1 g⟩
    · walk_at "sts"
      exact ⟨a, b, p, _, _, rfl, s1, np, e2, u2 g⟩
  · rintro σ' H' ⟨a, b, p, y4, y5, rfl, s1, np, e2, hS⟩
    walk_at "sts"
    exact q p H' a b s1 np e2 hS
def spLowAvg (K : PySem.W.Frag) : Sp := fun vs H Q _ => ∃ (pc : Addr) (c : Nat → Nat → Int) (n : Nat), vs = [.ref pc] ∧ Dp K H (.ref pc) (dMat c (n + 1) (n + 1)) ∧ n ≤ 100 ∧ (∀ u v, u ≤ n → v ≤ n → 0 ≤ c u v ∧ c u v ≤ 2 ^ 140) ∧
  ∀ p H' (a : Int) (b : Nat), Same H H' → New H p → H' p = some (.tup [.int a, .int (b : Nat)]) → AvgOk c n a b → Nat.gcd a.natAbs b = 1 → -(2 ^ 150) ≤ a → a ≤ 2 ^ 150 → b ≤ 101 → Q (.ref p) H'
theorem ok_lowest_average {f : Addr} {fd : FuncData} (F : Fun K "lowest_average" "lowest_average" s_lowest_average f fd) (gf : mg "lowest_average" = some (.ref f)) (B : Bl mg) {C_Pull C_Push : Addr} (T : Txt K mg C_Pull C_Push) (h_walks : Has P w K mg base CX0 2 "walks" ["costs"] (spWalksK K)) (h_steepest : Has P w K mg base CX0 1 "steepest" ["found", "place"] (spSteep K)) : Has P w K mg base CX0 3 "lowest_average" ["costs"] (spLowAvg K) := by
  refine Has.mk' F gf (F.binds (ps := ["costs"]) fun _ _ _ _ _ _ us hl => match us, hl with | [_], _ => rfl) sc_lowest_average (by walk_at "len") (fun cdv A outer s H vs Q E hr h => ?_)
  obtain ⟨pc, c, n, rfl, hc, hn, hcb, q⟩ := h
  obtain ⟨xs0, hxs0, hxl0, _⟩ := matAt hc
  have p150 : (2 : Int) ^ 150 = 1427247692705959881058285969449495136382746624 := by decide
  have p140 : (2 : Int) ^ 140 = 1393796574908163946345982392040522594123776 := by decide
  have hDb : ∀ k v, k ≤ n + 1 → v ≤ n → 0 ≤ dW c n k v ∧ dW c n k v ≤ 2 ^ 150 := fun k v hk hv => by
    obtain ⟨h1, h2⟩ := dW_bd hcb k v hv
    refine ⟨h1, Int.le_trans h2 ?_⟩
    rw [p140, p150]
    omega
  refine ⟨_, (pss_cons (ps_set (i := 1) sc_lowest_average.nd rfl (.inl rfl) (pe_fn h_walks (hr.mono (by decide)) (by rfl) (pa_cons (pv 0) pa_nil)))
 (pss_cons (ps_set (i := 2) sc_lowest_average.nd rfl (.inl rfl) (pe_fn h_steepest (hr.mono (by decide)) (by rfl) (pa_cons (pv 1) (pa_cons pe_int pa_nil))))
 (pss_cons (ps_for PassesOwn.never rfl (pi_range2 (by rfl) B.range (pa_cons pe_int (pa_cons (pe_callB (call_lenK K) (by rfl) B.len (by decide +kernel) (pa_cons (pv 0) pa_nil)) pa_nil))) (pg_name (i := 3) sc_lowest_average.nd rfl (.inl rfl)) (pss_cons (ps_set (i := 4) sc_lowest_average.nd rfl (.inl rfl) (pe_fn h_steepest (hr.mono (by decide)) (by rfl) (pa_cons (pv 1) (pa_cons (pv 3) pa_nil))))
 (pss_one (ps_if (pt_cmpR op_lt (pe_op op_mulX (pe_ix (ix_tupK K) (pv 4) pe_int (fun _ _ => rfl)) (pe_ix (ix_tupK K) (pv 2) pe_int (fun _ _ => rfl))) (pe_op op_mulX (pe_ix (ix_tupK K) (pv 2) pe_int (fun _ _ => rfl)) (pe_ix (ix_tupK K) (pv 4) pe_int (fun _ _ => rfl))) (nomark _)) (pss_one (ps_set (i := 2) sc_lowest_average.nd rfl (.inl rfl) (pv 4))) pss_nil))))
 (pss_cons (ps_par (i := 5) (j := 6) (by rfl) sc_lowest_average.nd rfl rfl (by decide) rfl rfl (pa_cons (pe_callB call_abs (by rfl) B.abs (by decide +kernel) (pa_cons (pe_ix (ix_tupK K) (pv 2) pe_int (fun _ _ => rfl)) pa_nil)) (pa_cons (pe_ix (ix_tupK K) (pv 2) pe_int (fun _ _ => rfl)) pa_nil)) (by rfl))
 (pss_cons (ps_while PassesOwn.never (pt_cmpR op_gt (pv 6) pe_int (nomark _)) (pss_one (ps_par (i := 5) (j := 6) (by rfl) sc_lowest_average.nd rfl rfl (by decide) rfl rfl (pa_cons (pv 6) (pa_cons (pe_op op_mod (pv 5) (pv 6)) pa_nil)) (by rfl))))
 (pss_one (ps_ret (pe_tup (pa_cons (pe_op op_fdivW (pe_ix (ix_tupK K) (pv 2) pe_int (fun _ _ => rfl)) (pv 5)) (pa_cons (pe_op op_fdivW (pe_ix (ix_tupK K) (pv 2) pe_int (fun _ _ => rfl)) (pv 5)) pa_nil)))))))))), ?_⟩
  walk_at "sts"
  refine ⟨pc, c, n, rfl, hc, hn, fun pf H1 s1 n1 hD => ?_⟩
  walk_at "sts"
  have hz : (0 : Int) = ((0 : Nat) : Int) := rfl
  refine ⟨pf, dW c n, n, 0, rfl, hD, by omega, hn, fun k hk => hDb k 0 hk (by omega), fun pb H2 a b s2 n2 e2 hS => ?_⟩
  have s12 := s1.trans s2
  have hxs2 := s12.seq hxs0
  have hxl2 : xs0.length = n + 1 := hxl0
  walk_at "sts"
  rw [hxl0, show (((n + 1 : Nat) : Int) - 1).toNat = n by omega]
  refine for_range (lo := 1) (n := n) (fun i σ' H' => ∃ (a : Int) (b v : Nat) (p : Addr) (y3 y4 : Option V), σ' = [some (.ref pc), some (.ref pf), some (.ref p), y3, y4, none, none] ∧ Same H H' ∧ Same H1 H' ∧ New H p ∧ H' p = some (.tup [.int a, .int (b : Nat)]) ∧ v ≤ n ∧ StpM (fun k => dW c n k v) (n + 1) (n + 1) a b ∧ ∀ w, w < i + 1 → ∃ a' b', StpM (fun k => dW c n k w) (n + 1) (n + 1) a' b' ∧ a * (b' : Nat) ≤ a' * (b : Nat)) ?_ ?_ ?_
  · refine ⟨a, b, 0, pb, _, _, rfl, s12, s2, n2.of s1, e2, by omega, hS, fun w hw => ⟨a, b, ?_, Int.le_refl _⟩⟩
    have : w = 0 := by omega
    subst this
    exact hS
  · rintro i σ' H' hi ⟨a, b, v, p, y3, y4, rfl, s3, s4, np, e3, hv, hSv, hAll⟩
    rw [show (1 : Int) + (i : Int) = ((i + 1 : Nat) : Int) by omega]
    walk_at "sts"
    refine ⟨pf, dW c n, n, i + 1, rfl, hD.same s4, by omega, hn, fun k hk => hDb k (i + 1) hk (by omega), fun ph H5 a5 b5 s5 n5 e5 hS5 => ?_⟩
    have e3s := SqT.of (K := K) (s5 _ _ e3)
    have e5s := SqT.of (K := K) e5
    obtain ⟨k, hk, ha, hbb, _⟩ := id hSv
    obtain ⟨k5, hk5, ha5, hb5, _⟩ := id hS5
    have ha : a = dW c n (n + 1) v - dW c n k v := ha
    have ha5 : a5 = dW c n (n + 1) (i + 1) - dW c n k5 (i + 1) := ha5
    have b1 := hDb (n + 1) v (by omega) hv
    have b2 := hDb k v (by omega) hv
    have b3 := hDb (n + 1) (i + 1) (by omega) (by omega)
    have b4 := hDb k5 (i + 1) (by omega) (by omega)
    rw [p150] at b1 b2 b3 b4
    walk_at "sts"
    refine ifd (fun g => ?_) (fun g => ?_)
    · walk_at "sts"
      refine ⟨a5, b5, i + 1, ph, _, _, rfl, s3.trans s5, s4.trans s5, n5.of s3, e5, by omega, hS5, fun w hw => ?_⟩
      by_cases e : w = i + 1
      · subst e
        exact ⟨a5, b5, hS5, Int.le_refl _⟩
      · obtain ⟨a', b', g1, g2⟩ := hAll w (by omega)
        refine ⟨a', b', g1, ?_⟩
        have hb0 : 0 < b := by omega
        exact frac_trans2 hb0 (by omega) g2
    · walk_at "sts"
      refine ⟨a, b, v, p, _, _, rfl, s3.trans s5, s4.trans s5, np, s5 _ _ e3, hv, hSv, fun w hw => ?_⟩
      by_cases e : w = i + 1
      · subst e
        exact ⟨a5, b5, hS5, by omega⟩
      · exact hAll w (by omega)
  rintro σ' H5 ⟨a, b, v, p, y3, y4, rfl, s3, s4, np, e3, hv, hSv, hAll⟩
  have e3s := SqT.of (K := K) e3
  obtain ⟨k, hk, ha, hbb, hj⟩ := id hSv
  have ha : a = dW c n (n + 1) v - dW c n k v := ha
  have b1 := hDb (n + 1) v (by omega) hv
  have b2 := hDb k v (by omega) hv
  rw [p150] at b1 b2
  walk_at "sts"
  rw [show (if a < 0 then -a else a) = ((a.natAbs : Nat) : Int) by split <;> omega]
  have hb0 : 0 < b := by omega
  obtain ⟨G, hG⟩ : ∃ G, Nat.gcd a.natAbs b = G := ⟨_, rfl⟩
  have hGb : G ∣ b := hG ▸ Nat.gcd_dvd_right _ _
  have hGa : G ∣ a.natAbs := hG ▸ Nat.gcd_dvd_left _ _
  have hG0 : 0 < G := Nat.pos_of_dvd_of_pos hGb hb0
  have hGle : G ≤ b := Nat.le_of_dvd hb0 hGb
  refine ⟨fun k σ' H' => ∃ x : Nat, σ' = [some (.ref pc), some (.ref pf), some (.ref p), y3, y4, some (.int (x : Nat)), some (.int (k : Nat))] ∧ H' = H5 ∧ Nat.gcd x k = G, ⟨b, a.natAbs, rfl, rfl, hG⟩, ?_⟩
  rintro k σ' H' ⟨x, rfl, rfl, hg⟩
  walk_at "sts"
  refine ifd (fun h0 => w_wt ?_) (fun h0 => ?_)
  · walk_at "sts"
    rw [nat_mod]
    exact ⟨x % k, Nat.mod_lt _ (by omega), k, rfl, rfl, by rw [Nat.gcd_comm, ← Nat.gcd_rec, Nat.gcd_comm]; exact hg⟩
  · have hk0 : k = 0 := by omega
    subst hk0
    rw [Nat.gcd_zero_right] at hg
    subst hg
    obtain ⟨a2, ha2⟩ := Int.ofNat_dvd_left.mpr hGa
    obtain ⟨b2', hb2⟩ := hGb
    have ea : a / ((x : Nat) : Int) = a2 := by rw [ha2]; exact Int.mul_ediv_cancel_left _ (by omega)
    have eb : ((b : Nat) : Int) / ((x : Nat) : Int) = ((b2' : Nat) : Int) := by
      rw [hb2, ← Int.natCast_ediv, Nat.mul_div_cancel_left _ hG0]
    walk_at "sts"
    rw [ea, eb]
    refine w_new fun pr npr => ?_
    have hcast : ((b : Nat) : Int) = (x : Int) * (b2' : Int) := by rw [hb2, Int.natCast_mul]
    have hxi : (0 : Int) < (x : Int) := by omega
    have hav : AvgOk c n a2 b2' := by
      refine ⟨?_, fun w hw => ?_, ⟨v, hv, fun j hj' => ?_⟩⟩
      · rcases Nat.eq_zero_or_pos b2' with z | z
        · rw [z, Nat.mul_zero] at hb2; omega
        · exact z
      · obtain ⟨a', b', g1, g2⟩ := hAll w (by omega)
        obtain ⟨k', hk', ga, gb, _⟩ := g1
        refine ⟨k', hk', ?_⟩
        have ga : a' = dW c n (n + 1) w - dW c n k' w := ga
        rw [← ga, ← gb]
        rw [hcast, ha2] at g2
        refine Int.le_of_mul_le_mul_left (a := (x : Int)) ?_ hxi
        have f1 : (x : Int) * (a2 * (b' : Int)) = (x : Int) * a2 * (b' : Int) := by ac_rfl
        have f2 : (x : Int) * (a' * (b2' : Int)) = a' * ((x : Int) * (b2' : Int)) := by ac_rfl
        rw [f1, f2]
        exact g2
      · have g := hj j hj'
        have g : (dW c n (n + 1) v - dW c n j v) * (b : Int) ≤ a * ((n + 1 - j : Nat) : Int) := g
        rw [hcast, ha2] at g
        refine Int.le_of_mul_le_mul_left (a := (x : Int)) ?_ hxi
        have f1 : (x : Int) * ((dW c n (n + 1) v - dW c n j v) * (b2' : Int)) = (dW c n (n + 1) v - dW c n j v) * ((x : Int) * (b2' : Int)) := by ac_rfl
        have f2 : (x : Int) * (a2 * ((n + 1 - j : Nat) : Int)) = (x : Int) * a2 * ((n + 1 - j : Nat) : Int) := by ac_rfl
        rw [f1, f2]
        exact g
    have hgc : Nat.gcd a2.natAbs b2' = 1 := by
      have e1 : a.natAbs = x * a2.natAbs := by rw [ha2, Int.natAbs_mul, Int.natAbs_natCast]
      rw [e1, hb2, Nat.gcd_mul_left] at hG
      have : x * Nat.gcd a2.natAbs b2' = x * 1 := by omega
      exact Nat.eq_of_mul_eq_mul_left hG0 this
    have hbb2 : b2' ≤ b := by rw [hb2]; exact Nat.le_mul_of_pos_left _ hG0
    have haa : a2.natAbs ≤ a.natAbs := by
      rw [ha2, Int.natAbs_mul, Int.natAbs_natCast]
      exact Nat.le_mul_of_pos_left _ hG0
    refine q pr _ a2 b2' (s3.trans (same_upd npr)) (npr.of s3) upd_same hav hgc (by rw [p150]; omega) (by rw [p150]; omega) (by omega)
end

section
variable {P : Program} {w : World} {K : PySem.W.Frag} {mg : Str → Option Value} {base : Heap} {C_Pull C_Push : Addr}
def spSlopes (K : PySem.W.Frag) : Sp := fun vs H Q _ => ∃ (pc : Addr) (c : Nat → Nat → Int) (n q : Nat) (p : Int), vs = [.ref pc, .int p, .int q] ∧ Dp K H (.ref pc) (dMat c (n + 1) (n + 1)) ∧ n ≤ 100 ∧ (∀ u v, u ≤ n → v ≤ n → 0 ≤ c u v ∧ c u v ≤ 2 ^ 140) ∧ q ≤ 101 ∧
  ∀ r H', Same H H' → New H r → H' r = some (.lst ((rowI (hW (ovW c p q) n (n + 1)) (n + 1)).map V.int)) → Q (.ref r) H'
theorem ok_slopes_of {f : Addr} {fd : FuncData} (F : Fun K "slopes_of" "slopes_of" s_slopes_of f fd) (gf : mg "slopes_of" = some (.ref f)) (B : Bl mg) {C_Pull C_Push : Addr} (T : Txt K mg C_Pull C_Push) (h_lowest_into : Has P w K mg base CX0 1 "lowest_into" ["heights", "costs", "goal"] (spLowInto K)) : Has P w K mg base CX0 2 "slopes_of" ["costs", "top", "bottom"] (spSlopes K) := by
  refine Has.mk' F gf (F.binds (ps := ["costs", "top", "bottom"]) fun _ _ _ _ _ _ us hl => match us, hl with | [_, _, _], _ => rfl) sc_slopes_of (by walk_at "len") (fun cdv A outer s H vs Q E hr h => ?_)
  obtain ⟨pc, c, n, qq, p, rfl, hc, hn, hcb, hq101, q⟩ := h
  obtain ⟨xs, hxs, hxl, hxa⟩ := matAt hc
  have p140 : (2 : Int) ^ 140 = 1393796574908163946345982392040522594123776 := by decide
  rw [p140] at hcb
  refine ⟨_, (pss_cons (ps_set (i := 3) sc_slopes_of.nd rfl (.inl rfl) (pe_callB (call_lenK K) (by rfl) B.len (by decide +kernel) (pa_cons (pv 0) pa_nil)))
 (pss_cons (ps_set (i := 4) sc_slopes_of.nd rfl (.inr rfl) (pe_lc (own := [("row", 7)]) rfl sc_slopes_of.nd (pi_listK K (pv 0)) (blkOk_by (own := [("row", 7)]) (N := ["costs", "top", "bottom", "size", "over", "heights", "step", "row", "place", "cost", "goal"]) (sc := defScope s_slopes_of) (by decide +kernel)) (fun _ _ _ _ _ => pg_name (i := 7) sc_slopes_of.nd rfl (Or.inl rfl)) (fun _ _ _ _ _ => pts_nil) (fun _ _ _ _ _ => (pe_lc (own := [("cost", 9)]) rfl sc_slopes_of.nd (pi_listK K (pv 7)) (by refine blkOk_by (own := [("cost", 9)]) ?_; rfl) (fun _ _ _ _ _ => pg_name (i := 9) sc_slopes_of.nd rfl (Or.inl rfl)) (fun _ _ _ _ _ => pts_nil) (fun _ _ _ _ _ => (pe_op op_sub (pe_op op_mulX (pv 2) (pv 9)) (pv 1)))))))
 (pss_cons (ps_set (i := 5) sc_slopes_of.nd rfl (.inr rfl) (pe_lc (own := [("place", 8)]) rfl sc_slopes_of.nd (pi_range1 (by rfl) B.range (pa_cons (pv 3) pa_nil)) (blkOk_by (own := [("place", 8)]) (N := ["costs", "top", "bottom", "size", "over", "heights", "step", "row", "place", "cost", "goal"]) (sc := defScope s_slopes_of) (by decide +kernel)) (fun _ _ _ _ _ => pg_name (i := 8) sc_slopes_of.nd rfl (Or.inl rfl)) (fun _ _ _ _ _ => pts_nil) (fun _ _ _ _ _ => pe_int)))
 (pss_cons (ps_for PassesOwn.never rfl (pi_range1 (by rfl) B.range (pa_cons (pv 3) pa_nil)) (pg_name (i := 6) sc_slopes_of.nd rfl (.inl rfl)) (pss_one (ps_set (i := 5) sc_slopes_of.nd rfl (.inr rfl) (pe_lc (own := [("goal", 10)]) rfl sc_slopes_of.nd (pi_range1 (by rfl) B.range (pa_cons (pv 3) pa_nil)) (blkOk_by (own := [("goal", 10)]) (N := ["costs", "top", "bottom", "size", "over", "heights", "step", "row", "place", "cost", "goal"]) (sc := defScope s_slopes_of) (by decide +kernel)) (fun _ _ _ _ _ => pg_name (i := 10) sc_slopes_of.nd rfl (Or.inl rfl)) (fun _ _ _ _ _ => pts_nil) (fun _ _ _ _ _ => (pe_callB (call_min2 rfl) (by rfl) B.min (by decide +kernel) (pa_cons (pe_ix (ix_listK K) (pv 5) (pv 10) (fun _ _ => rfl)) (pa_cons (pe_fn h_lowest_into (hr.mono (by decide)) (by rfl) (pa_cons (pv 5) (pa_cons (pv 4) (pa_cons (pv 10) pa_nil)))) pa_nil))))))))
 (pss_one (ps_ret (pv 5))))))), ?_⟩
  walk_at "sts"
  rw [hxl]
  intro D nD
  refine lc_list (K := K) (xs := xs) (fun i H' => GrD K H' D ((List.range i).map fun k => dInts (rowI (ovW c p qq k) (n + 1))) ∧ Same H H') ?_ ?_ ?_ ?_
  · exact ⟨GrD.new, same_upd nD⟩
  · rintro i H' _ ⟨_, s1⟩
    exact s1.seq hxs
  · rintro i v H' hv ⟨⟨zs, x1, x2⟩, s1⟩
    have hi : i < n + 1 := by rw [← hxl]; exact (List.getElem?_eq_some_iff.mp hv).1
    obtain ⟨pr, e1, e2⟩ := hxa i hi
    rw [hv] at e1
    cases e1
    have hzl := dpaLen x2
    rw [List.length_map, List.length_range] at hzl
    have e3 := s1.seq e2
    walk_at "sts"
    intro D1 nD1
    have hDD : D ≠ D1 := ne_new x1 nD1
    refine lc_list (K := K) (xs := (rowI (c i) (n + 1)).map V.int) (fun j H2 => H2 D1 = some (.lst ((rowI (ovW c p qq i) j).map V.int)) ∧ Same H' H2) ?_ ?_ ?_ ?_
    · exact ⟨upd_same, same_upd nD1⟩
    · rintro j H2 _ ⟨_, s2⟩
      exact s2.seq e3
    · rintro j v2 H2 hv2 ⟨l2, s2⟩
      have hj : j < n + 1 := by have := (List.getElem?_eq_some_iff.mp hv2).1; rw [rowI_lenV] at this; exact this
      rw [rowI_at (c i) hj] at hv2
      cases hv2
      have hb := hcb i j (by omega) (by omega)
      walk_at "sts"
      refine ⟨_, l2, szlt (by rw [rowI_lenV]; omega), ?_, s2.mut nD1⟩
      rw [upd_same, ← rowI_snoc]
      rfl
    · rintro H2 ⟨l2, s2⟩
      rw [rowI_lenV] at l2
      refine ⟨zs, s2 _ _ x1, szlt (by omega), ?_, (s1.trans s2).mut nD⟩
      rw [List.range_succ, List.map_append]
      exact GrD.push x2 s2 (dpIntsL (SqL.of (wo_get l2 (Ne.symm hDD))))
  rintro H1 ⟨hG, s1⟩
  rw [hxl] at hG
  have hO : Dp K H1 (.ref D) (dMat (ovW c p qq) (n + 1) (n + 1)) := hG.dp
  walk_at "sts"
  intro D0 nD0
  refine lc_r0 (n := n + 1) rfl (fun i H' => H' D0 = some (.lst ((rowI (hW (ovW c p qq) n 0) i).map V.int)) ∧ Same H1 H') ?_ ?_ ?_
  · exact ⟨upd_same, same_upd nD0⟩
  · rintro i H' hi ⟨l1, s2⟩
    walk_at "sts"
    refine ⟨_, l1, szlt (by rw [rowI_lenV]; omega), ?_, s2.mut nD0⟩
    rw [upd_same, ← rowI_snoc]
    rfl
  rintro H2 ⟨l2, s2⟩
  walk_at "sts"
  refine for_r0 (n := n + 1) rfl (fun i σ' H' => ∃ (ph : Addr) (y6 : Option V), σ' = [some (.ref pc), some (.int p), some (.int (qq : Nat)), some (.int ((n + 1 : Nat) : Int)), some (.ref D), some (.ref ph), y6, none, none, none, none] ∧ Same H H' ∧ Same H1 H' ∧ New H ph ∧ H' ph = some (.lst ((rowI (hW (ovW c p qq) n i) (n + 1)).map V.int))) ?_ ?_ ?_
  · exact ⟨D0, _, rfl, s1.trans s2, s2, nD0.of s1, l2⟩
  · rintro i σ' H' hi ⟨ph, y6, rfl, s3, s13, nph, l3⟩
    walk_at "sts"
    intro D1 nD1
    refine lc_r0 (n := n + 1) rfl (fun j H4 => H4 D1 = some (.lst ((rowI (hW (ovW c p qq) n (i + 1)) j).map V.int)) ∧ Same H' H4) ?_ ?_ ?_
    · exact ⟨upd_same, same_upd nD1⟩
    · rintro j H4 hj ⟨l4, s4⟩
      have lh := SqL.of (K := K) (s4 _ _ l3)
      have ah := rowI_at (hW (ovW c p qq) n i) hj
      walk_at "sts"
      refine ⟨ph, D, hW (ovW c p qq) n i, ovW c p qq, n, j, rfl, lh, hO.same (s13.trans s4), by omega, hn, fun H5 s5 => ?_⟩
      walk_at "sts"
      refine ⟨_, s5 _ _ l4, szlt (by rw [rowI_lenV]; omega), ?_, (s4.trans s5).mut nD1⟩
      rw [upd_same, ← rowI_snoc]
      rfl
    · rintro H4 ⟨l4, s4⟩
      walk_at "sts"
      exact ⟨D1, _, rfl, s3.trans s4, s13.trans s4, nD1.of s3, l4⟩
  · rintro σ' H' ⟨ph, y6, rfl, s3, s13, nph, l3⟩
    walk_at "sts"
    exact q ph H' s3 nph l3
end

/-! ### a loop of steps -/
def LoopOk (t : Nat → Nat → Bool) (n : Nat) (L : List Nat) : Prop := L ≠ [] ∧ L.Nodup ∧ (∀ x ∈ L, x ≤ n) ∧ ∀ k, k < L.length → t (L.getD ((k + L.length - 1) % L.length) 0) (L.getD k 0) = true
def ChainT (t : Nat → Nat → Bool) (W : List Nat) (x : Nat) : Prop := ∀ i, i < W.length → t (W.getD i 0) (if i + 1 < W.length then W.getD (i + 1) 0 else x) = true
theorem getD_app1 (W : List Nat) (x i : Nat) (h : i < W.length) : (W ++ [x]).getD i 0 = W.getD i 0 := by
  rw [List.getD_eq_getElem?_getD, List.getD_eq_getElem?_getD, List.getElem?_append_left h]
theorem getD_app2 (W : List Nat) (x : Nat) : (W ++ [x]).getD W.length 0 = x := by
  rw [List.getD_eq_getElem?_getD, List.getElem?_append_right (Nat.le_refl _), Nat.sub_self]
  rfl
theorem ChainT.push {t : Nat → Nat → Bool} {W : List Nat} {x y : Nat} (h : ChainT t W x) (hy : t x y = true) : ChainT t (W ++ [x]) y := fun i hi => by
  rw [List.length_append] at hi ⊢
  have hi : i < W.length + 1 := hi
  show t ((W ++ [x]).getD i 0) (if i + 1 < W.length + 1 then _ else _) = true
  by_cases e : i = W.length
  · subst e
    rw [getD_app2, if_neg (by omega)]
    exact hy
  · have hc := h i (by omega)
    rw [getD_app1 W x i (by omega), if_pos (by omega)]
    by_cases z : i + 1 < W.length
    · rw [if_pos z] at hc
      rw [getD_app1 W x _ z]
      exact hc
    · rw [if_neg z] at hc
      rw [show i + 1 = W.length by omega, getD_app2]
      exact hc
theorem ChainT.loop {t : Nat → Nat → Bool} {W : List Nat} {x n : Nat} (h : ChainT t W x) (hx : x ∈ W) (nd : W.Nodup) (hn : ∀ y ∈ W, y ≤ n) : LoopOk t n (W.drop (W.idxOf x)) := by
  have hj : W.idxOf x < W.length := List.idxOf_lt_length_iff.mpr hx
  have hxj : W.getD (W.idxOf x) 0 = x := by rw [List.getD_eq_getElem?_getD, List.getElem?_eq_getElem hj, List.getElem_idxOf hj]; rfl
  generalize W.idxOf x = j at hj hxj ⊢
  have hl : (W.drop j).length = W.length - j := List.length_drop
  have hg : ∀ k, (W.drop j).getD k 0 = W.getD (j + k) 0 := fun k => by rw [List.getD_eq_getElem?_getD, List.getD_eq_getElem?_getD, List.getElem?_drop]
  refine ⟨fun e => ?_, nd.sublist (List.drop_sublist _ _), fun y hy => hn y ((List.drop_sublist _ _).subset hy), fun k hk => ?_⟩
  · rw [e] at hl
    have hl : 0 = W.length - j := hl
    omega
  · rw [hg, hg, hl]
    rw [hl] at hk
    by_cases z : k = 0
    · subst z
      rw [Nat.zero_add, Nat.mod_eq_of_lt (by omega), Nat.add_zero, hxj]
      have := h (W.length - 1) (by omega)
      rw [if_neg (by omega)] at this
      rw [show j + (W.length - j - 1) = W.length - 1 by omega]
      exact this
    · rw [show k + (W.length - j) - 1 = (k - 1) + (W.length - j) by omega, Nat.add_mod_right, Nat.mod_eq_of_lt (by omega)]
      have := h (j + (k - 1)) (by omega)
      rw [if_pos (by omega), show j + (k - 1) + 1 = j + k by omega] at this
      exact this
section
variable {P : Program} {w : World} {K : PySem.W.Frag} {mg : Str → Option Value} {base : Heap} {C_Pull C_Push : Addr}
def rowB (f : Nat → Bool) (n : Nat) : List Bool := (List.range n).map f
def dMatB (t : Nat → Nat → Bool) (r n : Nat) : PyData := .list ((List.range r).map fun i => .list ((rowB (t i) n).map PyData.bool))
theorem dpBools {K : PySem.W.Frag} {H : Hp} : ∀ l : List Bool, DpAll K H (l.map V.bl) (l.map PyData.bool)
  | [] => .nil
  | b :: l => .cons (.bl b) (dpBools l)
theorem dpAll_bools {K : PySem.W.Frag} {H : Hp} : ∀ {xs : List V} {l : List Bool}, DpAll K H xs (l.map PyData.bool) → xs = l.map V.bl
  | [], [], _ => rfl
  | _, b :: l, .cons h t => by
    cases h
    rw [dpAll_bools t]
    rfl
theorem rowB_at (f : Nat → Bool) {n i : Nat} (h : i < n) : ((rowB f n).map V.bl)[i]? = some (.bl (f i)) := by
  unfold rowB
  rw [List.getElem?_map, List.getElem?_map, List.getElem?_range h]
  rfl
theorem matBAt {K : PySem.W.Frag} {H : Hp} {a : Addr} {t : Nat → Nat → Bool} {r n : Nat} (h : Dp K H (.ref a) (dMatB t r n)) : ∃ xs, SqL K H a xs ∧ xs.length = r ∧ ∀ i, i < r → ∃ p, xs[i]? = some (.ref p) ∧ SqL K H p ((rowB (t i) n).map V.bl) := by
  obtain ⟨xs, h1, h2⟩ := dpLstA h
  refine ⟨xs, h1, by have := dpaLen h2; simpa using this, fun i hi => ?_⟩
  obtain ⟨v, e, d⟩ := dpaGet (i := i) h2 (map_at hi)
  obtain ⟨p, ys, rfl, d1, d2⟩ := dpLst d
  rw [dpAll_bools d2] at d1
  exact ⟨p, e, d1⟩
theorem w_lrgE {te : L2.St → Hp → (Int → Int → Hp → Prop) → Prop} {σ : L2.St} {H : Hp} {Q : VK} (h : te σ H fun a b H1 => RgOk a b ∧ ∀ q, H1 q = none → Q (.ref q) (upd H1 q (.lst (rgV a b)))) : tLstRg te σ H Q := h
theorem w_rgE {ta : TE} {σ : L2.St} {H : Hp} {Q : Int → Int → Hp → Prop} (h : ta σ H fun x H1 => ∃ n, x = .int n ∧ Q 0 n H1) : tRg1 ta σ H Q := h
theorem rgV_ivE (n : Nat) : rgV 0 ((n : Nat) : Int) = iv (List.range n) := by
  unfold rgV iv
  rw [show (((n : Nat) : Int) - 0).toNat = n by omega]
  refine List.map_congr_left fun d _ => ?_
  show V.int (0 + (d : Int)) = V.int (d : Int)
  rw [Int.zero_add]
def spLoop (K : PySem.W.Frag) : Sp := fun vs H Q _ => ∃ (pt : Addr) (t : Nat → Nat → Bool) (n : Nat), vs = [.ref pt] ∧ Dp K H (.ref pt) (dMatB t (n + 1) (n + 1)) ∧ n ≤ 100 ∧ (∃ S, Live t n S) ∧ ∀ r H' L, Same H H' → New H r → H' r = some (.lst (iv L)) → LoopOk t n L → Q (.ref r) H'
theorem ok_loop_of {f : Addr} {fd : FuncData} (F : Fun K "loop_of" "loop_of" s_loop_of f fd) (gf : mg "loop_of" = some (.ref f)) (B : Bl mg) {C_Pull C_Push : Addr} (T : Txt K mg C_Pull C_Push) : Has P w K mg base CX0 1 "loop_of" ["tight"] (spLoop K) := by
  refine Has.mk' F gf (F.binds (ps := ["tight"]) fun _ _ _ _ _ _ us hl => match us, hl with | [_], _ => rfl) sc_loop_of (by walk_at "len") (fun cdv A outer s H vs Q E hr h => ?_)
  obtain ⟨pt, t, n, rfl, hT, hn, ⟨S, ⟨x0, hx0⟩, hS⟩, q⟩ := h
  obtain ⟨xs, hxs, hxl, hxa⟩ := matBAt hT
  refine ⟨_, (pss_cons (ps_set (i := 1) sc_loop_of.nd rfl (.inr rfl) (pe_listRg rfl (by rfl) B.list (prg_1 (by rfl) B.range (pe_callB (call_lenK K) (by rfl) B.len (by decide +kernel) (pa_cons (pv 0) pa_nil)))))
 (pss_cons (ps_set (i := 2) sc_loop_of.nd rfl (.inl rfl) (pe_op op_add (pe_callB (call_lenK K) (by rfl) B.len (by decide +kernel) (pa_cons (pv 1) pa_nil)) pe_int))
 (pss_cons (ps_while PassesOwn.never (pt_cmpR op_lt (pe_callB (call_lenK K) (by rfl) B.len (by decide +kernel) (pa_cons (pv 1) pa_nil)) (pv 2) (nomark _)) (pss_cons (ps_set (i := 2) sc_loop_of.nd rfl (.inl rfl) (pe_callB (call_lenK K) (by rfl) B.len (by decide +kernel) (pa_cons (pv 1) pa_nil)))
 (pss_one (ps_set (i := 1) sc_loop_of.nd rfl (.inr rfl) (pe_lc (own := [("place", 3)]) rfl sc_loop_of.nd (pi_listK K (pv 1)) (blkOk_by (own := [("place", 3)]) (N := ["tight", "alive", "many", "place", "walk", "goal"]) (sc := defScope s_loop_of) (by decide +kernel)) (fun _ _ _ _ _ => pg_name (i := 3) sc_loop_of.nd rfl (Or.inr rfl)) (fun _ _ _ _ _ => (pts_one (pt_val (pe_callB (cr_anyK K rfl) (by rfl) B.any (by decide +kernel) (pa_cons (pe_lc (own := [("goal", 5)]) rfl sc_loop_of.nd (pi_listK K (pv 1)) (by refine blkOk_by (own := [("goal", 5)]) ?_; rfl) (fun _ _ _ _ _ => pg_name (i := 5) sc_loop_of.nd rfl (Or.inl rfl)) (fun _ _ _ _ _ => pts_nil) (fun _ _ _ _ _ => (pe_ix (ix_listK K) (pe_ix (ix_listK K) (pv 0) (pv 3) (fun _ _ => rfl)) (pv 5) (fun _ _ => rfl)))) pa_nil))))) (fun _ _ _ _ _ => (pv 3)))))))
 (pss_cons (ps_set (i := 4) sc_loop_of.nd rfl (.inl rfl) (pe_lst pa_nil))
 (pss_cons (ps_set (i := 3) sc_loop_of.nd rfl (.inr rfl) (pe_ix (ix_listK K) (pv 1) pe_int (fun _ _ => rfl)))
 (pss_cons (ps_while PassesOwn.never (pt_cmpR (op_notInK K) (pv 3) (pv 4) (by rfl)) (pss_cons (ps_expr (pe_bmK K (pe_bm PySem.F.plainAttrs_list PySem.F.slot_list_append PySem.F.type_list_append mt_append (pv 4) (pa_cons (pv 3) pa_nil))))
 (pss_one (ps_set (i := 3) sc_loop_of.nd rfl (.inr rfl) (pe_ix (ix_listK K) (pe_lc (own := [("goal", 5)]) rfl sc_loop_of.nd (pi_listK K (pv 1)) (blkOk_by (own := [("goal", 5)]) (N := ["tight", "alive", "many", "place", "walk", "goal"]) (sc := defScope s_loop_of) (by decide +kernel)) (fun _ _ _ _ _ => pg_name (i := 5) sc_loop_of.nd rfl (Or.inl rfl)) (fun _ _ _ _ _ => (pts_one (pt_val (pe_ix (ix_listK K) (pe_ix (ix_listK K) (pv 0) (pv 3) (fun _ _ => rfl)) (pv 5) (fun _ _ => rfl))))) (fun _ _ _ _ _ => (pv 5))) pe_int (fun _ _ => rfl))))))
 (pss_one (ps_ret (pe_slice (sl_listK K) (pv 4) (po_some (pe_bmK K (pe_bm PySem.F.plainAttrs_list PySem.F.slot_list_index PySem.F.type_list_index (mt_indexK K) (pv 4) (pa_cons (pv 3) pa_nil)))) po_none))))))))), ?_⟩
  walk_at "sts"
  refine w_lrgE ?_
  refine w_rgE ?_
  walk_at "sts"
  rw [hxl]
  refine ⟨RgOk.of_le (by omega) (by omega) (by omega) (by omega), fun pa na => ?_⟩
  rw [rgV_ivE]
  have t1 := same_upd (o := .lst (iv (List.range (n + 1)))) na
  have l1 : upd H pa (.lst (iv (List.range (n + 1)))) pa = some (.lst (iv (List.range (n + 1)))) := upd_same
  generalize upd H pa (.lst (iv (List.range (n + 1)))) = H1 at t1 l1 ⊢
  walk_at "sts"
  rw [iv_len, List.length_range, show ((n + 1 : Nat) : Int) + 1 = ((n + 2 : Nat) : Int) by omega]
  refine ⟨fun k σ' H' => ∃ (A : List Nat) (p : Addr), σ' = [some (.ref pt), some (.ref p), some (.int (k : Nat)), none, none, none] ∧ Same H H' ∧ New H p ∧ H' p = some (.lst (iv A)) ∧ A.Nodup ∧ (∀ x ∈ A, x ≤ n) ∧ (∀ x, S x → x ∈ A) ∧ (k ≤ A.length → ∀ x ∈ A, ∃ y ∈ A, t x y = true), ⟨n + 2, List.range (n + 1), pa, rfl, t1, na, l1, List.nodup_range, fun x hx => by have := List.mem_range.mp hx; omega, fun x hx => List.mem_range.mpr (by have := (hS x hx).1; omega), fun hk => by rw [List.length_range] at hk; omega⟩, ?_⟩
  rintro k σ' H' ⟨A, p, rfl, s1, np, lA, ndA, hA, hSA, hfix⟩
  have hAl : A.length ≤ n + 1 := by
    have := ndA.length_le_of_subset (l₂ := List.range (n + 1)) fun x hx => List.mem_range.mpr (by have := hA x hx; omega)
    rw [List.length_range] at this
    exact this
  have lAs := SqL.of (K := K) lA
  walk_at "sts"
  rw [iv_len]
  refine ifd (fun h0 => w_wt ?_) (fun h0 => ?_)
  · walk_at "sts"
    rw [iv_len]
    intro D nD
    refine lc_list (K := K) (xs := iv A) (fun i H2 => H2 D = some (.lst (iv ((A.take i).filter fun x => A.any fun y => t x y))) ∧ Same H' H2) ?_ ?_ ?_ ?_
    · exact ⟨upd_same, same_upd nD⟩
    · rintro i H2 _ ⟨_, s2⟩
      exact s2.seq lAs
    · rintro i v H2 hv ⟨l2, s2⟩
      have hi : i < A.length := by rw [← iv_len]; exact (List.getElem?_eq_some_iff.mp hv).1
      rw [iv_at hi] at hv
      cases hv
      have hxm : A.getD i 0 ∈ A := by rw [List.getD_eq_getElem?_getD, List.getElem?_eq_getElem hi]; exact List.getElem_mem hi
      have etk : A.take (i + 1) = A.take i ++ [A.getD i 0] := by
        rw [List.take_add_one, List.getD_eq_getElem?_getD, List.getElem?_eq_getElem hi]
        rfl
      have hxn := hA _ hxm
      generalize A.getD i 0 = x at hxm etk hxn
      obtain ⟨pr, e1, e2⟩ := hxa x (by omega)
      walk_at "sts"
      intro D1 nD1
      have hDD : D ≠ D1 := ne_new l2 nD1
      refine lc_list (K := K) (xs := iv A) (fun j H3 => H3 D1 = some (.lst (((A.take j).map fun y => t x y).map V.bl)) ∧ Same H2 H3) ?_ ?_ ?_ ?_
      · exact ⟨upd_same, same_upd nD1⟩
      · rintro j H3 _ ⟨_, s3⟩
        exact (s2.trans s3).seq lAs
      · rintro j v H3 hv ⟨l3, s3⟩
        have hj : j < A.length := by rw [← iv_len]; exact (List.getElem?_eq_some_iff.mp hv).1
        rw [iv_at hj] at hv
        cases hv
        have hym : A.getD j 0 ∈ A := by rw [List.getD_eq_getElem?_getD, List.getElem?_eq_getElem hj]; exact List.getElem_mem hj
        have etj : A.take (j + 1) = A.take j ++ [A.getD j 0] := by
          rw [List.take_add_one, List.getD_eq_getElem?_getD, List.getElem?_eq_getElem hj]
          rfl
        have hyn := hA _ hym
        generalize A.getD j 0 = y at hym etj hyn
        have hb := rowB_at (t x) (show y < n + 1 by omega)
        have f1 := (s1.trans (s2.trans s3)).seq hxs
        have f2 := (s1.trans (s2.trans s3)).seq e2
        walk_at "sts"
        refine ⟨_, l3, szlt (by rw [List.length_map, List.length_map, List.length_take]; omega), ?_, s3.mut nD1⟩
        rw [upd_same, etj, List.map_append, List.map_append]
        rfl
      · rintro H3 ⟨l3, s3⟩
        rw [iv_len, List.take_length] at l3
        walk_at "sts"
        refine ⟨D1, A.map fun y => t x y, rfl, SqL.of l3, ?_⟩
        have eany : (A.map fun y => t x y).any id = A.any fun y => t x y := by rw [List.any_map]; rfl
        rw [eany]
        refine ⟨_, rfl, ?_⟩
        have l2' := s3 _ _ l2
        have hfl : ((A.take i).filter fun x => A.any fun y => t x y).length ≤ A.length := Nat.le_trans (List.length_filter_le _ _) (by rw [List.length_take]; omega)
        cases hb : A.any fun y => t x y with
        | true =>
          refine ifT rfl ?_
          walk_at "sts"
          refine ⟨_, l2', szlt (by rw [iv_len]; omega), ?_, (s2.trans s3).mut nD⟩
          rw [upd_same, etk, List.filter_append, iv_app]
          rw [List.filter_cons, if_pos hb]
          rfl
        | false =>
          refine ifF rfl ?_
          refine ⟨?_, s2.trans s3⟩
          rw [etk, List.filter_append, List.filter_cons, if_neg (by rw [hb]; decide), List.filter_nil, List.append_nil]
          exact l2'
    rintro H2 ⟨l2, s2⟩
    rw [iv_len, List.take_length] at l2
    walk_at "sts"
    refine ⟨A.length, by omega, A.filter fun x => A.any fun y => t x y, D, rfl, s1.trans s2, nD.of s1, l2, ndA.filter _, fun x hx => hA x (List.mem_filter.mp hx).1, fun x hx => List.mem_filter.mpr ⟨hSA x hx, ?_⟩, fun hle x hx => ?_⟩
    · obtain ⟨_, y, hy, hxy⟩ := hS x hx
      exact List.any_eq_true.mpr ⟨y, hSA y hy, hxy⟩
    · have hall : (A.filter fun x => A.any fun y => t x y) = A := List.filter_sublist.eq_of_length_le hle
      obtain ⟨y, hy, hxy⟩ := List.any_eq_true.mp (List.mem_filter.mp hx).2
      exact ⟨y, by rw [hall]; exact hy, hxy⟩
  · have hk : k ≤ A.length := by omega
    have hfx := hfix hk
    have hx0A := hSA x0 hx0
    have hA0 : 0 < A.length := List.length_pos_of_mem hx0A
    have ea0 : A.getD 0 0 ∈ A := by rw [List.getD_eq_getElem?_getD, List.getElem?_eq_getElem hA0]; exact List.getElem_mem hA0
    have hat0 := iv_at hA0
    walk_at "sts"
    refine w_new fun pw npw => ?_
    have t2 := same_upd (o := .lst ([] : List V)) npw
    have l2 : upd H' pw (.lst []) pw = some (.lst (iv [])) := upd_same
    have lA2s := t2 _ _ lA
    have hpp : p ≠ pw := ne_new lA npw
    have s2 := s1.trans t2
    have npw' : New H pw := npw.of s1
    generalize upd H' pw (.lst []) = H2 at t2 l2 lA2s s2 ⊢
    walk_at "sts"
    refine ⟨fun k' σ' H3 => ∃ (W : List Nat) (x : Nat), σ' = [some (.ref pt), some (.ref p), some (.int (k : Nat)), some (.int (x : Nat)), some (.ref pw), none] ∧ Same H H3 ∧ H3 p = some (.lst (iv A)) ∧ H3 pw = some (.lst (iv W)) ∧ W.Nodup ∧ (∀ y ∈ W, y ∈ A) ∧ x ∈ A ∧ ChainT t W x ∧ k' + W.length = A.length + 1, ⟨A.length + 1, [], A.getD 0 0, rfl, s2, lA2s, l2, List.nodup_nil, fun y hy => (by cases hy), ea0, fun i hi => absurd hi (Nat.not_lt_zero _), rfl⟩, ?_⟩
    rintro k' σ' H3 ⟨W, x, rfl, s3, lA3, lW, ndW, hWA, hxA, hch, hkk⟩
    have lWs := SqL.of (K := K) lW
    have lA3s := SqL.of (K := K) lA3
    have hWl : W.length ≤ A.length := ndW.length_le_of_subset fun y hy => hWA y hy
    have hszW : (iv W).length < sizeLine := szlt (by rw [iv_len]; omega)
    walk_at "sts"
    refine w_notin lWs ?_
    walk_at "sts"
    refine ifnd (fun hxW => w_wt ?_) (fun hxW => ?_)
    · have hxn := hA x hxA
      obtain ⟨pr, e1, e2⟩ := hxa x (by omega)
      walk_at "sts"
      rw [show iv W ++ [V.int (x : Nat)] = iv (W ++ [x]) from by rw [iv_app]; rfl]
      have lW4 : upd H3 pw (.lst (iv (W ++ [x]))) pw = some (.lst (iv (W ++ [x]))) := upd_same
      have s4 := s3.mut (o := .lst (iv (W ++ [x]))) npw'
      have lA4 : upd H3 pw (.lst (iv (W ++ [x]))) p = some (.lst (iv A)) := by rw [upd_ne hpp]; exact lA3
      generalize upd H3 pw (.lst (iv (W ++ [x]))) = H4 at lW4 s4 lA4 ⊢
      have lA4s := SqL.of (K := K) lA4
      walk_at "sts"
      intro D nD
      refine lc_list (K := K) (xs := iv A) (fun i H5 => H5 D = some (.lst (iv ((A.take i).filter fun y => t x y))) ∧ Same H4 H5) ?_ ?_ ?_ ?_
      · exact ⟨upd_same, same_upd nD⟩
      · rintro i H5 _ ⟨_, s5⟩
        exact s5.seq lA4s
      · rintro i v H5 hv ⟨l5, s5⟩
        have hi : i < A.length := by rw [← iv_len]; exact (List.getElem?_eq_some_iff.mp hv).1
        rw [iv_at hi] at hv
        cases hv
        have hym : A.getD i 0 ∈ A := by rw [List.getD_eq_getElem?_getD, List.getElem?_eq_getElem hi]; exact List.getElem_mem hi
        have etk : A.take (i + 1) = A.take i ++ [A.getD i 0] := by
          rw [List.take_add_one, List.getD_eq_getElem?_getD, List.getElem?_eq_getElem hi]
          rfl
        have hyn := hA _ hym
        generalize A.getD i 0 = y at hym etk hyn
        have hb := rowB_at (t x) (show y < n + 1 by omega)
        have f1 := (s4.trans s5).seq hxs
        have f2 := (s4.trans s5).seq e2
        have hfl : ((A.take i).filter fun y => t x y).length ≤ A.length := Nat.le_trans (List.length_filter_le _ _) (by rw [List.length_take]; omega)
        walk_at "sts"
        cases hbb : t x y with
        | true =>
          refine ifT rfl ?_
          walk_at "sts"
          refine ⟨_, l5, szlt (by rw [iv_len]; omega), ?_, s5.mut nD⟩
          rw [upd_same, etk, List.filter_append, iv_app, List.filter_cons, if_pos hbb]
          rfl
        | false =>
          refine ifF rfl ?_
          refine ⟨?_, s5⟩
          rw [etk, List.filter_append, List.filter_cons, if_neg (by rw [hbb]; decide), List.filter_nil, List.append_nil]
          exact l5
      rintro H5 ⟨l5, s5⟩
      rw [iv_len, List.take_length] at l5
      obtain ⟨y0, hy0, hxy0⟩ := hfx x hxA
      have hF0 : 0 < (A.filter fun y => t x y).length := List.length_pos_of_mem (List.mem_filter.mpr ⟨hy0, hxy0⟩)
      have hFm : (A.filter fun y => t x y).getD 0 0 ∈ A.filter fun y => t x y := by rw [List.getD_eq_getElem?_getD, List.getElem?_eq_getElem hF0]; exact List.getElem_mem hF0
      obtain ⟨hFA, hFt⟩ := List.mem_filter.mp hFm
      have hat := iv_at hF0
      have l5s := SqL.of (K := K) l5
      walk_at "sts"
      refine ⟨A.length - W.length, by omega, W ++ [x], _, rfl, s4.trans s5, s5 _ _ lA4, s5 _ _ lW4, List.nodup_append.mpr ⟨ndW, by simp, fun a ha b hb e => hxW (by rw [List.mem_singleton.mp hb] at e; rw [← e]; exact ha)⟩, fun y hy => ?_, hFA, hch.push hFt, by rw [List.length_append]; show A.length - W.length + (W.length + 1) = _; omega⟩
      rcases List.mem_append.mp hy with hy | hy
      · exact hWA y hy
      · rw [List.mem_singleton.mp hy]; exact hxA
    · walk_at "sts"
      refine w_idx lWs hxW ?_
      walk_at "sts"
      refine w_new fun pr npr => ?_
      rw [cutV_from, show (iv W).drop (W.idxOf x) = iv (W.drop (W.idxOf x)) from by unfold iv; rw [List.map_drop]]
      exact q pr _ _ (s3.trans (same_upd npr)) (npr.of s3) upd_same (hch.loop hxW ndW fun y hy => hA y (hWA y hy))
end

section
variable {P : Program} {w : World} {K : PySem.W.Frag} {mg : Str → Option Value} {base : Heap} {C_Pull C_Push : Addr}
def spCell (K : PySem.W.Frag) : Sp := fun vs H Q _ => ∃ (p : Addr) (ns : List Int) (k : Nat), vs = [.ref p, .int k] ∧ SqL K H p (ns.map V.int) ∧ Q (.int (ns.getD k 0)) H
theorem ok_law_cell {f : Addr} {fd : FuncData} (F : Fun K "_law_cell" "_law_cell" s_law_cell f fd) (gf : mg "_law_cell" = some (.ref f)) (B : Bl mg) {C_Pull C_Push : Addr} (T : Txt K mg C_Pull C_Push) : Has P w K mg base CX0 1 "_law_cell" ["script", "k"] (spCell K) := by
  refine Has.mk' F gf (F.binds (ps := ["script", "k"]) fun _ _ _ _ _ _ us hl => match us, hl with | [_, _], _ => rfl) sc_law_cell (by walk_at "len") (fun cdv A outer s H vs Q E hr h => ?_)
  obtain ⟨p, ns, k, rfl, hp, q⟩ := h
  refine ⟨_, (pss_cons (ps_if (pt_cmpR op_lt (pv 1) (pe_callB (call_lenK K) (by rfl) B.len (by decide +kernel) (pa_cons (pv 0) pa_nil)) (nomark _)) (pss_one (ps_ret (pe_ix (ix_listK K) (pv 0) (pv 1) (fun _ _ => rfl)))) pss_nil)
 (pss_one (ps_ret pe_int))), ?_⟩
  walk_at "sts"
  refine ifd (fun hc => ?_) (fun hc => ?_)
  · rw [List.length_map] at hc
    have e : (ns.map V.int)[k]? = some (.int (ns.getD k 0)) := by
      rw [List.getElem?_map, List.getD_eq_getElem?_getD, List.getElem?_eq_getElem (by omega)]
      rfl
    walk_at "sts"
    exact q
  · rw [List.length_map] at hc
    walk_at "sts"
    rw [List.getD_eq_getElem?_getD, List.getElem?_eq_none (by omega)] at q
    exact q
end

section
variable {P : Program} {w : World} {K : PySem.W.Frag} {mg : Str → Option Value} {base : Heap} {C_Pull C_Push : Addr}
def spLaw (K : PySem.W.Frag) : Sp := fun vs H Q _ => ∃ (a : Addr) (ns : List Int), vs = [.ref a] ∧ LsE K H a (ns.map V.int) ∧ ns.length ≤ 63 ∧ (∀ z ∈ ns, Builtin.Int.intBits z ≤ 1048576) ∧ ∀ H', Q (.bl true) H'
end
theorem modN (z : Int) {n : Nat} (h : 0 < n) : ∃ k : Nat, z % (n : Int) = (k : Int) ∧ k < n := by
  have h1 := Int.emod_nonneg z (show (n : Int) ≠ 0 by omega)
  have h2 := Int.emod_lt_of_pos z (show (0 : Int) < n by omega)
  exact ⟨(z % (n : Int)).toNat, by omega, by omega⟩

section
variable {P : Program} {w : World} {K : PySem.W.Frag} {mg : Str → Option Value} {base : Heap} {C_Pull C_Push : Addr}
def spWhole : Sp := fun vs H Q _ => ∃ i : Int, vs = [.int i] ∧ Q (.bl true) H
theorem ok_law_whole {f : Addr} {fd : FuncData} (F : Fun K "_law_whole" "_law_whole" s_law_whole f fd) (gf : mg "_law_whole" = some (.ref f)) (B : Bl mg) {C_Pull C_Push : Addr} (T : Txt K mg C_Pull C_Push) : Has P w K mg base CX0 1 "_law_whole" ["found"] spWhole := by
  refine Has.mk' F gf (F.binds (ps := ["found"]) fun _ _ _ _ _ _ us hl => match us, hl with | [_], _ => rfl) sc_law_whole (by walk_at "len") (fun cdv A outer s H vs Q E hr h => ?_)
  obtain ⟨i, rfl, q⟩ := h
  refine ⟨_, (pss_one (ps_ret (pe_and (pe_callB (call_isiK' K) (by rfl) B.isinstance (by decide +kernel) (pa_cons (pv 0) (pa_cons (pe_bltn (v := .ty "int") (by rfl) B.int (by decide +kernel) rfl) pa_nil))) (pe_one (pe_not (pe_callB (call_isiK' K) (by rfl) B.isinstance (by decide +kernel) (pa_cons (pv 0) (pa_cons (pe_bltn (v := .ty "bool") (by rfl) B.bool (by decide +kernel) rfl) pa_nil)))))))), ?_⟩
  walk_at "sts"
  exact q
def spPairI (K : PySem.W.Frag) : Sp := fun vs H Q _ => ∃ (p : Addr) (i j : Int), vs = [.ref p] ∧ SqT K H p [.int i, .int j] ∧ Q (.bl true) H
theorem ok_law_pair {f : Addr} {fd : FuncData} (F : Fun K "_law_pair" "_law_pair" s_law_pair f fd) (gf : mg "_law_pair" = some (.ref f)) (B : Bl mg) {C_Pull C_Push : Addr} (T : Txt K mg C_Pull C_Push) (h_law_whole : Has P w K mg base CX0 1 "_law_whole" ["found"] spWhole) : Has P w K mg base CX0 2 "_law_pair" ["found"] (spPairI K) := by
  refine Has.mk' F gf (F.binds (ps := ["found"]) fun _ _ _ _ _ _ us hl => match us, hl with | [_], _ => rfl) sc_law_pair (by walk_at "len") (fun cdv A outer s H vs Q E hr h => ?_)
  obtain ⟨p, i, j, rfl, hp, q⟩ := h
  refine ⟨_, (pss_cons (ps_if (PW.pt (pw_or (pt_not (pt_val (pe_callB (call_isiK' K) (by rfl) B.isinstance (by decide +kernel) (pa_cons (pv 0) (pa_cons (pe_bltn (v := .ty "tuple") (by rfl) B.tuple (by decide +kernel) rfl) pa_nil))))) (pw_or1 (pt_cmpR op_ne (pe_callB (call_lenK K) (by rfl) B.len (by decide +kernel) (pa_cons (pv 0) pa_nil)) pe_int (nomark _))))) (pss_one (ps_ret pe_bl)) pss_nil)
 (pss_one (ps_ret (pe_and (pe_fn h_law_whole (hr.mono (by decide)) (by rfl) (pa_cons (pe_ix (ix_tupK K) (pv 0) pe_int (fun _ _ => rfl)) pa_nil)) (pe_one (pe_fn h_law_whole (hr.mono (by decide)) (by rfl) (pa_cons (pe_ix (ix_tupK K) (pv 0) pe_int (fun _ _ => rfl)) pa_nil))))))), ?_⟩
  walk_at "sts"
  refine w_istS hp kb_tt ?_
  walk_at "sts"
  refine ⟨_, rfl, ?_⟩
  walk_at "sts"
  refine ⟨_, rfl, ?_⟩
  walk_at "sts"
  refine ⟨_, rfl, ?_⟩
  exact q
end

/-! ### ranges by two -/
theorem lc_rangeC {lo c : Int} {n : Nat} {g : TG} {tt : TT} {te : TE} {vs : List Nat} {σ : L2.St} {H1 : Hp} {D : Addr} {Qd : Hp → Prop} (Pv : Nat → Hp → Prop) (h0 : Pv 0 (upd H1 D (.lst [])))
    (hs : ∀ i H, i < n → Pv i H → g (.int (lo + (i : Nat) * c)) (wipe σ vs) H fun σ2 H2 => wipe σ2 vs = wipe σ vs ∧ tt σ2 H2 fun b H3 =>
      if b = true then te σ2 H3 fun y H4 => ∃ acc, H4 D = some (.lst acc) ∧ acc.length < sizeLine ∧ Pv (i + 1) (upd H4 D (.lst (acc ++ [y]))) else Pv (i + 1) H3) (hd : ∀ H, Pv n H → Qd H) :
    ∃ W : Nat → Nat → Hp → Prop, (∃ m, W 0 m (upd H1 D (.lst []))) ∧ ∀ i m H, W i m H →
      ((Itc lo c n).stop i H ∧ Qd H) ∨ ((Itc lo c n).go i H ∧ ∃ Nx : Hp → Prop, (∀ H', Nx H' → ∃ m', m' < m ∧ W (i + 1) m' H') ∧ ∀ x H', (Itc lo c n).yld i H x H' → g x (wipe σ vs) H' fun σ2 H2 => wipe σ2 vs = wipe σ vs ∧ tt σ2 H2 fun b H3 =>
        if b = true then te σ2 H3 fun y H4 => ∃ acc, H4 D = some (.lst acc) ∧ acc.length < sizeLine ∧ Nx (upd H4 D (.lst (acc ++ [y]))) else Nx H3) := by
  refine ⟨fun i m H => m = n - i ∧ i ≤ n ∧ Pv i H, ⟨n, by simp, Nat.zero_le _, h0⟩, ?_⟩
  rintro i m H ⟨rfl, hi, p⟩
  by_cases hlt : i < n
  · refine .inr ⟨hlt, Pv (i + 1), fun H' p' => ⟨n - (i + 1), by omega, rfl, hlt, p'⟩, fun x H' y => ?_⟩
    obtain ⟨e, y⟩ := y
    subst e y
    exact hs i _ hlt p
  · have e : i = n := by omega
    subst e
    exact .inl ⟨Nat.le_refl _, hd H p⟩
theorem rgcPos {i j c : Int} (hc : 0 < c) (hc2 : c < 1000000) (hi : 0 ≤ i) (hi2 : i < 1000000) (hj : 0 ≤ j) (hj2 : j < 1000000) : ∃ n : Nat, RgC i j c n ∧ n ≤ 1000000 ∧ ∀ t : Nat, t < n ↔ i + t * c < j := by
  obtain ⟨r, hr⟩ : ∃ r, Builtin.Range.rangeSize i j c = r := ⟨_, rfl⟩
  have h1 : r = if i < j then (j - i - 1) / c + 1 else 0 := by
    rw [← hr]
    unfold Builtin.Range.rangeSize
    rw [if_pos hc]
  have h2 : 0 ≤ r ∧ r ≤ 1000000 := by
    rw [h1]
    split
    · have a := Int.ediv_nonneg (show 0 ≤ j - i - 1 by omega) (show 0 ≤ c by omega)
      have b := Int.ediv_le_self c (show 0 ≤ j - i - 1 by omega)
      omega
    · omega
  refine ⟨r.toNat, ⟨by omega, by omega, ?_, by rw [hr]; omega⟩, by omega, fun t => ?_⟩
  · unfold Builtin.Range.small
    rw [hr]
    simp only [Builtin.Range.rangeFitsLong, Bool.and_eq_true, Bool.or_eq_true, decide_eq_true_eq, beq_iff_eq, if_pos hc]
    refine ⟨⟨⟨⟨⟨?_, ?_⟩, ⟨?_, ?_⟩⟩, ⟨?_, ?_⟩⟩, ⟨?_, ?_⟩⟩, .inr ⟨?_, ?_⟩⟩ <;> omega
  · by_cases h : i < j
    · rw [if_pos h] at h1
      have e : (t : Int) ≤ (j - i - 1) / c ↔ (t : Int) * c ≤ j - i - 1 := Int.le_ediv_iff_mul_le hc
      generalize (t : Int) * c = tc at e ⊢
      omega
    · rw [if_neg h] at h1
      have : 0 ≤ (t : Int) * c := Int.mul_nonneg (by omega) (by omega)
      omega

/-! ### the laws' strips -/
def Small (P : List Col) : Prop := ∀ i, (∀ z ∈ (colAt P i).ac, -(10 ^ 30) ≤ z ∧ z ≤ 10 ^ 30) ∧ ∀ z ∈ (colAt P i).al, -(10 ^ 30) ≤ z ∧ z ≤ 10 ^ 30
theorem paid_pos {z : Int} {a b : Bool} (h : z > 0) : paid z a b = if a = b then 0 else z := by
  unfold paid
  rw [decide_eq_false (show ¬ z < 0 by omega), show ((z.natAbs : Nat) : Int) = z by omega]
  cases a <;> cases b <;> rfl
theorem paid_neg {z : Int} {a b : Bool} (h : z < 0) : paid z a b = if a = b then 0 - z else 0 := by
  unfold paid
  rw [decide_eq_true h, show ((z.natAbs : Nat) : Int) = 0 - z by omega]
  cases a <;> cases b <;> rfl
theorem paid_zero {a b : Bool} : paid 0 a b = 0 := by
  unfold paid
  cases a <;> cases b <;> rfl
theorem sum_snocI (f : Nat → Int) (i : Nat) : ((List.range (i + 1)).map f).sum = ((List.range i).map f).sum + f i := by rw [range_snoc, List.sum_append, List.sum_cons, List.sum_nil, Int.add_zero]
section
variable {P : Program} {w : World} {K : PySem.W.Frag} {mg : Str → Option Value} {base : Heap} {C_Pull C_Push : Addr}
def spStr : Sp := fun vs H Q _ => ∃ (c : Int) (mode : Nat), vs = [.int c, .int mode] ∧ mode ≤ 2 ∧ ∀ z : Int, -(10 ^ 30) ≤ z → z ≤ 10 ^ 30 → Q (.int z) H
theorem ok_law_strength {f : Addr} {fd : FuncData} (F : Fun K "_law_strength" "_law_strength" s_law_strength f fd) (gf : mg "_law_strength" = some (.ref f)) (B : Bl mg) {C_Pull C_Push : Addr} (T : Txt K mg C_Pull C_Push) : Has P w K mg base CX0 1 "_law_strength" ["cell", "mode"] spStr := by
  refine Has.mk' F gf (F.binds (ps := ["cell", "mode"]) fun _ _ _ _ _ _ us hl => match us, hl with | [_, _], _ => rfl) sc_law_strength (by walk_at "len") (fun cdv A outer s H vs Q E hr h => ?_)
  obtain ⟨c, mode, rfl, hm, q⟩ := h
  have p30 : (10 : Int) ^ Int.toNat 30 = 10 ^ 30 := rfl
  refine ⟨_, (pss_cons (ps_if (pt_cmpR op_eq (pv 1) pe_int (nomark _)) (pss_one (ps_ret (pe_op op_sub (pe_op op_mod (pv 0) (pe_op op_add (pe_op op_mulX pe_int (pe_op op_pow pe_int pe_int)) pe_int)) (pe_op op_pow pe_int pe_int)))) pss_nil)
 (pss_one (ps_ret (pe_op op_sub (pe_op op_mod (pv 0) (pe_op op_add (pe_op op_mulX pe_int (pv 1)) pe_int)) (pv 1))))), ?_⟩
  walk_at "sts"
  refine ifd (fun hc => ?_) (fun hc => ?_)
  · walk_at "sts"
    rw [p30]
    exact q _ (by omega) (by omega)
  · walk_at "sts"
    have h1 : (0 : Int) < 2 * (mode : Int) + 1 := by omega
    have h2 := Int.emod_nonneg c (show 2 * (mode : Int) + 1 ≠ 0 by omega)
    have h3 := Int.emod_lt_of_pos c h1
    exact q _ (by omega) (by omega)
def spCopyP (K : PySem.W.Frag) : Sp := fun vs H Q _ => ∃ (p : Addr) (P : List Col), vs = [.ref p] ∧ Dp K H (.ref p) (dPat P) ∧ P.length ≤ 1000 ∧ ∀ r H', Same H H' → New H r → Dp K H' (.ref r) (dPat P) → Q (.ref r) H'
theorem ok_law_copy {f : Addr} {fd : FuncData} (F : Fun K "_law_copy" "_law_copy" s_law_copy f fd) (gf : mg "_law_copy" = some (.ref f)) (B : Bl mg) {C_Pull C_Push : Addr} (T : Txt K mg C_Pull C_Push) : Has P w K mg base CX0 1 "_law_copy" ["pattern"] (spCopyP K) := by
  refine Has.mk' F gf (F.binds (ps := ["pattern"]) fun _ _ _ _ _ _ us hl => match us, hl with | [_], _ => rfl) sc_law_copy (by walk_at "len") (fun cdv A outer s H vs Q E hr h => ?_)
  obtain ⟨p, P', rfl, hP, hl, q⟩ := h
  obtain ⟨xs, hxs, hxl, hxa⟩ := patAt hP
  refine ⟨_, (pss_one (ps_ret (pe_lc (own := [("column", 1)]) rfl sc_law_copy.nd (pi_listK K (pv 0)) (blkOk_by (own := [("column", 1)]) (N := ["pattern", "column"]) (sc := defScope s_law_copy) (by decide +kernel)) (fun _ _ _ _ _ => pg_name (i := 1) sc_law_copy.nd rfl (Or.inl rfl)) (fun _ _ _ _ _ => pts_nil) (fun _ _ _ _ _ => (pe_tup (pa_cons (pe_callTy (call_listK K) (by rfl) B.list (by decide +kernel) (pa_cons (pe_ix (ix_tupK K) (pv 1) pe_int (fun _ _ => rfl)) pa_nil)) (pa_cons (pe_callTy (call_listK K) (by rfl) B.list (by decide +kernel) (pa_cons (pe_ix (ix_tupK K) (pv 1) pe_int (fun _ _ => rfl)) pa_nil)) pa_nil))))))), ?_⟩
  walk_at "sts"
  intro D nD
  refine lc_list (xs := xs) (fun i H' => GrD K H' D ((P'.take i).map dCol) ∧ Same H H') ?_ ?_ ?_ ?_
  · exact ⟨GrD.new, same_upd nD⟩
  · rintro i H' _ ⟨_, s1⟩
    exact s1.seq hxs
  · rintro i v H' hv ⟨⟨ys, x1, x2⟩, s1⟩
    have hi : i < P'.length := by rw [← hxl]; exact (List.getElem?_eq_some_iff.mp hv).1
    obtain ⟨v', e1, hc⟩ := hxa i hi
    rw [hv] at e1
    cases e1
    obtain ⟨pc, pa, pb, rfl, c1, c2, c3⟩ := hc.same s1
    have hyl := dpaLen x2
    rw [List.length_map, List.length_take] at hyl
    walk_at "sts"
    refine w_new fun a1 na1 => ?_
    walk_at "sts"
    refine w_new fun a2 na2 => ?_
    walk_at "sts"
    refine w_new fun p3 np3 => ?_
    have t1 := same_upd (o := .lst ((colAt P' i).ac.map V.int)) na1
    have t2 := same_upd (o := .lst ((colAt P' i).al.map V.int)) na2
    have t3 := same_upd (o := .tup [.ref a1, .ref a2]) np3
    have t13 := t1.trans (t2.trans t3)
    have d1 : D ≠ a1 := ne_new x1 na1
    have d2 : D ≠ a2 := ne_new (t1 _ _ x1) na2
    have d3 : D ≠ p3 := ne_new (t2 _ _ (t1 _ _ x1)) np3
    refine ⟨ys, t13 _ _ x1, szlt (by omega), ?_, (s1.trans t13).mut nD⟩
    have et : (P'.take (i + 1)).map dCol = (P'.take i).map dCol ++ [dCol (colAt P' i)] := by
      rw [List.take_add_one, List.map_append]
      congr 1
      unfold colAt
      rw [List.getD_eq_getElem?_getD, List.getElem?_eq_getElem hi]
      rfl
    rw [et]
    refine GrD.push x2 t13 (colDp ⟨p3, a1, a2, rfl, SqT.of (wo_get upd_same (Ne.symm d3)), SqL.of (wo_get ?_ (Ne.symm d1)), SqL.of (wo_get ?_ (Ne.symm d2))⟩)
    · exact t3 _ _ (t2 _ _ upd_same)
    · exact t3 _ _ upd_same
  · rintro H' ⟨hG, s1⟩
    rw [hxl, List.take_length] at hG
    exact q D H' s1 nD hG.dp
def spPat (K : PySem.W.Frag) : Sp := fun vs H Q _ => ∃ (a : Addr) (ns : List Int) (rows period mode : Nat), vs = [.ref a, .int rows, .int period, .int mode] ∧ SqL K H a (ns.map V.int) ∧ ns.length ≤ 63 ∧ 1 ≤ rows ∧ rows ≤ 3 ∧ 1 ≤ period ∧ period ≤ 6 ∧ mode ≤ 2 ∧
  ∀ r H' P, Same H H' → New H r → Dp K H' (.ref r) (dPat P) → PatOk P rows → P.length = period → Small P → Q (.ref r) H'
theorem ok_law_pattern {f : Addr} {fd : FuncData} (F : Fun K "_law_pattern" "_law_pattern" s_law_pattern f fd) (gf : mg "_law_pattern" = some (.ref f)) (B : Bl mg) {C_Pull C_Push : Addr} (T : Txt K mg C_Pull C_Push) (h_law_strength : Has P w K mg base CX0 1 "_law_strength" ["cell", "mode"] spStr) : Has P w K mg base CX0 2 "_law_pattern" ["script", "rows", "period", "mode"] (spPat K) := by
  refine Has.mk' F gf (F.binds (ps := ["script", "rows", "period", "mode"]) fun _ _ _ _ _ _ us hl => match us, hl with | [_, _, _, _], _ => rfl) sc_law_pattern (by walk_at "len") (fun cdv A outer s H vs Q E hr h => ?_)
  obtain ⟨a, ns, rows, period, mode, rfl, hS, hl, hr0, hr1, hp0, hp1, hm, q⟩ := h
  obtain ⟨N, hN, hN0, hN1⟩ : ∃ N : Nat, (period : Int) * (2 * (rows : Int) - 1) = (N : Int) ∧ 1 ≤ N ∧ N ≤ 30 := by
    refine ⟨period * (2 * rows - 1), ?_, Nat.mul_pos (by omega) (by omega), Nat.mul_le_mul (show period ≤ 6 by omega) (show 2 * rows - 1 ≤ 5 by omega)⟩
    rw [Int.natCast_mul]
    congr 1
    omega
  have hlm : (ns.map V.int).length = ns.length := by simp
  obtain ⟨W, hW, hW1, hW5⟩ : ∃ W : Nat, 2 * (rows : Int) - 1 = (W : Int) ∧ W = 2 * rows - 1 ∧ 1 ≤ W := ⟨2 * rows - 1, by omega, rfl, by omega⟩
  have hNW : N = period * W := by
    rw [hW, ← Int.natCast_mul] at hN
    exact (Int.ofNat_inj.mp hN).symm
  refine ⟨_, (pss_cons (ps_set (i := 4) sc_law_pattern.nd rfl (.inl rfl) (pe_op op_mulX (pv 2) (pe_op op_sub (pe_op op_mulX pe_int (pv 1)) pe_int)))
 (pss_cons (ps_set (i := 5) sc_law_pattern.nd rfl (.inl rfl) (pe_lst pa_nil))
 (pss_cons (ps_for PassesOwn.never rfl (pi_range1 (by rfl) B.range (pa_cons (pv 4) pa_nil)) (pg_name (i := 6) sc_law_pattern.nd rfl (.inl rfl)) (pss_cons (ps_set (i := 7) sc_law_pattern.nd rfl (.inl rfl) (pe_callB (cr_sumK K rfl) (by rfl) B.sum (by decide +kernel) (pa_cons (pe_lc (own := [("j", 9)]) rfl sc_law_pattern.nd (pi_range3 (by rfl) B.range (pa_cons (pe_op op_add pe_int (pv 6)) (pa_cons (pe_callB (call_lenK K) (by rfl) B.len (by decide +kernel) (pa_cons (pv 0) pa_nil)) (pa_cons (pv 4) pa_nil)))) (blkOk_by (own := [("j", 9)]) (N := ["script", "rows", "period", "mode", "count", "told", "k", "cell", "pattern", "j"]) (sc := defScope s_law_pattern) (by decide +kernel)) (fun _ _ _ _ _ => pg_name (i := 9) sc_law_pattern.nd rfl (Or.inl rfl)) (fun _ _ _ _ _ => pts_nil) (fun _ _ _ _ _ => (pe_ix (ix_listK K) (pv 0) (pv 9) (fun _ _ => rfl)))) pa_nil)))
 (pss_one (ps_expr (pe_bmK K (pe_bm PySem.F.plainAttrs_list PySem.F.slot_list_append PySem.F.type_list_append mt_append (pv 5) (pa_cons (pe_fn h_law_strength (hr.mono (by decide)) (by rfl) (pa_cons (pv 7) (pa_cons (pv 3) pa_nil))) pa_nil)))))))
 (pss_cons (ps_set (i := 8) sc_law_pattern.nd rfl (.inl rfl) (pe_lst pa_nil))
 (pss_cons (ps_for PassesOwn.never rfl (pi_range3 (by rfl) B.range (pa_cons pe_int (pa_cons (pv 4) (pa_cons (pe_op op_sub (pe_op op_mulX pe_int (pv 1)) pe_int) pa_nil)))) (pg_name (i := 6) sc_law_pattern.nd rfl (.inl rfl)) (pss_one (ps_expr (pe_bmK K (pe_bm PySem.F.plainAttrs_list PySem.F.slot_list_append PySem.F.type_list_append mt_append (pv 8) (pa_cons (pe_tup (pa_cons (pe_slice (sl_listK K) (pv 5) (po_some (pv 6)) (po_some (pe_op op_sub (pe_op op_add (pv 6) (pv 1)) pe_int))) (pa_cons (pe_slice (sl_listK K) (pv 5) (po_some (pe_op op_sub (pe_op op_add (pv 6) (pv 1)) pe_int)) (po_some (pe_op op_sub (pe_op op_add (pv 6) (pe_op op_mulX pe_int (pv 1))) pe_int))) pa_nil))) pa_nil))))))
 (pss_one (ps_ret (pv 8)))))))), ?_⟩
  walk_at "sts"
  rw [hN]
  refine w_new fun F nF => ?_
  walk_at "sts"
  refine for_r0 (n := N) rfl (fun k σ H' => ∃ (ts : List Int) (y6 y7 y9 : Option V), σ = [some (.ref a), some (.int (rows : Nat)), some (.int (period : Nat)), some (.int (mode : Nat)), some (.int (N : Nat)), some (.ref F), y6, y7, none, y9] ∧ H' F = some (.lst (ts.map V.int)) ∧ ts.length = k ∧ (∀ z ∈ ts, -(10 ^ 30) ≤ z ∧ z ≤ 10 ^ 30) ∧ Same H H') ?_ ?_ ?_
  · exact ⟨[], _, _, _, rfl, upd_same, rfl, fun z hz => (by cases hz), same_upd nF⟩
  · rintro k σ H' hk ⟨ts, y6, y7, y9, rfl, l1, hts, hb, s1⟩
    obtain ⟨n, hRg, hn, hin⟩ := rgcPos (i := 1 + (k : Int)) (j := (ns.length : Int)) (c := (N : Int)) (by omega) (by omega) (by omega) (by omega) (by omega) (by omega)
    have hn100 : n ≤ 100 := Nat.le_of_not_lt fun hlt => by
      have h2 := (hin 100).mp hlt
      have : (100 : Int) * (1 : Int) ≤ (100 : Nat) * (N : Int) := Int.mul_le_mul_of_nonneg_left (by omega) (by omega)
      omega
    have hS1 := s1.seq hS
    walk_at "sts"
    rw [hlm]
    refine ⟨_, _, _, _, rfl, hRg, fun D nD => ?_⟩
    have hFD : F ≠ D := ne_new l1 nD
    refine lc_rangeC (fun t H2 => ∃ cs : List Int, H2 D = some (.lst (cs.map V.int)) ∧ cs.length = t ∧ Same H' H2) ?_ ?_ ?_
    · exact ⟨[], upd_same, rfl, same_upd nD⟩
    · rintro t H2 ht ⟨cs, c1, c2, s2⟩
      have hlt := (hin t).mp ht
      have eN : 1 + (k : Int) + (t : Int) * (N : Int) = ((1 + k + t * N : Nat) : Int) := by rw [Int.natCast_add, Int.natCast_mul, Int.natCast_add]; rfl
      rw [eN] at hlt ⊢
      have e5 := ints_at (l := ns) (i := 1 + k + t * N) (by omega)
      have hS2 := s2.seq hS1
      walk_at "sts"
      refine ⟨_, c1, szlt (by simp; omega), cs ++ [ns.getD (1 + k + t * N) 0], ?_, by simp [c2], s2.mut nD⟩
      rw [upd_same, List.map_append]
      rfl
    · rintro H2 ⟨cs, c1, c2, s2⟩
      walk_at "sts"
      refine ⟨D, cs, rfl, SqL.of c1, ?_⟩
      have l2 := s2 _ _ l1
      walk_at "sts"
      refine ⟨_, mode, rfl, hm, fun z hz1 hz2 => ?_⟩
      walk_at "sts"
      refine ⟨ts ++ [z], _, _, _, rfl, ?_, by simp [hts], fun y hy => ?_, (s1.trans s2).mut nF⟩
      · rw [upd_same, List.map_append]
        rfl
      · rcases List.mem_append.mp hy with hy | hy
        · exact hb y hy
        · rw [List.mem_singleton.mp hy]; exact ⟨hz1, hz2⟩
  rintro σ H1 ⟨ts, y6, y7, y9, rfl, l1, hts, hb, s1⟩
  walk_at "sts"
  refine w_new fun G nG => ?_
  have hFG : F ≠ G := ne_new l1 nG
  obtain ⟨n, hRg, hn, hin⟩ := rgcPos (i := 0) (j := (N : Int)) (c := (W : Int)) (by omega) (by omega) (by omega) (by omega) (by omega) (by omega)
  have hin2 : ∀ t : Nat, t < n ↔ t * W < period * W := fun t => by
    have := hin t
    rw [Int.zero_add, ← Int.natCast_mul, hNW] at this
    rw [this]
    omega
  have hnp : n = period := by
    have h1 : ¬ period < n := fun h => Nat.lt_irrefl _ ((hin2 period).mp h)
    have h2 : ¬ n < period := fun h => Nat.lt_irrefl _ ((hin2 n).mpr (Nat.mul_lt_mul_of_pos_right h (by omega)))
    omega
  subst hnp
  have l2 : upd H1 G (.lst []) F = some (.lst (ts.map V.int)) := by rw [upd_ne hFG]; exact l1
  have nGH : New H G := nG.of s1
  walk_at "sts"
  rw [hW]
  refine ⟨_, _, _, _, rfl, hRg, ?_⟩
  refine for_rangeC (fun t σ H' => ∃ (P : List Col) (y6 y7 y9 : Option V), σ = [some (.ref a), some (.int (rows : Nat)), some (.int (n : Nat)), some (.int (mode : Nat)), some (.int (N : Nat)), some (.ref F), y6, y7, some (.ref G), y9] ∧ H' F = some (.lst (ts.map V.int)) ∧ GrD K H' G (P.map dCol) ∧ P.length = t ∧ (∀ c ∈ P, c.al.length = rows ∧ c.ac.length + 1 = rows ∧ (∀ z ∈ c.ac, -(10 ^ 30) ≤ z ∧ z ≤ 10 ^ 30) ∧ ∀ z ∈ c.al, -(10 ^ 30) ≤ z ∧ z ≤ 10 ^ 30) ∧ Same H H') ?_ ?_ ?_
  · exact ⟨[], _, _, _, rfl, l2, GrD.new, rfl, fun c hc => (by cases hc), (s1.trans (same_upd nG))⟩
  · rintro t σ H' ht ⟨P', y6, y7, y9, rfl, l3, ⟨xs, x1, x2⟩, hPl, hPc, s3⟩
    have hxl := dpaLen x2
    rw [List.length_map] at hxl
    have htW : (t + 1) * W ≤ N := by rw [hNW]; exact Nat.mul_le_mul_right _ (by omega)
    rw [Nat.add_mul, Nat.one_mul] at htW
    rw [Int.zero_add, ← Int.natCast_mul]
    generalize t * W = k at htW
    walk_at "sts"
    refine w_new fun p1 np1 => ?_
    rw [show (k : Int) + (rows : Int) - 1 = ((k + rows - 1 : Nat) : Int) by omega, cutV_nat]
    have d1 : G ≠ p1 := ne_new x1 np1
    have f1 : F ≠ p1 := ne_new l3 np1
    walk_at "sts"
    refine w_new fun p2 np2 => ?_
    rw [show (k : Int) + (rows : Int) - 1 = ((k + rows - 1 : Nat) : Int) by omega, show (k : Int) + 2 * (rows : Int) - 1 = ((k + 2 * rows - 1 : Nat) : Int) by omega, cutV_nat]
    walk_at "sts"
    refine w_new fun p3 np3 => ?_
    rw [← List.map_drop, ← List.map_drop, ← List.map_take, ← List.map_take, show k + rows - 1 - k = rows - 1 by omega, show k + 2 * rows - 1 - (k + rows - 1) = rows by omega] at np3 ⊢
    rw [← List.map_drop, ← List.map_take, show k + rows - 1 - k = rows - 1 by omega] at np2
    have hac : ((ts.drop k).take (rows - 1)).length + 1 = rows := by rw [List.length_take, List.length_drop]; omega
    have hal : ((ts.drop (k + rows - 1)).take rows).length = rows := by rw [List.length_take, List.length_drop]; omega
    have hbc : ∀ z ∈ (ts.drop k).take (rows - 1), -(10 ^ 30) ≤ z ∧ z ≤ 10 ^ 30 := fun z hz => hb z (List.mem_of_mem_drop (List.mem_of_mem_take hz))
    have hbl : ∀ z ∈ (ts.drop (k + rows - 1)).take rows, -(10 ^ 30) ≤ z ∧ z ≤ 10 ^ 30 := fun z hz => hb z (List.mem_of_mem_drop (List.mem_of_mem_take hz))
    generalize (ts.drop k).take (rows - 1) = ac at np2 np3 hac hbc ⊢
    generalize (ts.drop (k + rows - 1)).take rows = al at np3 hal hbl ⊢
    have t1 := same_upd (o := .lst (ac.map V.int)) np1
    have t2 := same_upd (o := .lst (al.map V.int)) np2
    have t3 := same_upd (o := .tup [.ref p1, .ref p2]) np3
    have t13 := t1.trans (t2.trans t3)
    have d2 : G ≠ p2 := ne_new (t1 _ _ x1) np2
    have d3 : G ≠ p3 := ne_new (t2 _ _ (t1 _ _ x1)) np3
    have x1' := t13 _ _ x1
    have hl3' := t13 _ _ l3
    have hsz : xs.length < sizeLine := szlt (by omega)
    have hcol : ColAt K (wo (upd (upd (upd H' p1 (.lst (ac.map V.int))) p2 (.lst (al.map V.int))) p3 (.tup [.ref p1, .ref p2])) G) (.ref p3) ⟨ac, al⟩ := by
      refine ⟨p3, p1, p2, rfl, SqT.of (wo_get upd_same (Ne.symm d3)), SqL.of (wo_get ?_ (Ne.symm d1)), SqL.of (wo_get ?_ (Ne.symm d2))⟩
      · exact t3 _ _ (t2 _ _ upd_same)
      · exact t3 _ _ upd_same
    generalize upd (upd (upd H' p1 (.lst (ac.map V.int))) p2 (.lst (al.map V.int))) p3 (.tup [.ref p1, .ref p2]) = H5 at t13 x1' hl3' hcol ⊢
    walk_at "sts"
    refine ⟨P' ++ [⟨ac, al⟩], _, _, _, rfl, by rw [upd_ne hFG]; exact hl3', ?_, by simp [hPl], fun c hc => ?_, (s3.trans t13).mut nGH⟩
    · rw [List.map_append]
      exact GrD.push x2 t13 (colDp hcol)
    · rcases List.mem_append.mp hc with hc | hc
      · exact hPc c hc
      · rw [List.mem_singleton.mp hc]
        exact ⟨hal, hac, hbc, hbl⟩
  · rintro σ H' ⟨P', y6, y7, y9, rfl, l3, hG, hPl, hPc, s3⟩
    walk_at "sts"
    have hmem : ∀ i, i < P'.length → colAt P' i ∈ P' := fun i hi => by
      unfold colAt
      rw [List.getD_eq_getElem?_getD, List.getElem?_eq_getElem hi]
      exact List.getElem_mem hi
    refine q G H' P' s3 nGH hG.dp ⟨by omega, by omega, hr0, hr1, fun i hi => (hPc _ (hmem i hi)).1, fun i hi => (hPc _ (hmem i hi)).2.1⟩ hPl fun i => ?_
    by_cases hi : i < P'.length
    · exact ⟨(hPc _ (hmem i hi)).2.2.1, (hPc _ (hmem i hi)).2.2.2⟩
    · have e : colAt P' i = ⟨[], []⟩ := by
        unfold colAt
        rw [List.getD_eq_getElem?_getD, List.getElem?_eq_none (by omega)]
        rfl
      rw [e]
      exact ⟨fun z hz => (by cases hz), fun z hz => (by cases hz)⟩
end

section
variable {P : Program} {w : World} {K : PySem.W.Frag} {mg : Str → Option Value} {base : Heap} {C_Pull C_Push : Addr}
theorem paid_bd {z : Int} {a b : Bool} (h1 : -(10 ^ 30) ≤ z) (h2 : z ≤ 10 ^ 30) : 0 ≤ paid z a b ∧ paid z a b ≤ 10 ^ 30 := by
  have p30 : (10 : Int) ^ 30 = 1000000000000000000000000000000 := by decide
  rw [p30] at *
  unfold paid
  split <;> omega
theorem sum_bd {f : Nat → Int} {B : Int} : ∀ {m : Nat}, (∀ r, r < m → 0 ≤ f r ∧ f r ≤ B) → 0 ≤ ((List.range m).map f).sum ∧ ((List.range m).map f).sum ≤ m * B
  | 0, _ => by simp
  | m + 1, h => by
    have ih := sum_bd (m := m) fun r hr => h r (by omega)
    have hm := h m (by omega)
    rw [List.range_succ, List.map_append, List.sum_append]
    have : ((m + 1 : Nat) : Int) * B = m * B + B := by rw [Int.natCast_add, Int.add_mul]; simp
    simp only [List.map_cons, List.map_nil, List.sum_cons, List.sum_nil]
    omega
theorem col_bd {P : List Col} {rows : Nat} (ok : PatOk P rows) (hs : Small P) {i : Nat} (hi : i < P.length) (s t : Nat) : 0 ≤ (colT (colAt P i) s t).1 ∧ (colT (colAt P i) s t).1 ≤ 10 ^ 31 := by
  have h1 := ok.al i hi
  have h2 := ok.ac i hi
  have h3 := ok.r1
  obtain ⟨hc, hl⟩ := hs i
  have p30 : (10 : Int) ^ 30 = 1000000000000000000000000000000 := by decide
  have p31 : (10 : Int) ^ 31 = 10000000000000000000000000000000 := by decide
  have gm : ∀ {l : List Int} {r : Nat}, r < l.length → l.getD r 0 ∈ l := fun {l r} hr => by rw [List.getD_eq_getElem?_getD, List.getElem?_eq_getElem hr]; exact List.getElem_mem hr
  have a1 : 0 ≤ acP (colAt P i) s ∧ acP (colAt P i) s ≤ ((colAt P i).ac.length : Nat) * 10 ^ 30 := sum_bd fun r hr => paid_bd (hc _ (gm hr)).1 (hc _ (gm hr)).2
  have a2 : 0 ≤ alP (colAt P i) s t ∧ alP (colAt P i) s t ≤ ((colAt P i).al.length : Nat) * 10 ^ 30 := sum_bd fun r hr => paid_bd (hl _ (gm hr)).1 (hl _ (gm hr)).2
  show 0 ≤ acP (colAt P i) s + alP (colAt P i) s t ∧ acP (colAt P i) s + alP (colAt P i) s t ≤ 10 ^ 31
  rw [p30] at a1 a2
  rw [p31]
  have e1 : (colAt P i).ac.length ≤ 2 := by omega
  have e2 : (colAt P i).al.length ≤ 3 := by omega
  omega
theorem step_bd {P : List Col} {rows n : Nat} (ok : PatOk P rows) (hs : Small P) : ∀ k, k < P.length → ∀ s t, 0 ≤ (stepE n P k s t).1 ∧ (stepE n P k s t).1 ≤ ((k + 1 : Nat) : Int) * 10 ^ 31
  | 0, hk, s, t => by
    have := col_bd ok hs hk s t
    show 0 ≤ (colT (colAt P 0) s t).1 ∧ (colT (colAt P 0) s t).1 ≤ ((0 + 1 : Nat) : Int) * 10 ^ 31
    omega
  | k + 1, hk, s, t => by
    obtain ⟨j, hj, e⟩ := csm_at (fun u => cmu (stepE n P k s u) (colT (colAt P (k + 1)) u t)) n
    have h1 := step_bd (n := n) ok hs k (by omega) s j
    have h2 := col_bd ok hs hk j t
    have e2 : (stepE n P (k + 1) s t).1 = (stepE n P k s j).1 + (colT (colAt P (k + 1)) j t).1 := e.symm
    rw [e2]
    omega
/-- the costs of a pattern's steps -/
def cP (n : Nat) (P : List Col) (s t : Nat) : Int := (stepE n P (P.length - 1) s t).1
theorem cP_bd {P : List Col} {rows n : Nat} (ok : PatOk P rows) (hs : Small P) (s t : Nat) : 0 ≤ cP n P s t ∧ cP n P s t ≤ 2 ^ 140 := by
  have h0 := ok.l0
  have h1 := ok.l1
  have := step_bd (n := n) ok hs (P.length - 1) (by omega) s t
  have p31 : (10 : Int) ^ 31 = 10000000000000000000000000000000 := by decide
  have p140 : (2 : Int) ^ 140 = 1393796574908163946345982392040522594123776 := by decide
  rw [p31] at this
  unfold cP
  rw [p140]
  omega
def spLong (K : PySem.W.Frag) : Sp := fun vs H Q _ => ∃ (p : Addr) (P : List Col) (rows n : Nat), vs = [.ref p] ∧ Dp K H (.ref p) (dPat P) ∧ PatOk P rows ∧ Small P ∧ n + 1 = 2 ^ rows ∧
  ∀ r H' (a : Int) (b : Nat) pl ps L, Same H H' → New H r → H' r = some (.tup [.int a, .int (b : Nat), .ref pl, .ref ps]) → AvgOk (cP n P) n a b → Nat.gcd a.natAbs b = 1 → -(2 ^ 150) ≤ a → a ≤ 2 ^ 150 → b ≤ 101 →
    H' pl = some (.lst (iv L)) → LoopOk (tgW (cP n P) n a b) n L → H' ps = some (.lst ((rowI (hW (ovW (cP n P) a b) n (n + 1)) (n + 1)).map V.int)) → Q (.ref r) H'
theorem ok_long_run {f : Addr} {fd : FuncData} (F : Fun K "long_run" "long_run" s_long_run f fd) (gf : mg "long_run" = some (.ref f)) (B : Bl mg) {C_Pull C_Push : Addr} (T : Txt K mg C_Pull C_Push) (h_lowest_average : Has P w K mg base CX0 3 "lowest_average" ["costs"] (spLowAvg K)) (h_slopes_of : Has P w K mg base CX0 2 "slopes_of" ["costs", "top", "bottom"] (spSlopes K)) (h_lows_of : Has P w K mg base CX0 1 "lows_of" ["row"] (spLows K)) (h_loop_of : Has P w K mg base CX0 1 "loop_of" ["tight"] (spLoop K)) (h_step_table : Has P w K mg base CX0 6 "step_table" ["pattern"] (spStepT K)) : Has P w K mg base CX0 7 "long_run" ["pattern"] (spLong K) := by
  refine Has.mk' F gf (F.binds (ps := ["pattern"]) fun _ _ _ _ _ _ us hl => match us, hl with | [_], _ => rfl) sc_long_run (by walk_at "len") (fun cdv A outer s H vs Q E hr h => ?_)
  obtain ⟨p, P', rows, n, rfl, hP, hok, hsm, hn, q⟩ := h
  have hn2 : n + 1 ≤ 8 := by rw [hn]; exact Nat.le_trans (Nat.pow_le_pow_right (by decide) hok.r1) (by decide)
  have hcb : ∀ u v, u ≤ n → v ≤ n → 0 ≤ cP n P' u v ∧ cP n P' u v ≤ 2 ^ 140 := fun u v _ _ => cP_bd hok hsm u v
  have p140 : (2 : Int) ^ 140 = 1393796574908163946345982392040522594123776 := by decide
  have p150 : (2 : Int) ^ 150 = 1427247692705959881058285969449495136382746624 := by decide
  refine ⟨_, (pss_cons (ps_setLc (i := 2) (own := [("row", 1)]) rfl sc_long_run.nd rfl rfl (sw_true rfl rfl rfl (by decide +kernel)) (pi_listK K (pe_fn h_step_table (hr.mono (by decide)) (by rfl) (pa_cons (pv 0) pa_nil))) (blkOk_by (own := [("row", 1)]) (N := ["pattern", "row", "costs", "top", "bottom", "slopes", "tight", "start", "goal"]) (sc := defScope s_long_run) (by decide +kernel)) (fun _ _ _ _ _ => pg_name (i := 1) sc_long_run.nd rfl (Or.inl rfl)) (fun _ _ _ _ _ => pts_nil) (fun _ _ _ _ _ => (pe_fn h_lows_of (hr.mono (by decide)) (by rfl) (pa_cons (pv 1) pa_nil))))
 (pss_cons (ps_asg (pe_fn h_lowest_average (hr.mono (by decide)) (by rfl) (pa_cons (pv 2) pa_nil)) (pg_tupK K rfl (pgs_cons (pg_name (i := 3) sc_long_run.nd rfl (.inr rfl)) (pgs_cons (pg_name (i := 4) sc_long_run.nd rfl (.inr rfl)) pgs_nil))))
 (pss_cons (ps_set (i := 5) sc_long_run.nd rfl (.inr rfl) (pe_fn h_slopes_of (hr.mono (by decide)) (by rfl) (pa_cons (pv 2) (pa_cons (pv 3) (pa_cons (pv 4) pa_nil)))))
 (pss_cons (ps_set (i := 6) sc_long_run.nd rfl (.inl rfl) (pe_lst pa_nil))
 (pss_cons (ps_for PassesOwn.never rfl (pi_range1 (by rfl) B.range (pa_cons (pe_callB (call_lenK K) (by rfl) B.len (by decide +kernel) (pa_cons (pv 2) pa_nil)) pa_nil)) (pg_name (i := 7) sc_long_run.nd rfl (.inr rfl)) (pss_cons (ps_set (i := 1) sc_long_run.nd rfl (.inr rfl) (pe_ix (ix_listK K) (pv 2) (pv 7) (fun _ _ => rfl)))
 (pss_one (ps_expr (pe_bmK K (pe_bm PySem.F.plainAttrs_list PySem.F.slot_list_append PySem.F.type_list_append mt_append (pv 6) (pa_cons (pe_lc (own := [("goal", 8)]) rfl sc_long_run.nd (pi_range1 (by rfl) B.range (pa_cons (pe_callB (call_lenK K) (by rfl) B.len (by decide +kernel) (pa_cons (pv 1) pa_nil)) pa_nil)) (blkOk_by (own := [("goal", 8)]) (N := ["pattern", "row", "costs", "top", "bottom", "slopes", "tight", "start", "goal"]) (sc := defScope s_long_run) (by decide +kernel)) (fun _ _ _ _ _ => pg_name (i := 8) sc_long_run.nd rfl (Or.inl rfl)) (fun _ _ _ _ _ => pts_nil) (fun _ _ _ _ _ => (pe_cmpR op_eq (pe_op op_sub (pe_op op_add (pe_op op_mulX (pv 4) (pe_ix (ix_listK K) (pv 1) (pv 8) (fun _ _ => rfl))) (pe_ix (ix_listK K) (pv 5) (pv 7) (fun _ _ => rfl))) (pe_ix (ix_listK K) (pv 5) (pv 8) (fun _ _ => rfl))) (pv 3) (nomark _)))) pa_nil)))))))
 (pss_one (ps_ret (pe_tup (pa_cons (pv 3) (pa_cons (pv 4) (pa_cons (pe_fn h_loop_of (hr.mono (by decide)) (by rfl) (pa_cons (pv 6) pa_nil)) (pa_cons (pv 5) pa_nil)))))))))))), ?_⟩
  walk_at "sts"
  refine ⟨p, P', rows, n, rfl, hP, hok, hn, fun pt H1 s1 n1 hTab => ?_⟩
  obtain ⟨xs, hxs, hxl, hxa⟩ := tabAt hTab.dp
  walk_at "sts"
  intro D nD
  refine lc_list (K := K) (xs := xs) (fun i H' => GrD K H' D ((List.range i).map fun k => dInts (rowI (cP n P' k) (n + 1))) ∧ Same H1 H') ?_ ?_ ?_ ?_
  · exact ⟨GrD.new, same_upd nD⟩
  · rintro i H' _ ⟨_, s2⟩
    exact s2.seq hxs
  · rintro i v H' hv ⟨⟨zs, x1, x2⟩, s2⟩
    have hi : i < n + 1 := by rw [← hxl]; exact (List.getElem?_eq_some_iff.mp hv).1
    obtain ⟨pr, e1, e2⟩ := hxa i hi
    rw [hv] at e1
    cases e1
    have hzl := dpaLen x2
    rw [List.length_map, List.length_range] at hzl
    walk_at "sts"
    refine ⟨pr, _, n + 1, rfl, e2.same s2, by omega, fun r H3 s3 n3 hr => ?_⟩
    have hDr : D ≠ r := ne_new x1 n3
    refine ⟨zs, s3 _ _ x1, szlt (by omega), ?_, (s2.trans s3).mut nD⟩
    rw [List.range_succ, List.map_append]
    exact GrD.push x2 s3 (dpIntsL (SqL.of (wo_get hr (Ne.symm hDr))))
  rintro H2 ⟨hG, s2⟩
  rw [hxl] at hG
  have hM : Dp K H2 (.ref D) (dMat (cP n P') (n + 1) (n + 1)) := hG.dp
  obtain ⟨ys, hys, hyl, hya⟩ := matAt hM
  walk_at "sts"
  refine ⟨D, cP n P', n, rfl, hM, by omega, hcb, fun pq H3 a b s3 n3 hpq hav hgc ha1 ha2 hb => ?_⟩
  have hpqs := SqT.of (K := K) hpq
  walk_at "sts"
  refine ⟨D, cP n P', n, b, a, rfl, hM.same s3, by omega, hcb, hb, fun ph H4 s4 n4 hh => ?_⟩
  have s24 := s3.trans s4
  walk_at "sts"
  refine w_new fun F nF => ?_
  have t5 := same_upd (o := .lst ([] : List V)) nF
  have G5 : GrD K (upd H4 F (.lst [])) F ((List.range 0).map fun i => PyData.list ((rowB (tgW (cP n P') n a b i) (n + 1)).map PyData.bool)) := GrD.new
  generalize upd H4 F (.lst []) = H5 at t5 G5 ⊢
  have hys5 := (s24.trans t5).seq hys
  walk_at "sts"
  rw [hyl]
  refine for_r0 (n := n + 1) rfl (fun i σ' H' => ∃ (y1 y7 : Option V), σ' = [some (.ref p), y1, some (.ref D), some (.int a), some (.int (b : Nat)), some (.ref ph), some (.ref F), y7, none] ∧ Same H4 H' ∧ GrD K H' F ((List.range i).map fun i => PyData.list ((rowB (tgW (cP n P') n a b i) (n + 1)).map PyData.bool))) ?_ ?_ ?_
  · exact ⟨_, _, rfl, t5, G5⟩
  · rintro i σ' H' hi ⟨y1, y7, rfl, s6, zs, x1, x2⟩
    have hzl := dpaLen x2
    rw [List.length_map, List.length_range] at hzl
    obtain ⟨pr, e1, e2⟩ := hya i (by omega)
    have hys6 := (s24.trans s6).seq hys
    have e6 := (s24.trans s6).seq e2
    walk_at "sts"
    rw [rowI_lenV]
    refine ⟨by omega, by omega, ?_⟩
    intro D1 nD1
    have hFD : F ≠ D1 := ne_new x1 nD1
    refine lc_r0 (n := n + 1) rfl (fun j H7 => H7 D1 = some (.lst ((rowB (tgW (cP n P') n a b i) j).map V.bl)) ∧ Same H' H7) ?_ ?_ ?_
    · exact ⟨upd_same, same_upd nD1⟩
    · rintro j H7 hj ⟨l7, s7⟩
      have c1 := rowI_at (cP n P' i) hj
      have c2 := rowI_at (hW (ovW (cP n P') a b) n (n + 1)) hi
      have c3 := rowI_at (hW (ovW (cP n P') a b) n (n + 1)) hj
      have l8 := s7.seq e6
      have l9 := SqL.of (K := K) ((s6.trans s7) _ _ hh)
      have hbd := hcb i j (by omega) (by omega)
      rw [p140] at hbd
      walk_at "sts"
      refine ⟨_, l7, szlt (by rw [List.length_map]; unfold rowB; rw [List.length_map, List.length_range]; omega), ?_, s7.mut nD1⟩
      rw [upd_same]
      unfold rowB
      rw [List.range_succ, List.map_append, List.map_append]
      rfl
    · rintro H7 ⟨l7, s7⟩
      have x7 := s7 _ _ x1
      have hsz : zs.length < sizeLine := szlt (by omega)
      walk_at "sts"
      refine ⟨_, _, rfl, (s6.trans s7).mut nF, ?_⟩
      rw [List.range_succ, List.map_append]
      exact GrD.push x2 s7 (.lst (SqL.of (wo_get l7 (Ne.symm hFD))) (dpBools _))
  · rintro σ' H' ⟨y1, y7, rfl, s6, hG6⟩
    walk_at "sts"
    refine ⟨F, tgW (cP n P') n a b, n, rfl, hG6.dp, by omega, hav.live, fun r H8 L s8 n8 hr hL => ?_⟩
    walk_at "sts"
    refine w_new fun pf npf => ?_
    have s48 := s6.trans s8
    have tf := same_upd (o := .tup [.int a, .int (b : Nat), .ref r, .ref ph]) npf
    have sAll := s1.trans (s2.trans (s24.trans s48))
    exact q pf _ a b r ph L (sAll.trans tf) (npf.of sAll) upd_same hav hgc ha1 ha2 hb (tf _ _ hr) hL (tf _ _ (s48 _ _ hh))
end

/-! ### strips near a line -/
/-- the least worth of N repeats ahead of a column -/
def rW (n : Nat) (P : List Col) (N t : Nat) : Int := (vec n P (P.length * N) t).1
section
variable {P : List Col} {rows n : Nat}
theorem rW_zero (t : Nat) : rW n P 0 t = 0 := rfl
theorem rW_sum (h0 : 0 < P.length) (N t : Nat) : vec n P (P.length * (N + 1)) t = csm (fun s => cmu (vec n P (P.length * N) s) (stepE n P (P.length - 1) s t)) n := by
  have h := vec_step n P (j := P.length * N) (Nat.mul_mod_right _ _) (P.length - 1) (by omega) t
  rw [← h]
  congr 1
  rw [Nat.mul_succ]
  omega
theorem rW_le (h0 : 0 < P.length) {N s t : Nat} (hs : s ≤ n) : rW n P (N + 1) t ≤ rW n P N s + cP n P s t := by
  unfold rW
  rw [rW_sum h0]
  exact csm_le (fun s => cmu (vec n P (P.length * N) s) (stepE n P (P.length - 1) s t)) n s hs
theorem rW_ex (h0 : 0 < P.length) (N t : Nat) : ∃ s, s ≤ n ∧ rW n P (N + 1) t = rW n P N s + cP n P s t := by
  obtain ⟨s, hs, e⟩ := csm_at (fun s => cmu (vec n P (P.length * N) s) (stepE n P (P.length - 1) s t)) n
  refine ⟨s, hs, ?_⟩
  unfold rW
  rw [rW_sum h0]
  exact e.symm
theorem tot_le (N : Nat) {t : Nat} (ht : t ≤ n) : (total n P (P.length * N)).1 ≤ rW n P N t + acP (colAt P 0) t := by
  have := csm_le (fun t => cmu (vec n P (P.length * N) t) (acP (colAt P (P.length * N % P.length)) t, 1)) n t ht
  rw [Nat.mul_mod_right] at this
  unfold total
  rw [Nat.mul_mod_right]
  exact this
theorem tot_ex (N : Nat) : ∃ t, t ≤ n ∧ (total n P (P.length * N)).1 = rW n P N t + acP (colAt P 0) t := by
  obtain ⟨t, ht, e⟩ := csm_at (fun t => cmu (vec n P (P.length * N) t) (acP (colAt P (P.length * N % P.length)) t, 1)) n
  refine ⟨t, ht, ?_⟩
  unfold total
  rw [← e, Nat.mul_mod_right]
  rfl
theorem abs_sum_le {l : List Int} {f : Nat → Int} (hf : ∀ r, r < l.length → 0 ≤ f r ∧ f r ≤ (((l.getD r 0).natAbs : Nat) : Int)) : ∀ m, m ≤ l.length → 0 ≤ ((List.range m).map f).sum ∧ ((List.range m).map f).sum ≤ ((l.take m).map fun z => ((z.natAbs : Nat) : Int)).sum
  | 0, _ => by simp
  | m + 1, h => by
    have ih := abs_sum_le hf m (by omega)
    have hm := hf m (by omega)
    have e : l.take (m + 1) = l.take m ++ [l.getD m 0] := by
      rw [List.take_add_one, List.getD_eq_getElem?_getD, List.getElem?_eq_getElem (show m < l.length by omega)]
      rfl
    rw [List.range_succ, List.map_append, List.sum_append, e, List.map_append, List.sum_append]
    simp only [List.map_cons, List.map_nil, List.sum_cons, List.sum_nil]
    omega
/-- the strengths across a column, all in sum -/
def absS (l : List Int) : Int := (l.map fun z => ((z.natAbs : Nat) : Int)).sum
theorem ac_bd (c : Col) (s : Nat) : 0 ≤ acP c s ∧ acP c s ≤ absS c.ac := by
  have h := abs_sum_le (l := c.ac) (f := fun r => paid (c.ac.getD r 0) (s.testBit r) (s.testBit (r + 1))) (fun r _ => by unfold paid; split <;> omega) c.ac.length (Nat.le_refl _)
  rw [List.take_length] at h
  exact h
theorem al_nn (c : Col) (s t : Nat) : 0 ≤ alP c s t := (abs_sum_le (l := c.al) (f := fun r => paid (c.al.getD r 0) (s.testBit r) (t.testBit r)) (fun r _ => by unfold paid; split <;> omega) c.al.length (Nat.le_refl _)).1
theorem step_ac (n : Nat) (P : List Col) : ∀ k s t, acP (colAt P 0) s ≤ (stepE n P k s t).1
  | 0, s, t => by
    have := al_nn (colAt P 0) s t
    show acP (colAt P 0) s ≤ acP (colAt P 0) s + alP (colAt P 0) s t
    omega
  | k + 1, s, t => by
    obtain ⟨j, hj, e⟩ := csm_at (fun u => cmu (stepE n P k s u) (colT (colAt P (k + 1)) u t)) n
    have h1 := step_ac n P k s j
    have h2 := (ac_bd (colAt P (k + 1)) j).1
    have h3 := al_nn (colAt P (k + 1)) j t
    have e2 : (stepE n P (k + 1) s t).1 = (stepE n P k s j).1 + (acP (colAt P (k + 1)) j + alP (colAt P (k + 1)) j t) := e.symm
    omega
/-- a longer strip's least worth is no less -/
theorem tot_mono (h0 : 0 < P.length) (N : Nat) : (total n P (P.length * N)).1 ≤ (total n P (P.length * (N + 1))).1 := by
  obtain ⟨t, ht, e⟩ := tot_ex (n := n) (P := P) (N + 1)
  obtain ⟨s, hs, e2⟩ := rW_ex (n := n) h0 N t
  have h1 := tot_le (n := n) (P := P) N hs
  have h2 : acP (colAt P 0) s ≤ cP n P s t := step_ac n P (P.length - 1) s t
  have h3 := (ac_bd (colAt P 0) t).1
  omega
theorem tot_bd (h0 : 0 < P.length) {B : Int} (hb : ∀ s t, 0 ≤ cP n P s t ∧ cP n P s t ≤ B) (N : Nat) : 0 ≤ (total n P (P.length * N)).1 ∧ (total n P (P.length * N)).1 ≤ N * B + absS (colAt P 0).ac := by
  have hr : ∀ N t, 0 ≤ rW n P N t ∧ rW n P N t ≤ N * B := by
    intro N
    induction N with
    | zero => intro t; rw [rW_zero]; simp
    | succ N ih =>
      intro t
      obtain ⟨s, hs, e⟩ := rW_ex (n := n) h0 N t
      have h1 := ih s
      have h2 := hb s t
      have e2 : ((N + 1 : Nat) : Int) * B = N * B + B := by rw [Int.natCast_add, Int.add_mul]; simp
      omega
  obtain ⟨t, ht, e⟩ := tot_ex (n := n) (P := P) N
  have h1 := hr N t
  have h2 := ac_bd (colAt P 0) t
  omega
/-- by the slopes: no farther below the line than they are apart -/
theorem line_lo (h0 : 0 < P.length) {p M m : Int} {q : Nat} (hav : AvgOk (cP n P) n p q) (hM : ∀ v, v ≤ n → hW (ovW (cP n P) p q) n (n + 1) v ≤ M) (hm : ∀ v, v ≤ n → m ≤ hW (ovW (cP n P) p q) n (n + 1) v) (N : Nat) : 0 - (M - m) ≤ q * (total n P (P.length * N)).1 - p * N := by
  have hr : ∀ N t, t ≤ n → p * N + hW (ovW (cP n P) p q) n (n + 1) t - M ≤ q * rW n P N t := by
    intro N
    induction N with
    | zero => intro t ht; have := hM t ht; rw [rW_zero]; simp; omega
    | succ N ih =>
      intro t ht
      obtain ⟨s, hs, e⟩ := rW_ex (n := n) h0 N t
      have h1 := ih s hs
      have h2 := hav.feas (u := s) (v := t) hs
      rw [e, Int.mul_add, Int.natCast_add, Int.mul_add]
      have : p * ((1 : Nat) : Int) = p := by simp
      omega
  obtain ⟨t, ht, e⟩ := tot_ex (n := n) (P := P) N
  have h1 := hr N t ht
  have h2 := (ac_bd (colAt P 0) t).1
  have h3 := hm t ht
  rw [e, Int.mul_add]
  have h4 : 0 ≤ (q : Int) * acP (colAt P 0) t := Int.mul_nonneg (Int.natCast_nonneg _) h2
  omega
/-- by the loop: no farther above -/
theorem line_hi (h0 : 0 < P.length) {p M m : Int} {q : Nat} (hav : AvgOk (cP n P) n p q) (hM : ∀ v, v ≤ n → hW (ovW (cP n P) p q) n (n + 1) v ≤ M) (hm : ∀ v, v ≤ n → m ≤ hW (ovW (cP n P) p q) n (n + 1) v) (N : Nat) : q * (total n P (P.length * N)).1 - p * N ≤ (M - m) + q * absS (colAt P 0).ac := by
  obtain ⟨S, ⟨x0, hx0⟩, hS⟩ := hav.live
  have hr : ∀ N, ∃ t, S t ∧ t ≤ n ∧ q * rW n P N t ≤ p * N + hW (ovW (cP n P) p q) n (n + 1) t - m := by
    intro N
    induction N with
    | zero =>
      refine ⟨x0, hx0, (hS x0 hx0).1, ?_⟩
      have := hm x0 (hS x0 hx0).1
      rw [rW_zero]
      simp
      omega
    | succ N ih =>
      obtain ⟨t, hSt, ht, h1⟩ := ih
      obtain ⟨_, t', hS', htt⟩ := hS t hSt
      have h2 := of_decide_eq_true htt
      have ht' := (hS t' hS').1
      refine ⟨t', hS', ht', ?_⟩
      have h3 := rW_le (n := n) h0 (N := N) (s := t) (t := t') ht
      have h4 : (q : Int) * rW n P (N + 1) t' ≤ q * (rW n P N t + cP n P t t') := Int.mul_le_mul_of_nonneg_left h3 (Int.natCast_nonneg _)
      rw [Int.mul_add] at h4
      rw [Int.natCast_add, Int.mul_add]
      have : p * ((1 : Nat) : Int) = p := by simp
      omega
  obtain ⟨t, hSt, ht, h1⟩ := hr N
  have h2 := tot_le (n := n) (P := P) N ht
  have h3 := (ac_bd (colAt P 0) t).2
  have h4 : (q : Int) * (total n P (P.length * N)).1 ≤ q * (rW n P N t + acP (colAt P 0) t) := Int.mul_le_mul_of_nonneg_left h2 (Int.natCast_nonneg _)
  have h5 : (q : Int) * acP (colAt P 0) t ≤ q * absS (colAt P 0).ac := Int.mul_le_mul_of_nonneg_left h3 (Int.natCast_nonneg _)
  have h6 := hM t ht
  rw [Int.mul_add] at h4
  omega
end

section
variable {P : Program} {w : World} {K : PySem.W.Frag} {mg : Str → Option Value} {base : Heap} {C_Pull C_Push : Addr}
theorem w_eqNilZ {K : PySem.W.Frag} {H : Hp} {Q : VK} {p e : Addr} {zs : List Int} (h1 : SqL K H p (zs.map V.int)) (he : H e = some (.lst [])) (h : Q (.bl (decide (zs = []))) H) : rEqD K (.ref p) (.ref e) H Q := by
  have g1 : Good 1 (dInts zs) := goodInts zs
  have g2 : Good 1 (dInts []) := goodInts []
  refine ⟨dInts zs, dInts [], dpIntsL h1, .lst (SqL.of he) .nil, g1.shaped (by decide), g2.shaped (by decide), ?_⟩
  cases zs with
  | nil =>
    rw [g1.eqv]
    exact h
  | cons z zs => exact h
theorem abs52 {P : List Col} {rows : Nat} (ok : PatOk P rows) (hs : Small P) : 0 ≤ absS (colAt P 0).ac ∧ absS (colAt P 0).ac ≤ 10000000000000000000000000000000 := by
  have h0 := ok.l0
  have h2 := ok.ac 0 (by omega)
  have h3 := ok.r1
  have p30 : (10 : Int) ^ 30 = 1000000000000000000000000000000 := by decide
  have key : ∀ l : List Int, (∀ z ∈ l, -(10 ^ 30) ≤ z ∧ z ≤ 10 ^ 30) → 0 ≤ absS l ∧ absS l ≤ l.length * 1000000000000000000000000000000 := by
    intro l
    induction l with
    | nil => intro _; unfold absS; simp
    | cons z l ih =>
      intro h
      have i1 := ih fun y hy => h y (List.mem_cons_of_mem _ hy)
      have i2 := h z List.mem_cons_self
      rw [p30] at i2
      have e : absS (z :: l) = ((z.natAbs : Nat) : Int) + absS l := by unfold absS; rw [List.map_cons, List.sum_cons]
      rw [e, List.length_cons]
      omega
  have := key _ (hs 0).1
  omega
theorem ok_law {f : Addr} {fd : FuncData} (F : Fun K "law" "law" s_law f fd) (B : Bl mg) {C_Pull C_Push : Addr} (T : Txt K mg C_Pull C_Push) (h_law_cell : Has P w K mg base CX0 1 "_law_cell" ["script", "k"] (spCell K)) (h_law_pattern : Has P w K mg base CX0 2 "_law_pattern" ["script", "rows", "period", "mode"] (spPat K)) (h_long_run : Has P w K mg base CX0 7 "long_run" ["pattern"] (spLong K)) (h_law_copy : Has P w K mg base CX0 1 "_law_copy" ["pattern"] (spCopyP K)) (h_strip_least : Has P w K mg base CX0 7 "strip_least" ["pattern", "columns", "modulus"] (spStripL K)) (h_law_whole : Has P w K mg base CX0 1 "_law_whole" ["found"] spWhole) (h_law_pair : Has P w K mg base CX0 2 "_law_pair" ["found"] (spPairI K)) : FnOk P w K mg base CX0 8 f fd ["script"] (spLaw K) := by
  refine F.ok sc_law (by walk_at "len") (fun cdv A outer s H vs Q E hr h => ?_)
  obtain ⟨a, ns, rfl, hS, hlen, _, q⟩ := h
  have hS0 := hS.sq
  refine ⟨_, (pss_cons (ps_set (i := 1) sc_law.nd rfl (.inl rfl) (pe_fn h_law_cell (hr.mono (by decide)) (by rfl) (pa_cons (pv 0) (pa_cons pe_int pa_nil))))
 (pss_cons (ps_set (i := 2) sc_law.nd rfl (.inl rfl) (pe_ix (ix_listK K) (pe_lst (pa_cons pe_int (pa_cons pe_int (pa_cons pe_int (pa_cons pe_int (pa_cons pe_int (pa_cons pe_int pa_nil))))))) (pe_op op_mod (pv 1) pe_int) (fun _ _ => rfl)))
 (pss_cons (ps_set (i := 3) sc_law.nd rfl (.inl rfl) (pe_op op_add pe_int (pe_op op_mod (pe_op op_fdivW (pv 1) pe_int) (pe_ix (ix_listK K) (pe_lst (pa_cons pe_int (pa_cons pe_int (pa_cons pe_int pa_nil)))) (pe_op op_sub (pv 2) pe_int) (fun _ _ => rfl)))))
 (pss_cons (ps_set (i := 4) sc_law.nd rfl (.inl rfl) (pe_fn h_law_pattern (hr.mono (by decide)) (by rfl) (pa_cons (pv 0) (pa_cons (pv 2) (pa_cons (pv 3) (pa_cons (pe_op op_mod (pe_op op_fdivW (pv 1) pe_int) pe_int) pa_nil))))))
 (pss_cons (ps_set (i := 5) sc_law.nd rfl (.inl rfl) (pe_op op_mod (pe_callB (cr_sumK K rfl) (by rfl) B.sum (by decide +kernel) (pa_cons (pv 0) pa_nil)) (pe_ix (ix_listK K) (pe_lst (pa_cons (pe_op op_pow pe_int pe_int) (pa_cons (pe_op op_pow pe_int pe_int) (pa_cons pe_int pa_nil)))) (pe_op op_sub (pv 2) pe_int) (fun _ _ => rfl))))
 (pss_cons (ps_set (i := 6) sc_law.nd rfl (.inl rfl) (pe_fn h_long_run (hr.mono (by decide)) (by rfl) (pa_cons (pe_fn h_law_copy (hr.mono (by decide)) (by rfl) (pa_cons (pv 4) pa_nil)) pa_nil)))
 (pss_cons (ps_if (PW.pt (pw_or (pt_not (pt_val (pe_callB (call_isiK' K) (by rfl) B.isinstance (by decide +kernel) (pa_cons (pv 6) (pa_cons (pe_bltn (v := .ty "tuple") (by rfl) B.tuple (by decide +kernel) rfl) pa_nil))))) (pw_or (pt_cmpR op_ne (pe_callB (call_lenK K) (by rfl) B.len (by decide +kernel) (pa_cons (pv 6) pa_nil)) pe_int (nomark _)) (pw_or (pt_not (pt_val (pe_fn h_law_whole (hr.mono (by decide)) (by rfl) (pa_cons (pe_ix (ix_tupK K) (pv 6) pe_int (fun _ _ => rfl)) pa_nil)))) (pw_or1 (pt_not (pt_val (pe_fn h_law_whole (hr.mono (by decide)) (by rfl) (pa_cons (pe_ix (ix_tupK K) (pv 6) pe_int (fun _ _ => rfl)) pa_nil))))))))) (pss_one (ps_ret pe_bl)) pss_nil)
 (pss_cons (ps_if (PW.pt (pw_or (pt_not (pt_val (pe_callB (call_isiK' K) (by rfl) B.isinstance (by decide +kernel) (pa_cons (pe_ix (ix_tupK K) (pv 6) pe_int (fun _ _ => rfl)) (pa_cons (pe_bltn (v := .ty "list") (by rfl) B.list (by decide +kernel) rfl) pa_nil))))) (pw_or (pt_cmpR (op_eqDK K hr.units) (pe_ix (ix_tupK K) (pv 6) pe_int (fun _ _ => rfl)) (pe_lst pa_nil) (nomark _)) (pw_or1 (pt_not (pt_val (pe_callB (cr_allK K rfl) (by rfl) B.all (by decide +kernel) (pa_cons (pe_lc (own := [("part", 15)]) rfl sc_law.nd (pi_listK K (pe_ix (ix_tupK K) (pv 6) pe_int (fun _ _ => rfl))) (blkOk_by (own := [("part", 15)]) (N := ["script", "first", "rows", "period", "pattern", "repeats", "found", "apart", "over", "last", "more", "columns", "told", "gone", "strength", "part"]) (sc := defScope s_law) (by decide +kernel)) (fun _ _ _ _ _ => pg_name (i := 15) sc_law.nd rfl (Or.inl rfl)) (fun _ _ _ _ _ => pts_nil) (fun _ _ _ _ _ => (pe_fn h_law_whole (hr.mono (by decide)) (by rfl) (pa_cons (pv 15) pa_nil)))) pa_nil)))))))) (pss_one (ps_ret pe_bl)) pss_nil)
 (pss_cons (ps_set (i := 7) sc_law.nd rfl (.inl rfl) (pe_op op_sub (pe_callB (cr_maxK K rfl) (by rfl) B.max (by decide +kernel) (pa_cons (pe_ix (ix_tupK K) (pv 6) pe_int (fun _ _ => rfl)) pa_nil)) (pe_callB (cr_minK K rfl) (by rfl) B.min (by decide +kernel) (pa_cons (pe_ix (ix_tupK K) (pv 6) pe_int (fun _ _ => rfl)) pa_nil))))
 (pss_cons (ps_set (i := 8) sc_law.nd rfl (.inl rfl) (pe_op op_mulX (pe_ix (ix_tupK K) (pv 6) pe_int (fun _ _ => rfl)) (pe_callB (cr_sumK K rfl) (by rfl) B.sum (by decide +kernel) (pa_cons (pe_lc (own := [("strength", 14)]) rfl sc_law.nd (pi_listK K (pe_ix (ix_tupK K) (pe_ix (ix_listK K) (pv 4) pe_int (fun _ _ => rfl)) pe_int (fun _ _ => rfl))) (blkOk_by (own := [("strength", 14)]) (N := ["script", "first", "rows", "period", "pattern", "repeats", "found", "apart", "over", "last", "more", "columns", "told", "gone", "strength", "part"]) (sc := defScope s_law) (by decide +kernel)) (fun _ _ _ _ _ => pg_name (i := 14) sc_law.nd rfl (Or.inl rfl)) (fun _ _ _ _ _ => pts_nil) (fun _ _ _ _ _ => (pe_callB call_abs (by rfl) B.abs (by decide +kernel) (pa_cons (pv 14) pa_nil)))) pa_nil))))
 (pss_cons (ps_set (i := 9) sc_law.nd rfl (.inl rfl) pe_int)
 (pss_cons (ps_for PassesOwn.never rfl (pi_range1 (by rfl) B.range (pa_cons pe_int pa_nil)) (pg_name (i := 10) sc_law.nd rfl (.inl rfl)) (pss_cons (ps_set (i := 11) sc_law.nd rfl (.inl rfl) (pe_op op_add (pe_op op_mulX (pe_op op_add (pv 5) (pv 10)) (pv 3)) pe_int))
 (pss_cons (ps_set (i := 12) sc_law.nd rfl (.inl rfl) (pe_fn h_strip_least (hr.mono (by decide)) (by rfl) (pa_cons (pe_fn h_law_copy (hr.mono (by decide)) (by rfl) (pa_cons (pv 4) pa_nil)) (pa_cons (pv 11) (pa_cons (pe_op op_pow pe_int pe_int) pa_nil)))))
 (pss_cons (ps_if (PW.pt (pw_or (pt_not (pt_val (pe_fn h_law_pair (hr.mono (by decide)) (by rfl) (pa_cons (pv 12) pa_nil)))) (pw_or1 (pt_cmpR op_lt (pe_ix (ix_tupK K) (pv 12) pe_int (fun _ _ => rfl)) (pv 9) (nomark _))))) (pss_one (ps_ret pe_bl)) pss_nil)
 (pss_cons (ps_set (i := 13) sc_law.nd rfl (.inl rfl) (pe_op op_sub (pe_op op_mulX (pe_ix (ix_tupK K) (pv 6) pe_int (fun _ _ => rfl)) (pe_ix (ix_tupK K) (pv 12) pe_int (fun _ _ => rfl))) (pe_op op_mulX (pe_ix (ix_tupK K) (pv 6) pe_int (fun _ _ => rfl)) (pe_op op_add (pv 5) (pv 10)))))
 (pss_cons (ps_if (PW.pt (pw_or (pt_cmpR op_lt (pv 13) (pe_op op_sub pe_int (pv 7)) (nomark _)) (pw_or1 (pt_cmpR op_gt (pv 13) (pe_op op_add (pv 7) (pv 8)) (nomark _))))) (pss_one (ps_ret pe_bl)) pss_nil)
 (pss_one (ps_set (i := 9) sc_law.nd rfl (.inl rfl) (pe_ix (ix_tupK K) (pv 12) pe_int (fun _ _ => rfl))))))))))
 (pss_one (ps_ret pe_bl)))))))))))))), ?_⟩
  walk_at "sts"
  refine ⟨a, ns, 0, rfl, hS0, ?_⟩
  obtain ⟨z, hz⟩ : ∃ z, ns.getD 0 0 = z := ⟨_, rfl⟩
  rw [hz]
  obtain ⟨sh, hsh, hsh2⟩ := modN z (show 0 < 6 by decide)
  walk_at "sts"
  refine w_new fun l1 nl1 => ?_
  have t1 := same_upd (o := .lst [.int 1, .int 2, .int 1, .int 2, .int 1, .int 3]) nl1
  have hL1 : SqL K (upd H l1 (.lst [.int 1, .int 2, .int 1, .int 2, .int 1, .int 3])) l1 [.int 1, .int 2, .int 1, .int 2, .int 1, .int 3] := SqL.of upd_same
  have hS1 := t1.seq hS0
  generalize upd H l1 (.lst [.int 1, .int 2, .int 1, .int 2, .int 1, .int 3]) = H1 at t1 hL1 hS1 ⊢
  obtain ⟨rows, e1, hr0, hr1⟩ : ∃ rows : Nat, [V.int 1, V.int 2, V.int 1, V.int 2, V.int 1, V.int 3][sh]? = some (.int (rows : Nat)) ∧ 1 ≤ rows ∧ rows ≤ 3 := by
    have : sh = 0 ∨ sh = 1 ∨ sh = 2 ∨ sh = 3 ∨ sh = 4 ∨ sh = 5 := by omega
    rcases this with rfl | rfl | rfl | rfl | rfl | rfl
    · exact ⟨1, rfl, by decide, by decide⟩
    · exact ⟨2, rfl, by decide, by decide⟩
    · exact ⟨1, rfl, by decide, by decide⟩
    · exact ⟨2, rfl, by decide, by decide⟩
    · exact ⟨1, rfl, by decide, by decide⟩
    · exact ⟨3, rfl, by decide, by decide⟩
  walk_at "sts"
  rw [show z % 6 = (sh : Int) from hsh]
  walk_at "sts"
  refine w_new fun l2 nl2 => ?_
  have t2 := same_upd (o := .lst [.int 6, .int 6, .int 2]) nl2
  have hL2 : SqL K (upd H1 l2 (.lst [.int 6, .int 6, .int 2])) l2 [.int 6, .int 6, .int 2] := SqL.of upd_same
  have hS2 := t2.seq hS1
  generalize upd H1 l2 (.lst [.int 6, .int 6, .int 2]) = H2 at t2 hL2 hS2 ⊢
  obtain ⟨W, e2, W0, W6⟩ : ∃ W : Nat, [V.int 6, V.int 6, V.int 2][rows - 1]? = some (.int (W : Nat)) ∧ 0 < W ∧ W ≤ 6 := by
    have : rows = 1 ∨ rows = 2 ∨ rows = 3 := by omega
    rcases this with rfl | rfl | rfl
    · exact ⟨6, rfl, by decide, by decide⟩
    · exact ⟨6, rfl, by decide, by decide⟩
    · exact ⟨2, rfl, by decide, by decide⟩
  obtain ⟨w, hw, hwW⟩ := modN (z / 6) W0
  walk_at "sts"
  rw [show (rows : Int) - 1 = ((rows - 1 : Nat) : Int) by omega]
  walk_at "sts"
  rw [hw, show 1 + (w : Int) = ((w + 1 : Nat) : Int) by omega]
  obtain ⟨mode, hmo, hmo2⟩ := modN (z / 36) (show 0 < 3 by decide)
  walk_at "sts"
  rw [show z / 36 % 3 = (mode : Int) from hmo]
  refine ⟨a, ns, rows, w + 1, mode, rfl, hS2, hlen, hr0, hr1, by omega, by omega, by omega, fun r1 H3 P' s3 n3 hP3 hok hPl hSm => ?_⟩
  have hS3 := s3.seq hS2
  obtain ⟨n, hn⟩ : ∃ n, n + 1 = 2 ^ rows := ⟨2 ^ rows - 1, by have := Nat.two_pow_pos rows; omega⟩
  have hn2 : n + 1 ≤ 8 := by rw [hn]; exact Nat.le_trans (Nat.pow_le_pow_right (by decide) hok.r1) (by decide)
  walk_at "sts"
  refine ⟨a, ns, rfl, hS3, ?_⟩
  obtain ⟨sm, hsm⟩ : ∃ sm, ns.sum = sm := ⟨_, rfl⟩
  rw [hsm]
  walk_at "sts"
  have q17 : (10 : Int) ^ Int.toNat 17 = 100000000000000000 := by decide
  have q4 : (10 : Int) ^ Int.toNat 4 = 10000 := by decide
  rw [q17, q4]
  refine w_new fun l4 nl4 => ?_
  have t4 := same_upd (o := .lst [.int 100000000000000000, .int 10000, .int 12]) nl4
  have hL4 : SqL K (upd H3 l4 (.lst [.int 100000000000000000, .int 10000, .int 12])) l4 [.int 100000000000000000, .int 10000, .int 12] := SqL.of upd_same
  have hP4 := hP3.same t4
  generalize upd H3 l4 (.lst [.int 100000000000000000, .int 10000, .int 12]) = H4 at t4 hL4 hP4 ⊢
  obtain ⟨V3, e4, V0, V17⟩ : ∃ V3 : Nat, [V.int 100000000000000000, V.int 10000, V.int 12][rows - 1]? = some (.int (V3 : Nat)) ∧ 0 < V3 ∧ V3 ≤ 100000000000000000 := by
    have : rows = 1 ∨ rows = 2 ∨ rows = 3 := by omega
    rcases this with rfl | rfl | rfl
    · exact ⟨100000000000000000, rfl, by decide, by decide⟩
    · exact ⟨10000, rfl, by decide, by decide⟩
    · exact ⟨12, rfl, by decide, by decide⟩
  obtain ⟨R, hR, hRV⟩ := modN sm V0
  walk_at "sts"
  rw [show (rows : Int) - 1 = ((rows - 1 : Nat) : Int) by omega]
  walk_at "sts"
  rw [hR]
  refine ⟨r1, P', rfl, hP4, by omega, fun r5 H5 s5 n5 hP5 => ?_⟩
  have hP45 := hP4.same s5
  walk_at "sts"
  refine ⟨r5, P', rows, n, rfl, hP5, hok, hSm, hn, fun r6 H6 fa fb pl ps L s6 n6 hr6 hav hgc ha1 ha2 hb hl hLo hs => ?_⟩
  have hr6s := SqT.of (K := K) hr6
  have hP6 := hP45.same s6
  have hss := SqL.of (K := K) hs
  have hb0 := hav.pos
  walk_at "sts"
  refine ifnd (fun h => absurd rfl h) (fun _ => ?_)
  walk_at "sts"
  refine ⟨fa, rfl, ?_⟩
  walk_at "sts"
  refine ⟨_, rfl, ?_⟩
  walk_at "sts"
  refine w_new fun pe npe => ?_
  have t7 := same_upd (o := .lst ([] : List V)) npe
  have l7 : upd H6 pe (.lst []) pe = some (.lst []) := upd_same
  generalize upd H6 pe (.lst []) = H7 at t7 l7 ⊢
  refine w_eqNilZ (zs := rowI (hW (ovW (cP n P') fa fb) n (n + 1)) (n + 1)) (t7.seq hss) l7 ?_
  have hne : decide (rowI (hW (ovW (cP n P') fa fb) n (n + 1)) (n + 1) = []) = false := decide_eq_false fun z => by
    have := rowI_len (hW (ovW (cP n P') fa fb) n (n + 1)) (n + 1)
    rw [z] at this
    cases this
  rw [hne]
  refine ⟨_, rfl, ?_⟩
  have hss7 := t7.seq hss
  have hr67 := same_read t7 hr6s
  have hP7 := hP6.same t7
  walk_at "sts"
  intro D nD
  refine lc_list (K := K) (xs := (rowI (hW (ovW (cP n P') fa fb) n (n + 1)) (n + 1)).map V.int) (fun i H' => H' D = some (.lst ((List.replicate i true).map V.bl)) ∧ Same H7 H') ?_ ?_ ?_ ?_
  · exact ⟨upd_same, same_upd nD⟩
  · rintro i H' _ ⟨_, s1⟩
    exact s1.seq hss7
  · rintro i v H' hv ⟨l1, s1⟩
    have hi : i < n + 1 := by have := (List.getElem?_eq_some_iff.mp hv).1; rw [rowI_lenV] at this; exact this
    rw [rowI_at _ hi] at hv
    cases hv
    walk_at "sts"
    refine ⟨_, rfl, ?_⟩
    refine ⟨_, l1, szlt (by rw [List.length_map, List.length_replicate]; omega), ?_, s1.mut nD⟩
    rw [upd_same, List.replicate_succ', List.map_append]
    rfl
  rintro H8 ⟨l8, s8⟩
  walk_at "sts"
  refine ⟨D, _, rfl, SqL.of l8, ?_⟩
  have eall : (List.replicate ((rowI (hW (ovW (cP n P') fa fb) n (n + 1)) (n + 1)).map V.int).length true).all id = true := by rw [List.all_replicate]; simp
  rw [eall]
  walk_at "sts"
  have hss8 := s8.seq hss7
  have hP8 := hP7.same s8
  have hr68 := same_read s8 hr67
  obtain ⟨hh, hhe⟩ : ∃ hh, hW (ovW (cP n P') fa fb) n (n + 1) = hh := ⟨_, rfl⟩
  have hav' := hav
  refine ⟨ps, _, rfl, hss8, by rw [rowI_len]; omega, fun M hM1 hM2 => ?_⟩
  walk_at "sts"
  refine w_minL hss8 (by rw [rowI_len]; omega) fun m hm1 hm2 => ?_
  walk_at "sts"
  have hMa : ∀ v, v ≤ n → hW (ovW (cP n P') fa fb) n (n + 1) v ≤ M := fun v hv => hM2 _ (List.mem_map.mpr ⟨v, List.mem_range.mpr (by omega), rfl⟩)
  have hma : ∀ v, v ≤ n → m ≤ hW (ovW (cP n P') fa fb) n (n + 1) v := fun v hv => hm2 _ (List.mem_map.mpr ⟨v, List.mem_range.mpr (by omega), rfl⟩)
  have hl0 := hok.l0
  obtain ⟨xs, hxs, hxl, hxa⟩ := patAt hP8
  obtain ⟨v0, hv0, pc, pa, pb, rfl, c1, c2, c3⟩ := hxa 0 (by omega)
  walk_at "sts"
  intro D2 nD2
  refine lc_list (K := K) (xs := (colAt P' 0).ac.map V.int) (fun i H' => H' D2 = some (.lst ((((colAt P' 0).ac.take i).map fun z => ((z.natAbs : Nat) : Int)).map V.int)) ∧ Same H8 H') ?_ ?_ ?_ ?_
  · exact ⟨upd_same, same_upd nD2⟩
  · rintro i H' _ ⟨_, s1⟩
    exact s1.seq c2
  · rintro i v H' hv ⟨l1, s1⟩
    have hi : i < (colAt P' 0).ac.length := by have := (List.getElem?_eq_some_iff.mp hv).1; rw [List.length_map] at this; exact this
    have hac := hok.ac 0 (by omega)
    rw [ints_at hi] at hv
    cases hv
    walk_at "sts"
    refine ⟨_, l1, szlt (by rw [List.length_map, List.length_map, List.length_take]; omega), ?_, s1.mut nD2⟩
    have etk : (colAt P' 0).ac.take (i + 1) = (colAt P' 0).ac.take i ++ [(colAt P' 0).ac.getD i 0] := by
      rw [List.take_add_one, List.getD_eq_getElem?_getD, List.getElem?_eq_getElem hi]
      rfl
    generalize (colAt P' 0).ac.getD i 0 = z0 at etk
    rw [upd_same, etk, List.map_append, List.map_append, show (if z0 < 0 then -z0 else z0) = ((z0.natAbs : Nat) : Int) by split <;> omega]
    rfl
  rintro H9 ⟨l9, s9⟩
  rw [List.length_map, List.take_length] at l9
  have hP9 := hP8.same s9
  have hr69 := same_read s9 hr68
  have p31 : (10 : Int) ^ 31 = 10000000000000000000000000000000 := by decide
  have p140 : (2 : Int) ^ 140 = 1393796574908163946345982392040522594123776 := by decide
  have p150 : (2 : Int) ^ 150 = 1427247692705959881058285969449495136382746624 := by decide
  have habs : 0 ≤ absS (colAt P' 0).ac ∧ absS (colAt P' 0).ac ≤ 10000000000000000000000000000000 := abs52 hok hSm
  walk_at "sts"
  refine ⟨D2, _, rfl, SqL.of l9, ?_⟩
  rw [show ((colAt P' 0).ac.map fun z => ((z.natAbs : Nat) : Int)).sum = absS (colAt P' 0).ac from rfl]
  walk_at "sts"
  have hlo := fun N => line_lo (n := n) (P := P') (by omega) hav hMa hma N
  have hhi := fun N => line_hi (n := n) (P := P') (by omega) hav hMa hma N
  have htb := fun N => tot_bd (n := n) (P := P') (by omega) (fun s t => cP_bd hok hSm s t) N
  have hmo := fun N => tot_mono (n := n) (P := P') (by omega) N
  rw [p140] at htb
  rw [p150] at ha1 ha2
  have p9 : (10 : Int) ^ Int.toNat 9 = 1000000000 := by decide
  refine for_r0 (n := 3) rfl (fun i σ' H' => ∃ (lv : Int) (y10 y11 y12 y13 y14 y15 : Option V), σ' = [some (.ref a), some (.int z), some (.int (rows : Nat)), some (.int ((w + 1 : Nat) : Int)), some (.ref r1), some (.int (R : Nat)), some (.ref r6), some (.int (M - m)), some (.int ((fb : Int) * absS (colAt P' 0).ac)), some (.int lv), y10, y11, y12, y13, y14, y15] ∧ Same H9 H' ∧ lv ≤ (total n P' (P'.length * (R + i))).1) ?_ ?_ ?_
  · exact ⟨0, _, _, _, _, _, _, rfl, Same.refl _, (htb (R + 0)).1⟩
  · rintro i σ' H' hi ⟨lv, y10, y11, y12, y13, y14, y15, rfl, s10, hlv⟩
    have hPi := hP9.same s10
    have hfi := same_read s10 hr69
    have e1 : (R : Int) + (i : Int) = ((R + i : Nat) : Int) := by omega
    have e2 : ((R + i : Nat) : Int) * ((w + 1 : Nat) : Int) + 1 = ((P'.length * (R + i) + 1 : Nat) : Int) := by
      rw [hPl, Int.natCast_add (((w + 1) * (R + i)) : Nat) 1, Int.natCast_mul, Int.mul_comm]
      rfl
    have hbig : P'.length * (R + i) ≤ 6 * 100000000000000002 := Nat.mul_le_mul (by omega) (by omega)
    have b1 := htb (R + i)
    have b2 := hlo (R + i)
    have b3 := hhi (R + i)
    walk_at "sts"
    rw [e1]
    walk_at "sts"
    rw [e2]
    walk_at "sts"
    refine ⟨r1, P', rfl, hPi, by omega, fun r11 H11 s11 n11 hP11 => ?_⟩
    walk_at "sts"
    rw [p9]
    refine ⟨r11, P', rows, n, P'.length * (R + i), 1000000000, rfl, hP11, hok, hn, by omega, by omega, by omega, fun r12 H12 s12 n12 hr12 => ?_⟩
    have hr12s := SqT.of (K := K) hr12
    have hf12 := same_read (s11.trans s12) hfi
    generalize hTT : (total n P' (P'.length * (R + i))).1 = TT at b1 b2 b3 hlv hr12s
    walk_at "sts"
    refine ⟨r12, _, _, rfl, hr12s, ?_⟩
    walk_at "sts"
    rw [e1]
    walk_at "sts"
    refine ⟨TT, _, _, _, _, _, _, rfl, s10.trans (s11.trans s12), ?_⟩
    rw [← hTT]
    exact hmo (R + i)
  · rintro σ' H' ⟨lv, y10, y11, y12, y13, y14, y15, rfl, s10, _⟩
    walk_at "sts"
    exact q _
end

theorem all_mk {l : PySem.W.OpenLaw} {w : World} {K : PySem.W.Frag} {h : Heap} {mg : Str → Option Value} {fa f0 f1 f2 f3 f4 f5 f6 f7 f8 f9 f10 f11 f12 f13 f14 f15 f16 f17 f18 f19 f20 f21 f22 f23 f24 f25 f26 f27 f28 f29 f30 f31 C_Pull C_Push : Addr} (X : K.In h) (G : h.Ns mainGlobals mg) (hfa : mg "law" = some (.ref fa))
    {t_MOST_MODULUS t_MOST_COLUMNS : Tok}
    {od0 an0 od1 an1 od2 an2 od3 an3 od4 an4 od5 an5 od6 an6 od7 an7 od8 an8 od9 an9 od10 an10 od11 an11 od12 an12 od13 an13 od14 an14 od15 an15 od16 an16 od17 an17 od18 an18 od19 an19 od20 an20 od21 an21 od22 an22 od23 an23 od24 an24 od25 an25 od26 an26 od27 an27 od28 an28 od29 an29 od30 an30 od31 an31 : Option Addr} {sl0 sl1 sl2 sl3 sl4 sl5 sl6 sl7 sl8 sl9 sl10 sl11 sl12 sl13 sl14 sl15 sl16 sl17 sl18 sl19 sl20 sl21 sl22 sl23 sl24 sl25 sl26 sl27 sl28 sl29 sl30 sl31 : Array (Option Value)} {oc0 kV0 dc0 pm0 ct0 cd0 oc1 kV1 dc1 pm1 ct1 cd1 oc2 kV2 dc2 pm2 ct2 cd2 oc3 kV3 dc3 pm3 ct3 cd3 oc4 kV4 dc4 pm4 ct4 cd4 oc5 kV5 dc5 pm5 ct5 cd5 oc6 kV6 dc6 pm6 ct6 cd6 oc7 kV7 dc7 pm7 ct7 cd7 oc8 kV8 dc8 pm8 ct8 cd8 oc9 kV9 dc9 pm9 ct9 cd9 oc10 kV10 dc10 pm10 ct10 cd10 oc11 kV11 dc11 pm11 ct11 cd11 oc12 kV12 dc12 pm12 ct12 cd12 oc13 kV13 dc13 pm13 ct13 cd13 oc14 kV14 dc14 pm14 ct14 cd14 oc15 kV15 dc15 pm15 ct15 cd15 oc16 kV16 dc16 pm16 ct16 cd16 oc17 kV17 dc17 pm17 ct17 cd17 oc18 kV18 dc18 pm18 ct18 cd18 oc19 kV19 dc19 pm19 ct19 cd19 oc20 kV20 dc20 pm20 ct20 cd20 oc21 kV21 dc21 pm21 ct21 cd21 oc22 kV22 dc22 pm22 ct22 cd22 oc23 kV23 dc23 pm23 ct23 cd23 oc24 kV24 dc24 pm24 ct24 cd24 oc25 kV25 dc25 pm25 ct25 cd25 oc26 kV26 dc26 pm26 ct26 cd26 oc27 kV27 dc27 pm27 ct27 cd27 oc28 kV28 dc28 pm28 ct28 cd28 oc29 kV29 dc29 pm29 ct29 cd29 oc30 kV30 dc30 pm30 ct30 cd30 oc31 kV31 dc31 pm31 ct31 cd31 : Value}
    (g_Pull : PySem.W.nsIn K mainGlobals "Pull" = some (some (.ref C_Pull)))
    (g_Push : PySem.W.nsIn K mainGlobals "Push" = some (some (.ref C_Push)))
    (a0 : PySem.W.nsIn K mainGlobals "way_to" = some (some (.ref f0)))
    (l0 : K.lookup f0 = some ⟨oc0, od0, .func (PySem.W.fnOf "way_to" "way_to" (defArgs s_way_to) (defBody s_way_to) (defScope s_way_to) .none kV0 dc0 pm0 an0 cd0 ct0), sl0⟩)
    (c0 : PySem.W.codeIn K cd0 "way_to" = true)
    (k0 : PySem.W.keepIn K (.ref f0) = true)
    (a1 : PySem.W.nsIn K mainGlobals "row_joined" = some (some (.ref f1)))
    (l1 : K.lookup f1 = some ⟨oc1, od1, .func (PySem.W.fnOf "row_joined" "row_joined" (defArgs s_row_joined) (defBody s_row_joined) (defScope s_row_joined) .none kV1 dc1 pm1 an1 cd1 ct1), sl1⟩)
    (c1 : PySem.W.codeIn K cd1 "row_joined" = true)
    (k1 : PySem.W.keepIn K (.ref f1) = true)
    (a2 : PySem.W.nsIn K mainGlobals "tables_joined" = some (some (.ref f2)))
    (l2 : K.lookup f2 = some ⟨oc2, od2, .func (PySem.W.fnOf "tables_joined" "tables_joined" (defArgs s_tables_joined) (defBody s_tables_joined) (defScope s_tables_joined) .none kV2 dc2 pm2 an2 cd2 ct2), sl2⟩)
    (c2 : PySem.W.codeIn K cd2 "tables_joined" = true)
    (k2 : PySem.W.keepIn K (.ref f2) = true)
    (a3 : PySem.W.nsIn K mainGlobals "by_modulus" = some (some (.ref f3)))
    (l3 : K.lookup f3 = some ⟨oc3, od3, .func (PySem.W.fnOf "by_modulus" "by_modulus" (defArgs s_by_modulus) (defBody s_by_modulus) (defScope s_by_modulus) .none kV3 dc3 pm3 an3 cd3 ct3), sl3⟩)
    (c3 : PySem.W.codeIn K cd3 "by_modulus" = true)
    (k3 : PySem.W.keepIn K (.ref f3) = true)
    (a4 : PySem.W.nsIn K mainGlobals "table_power" = some (some (.ref f4)))
    (l4 : K.lookup f4 = some ⟨oc4, od4, .func (PySem.W.fnOf "table_power" "table_power" (defArgs s_table_power) (defBody s_table_power) (defScope s_table_power) .none kV4 dc4 pm4 an4 cd4 ct4), sl4⟩)
    (c4 : PySem.W.codeIn K cd4 "table_power" = true)
    (k4 : PySem.W.keepIn K (.ref f4) = true)
    (r5_Pull : PySem.W.findIn K (.ref C_Pull) "__init__" = some (some (.ref f5)))
    (r5_Push : PySem.W.findIn K (.ref C_Push) "__init__" = some (some (.ref f5)))
    (i5 : PySem.W.isFn K (.ref f5) = true)
    (l5 : K.lookup f5 = some ⟨oc5, od5, .func (PySem.W.fnOf "__init__" "Tie.__init__" (defArgs s_Tie___init__) (defBody s_Tie___init__) (defScope s_Tie___init__) .none kV5 dc5 pm5 an5 cd5 ct5), sl5⟩)
    (c5 : PySem.W.codeIn K cd5 "Tie.__init__" = true)
    (k5 : PySem.W.keepIn K (.ref f5) = true)
    (r6_Pull : PySem.W.findIn K (.ref C_Pull) "wish" = some (some (.ref f6)))
    (i6 : PySem.W.isFn K (.ref f6) = true)
    (l6 : K.lookup f6 = some ⟨oc6, od6, .func (PySem.W.fnOf "wish" "Pull.wish" (defArgs s_Pull_wish) (defBody s_Pull_wish) (defScope s_Pull_wish) .none kV6 dc6 pm6 an6 cd6 ct6), sl6⟩)
    (c6 : PySem.W.codeIn K cd6 "Pull.wish" = true)
    (k6 : PySem.W.keepIn K (.ref f6) = true)
    (r7_Push : PySem.W.findIn K (.ref C_Push) "wish" = some (some (.ref f7)))
    (i7 : PySem.W.isFn K (.ref f7) = true)
    (l7 : K.lookup f7 = some ⟨oc7, od7, .func (PySem.W.fnOf "wish" "Push.wish" (defArgs s_Push_wish) (defBody s_Push_wish) (defScope s_Push_wish) .none kV7 dc7 pm7 an7 cd7 ct7), sl7⟩)
    (c7 : PySem.W.codeIn K cd7 "Push.wish" = true)
    (k7 : PySem.W.keepIn K (.ref f7) = true)
    (r8_Pull : PySem.W.findIn K (.ref C_Pull) "unpleased" = some (some (.ref f8)))
    (r8_Push : PySem.W.findIn K (.ref C_Push) "unpleased" = some (some (.ref f8)))
    (i8 : PySem.W.isFn K (.ref f8) = true)
    (l8 : K.lookup f8 = some ⟨oc8, od8, .func (PySem.W.fnOf "unpleased" "Tie.unpleased" (defArgs s_Tie_unpleased) (defBody s_Tie_unpleased) (defScope s_Tie_unpleased) .none kV8 dc8 pm8 an8 cd8 ct8), sl8⟩)
    (c8 : PySem.W.codeIn K cd8 "Tie.unpleased" = true)
    (k8 : PySem.W.keepIn K (.ref f8) = true)
    (r9_Pull : PySem.W.findIn K (.ref C_Pull) "price" = some (some (.ref f9)))
    (r9_Push : PySem.W.findIn K (.ref C_Push) "price" = some (some (.ref f9)))
    (i9 : PySem.W.isFn K (.ref f9) = true)
    (l9 : K.lookup f9 = some ⟨oc9, od9, .func (PySem.W.fnOf "price" "Tie.price" (defArgs s_Tie_price) (defBody s_Tie_price) (defScope s_Tie_price) .none kV9 dc9 pm9 an9 cd9 ct9), sl9⟩)
    (c9 : PySem.W.codeIn K cd9 "Tie.price" = true)
    (k9 : PySem.W.keepIn K (.ref f9) = true)
    (a10 : PySem.W.nsIn K mainGlobals "tie_of" = some (some (.ref f10)))
    (l10 : K.lookup f10 = some ⟨oc10, od10, .func (PySem.W.fnOf "tie_of" "tie_of" (defArgs s_tie_of) (defBody s_tie_of) (defScope s_tie_of) .none kV10 dc10 pm10 an10 cd10 ct10), sl10⟩)
    (c10 : PySem.W.codeIn K cd10 "tie_of" = true)
    (k10 : PySem.W.keepIn K (.ref f10) = true)
    (a11 : PySem.W.nsIn K mainGlobals "rows_of" = some (some (.ref f11)))
    (l11 : K.lookup f11 = some ⟨oc11, od11, .func (PySem.W.fnOf "rows_of" "rows_of" (defArgs s_rows_of) (defBody s_rows_of) (defScope s_rows_of) .none kV11 dc11 pm11 an11 cd11 ct11), sl11⟩)
    (c11 : PySem.W.codeIn K cd11 "rows_of" = true)
    (k11 : PySem.W.keepIn K (.ref f11) = true)
    (a12 : PySem.W.nsIn K mainGlobals "across_price" = some (some (.ref f12)))
    (l12 : K.lookup f12 = some ⟨oc12, od12, .func (PySem.W.fnOf "across_price" "across_price" (defArgs s_across_price) (defBody s_across_price) (defScope s_across_price) .none kV12 dc12 pm12 an12 cd12 ct12), sl12⟩)
    (c12 : PySem.W.codeIn K cd12 "across_price" = true)
    (k12 : PySem.W.keepIn K (.ref f12) = true)
    (a13 : PySem.W.nsIn K mainGlobals "along_price" = some (some (.ref f13)))
    (l13 : K.lookup f13 = some ⟨oc13, od13, .func (PySem.W.fnOf "along_price" "along_price" (defArgs s_along_price) (defBody s_along_price) (defScope s_along_price) .none kV13 dc13 pm13 an13 cd13 ct13), sl13⟩)
    (c13 : PySem.W.codeIn K cd13 "along_price" = true)
    (k13 : PySem.W.keepIn K (.ref f13) = true)
    (a14 : PySem.W.nsIn K mainGlobals "column_table" = some (some (.ref f14)))
    (l14 : K.lookup f14 = some ⟨oc14, od14, .func (PySem.W.fnOf "column_table" "column_table" (defArgs s_column_table) (defBody s_column_table) (defScope s_column_table) .none kV14 dc14 pm14 an14 cd14 ct14), sl14⟩)
    (c14 : PySem.W.codeIn K cd14 "column_table" = true)
    (k14 : PySem.W.keepIn K (.ref f14) = true)
    (a15 : PySem.W.nsIn K mainGlobals "step_table" = some (some (.ref f15)))
    (l15 : K.lookup f15 = some ⟨oc15, od15, .func (PySem.W.fnOf "step_table" "step_table" (defArgs s_step_table) (defBody s_step_table) (defScope s_step_table) .none kV15 dc15 pm15 an15 cd15 ct15), sl15⟩)
    (c15 : PySem.W.codeIn K cd15 "step_table" = true)
    (k15 : PySem.W.keepIn K (.ref f15) = true)
    (a16 : PySem.W.nsIn K mainGlobals "strip_least" = some (some (.ref f16)))
    (l16 : K.lookup f16 = some ⟨oc16, od16, .func (PySem.W.fnOf "strip_least" "strip_least" (defArgs s_strip_least) (defBody s_strip_least) (defScope s_strip_least) .none kV16 dc16 pm16 an16 cd16 ct16), sl16⟩)
    (c16 : PySem.W.codeIn K cd16 "strip_least" = true)
    (k16 : PySem.W.keepIn K (.ref f16) = true)
    (a17 : PySem.W.nsIn K mainGlobals "lows_of" = some (some (.ref f17)))
    (l17 : K.lookup f17 = some ⟨oc17, od17, .func (PySem.W.fnOf "lows_of" "lows_of" (defArgs s_lows_of) (defBody s_lows_of) (defScope s_lows_of) .none kV17 dc17 pm17 an17 cd17 ct17), sl17⟩)
    (c17 : PySem.W.codeIn K cd17 "lows_of" = true)
    (k17 : PySem.W.keepIn K (.ref f17) = true)
    (a18 : PySem.W.nsIn K mainGlobals "lowest_into" = some (some (.ref f18)))
    (l18 : K.lookup f18 = some ⟨oc18, od18, .func (PySem.W.fnOf "lowest_into" "lowest_into" (defArgs s_lowest_into) (defBody s_lowest_into) (defScope s_lowest_into) .none kV18 dc18 pm18 an18 cd18 ct18), sl18⟩)
    (c18 : PySem.W.codeIn K cd18 "lowest_into" = true)
    (k18 : PySem.W.keepIn K (.ref f18) = true)
    (a19 : PySem.W.nsIn K mainGlobals "walks" = some (some (.ref f19)))
    (l19 : K.lookup f19 = some ⟨oc19, od19, .func (PySem.W.fnOf "walks" "walks" (defArgs s_walks) (defBody s_walks) (defScope s_walks) .none kV19 dc19 pm19 an19 cd19 ct19), sl19⟩)
    (c19 : PySem.W.codeIn K cd19 "walks" = true)
    (k19 : PySem.W.keepIn K (.ref f19) = true)
    (a20 : PySem.W.nsIn K mainGlobals "steepest" = some (some (.ref f20)))
    (l20 : K.lookup f20 = some ⟨oc20, od20, .func (PySem.W.fnOf "steepest" "steepest" (defArgs s_steepest) (defBody s_steepest) (defScope s_steepest) .none kV20 dc20 pm20 an20 cd20 ct20), sl20⟩)
    (c20 : PySem.W.codeIn K cd20 "steepest" = true)
    (k20 : PySem.W.keepIn K (.ref f20) = true)
    (a21 : PySem.W.nsIn K mainGlobals "lowest_average" = some (some (.ref f21)))
    (l21 : K.lookup f21 = some ⟨oc21, od21, .func (PySem.W.fnOf "lowest_average" "lowest_average" (defArgs s_lowest_average) (defBody s_lowest_average) (defScope s_lowest_average) .none kV21 dc21 pm21 an21 cd21 ct21), sl21⟩)
    (c21 : PySem.W.codeIn K cd21 "lowest_average" = true)
    (k21 : PySem.W.keepIn K (.ref f21) = true)
    (a22 : PySem.W.nsIn K mainGlobals "slopes_of" = some (some (.ref f22)))
    (l22 : K.lookup f22 = some ⟨oc22, od22, .func (PySem.W.fnOf "slopes_of" "slopes_of" (defArgs s_slopes_of) (defBody s_slopes_of) (defScope s_slopes_of) .none kV22 dc22 pm22 an22 cd22 ct22), sl22⟩)
    (c22 : PySem.W.codeIn K cd22 "slopes_of" = true)
    (k22 : PySem.W.keepIn K (.ref f22) = true)
    (a23 : PySem.W.nsIn K mainGlobals "loop_of" = some (some (.ref f23)))
    (l23 : K.lookup f23 = some ⟨oc23, od23, .func (PySem.W.fnOf "loop_of" "loop_of" (defArgs s_loop_of) (defBody s_loop_of) (defScope s_loop_of) .none kV23 dc23 pm23 an23 cd23 ct23), sl23⟩)
    (c23 : PySem.W.codeIn K cd23 "loop_of" = true)
    (k23 : PySem.W.keepIn K (.ref f23) = true)
    (a24 : PySem.W.nsIn K mainGlobals "long_run" = some (some (.ref f24)))
    (l24 : K.lookup f24 = some ⟨oc24, od24, .func (PySem.W.fnOf "long_run" "long_run" (defArgs s_long_run) (defBody s_long_run) (defScope s_long_run) .none kV24 dc24 pm24 an24 cd24 ct24), sl24⟩)
    (c24 : PySem.W.codeIn K cd24 "long_run" = true)
    (k24 : PySem.W.keepIn K (.ref f24) = true)
    (a25 : PySem.W.nsIn K mainGlobals "_law_cell" = some (some (.ref f25)))
    (l25 : K.lookup f25 = some ⟨oc25, od25, .func (PySem.W.fnOf "_law_cell" "_law_cell" (defArgs s_law_cell) (defBody s_law_cell) (defScope s_law_cell) .none kV25 dc25 pm25 an25 cd25 ct25), sl25⟩)
    (c25 : PySem.W.codeIn K cd25 "_law_cell" = true)
    (k25 : PySem.W.keepIn K (.ref f25) = true)
    (a26 : PySem.W.nsIn K mainGlobals "_law_whole" = some (some (.ref f26)))
    (l26 : K.lookup f26 = some ⟨oc26, od26, .func (PySem.W.fnOf "_law_whole" "_law_whole" (defArgs s_law_whole) (defBody s_law_whole) (defScope s_law_whole) .none kV26 dc26 pm26 an26 cd26 ct26), sl26⟩)
    (c26 : PySem.W.codeIn K cd26 "_law_whole" = true)
    (k26 : PySem.W.keepIn K (.ref f26) = true)
    (a27 : PySem.W.nsIn K mainGlobals "_law_pair" = some (some (.ref f27)))
    (l27 : K.lookup f27 = some ⟨oc27, od27, .func (PySem.W.fnOf "_law_pair" "_law_pair" (defArgs s_law_pair) (defBody s_law_pair) (defScope s_law_pair) .none kV27 dc27 pm27 an27 cd27 ct27), sl27⟩)
    (c27 : PySem.W.codeIn K cd27 "_law_pair" = true)
    (k27 : PySem.W.keepIn K (.ref f27) = true)
    (a28 : PySem.W.nsIn K mainGlobals "_law_strength" = some (some (.ref f28)))
    (l28 : K.lookup f28 = some ⟨oc28, od28, .func (PySem.W.fnOf "_law_strength" "_law_strength" (defArgs s_law_strength) (defBody s_law_strength) (defScope s_law_strength) .none kV28 dc28 pm28 an28 cd28 ct28), sl28⟩)
    (c28 : PySem.W.codeIn K cd28 "_law_strength" = true)
    (k28 : PySem.W.keepIn K (.ref f28) = true)
    (a29 : PySem.W.nsIn K mainGlobals "_law_pattern" = some (some (.ref f29)))
    (l29 : K.lookup f29 = some ⟨oc29, od29, .func (PySem.W.fnOf "_law_pattern" "_law_pattern" (defArgs s_law_pattern) (defBody s_law_pattern) (defScope s_law_pattern) .none kV29 dc29 pm29 an29 cd29 ct29), sl29⟩)
    (c29 : PySem.W.codeIn K cd29 "_law_pattern" = true)
    (k29 : PySem.W.keepIn K (.ref f29) = true)
    (a30 : PySem.W.nsIn K mainGlobals "_law_copy" = some (some (.ref f30)))
    (l30 : K.lookup f30 = some ⟨oc30, od30, .func (PySem.W.fnOf "_law_copy" "_law_copy" (defArgs s_law_copy) (defBody s_law_copy) (defScope s_law_copy) .none kV30 dc30 pm30 an30 cd30 ct30), sl30⟩)
    (c30 : PySem.W.codeIn K cd30 "_law_copy" = true)
    (k30 : PySem.W.keepIn K (.ref f30) = true)
    (a31 : PySem.W.nsIn K mainGlobals "law" = some (some (.ref f31)))
    (l31 : K.lookup f31 = some ⟨oc31, od31, .func (PySem.W.fnOf "law" "law" (defArgs s_law) (defBody s_law) (defScope s_law) .none kV31 dc31 pm31 an31 cd31 ct31), sl31⟩)
    (c31 : PySem.W.codeIn K cd31 "law" = true)
    (k31 : PySem.W.keepIn K (.ref f31) = true)
    (z_range : PySem.W.nsIn K mainGlobals "range" = some none)
    (z_len : PySem.W.nsIn K mainGlobals "len" = some none)
    (z_sum : PySem.W.nsIn K mainGlobals "sum" = some none)
    (z_divmod : PySem.W.nsIn K mainGlobals "divmod" = some none)
    (z_min : PySem.W.nsIn K mainGlobals "min" = some none)
    (z_abs : PySem.W.nsIn K mainGlobals "abs" = some none)
    (z_list : PySem.W.nsIn K mainGlobals "list" = some none)
    (z_any : PySem.W.nsIn K mainGlobals "any" = some none)
    (z_isinstance : PySem.W.nsIn K mainGlobals "isinstance" = some none)
    (z_int : PySem.W.nsIn K mainGlobals "int" = some none)
    (z_bool : PySem.W.nsIn K mainGlobals "bool" = some none)
    (z_tuple : PySem.W.nsIn K mainGlobals "tuple" = some none)
    (z_max : PySem.W.nsIn K mainGlobals "max" = some none)
    (z_all : PySem.W.nsIn K mainGlobals "all" = some none)
    (pg_Pull : PySem.W.plainGet K C_Pull Str.empty = true)
    (hd_Pull : PySem.W.hasDictIn K C_Pull = true)
    (po_Pull : PySem.W.plainOver K C_Pull = true)
    (sa_Pull : PySem.W.findIn K (.ref C_Pull) "__setattr__" = some (some (.builtin "object.__setattr__")))
    (mk_Pull : PySem.W.makesIn K C_Pull = true)
    (kp_Pull : PySem.W.keepIn K (.ref C_Pull) = true)
    (n_Pull_one : PySem.W.findIn K (.ref C_Pull) "one" = some none)
    (n_Pull_two : PySem.W.findIn K (.ref C_Pull) "two" = some none)
    (n_Pull_strength : PySem.W.findIn K (.ref C_Pull) "strength" = some none)
    (pg_Push : PySem.W.plainGet K C_Push Str.empty = true)
    (hd_Push : PySem.W.hasDictIn K C_Push = true)
    (po_Push : PySem.W.plainOver K C_Push = true)
    (sa_Push : PySem.W.findIn K (.ref C_Push) "__setattr__" = some (some (.builtin "object.__setattr__")))
    (mk_Push : PySem.W.makesIn K C_Push = true)
    (kp_Push : PySem.W.keepIn K (.ref C_Push) = true)
    (n_Push_one : PySem.W.findIn K (.ref C_Push) "one" = some none)
    (n_Push_two : PySem.W.findIn K (.ref C_Push) "two" = some none)
    (n_Push_strength : PySem.W.findIn K (.ref C_Push) "strength" = some none)
    (kk_MOST_MODULUS : PySem.W.nsIn K mainGlobals "MOST_MODULUS" = some (some (.int 1000000000 t_MOST_MODULUS)))
    (kk_MOST_COLUMNS : PySem.W.nsIn K mainGlobals "MOST_COLUMNS" = some (some (.int 1000000000000000000 t_MOST_COLUMNS)))
    : ∃ fd : FuncData, (∀ (s : Shared) (v : Value), BindsTo s fd ⟨[v], []⟩ [("script", v)]) ∧ ∀ base : Heap, K.In base → base.Ns mainGlobals mg → FnOk l.prog w K mg base CX0 8 fa fd ["script"] (spLaw K) := by
  have e := hfa.symm.trans (PySem.W.mg_of X G a31)
  cases e
  have B : Bl mg := ⟨PySem.W.mg_none_of X G z_range, PySem.W.mg_none_of X G z_len, PySem.W.mg_none_of X G z_sum, PySem.W.mg_none_of X G z_divmod, PySem.W.mg_none_of X G z_min, PySem.W.mg_none_of X G z_abs, PySem.W.mg_none_of X G z_list, PySem.W.mg_none_of X G z_any, PySem.W.mg_none_of X G z_isinstance, PySem.W.mg_none_of X G z_int, PySem.W.mg_none_of X G z_bool, PySem.W.mg_none_of X G z_tuple, PySem.W.mg_none_of X G z_max, PySem.W.mg_none_of X G z_all⟩
  have T : Txt K mg C_Pull C_Push := ⟨PySem.W.mg_of X G g_Pull, PySem.W.mg_of X G g_Push, ⟨pg_Pull, hd_Pull, po_Pull, sa_Pull⟩, mk_Pull, kp_Pull, n_Pull_one, n_Pull_two, n_Pull_strength, ⟨pg_Push, hd_Push, po_Push, sa_Push⟩, mk_Push, kp_Push, n_Push_one, n_Push_two, n_Push_strength, ⟨_, PySem.W.mg_of X G kk_MOST_MODULUS⟩, ⟨_, PySem.W.mg_of X G kk_MOST_COLUMNS⟩⟩
  refine ⟨PySem.W.fnOf "law" "law" (defArgs s_law) (defBody s_law) (defScope s_law) .none kV31 dc31 pm31 an31 cd31 ct31, fun s v => .of_eq rfl, fun base _ _ => ?_⟩
  have h_way_to := ok_way_to (P := l.prog) (w := w) (base := base) (fun_mk (st := s_way_to) l0 c0 k0) (PySem.W.mg_of X G a0) B T 
  have h_row_joined := ok_row_joined (P := l.prog) (w := w) (base := base) (fun_mk (st := s_row_joined) l1 c1 k1) (PySem.W.mg_of X G a1) B T h_way_to
  have h_tables_joined := ok_tables_joined (P := l.prog) (w := w) (base := base) (fun_mk (st := s_tables_joined) l2 c2 k2) (PySem.W.mg_of X G a2) B T h_row_joined
  have h_by_modulus := ok_by_modulus (P := l.prog) (w := w) (base := base) (fun_mk (st := s_by_modulus) l3 c3 k3) (PySem.W.mg_of X G a3) B T 
  have h_table_power := ok_table_power (P := l.prog) (w := w) (base := base) (fun_mk (st := s_table_power) l4 c4 k4) (PySem.W.mg_of X G a4) B T h_by_modulus h_tables_joined
  have hf_Tie___init__ := ok_Tie___init__ (P := l.prog) (w := w) (base := base) (fun_mk (st := s_Tie___init__) l5 c5 k5) B T 
  have h_mk_Pull := hf_Tie___init__.mkOf ⟨mk_Pull, r5_Pull, i5, kp_Pull⟩ (PySem.W.mg_of X G g_Pull)
  have h_mk_Push := hf_Tie___init__.mkOf ⟨mk_Push, r5_Push, i5, kp_Push⟩ (PySem.W.mg_of X G g_Push)
  have hf_Pull_wish := ok_Pull_wish (P := l.prog) (w := w) (base := base) (fun_mk (st := s_Pull_wish) l6 c6 k6) B T 
  have h_Pull_wish := hf_Pull_wish.meth T.cl_Pull ⟨r6_Pull, i6, k6⟩
  have hf_Push_wish := ok_Push_wish (P := l.prog) (w := w) (base := base) (fun_mk (st := s_Push_wish) l7 c7 k7) B T 
  have h_Push_wish := hf_Push_wish.meth T.cl_Push ⟨r7_Push, i7, k7⟩
  have hf_Tie_unpleased := ok_Tie_unpleased (P := l.prog) (w := w) (base := base) (fun_mk (st := s_Tie_unpleased) l8 c8 k8) B T h_Pull_wish h_Push_wish
  have h_Pull_unpleased := hf_Tie_unpleased.meth T.cl_Pull ⟨r8_Pull, i8, k8⟩
  have h_Push_unpleased := hf_Tie_unpleased.meth T.cl_Push ⟨r8_Push, i8, k8⟩
  have hf_Tie_price := ok_Tie_price (P := l.prog) (w := w) (base := base) (fun_mk (st := s_Tie_price) l9 c9 k9) B T h_Pull_unpleased h_Push_unpleased
  have h_Pull_price := hf_Tie_price.meth T.cl_Pull ⟨r9_Pull, i9, k9⟩
  have h_Push_price := hf_Tie_price.meth T.cl_Push ⟨r9_Push, i9, k9⟩
  have h_tie_of := ok_tie_of (P := l.prog) (w := w) (base := base) (fun_mk (st := s_tie_of) l10 c10 k10) (PySem.W.mg_of X G a10) B T h_mk_Push h_mk_Pull
  have h_rows_of := ok_rows_of (P := l.prog) (w := w) (base := base) (fun_mk (st := s_rows_of) l11 c11 k11) (PySem.W.mg_of X G a11) B T 
  have h_across_price := ok_across_price (P := l.prog) (w := w) (base := base) (fun_mk (st := s_across_price) l12 c12 k12) (PySem.W.mg_of X G a12) B T h_tie_of h_Pull_price h_Push_price
  have h_along_price := ok_along_price (P := l.prog) (w := w) (base := base) (fun_mk (st := s_along_price) l13 c13 k13) (PySem.W.mg_of X G a13) B T h_tie_of h_Pull_price h_Push_price
  have h_column_table := ok_column_table (P := l.prog) (w := w) (base := base) (fun_mk (st := s_column_table) l14 c14 k14) (PySem.W.mg_of X G a14) B T h_across_price h_along_price
  have h_step_table := ok_step_table (P := l.prog) (w := w) (base := base) (fun_mk (st := s_step_table) l15 c15 k15) (PySem.W.mg_of X G a15) B T h_rows_of h_column_table h_tables_joined
  have h_strip_least := ok_strip_least (P := l.prog) (w := w) (base := base) (fun_mk (st := s_strip_least) l16 c16 k16) (PySem.W.mg_of X G a16) B T h_rows_of h_row_joined h_table_power h_column_table h_across_price h_step_table
  have h_lows_of := ok_lows_of (P := l.prog) (w := w) (base := base) (fun_mk (st := s_lows_of) l17 c17 k17) (PySem.W.mg_of X G a17) B T 
  have h_lowest_into := ok_lowest_into (P := l.prog) (w := w) (base := base) (fun_mk (st := s_lowest_into) l18 c18 k18) (PySem.W.mg_of X G a18) B T 
  have h_walks := ok_walks (P := l.prog) (w := w) (base := base) (fun_mk (st := s_walks) l19 c19 k19) (PySem.W.mg_of X G a19) B T h_lowest_into
  have h_steepest := ok_steepest (P := l.prog) (w := w) (base := base) (fun_mk (st := s_steepest) l20 c20 k20) (PySem.W.mg_of X G a20) B T 
  have h_lowest_average := ok_lowest_average (P := l.prog) (w := w) (base := base) (fun_mk (st := s_lowest_average) l21 c21 k21) (PySem.W.mg_of X G a21) B T h_walks h_steepest
  have h_slopes_of := ok_slopes_of (P := l.prog) (w := w) (base := base) (fun_mk (st := s_slopes_of) l22 c22 k22) (PySem.W.mg_of X G a22) B T h_lowest_into
  have h_loop_of := ok_loop_of (P := l.prog) (w := w) (base := base) (fun_mk (st := s_loop_of) l23 c23 k23) (PySem.W.mg_of X G a23) B T 
  have h_long_run := ok_long_run (P := l.prog) (w := w) (base := base) (fun_mk (st := s_long_run) l24 c24 k24) (PySem.W.mg_of X G a24) B T h_lowest_average h_slopes_of h_lows_of h_loop_of h_step_table
  have h_law_cell := ok_law_cell (P := l.prog) (w := w) (base := base) (fun_mk (st := s_law_cell) l25 c25 k25) (PySem.W.mg_of X G a25) B T 
  have h_law_whole := ok_law_whole (P := l.prog) (w := w) (base := base) (fun_mk (st := s_law_whole) l26 c26 k26) (PySem.W.mg_of X G a26) B T 
  have h_law_pair := ok_law_pair (P := l.prog) (w := w) (base := base) (fun_mk (st := s_law_pair) l27 c27 k27) (PySem.W.mg_of X G a27) B T h_law_whole
  have h_law_strength := ok_law_strength (P := l.prog) (w := w) (base := base) (fun_mk (st := s_law_strength) l28 c28 k28) (PySem.W.mg_of X G a28) B T 
  have h_law_pattern := ok_law_pattern (P := l.prog) (w := w) (base := base) (fun_mk (st := s_law_pattern) l29 c29 k29) (PySem.W.mg_of X G a29) B T h_law_strength
  have h_law_copy := ok_law_copy (P := l.prog) (w := w) (base := base) (fun_mk (st := s_law_copy) l30 c30 k30) (PySem.W.mg_of X G a30) B T 
  exact ok_law (P := l.prog) (w := w) (base := base) (fun_mk (st := s_law) l31 c31 k31) B T h_law_cell h_law_pattern h_long_run h_law_copy h_strip_least h_law_whole h_law_pair
theorem factsQ {l : PySem.W.OpenLaw} {w : World} {K : PySem.W.Frag} {h : Heap} {mg : Str → Option Value} {fa : Addr} (X : K.In h) (G : h.Ns mainGlobals mg) (hfa : mg "law" = some (.ref fa)) (c : SaysK fsQ fnQ K) : ∃ fd : FuncData, (∀ (s : Shared) (v : Value), BindsTo s fd ⟨[v], []⟩ [("script", v)]) ∧ ∀ base : Heap, K.In base → base.Ns mainGlobals mg → FnOk l.prog w K mg base CX0 8 fa fd ["script"] (spLaw K) := by
  obtain ⟨fd0, D0⟩ : ∃ fd, FunD K "way_to" "way_to" (defArgs s_way_to) (defBody s_way_to) (defScope s_way_to) [] [] (He.fAd K ("way_to", none)) fd := c.def_ 0 rfl
  obtain ⟨oc0, od0, kV0, dc0, pm0, an0, cd0, ct0, sl0, l0, c0, k0⟩ := fnl_of D0
  obtain ⟨fd1, D1⟩ : ∃ fd, FunD K "row_joined" "row_joined" (defArgs s_row_joined) (defBody s_row_joined) (defScope s_row_joined) [] [] (He.fAd K ("row_joined", none)) fd := c.def_ 1 rfl
  obtain ⟨oc1, od1, kV1, dc1, pm1, an1, cd1, ct1, sl1, l1, c1, k1⟩ := fnl_of D1
  obtain ⟨fd2, D2⟩ : ∃ fd, FunD K "tables_joined" "tables_joined" (defArgs s_tables_joined) (defBody s_tables_joined) (defScope s_tables_joined) [] [] (He.fAd K ("tables_joined", none)) fd := c.def_ 2 rfl
  obtain ⟨oc2, od2, kV2, dc2, pm2, an2, cd2, ct2, sl2, l2, c2, k2⟩ := fnl_of D2
  obtain ⟨fd3, D3⟩ : ∃ fd, FunD K "by_modulus" "by_modulus" (defArgs s_by_modulus) (defBody s_by_modulus) (defScope s_by_modulus) [] [] (He.fAd K ("by_modulus", none)) fd := c.def_ 3 rfl
  obtain ⟨oc3, od3, kV3, dc3, pm3, an3, cd3, ct3, sl3, l3, c3, k3⟩ := fnl_of D3
  obtain ⟨fd4, D4⟩ : ∃ fd, FunD K "table_power" "table_power" (defArgs s_table_power) (defBody s_table_power) (defScope s_table_power) [] [] (He.fAd K ("table_power", none)) fd := c.def_ 4 rfl
  obtain ⟨oc4, od4, kV4, dc4, pm4, an4, cd4, ct4, sl4, l4, c4, k4⟩ := fnl_of D4
  obtain ⟨fd5, D5⟩ : ∃ fd, FunD K "__init__" "Tie.__init__" (defArgs s_Tie___init__) (defBody s_Tie___init__) (defScope s_Tie___init__) [] [] (He.fAd K ("Tie", some "__init__")) fd := c.def_ 5 rfl
  obtain ⟨oc5, od5, kV5, dc5, pm5, an5, cd5, ct5, sl5, l5, c5, k5⟩ := fnl_of D5
  obtain ⟨fd6, D6⟩ : ∃ fd, FunD K "wish" "Pull.wish" (defArgs s_Pull_wish) (defBody s_Pull_wish) (defScope s_Pull_wish) [] [] (He.fAd K ("Pull", some "wish")) fd := c.def_ 6 rfl
  obtain ⟨oc6, od6, kV6, dc6, pm6, an6, cd6, ct6, sl6, l6, c6, k6⟩ := fnl_of D6
  obtain ⟨fd7, D7⟩ : ∃ fd, FunD K "wish" "Push.wish" (defArgs s_Push_wish) (defBody s_Push_wish) (defScope s_Push_wish) [] [] (He.fAd K ("Push", some "wish")) fd := c.def_ 7 rfl
  obtain ⟨oc7, od7, kV7, dc7, pm7, an7, cd7, ct7, sl7, l7, c7, k7⟩ := fnl_of D7
  obtain ⟨fd8, D8⟩ : ∃ fd, FunD K "unpleased" "Tie.unpleased" (defArgs s_Tie_unpleased) (defBody s_Tie_unpleased) (defScope s_Tie_unpleased) [] [] (He.fAd K ("Tie", some "unpleased")) fd := c.def_ 8 rfl
  obtain ⟨oc8, od8, kV8, dc8, pm8, an8, cd8, ct8, sl8, l8, c8, k8⟩ := fnl_of D8
  obtain ⟨fd9, D9⟩ : ∃ fd, FunD K "price" "Tie.price" (defArgs s_Tie_price) (defBody s_Tie_price) (defScope s_Tie_price) [] [] (He.fAd K ("Tie", some "price")) fd := c.def_ 9 rfl
  obtain ⟨oc9, od9, kV9, dc9, pm9, an9, cd9, ct9, sl9, l9, c9, k9⟩ := fnl_of D9
  obtain ⟨fd10, D10⟩ : ∃ fd, FunD K "tie_of" "tie_of" (defArgs s_tie_of) (defBody s_tie_of) (defScope s_tie_of) [] [] (He.fAd K ("tie_of", none)) fd := c.def_ 10 rfl
  obtain ⟨oc10, od10, kV10, dc10, pm10, an10, cd10, ct10, sl10, l10, c10, k10⟩ := fnl_of D10
  obtain ⟨fd11, D11⟩ : ∃ fd, FunD K "rows_of" "rows_of" (defArgs s_rows_of) (defBody s_rows_of) (defScope s_rows_of) [] [] (He.fAd K ("rows_of", none)) fd := c.def_ 11 rfl
  obtain ⟨oc11, od11, kV11, dc11, pm11, an11, cd11, ct11, sl11, l11, c11, k11⟩ := fnl_of D11
  obtain ⟨fd12, D12⟩ : ∃ fd, FunD K "across_price" "across_price" (defArgs s_across_price) (defBody s_across_price) (defScope s_across_price) [] [] (He.fAd K ("across_price", none)) fd := c.def_ 12 rfl
  obtain ⟨oc12, od12, kV12, dc12, pm12, an12, cd12, ct12, sl12, l12, c12, k12⟩ := fnl_of D12
  obtain ⟨fd13, D13⟩ : ∃ fd, FunD K "along_price" "along_price" (defArgs s_along_price) (defBody s_along_price) (defScope s_along_price) [] [] (He.fAd K ("along_price", none)) fd := c.def_ 13 rfl
  obtain ⟨oc13, od13, kV13, dc13, pm13, an13, cd13, ct13, sl13, l13, c13, k13⟩ := fnl_of D13
  obtain ⟨fd14, D14⟩ : ∃ fd, FunD K "column_table" "column_table" (defArgs s_column_table) (defBody s_column_table) (defScope s_column_table) [] [] (He.fAd K ("column_table", none)) fd := c.def_ 14 rfl
  obtain ⟨oc14, od14, kV14, dc14, pm14, an14, cd14, ct14, sl14, l14, c14, k14⟩ := fnl_of D14
  obtain ⟨fd15, D15⟩ : ∃ fd, FunD K "step_table" "step_table" (defArgs s_step_table) (defBody s_step_table) (defScope s_step_table) [] [] (He.fAd K ("step_table", none)) fd := c.def_ 15 rfl
  obtain ⟨oc15, od15, kV15, dc15, pm15, an15, cd15, ct15, sl15, l15, c15, k15⟩ := fnl_of D15
  obtain ⟨fd16, D16⟩ : ∃ fd, FunD K "strip_least" "strip_least" (defArgs s_strip_least) (defBody s_strip_least) (defScope s_strip_least) [] [] (He.fAd K ("strip_least", none)) fd := c.def_ 16 rfl
  obtain ⟨oc16, od16, kV16, dc16, pm16, an16, cd16, ct16, sl16, l16, c16, k16⟩ := fnl_of D16
  obtain ⟨fd17, D17⟩ : ∃ fd, FunD K "lows_of" "lows_of" (defArgs s_lows_of) (defBody s_lows_of) (defScope s_lows_of) [] [] (He.fAd K ("lows_of", none)) fd := c.def_ 17 rfl
  obtain ⟨oc17, od17, kV17, dc17, pm17, an17, cd17, ct17, sl17, l17, c17, k17⟩ := fnl_of D17
  obtain ⟨fd18, D18⟩ : ∃ fd, FunD K "lowest_into" "lowest_into" (defArgs s_lowest_into) (defBody s_lowest_into) (defScope s_lowest_into) [] [] (He.fAd K ("lowest_into", none)) fd := c.def_ 18 rfl
  obtain ⟨oc18, od18, kV18, dc18, pm18, an18, cd18, ct18, sl18, l18, c18, k18⟩ := fnl_of D18
  obtain ⟨fd19, D19⟩ : ∃ fd, FunD K "walks" "walks" (defArgs s_walks) (defBody s_walks) (defScope s_walks) [] [] (He.fAd K ("walks", none)) fd := c.def_ 19 rfl
  obtain ⟨oc19, od19, kV19, dc19, pm19, an19, cd19, ct19, sl19, l19, c19, k19⟩ := fnl_of D19
  obtain ⟨fd20, D20⟩ : ∃ fd, FunD K "steepest" "steepest" (defArgs s_steepest) (defBody s_steepest) (defScope s_steepest) [] [] (He.fAd K ("steepest", none)) fd := c.def_ 20 rfl
  obtain ⟨oc20, od20, kV20, dc20, pm20, an20, cd20, ct20, sl20, l20, c20, k20⟩ := fnl_of D20
  obtain ⟨fd21, D21⟩ : ∃ fd, FunD K "lowest_average" "lowest_average" (defArgs s_lowest_average) (defBody s_lowest_average) (defScope s_lowest_average) [] [] (He.fAd K ("lowest_average", none)) fd := c.def_ 21 rfl
  obtain ⟨oc21, od21, kV21, dc21, pm21, an21, cd21, ct21, sl21, l21, c21, k21⟩ := fnl_of D21
  obtain ⟨fd22, D22⟩ : ∃ fd, FunD K "slopes_of" "slopes_of" (defArgs s_slopes_of) (defBody s_slopes_of) (defScope s_slopes_of) [] [] (He.fAd K ("slopes_of", none)) fd := c.def_ 22 rfl
  obtain ⟨oc22, od22, kV22, dc22, pm22, an22, cd22, ct22, sl22, l22, c22, k22⟩ := fnl_of D22
  obtain ⟨fd23, D23⟩ : ∃ fd, FunD K "loop_of" "loop_of" (defArgs s_loop_of) (defBody s_loop_of) (defScope s_loop_of) [] [] (He.fAd K ("loop_of", none)) fd := c.def_ 23 rfl
  obtain ⟨oc23, od23, kV23, dc23, pm23, an23, cd23, ct23, sl23, l23, c23, k23⟩ := fnl_of D23
  obtain ⟨fd24, D24⟩ : ∃ fd, FunD K "long_run" "long_run" (defArgs s_long_run) (defBody s_long_run) (defScope s_long_run) [] [] (He.fAd K ("long_run", none)) fd := c.def_ 24 rfl
  obtain ⟨oc24, od24, kV24, dc24, pm24, an24, cd24, ct24, sl24, l24, c24, k24⟩ := fnl_of D24
  obtain ⟨fd25, D25⟩ : ∃ fd, FunD K "_law_cell" "_law_cell" (defArgs s_law_cell) (defBody s_law_cell) (defScope s_law_cell) [] [] (He.fAd K ("_law_cell", none)) fd := c.def_ 25 rfl
  obtain ⟨oc25, od25, kV25, dc25, pm25, an25, cd25, ct25, sl25, l25, c25, k25⟩ := fnl_of D25
  obtain ⟨fd26, D26⟩ : ∃ fd, FunD K "_law_whole" "_law_whole" (defArgs s_law_whole) (defBody s_law_whole) (defScope s_law_whole) [] [] (He.fAd K ("_law_whole", none)) fd := c.def_ 26 rfl
  obtain ⟨oc26, od26, kV26, dc26, pm26, an26, cd26, ct26, sl26, l26, c26, k26⟩ := fnl_of D26
  obtain ⟨fd27, D27⟩ : ∃ fd, FunD K "_law_pair" "_law_pair" (defArgs s_law_pair) (defBody s_law_pair) (defScope s_law_pair) [] [] (He.fAd K ("_law_pair", none)) fd := c.def_ 27 rfl
  obtain ⟨oc27, od27, kV27, dc27, pm27, an27, cd27, ct27, sl27, l27, c27, k27⟩ := fnl_of D27
  obtain ⟨fd28, D28⟩ : ∃ fd, FunD K "_law_strength" "_law_strength" (defArgs s_law_strength) (defBody s_law_strength) (defScope s_law_strength) [] [] (He.fAd K ("_law_strength", none)) fd := c.def_ 28 rfl
  obtain ⟨oc28, od28, kV28, dc28, pm28, an28, cd28, ct28, sl28, l28, c28, k28⟩ := fnl_of D28
  obtain ⟨fd29, D29⟩ : ∃ fd, FunD K "_law_pattern" "_law_pattern" (defArgs s_law_pattern) (defBody s_law_pattern) (defScope s_law_pattern) [] [] (He.fAd K ("_law_pattern", none)) fd := c.def_ 29 rfl
  obtain ⟨oc29, od29, kV29, dc29, pm29, an29, cd29, ct29, sl29, l29, c29, k29⟩ := fnl_of D29
  obtain ⟨fd30, D30⟩ : ∃ fd, FunD K "_law_copy" "_law_copy" (defArgs s_law_copy) (defBody s_law_copy) (defScope s_law_copy) [] [] (He.fAd K ("_law_copy", none)) fd := c.def_ 30 rfl
  obtain ⟨oc30, od30, kV30, dc30, pm30, an30, cd30, ct30, sl30, l30, c30, k30⟩ := fnl_of D30
  obtain ⟨fd31, D31⟩ : ∃ fd, FunD K "law" "law" (defArgs s_law) (defBody s_law) (defScope s_law) [] [] (He.fAd K ("law", none)) fd := c.def_ 31 rfl
  obtain ⟨oc31, od31, kV31, dc31, pm31, an31, cd31, ct31, sl31, l31, c31, k31⟩ := fnl_of D31
  have g_Pull : PySem.W.nsIn K mainGlobals "Pull" = some (some (.ref (He.ga K "Pull"))) := c.is 0 rfl
  have g_Push : PySem.W.nsIn K mainGlobals "Push" = some (some (.ref (He.ga K "Push"))) := c.is 1 rfl
  have a0 : PySem.W.nsIn K mainGlobals "way_to" = some (some (.ref (He.fAd K ("way_to", none)))) := c.is 2 rfl
  have a1 : PySem.W.nsIn K mainGlobals "row_joined" = some (some (.ref (He.fAd K ("row_joined", none)))) := c.is 3 rfl
  have a2 : PySem.W.nsIn K mainGlobals "tables_joined" = some (some (.ref (He.fAd K ("tables_joined", none)))) := c.is 4 rfl
  have a3 : PySem.W.nsIn K mainGlobals "by_modulus" = some (some (.ref (He.fAd K ("by_modulus", none)))) := c.is 5 rfl
  have a4 : PySem.W.nsIn K mainGlobals "table_power" = some (some (.ref (He.fAd K ("table_power", none)))) := c.is 6 rfl
  have r5_Pull : PySem.W.findIn K (.ref (He.ga K "Pull")) "__init__" = some (some (.ref (He.fAd K ("Tie", some "__init__")))) := c.is 7 rfl
  have r5_Push : PySem.W.findIn K (.ref (He.ga K "Push")) "__init__" = some (some (.ref (He.fAd K ("Tie", some "__init__")))) := c.is 8 rfl
  have i5 : PySem.W.isFn K (.ref (He.fAd K ("Tie", some "__init__"))) = true := c.is 9 rfl
  have r6_Pull : PySem.W.findIn K (.ref (He.ga K "Pull")) "wish" = some (some (.ref (He.fAd K ("Pull", some "wish")))) := c.is 10 rfl
  have i6 : PySem.W.isFn K (.ref (He.fAd K ("Pull", some "wish"))) = true := c.is 11 rfl
  have r7_Push : PySem.W.findIn K (.ref (He.ga K "Push")) "wish" = some (some (.ref (He.fAd K ("Push", some "wish")))) := c.is 12 rfl
  have i7 : PySem.W.isFn K (.ref (He.fAd K ("Push", some "wish"))) = true := c.is 13 rfl
  have r8_Pull : PySem.W.findIn K (.ref (He.ga K "Pull")) "unpleased" = some (some (.ref (He.fAd K ("Tie", some "unpleased")))) := c.is 14 rfl
  have r8_Push : PySem.W.findIn K (.ref (He.ga K "Push")) "unpleased" = some (some (.ref (He.fAd K ("Tie", some "unpleased")))) := c.is 15 rfl
  have i8 : PySem.W.isFn K (.ref (He.fAd K ("Tie", some "unpleased"))) = true := c.is 16 rfl
  have r9_Pull : PySem.W.findIn K (.ref (He.ga K "Pull")) "price" = some (some (.ref (He.fAd K ("Tie", some "price")))) := c.is 17 rfl
  have r9_Push : PySem.W.findIn K (.ref (He.ga K "Push")) "price" = some (some (.ref (He.fAd K ("Tie", some "price")))) := c.is 18 rfl
  have i9 : PySem.W.isFn K (.ref (He.fAd K ("Tie", some "price"))) = true := c.is 19 rfl
  have a10 : PySem.W.nsIn K mainGlobals "tie_of" = some (some (.ref (He.fAd K ("tie_of", none)))) := c.is 20 rfl
  have a11 : PySem.W.nsIn K mainGlobals "rows_of" = some (some (.ref (He.fAd K ("rows_of", none)))) := c.is 21 rfl
  have a12 : PySem.W.nsIn K mainGlobals "across_price" = some (some (.ref (He.fAd K ("across_price", none)))) := c.is 22 rfl
  have a13 : PySem.W.nsIn K mainGlobals "along_price" = some (some (.ref (He.fAd K ("along_price", none)))) := c.is 23 rfl
  have a14 : PySem.W.nsIn K mainGlobals "column_table" = some (some (.ref (He.fAd K ("column_table", none)))) := c.is 24 rfl
  have a15 : PySem.W.nsIn K mainGlobals "step_table" = some (some (.ref (He.fAd K ("step_table", none)))) := c.is 25 rfl
  have a16 : PySem.W.nsIn K mainGlobals "strip_least" = some (some (.ref (He.fAd K ("strip_least", none)))) := c.is 26 rfl
  have a17 : PySem.W.nsIn K mainGlobals "lows_of" = some (some (.ref (He.fAd K ("lows_of", none)))) := c.is 27 rfl
  have a18 : PySem.W.nsIn K mainGlobals "lowest_into" = some (some (.ref (He.fAd K ("lowest_into", none)))) := c.is 28 rfl
  have a19 : PySem.W.nsIn K mainGlobals "walks" = some (some (.ref (He.fAd K ("walks", none)))) := c.is 29 rfl
  have a20 : PySem.W.nsIn K mainGlobals "steepest" = some (some (.ref (He.fAd K ("steepest", none)))) := c.is 30 rfl
  have a21 : PySem.W.nsIn K mainGlobals "lowest_average" = some (some (.ref (He.fAd K ("lowest_average", none)))) := c.is 31 rfl
  have a22 : PySem.W.nsIn K mainGlobals "slopes_of" = some (some (.ref (He.fAd K ("slopes_of", none)))) := c.is 32 rfl
  have a23 : PySem.W.nsIn K mainGlobals "loop_of" = some (some (.ref (He.fAd K ("loop_of", none)))) := c.is 33 rfl
  have a24 : PySem.W.nsIn K mainGlobals "long_run" = some (some (.ref (He.fAd K ("long_run", none)))) := c.is 34 rfl
  have a25 : PySem.W.nsIn K mainGlobals "_law_cell" = some (some (.ref (He.fAd K ("_law_cell", none)))) := c.is 35 rfl
  have a26 : PySem.W.nsIn K mainGlobals "_law_whole" = some (some (.ref (He.fAd K ("_law_whole", none)))) := c.is 36 rfl
  have a27 : PySem.W.nsIn K mainGlobals "_law_pair" = some (some (.ref (He.fAd K ("_law_pair", none)))) := c.is 37 rfl
  have a28 : PySem.W.nsIn K mainGlobals "_law_strength" = some (some (.ref (He.fAd K ("_law_strength", none)))) := c.is 38 rfl
  have a29 : PySem.W.nsIn K mainGlobals "_law_pattern" = some (some (.ref (He.fAd K ("_law_pattern", none)))) := c.is 39 rfl
  have a30 : PySem.W.nsIn K mainGlobals "_law_copy" = some (some (.ref (He.fAd K ("_law_copy", none)))) := c.is 40 rfl
  have a31 : PySem.W.nsIn K mainGlobals "law" = some (some (.ref (He.fAd K ("law", none)))) := c.is 41 rfl
  have z_range : PySem.W.nsIn K mainGlobals "range" = some none := c.is 42 rfl
  have z_len : PySem.W.nsIn K mainGlobals "len" = some none := c.is 43 rfl
  have z_sum : PySem.W.nsIn K mainGlobals "sum" = some none := c.is 44 rfl
  have z_divmod : PySem.W.nsIn K mainGlobals "divmod" = some none := c.is 45 rfl
  have z_min : PySem.W.nsIn K mainGlobals "min" = some none := c.is 46 rfl
  have z_abs : PySem.W.nsIn K mainGlobals "abs" = some none := c.is 47 rfl
  have z_list : PySem.W.nsIn K mainGlobals "list" = some none := c.is 48 rfl
  have z_any : PySem.W.nsIn K mainGlobals "any" = some none := c.is 49 rfl
  have z_isinstance : PySem.W.nsIn K mainGlobals "isinstance" = some none := c.is 50 rfl
  have z_int : PySem.W.nsIn K mainGlobals "int" = some none := c.is 51 rfl
  have z_bool : PySem.W.nsIn K mainGlobals "bool" = some none := c.is 52 rfl
  have z_tuple : PySem.W.nsIn K mainGlobals "tuple" = some none := c.is 53 rfl
  have z_max : PySem.W.nsIn K mainGlobals "max" = some none := c.is 54 rfl
  have z_all : PySem.W.nsIn K mainGlobals "all" = some none := c.is 55 rfl
  have pg_Pull : PySem.W.plainGet K (He.ga K "Pull") Str.empty = true := c.is 56 rfl
  have hd_Pull : PySem.W.hasDictIn K (He.ga K "Pull") = true := c.is 57 rfl
  have po_Pull : PySem.W.plainOver K (He.ga K "Pull") = true := c.is 58 rfl
  have sa_Pull : PySem.W.findIn K (.ref (He.ga K "Pull")) "__setattr__" = some (some (.builtin "object.__setattr__")) := c.is 59 rfl
  have mk_Pull : PySem.W.makesIn K (He.ga K "Pull") = true := c.is 60 rfl
  have kp_Pull : PySem.W.keepIn K (.ref (He.ga K "Pull")) = true := c.is 61 rfl
  have n_Pull_one : PySem.W.findIn K (.ref (He.ga K "Pull")) "one" = some none := c.is 62 rfl
  have n_Pull_two : PySem.W.findIn K (.ref (He.ga K "Pull")) "two" = some none := c.is 63 rfl
  have n_Pull_strength : PySem.W.findIn K (.ref (He.ga K "Pull")) "strength" = some none := c.is 64 rfl
  have pg_Push : PySem.W.plainGet K (He.ga K "Push") Str.empty = true := c.is 65 rfl
  have hd_Push : PySem.W.hasDictIn K (He.ga K "Push") = true := c.is 66 rfl
  have po_Push : PySem.W.plainOver K (He.ga K "Push") = true := c.is 67 rfl
  have sa_Push : PySem.W.findIn K (.ref (He.ga K "Push")) "__setattr__" = some (some (.builtin "object.__setattr__")) := c.is 68 rfl
  have mk_Push : PySem.W.makesIn K (He.ga K "Push") = true := c.is 69 rfl
  have kp_Push : PySem.W.keepIn K (.ref (He.ga K "Push")) = true := c.is 70 rfl
  have n_Push_one : PySem.W.findIn K (.ref (He.ga K "Push")) "one" = some none := c.is 71 rfl
  have n_Push_two : PySem.W.findIn K (.ref (He.ga K "Push")) "two" = some none := c.is 72 rfl
  have n_Push_strength : PySem.W.findIn K (.ref (He.ga K "Push")) "strength" = some none := c.is 73 rfl
  obtain ⟨t_MOST_MODULUS, kk_MOST_MODULUS⟩ := intK_ok (c.fact 74 rfl)
  obtain ⟨t_MOST_COLUMNS, kk_MOST_COLUMNS⟩ := intK_ok (c.fact 75 rfl)
  exact all_mk X G hfa g_Pull g_Push a0 l0 c0 k0 a1 l1 c1 k1 a2 l2 c2 k2 a3 l3 c3 k3 a4 l4 c4 k4 r5_Pull r5_Push i5 l5 c5 k5 r6_Pull i6 l6 c6 k6 r7_Push i7 l7 c7 k7 r8_Pull r8_Push i8 l8 c8 k8 r9_Pull r9_Push i9 l9 c9 k9 a10 l10 c10 k10 a11 l11 c11 k11 a12 l12 c12 k12 a13 l13 c13 k13 a14 l14 c14 k14 a15 l15 c15 k15 a16 l16 c16 k16 a17 l17 c17 k17 a18 l18 c18 k18 a19 l19 c19 k19 a20 l20 c20 k20 a21 l21 c21 k21 a22 l22 c22 k22 a23 l23 c23 k23 a24 l24 c24 k24 a25 l25 c25 k25 a26 l26 c26 k26 a27 l27 c27 k27 a28 l28 c28 k28 a29 l29 c29 k29 a30 l30 c30 k30 a31 l31 c31 k31 z_range z_len z_sum z_divmod z_min z_abs z_list z_any z_isinstance z_int z_bool z_tuple z_max z_all pg_Pull hd_Pull po_Pull sa_Pull mk_Pull kp_Pull n_Pull_one n_Pull_two n_Pull_strength pg_Push hd_Push po_Push sa_Push mk_Push kp_Push n_Push_one n_Push_two n_Push_strength kk_MOST_MODULUS kk_MOST_COLUMNS
end Sf
open PySem PySem.W PySem.Calls PyProof.Rows
set_option maxRecDepth 100000 in
set_option maxHeartbeats 0 in
theorem PySem.Challenge.cw_spinfloor_k52_whole_near_a_line_holds : PySem.Challenge.rw_spinfloor_k52_whole_near_a_line.Holds := by
  refine Sf.headQ ?_
  refine Sf.walk_ofK (l := PySem.Challenge.rw_spinfloor_k52_whole_near_a_line) (n := 63) (k := 8) (sp := Sf.spLaw) rfl (by decide) (by kernel_rfl) ⟨rfl, by decide, by decide⟩ ?F (fun _ _ a ns hl hb hS => ⟨a, ns, rfl, hS, hl, hb, fun _ => rfl⟩)
  intro w mg fa h Y G hmg0
  obtain ⟨K, KX, c⟩ := Y
  have hmg : mg ("law" : PySem.Str) = some (.ref fa) := by
    have e : (HandSHeadRun.topDef (PySem.W.OpenLaw.row PySem.Challenge.rw_spinfloor_k52_whole_near_a_line).prog 40).name = ("law" : PySem.Str) := by kernel_rfl
    rw [← e]
    exact hmg0
  exact ⟨K, KX, Sf.factsQ (l := PySem.Challenge.rw_spinfloor_k52_whole_near_a_line) KX G hmg c⟩

