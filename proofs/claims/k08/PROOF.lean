
import PyProof.Rows.All
import Wide.All
import OpenK.AllK
import Wide.FinOn
import HandS.ForMost
import HandS.Wide
import HandS.WideBits
import HandS.IsInst
import HandS.More
import HandS.EndBits
import HandS.SortInts
import KE.SortData
import HandS.TupLe
import HandS.Conv
import PySem.Challenge.RW_spinfloor_k08_whole_rounds_and_sides
set_option Elab.async false
set_option linter.all false
set_option pp.deepTerms false
set_option pp.deepTerms.threshold 4
set_option maxRecDepth 100000
set_option maxHeartbeats 8000000
namespace Sf
open PySem PySem.Spec PyProof.Rows L2

/-! ### lists as sets -/
theorem perm_of_nodup {α : Type} [DecidableEq α] {xs ys : List α} (hx : xs.Nodup) (hy : ys.Nodup) (h : ∀ a, a ∈ xs ↔ a ∈ ys) : xs.Perm ys := by
  rw [List.perm_iff_count]
  intro a
  rw [List.Nodup.count hx, List.Nodup.count hy]
  by_cases e : a ∈ xs
  · rw [if_pos e, if_pos ((h a).mp e)]
  · rw [if_neg e, if_neg (fun z => e ((h a).mpr z))]
theorem len_of_nodup {α : Type} [DecidableEq α] {xs ys : List α} (hx : xs.Nodup) (hy : ys.Nodup) (h : ∀ a, a ∈ xs ↔ a ∈ ys) : xs.length = ys.length := (perm_of_nodup hx hy h).length_eq
theorem nodup_sub_len {α : Type} [DecidableEq α] : ∀ {xs ys : List α}, xs.Nodup → (∀ a ∈ xs, a ∈ ys) → xs.length ≤ ys.length
  | [], _, _, _ => Nat.zero_le _
  | x :: xs, ys, hx, h => by
    have hx' := List.nodup_cons.mp hx
    have ih := nodup_sub_len (ys := ys.erase x) hx'.2 fun a ha => by
      have : a ≠ x := fun e => hx'.1 (e ▸ ha)
      exact (List.mem_erase_of_ne this).mpr (h a (List.mem_cons_of_mem _ ha))
    have hm := h x List.mem_cons_self
    have := List.length_erase_of_mem hm
    have hp : 0 < ys.length := List.length_pos_of_mem hm
    rw [List.length_cons]
    omega
/-- as many as there are: all -/
theorem nodup_full {α : Type} [DecidableEq α] {xs ys : List α} (hx : xs.Nodup) (hs : ∀ a ∈ xs, a ∈ ys) (hl : ys.length ≤ xs.length) : ∀ a ∈ ys, a ∈ xs := fun a ha => by
  by_cases e : a ∈ xs
  · exact e
  · have : (a :: xs).Nodup := List.nodup_cons.mpr ⟨e, hx⟩
    have h2 := nodup_sub_len this (fun b hb => by rcases List.mem_cons.mp hb with r | r; exact r ▸ ha; exact hs b r)
    rw [List.length_cons] at h2
    omega
/-! ### the next one in a list that goes round -/

def nxt (r : List Nat) (x : Nat) : Nat := r.getD ((r.idxOf x + 1) % r.length) 0
theorem idx_at {r : List Nat} (h : r.Nodup) {i x : Nat} (e : r[i]? = some x) : r.idxOf x = i := by
  obtain ⟨hi, rfl⟩ := List.getElem?_eq_some_iff.mp e
  exact h.idxOf_getElem i hi
theorem nxt_at {r : List Nat} (h : r.Nodup) {i x y : Nat} (e : r[i]? = some x) (e2 : r[(i + 1) % r.length]? = some y) : nxt r x = y := by
  unfold nxt
  rw [idx_at h e, List.getD_eq_getElem?_getD, e2]
  rfl
theorem nxt_mem {r : List Nat} {x : Nat} (h : x ∈ r) : nxt r x ∈ r := by
  unfold nxt
  have hl : 0 < r.length := List.length_pos_of_mem h
  have h2 : (r.idxOf x + 1) % r.length < r.length := Nat.mod_lt _ hl
  rw [List.getD_eq_getElem?_getD, List.getElem?_eq_getElem h2]
  exact List.getElem_mem h2
theorem nxt_inj {r : List Nat} (h : r.Nodup) {x y : Nat} (hx : x ∈ r) (hy : y ∈ r) (e : nxt r x = nxt r y) : x = y := by
  obtain ⟨i, hi, rfl⟩ := List.mem_iff_getElem.mp hx
  obtain ⟨j, hj, rfl⟩ := List.mem_iff_getElem.mp hy
  have hl : 0 < r.length := by omega
  have m1 : (i + 1) % r.length < r.length := Nat.mod_lt _ hl
  have m2 : (j + 1) % r.length < r.length := Nat.mod_lt _ hl
  rw [nxt_at h (List.getElem?_eq_getElem hi) (List.getElem?_eq_getElem m1), nxt_at h (List.getElem?_eq_getElem hj) (List.getElem?_eq_getElem m2)] at e
  have e2 := (List.getElem_inj h).mp e
  have e3 : i = j := by
    by_cases a : i + 1 = r.length <;> by_cases b : j + 1 = r.length
    · omega
    · rw [a, Nat.mod_self, Nat.mod_eq_of_lt (by omega)] at e2; omega
    · rw [b, Nat.mod_self, Nat.mod_eq_of_lt (by omega)] at e2; omega
    · rw [Nat.mod_eq_of_lt (by omega), Nat.mod_eq_of_lt (by omega)] at e2; omega
  subst e3
  rfl
/-- x put in behind the k-th -/
def putAt (r : List Nat) (k x : Nat) : List Nat := r.take k ++ [x] ++ r.drop k
theorem putAt_len (r : List Nat) (k x : Nat) : (putAt r k x).length = r.length + 1 := by
  unfold putAt
  simp
  omega
theorem putAt_get (r : List Nat) (k x i : Nat) (hk : k ≤ r.length) : (putAt r k x)[i]? = if i < k then r[i]? else if i = k then some x else r[i - 1]? := by
  unfold putAt
  by_cases h : i < k
  · rw [if_pos h, List.append_assoc, List.getElem?_append_left (by simp; omega), List.getElem?_take, if_pos h]
  · rw [if_neg h, List.append_assoc, List.getElem?_append_right (by simp; omega)]
    have e : (r.take k).length = k := by simp; omega
    rw [e]
    by_cases h2 : i = k
    · rw [if_pos h2, h2, Nat.sub_self]; rfl
    · rw [if_neg h2]
      obtain ⟨j, hj⟩ : ∃ j, i - k = j + 1 := ⟨i - k - 1, by omega⟩
      rw [hj]
      show (r.drop k)[j]? = r[i - 1]?
      rw [List.getElem?_drop]
      congr 1
      omega
theorem putAt_perm (r : List Nat) (k x : Nat) : (putAt r k x).Perm (x :: r) := by
  unfold putAt
  rw [List.append_assoc]
  refine (List.perm_append_comm_assoc _ _ _).trans ?_
  rw [List.take_append_drop]
  exact List.Perm.refl _
theorem putAt_mem {r : List Nat} {k x y : Nat} : y ∈ putAt r k x ↔ y = x ∨ y ∈ r := by
  rw [(putAt_perm r k x).mem_iff, List.mem_cons]
theorem putAt_nodup {r : List Nat} {k x : Nat} (h : r.Nodup) (hx : x ∉ r) : (putAt r k x).Nodup := by
  rw [(putAt_perm r k x).nodup_iff]
  exact List.nodup_cons.mpr ⟨hx, h⟩
/-- behind x stands the new one, behind it what stood behind x -/
theorem nxt_put {r : List Nat} (h : r.Nodup) {x y : Nat} (hx : x ∈ r) (hy : y ∉ r) :
    nxt (putAt r (r.idxOf x + 1) y) x = y ∧ nxt (putAt r (r.idxOf x + 1) y) y = nxt r x ∧ ∀ z ∈ r, z ≠ x → nxt (putAt r (r.idxOf x + 1) y) z = nxt r z := by
  obtain ⟨i, hi, rfl⟩ := List.mem_iff_getElem.mp hx
  have ei : r.idxOf r[i] = i := h.idxOf_getElem i hi
  rw [ei]
  have hn := putAt_nodup (k := i + 1) h hy
  have hl := putAt_len r (i + 1) y
  have g := fun j => putAt_get r (i + 1) y j (by omega)
  have hl0 : 0 < r.length := by omega
  refine ⟨?_, ?_, fun z hz hne => ?_⟩
  · refine nxt_at (i := i) hn ?_ ?_
    · rw [g, if_pos (by omega), List.getElem?_eq_getElem hi]
    · rw [hl, Nat.mod_eq_of_lt (by omega), g, if_neg (by omega), if_pos rfl]
  · have m1 : (i + 1) % r.length < r.length := Nat.mod_lt _ hl0
    rw [nxt_at h (List.getElem?_eq_getElem hi) (List.getElem?_eq_getElem m1)]
    refine nxt_at (i := i + 1) hn ?_ ?_
    · rw [g, if_neg (by omega), if_pos rfl]
    · rw [hl, g]
      by_cases e : i + 1 = r.length
      · have e1 : (i + 1 + 1) % (r.length + 1) = 0 := by rw [e, Nat.mod_self]
        have e2 : (i + 1) % r.length = 0 := by rw [e, Nat.mod_self]
        rw [e1, if_pos (by omega)]
        simp only [e2]
        exact List.getElem?_eq_getElem hl0
      · have e1 : (i + 1 + 1) % (r.length + 1) = i + 2 := Nat.mod_eq_of_lt (by omega)
        have e2 : (i + 1) % r.length = i + 1 := Nat.mod_eq_of_lt (by omega)
        rw [e1, if_neg (by omega), if_neg (by omega)]
        simp only [e2]
        exact List.getElem?_eq_getElem (by omega)
  · obtain ⟨j, hj, rfl⟩ := List.mem_iff_getElem.mp hz
    have hij : j ≠ i := fun e => hne (by subst e; rfl)
    have m1 : (j + 1) % r.length < r.length := Nat.mod_lt _ hl0
    rw [nxt_at h (List.getElem?_eq_getElem hj) (List.getElem?_eq_getElem m1)]
    by_cases hlt : j < i
    · have e2 : (j + 1) % r.length = j + 1 := Nat.mod_eq_of_lt (by omega)
      refine nxt_at (i := j) hn ?_ ?_
      · rw [g, if_pos (by omega), List.getElem?_eq_getElem hj]
      · rw [hl, Nat.mod_eq_of_lt (by omega), g, if_pos (by omega)]
        simp only [e2]
        exact List.getElem?_eq_getElem (by omega)
    · refine nxt_at (i := j + 1) hn ?_ ?_
      · rw [g, if_neg (by omega), if_neg (by omega)]
        exact List.getElem?_eq_getElem (by omega)
      · rw [hl, g]
        by_cases e : j + 1 = r.length
        · have e1 : (j + 1 + 1) % (r.length + 1) = 0 := by rw [e, Nat.mod_self]
          have e2 : (j + 1) % r.length = 0 := by rw [e, Nat.mod_self]
          rw [e1, if_pos (by omega)]
          simp only [e2]
          exact List.getElem?_eq_getElem hl0
        · have e1 : (j + 1 + 1) % (r.length + 1) = j + 2 := Nat.mod_eq_of_lt (by omega)
          have e2 : (j + 1) % r.length = j + 1 := Nat.mod_eq_of_lt (by omega)
          rw [e1, if_neg (by omega), if_neg (by omega)]
          simp only [e2]
          exact List.getElem?_eq_getElem (by omega)

/-! ### going round by f -/
def Path (f : Nat → Nat) : Nat → List Nat → Nat → Prop
  | x, [], y => f x = y
  | x, z :: l, y => f x = z ∧ Path f z l y
theorem Path.app {f : Nat → Nat} : ∀ {x y z : Nat} {l1 l2 : List Nat}, Path f x (l1 ++ y :: l2) z ↔ Path f x l1 y ∧ Path f y l2 z
  | x, y, z, [], l2 => Iff.rfl
  | x, y, z, a :: l1, l2 => by
    show (f x = a ∧ Path f a (l1 ++ y :: l2) z) ↔ (f x = a ∧ Path f a l1 y) ∧ Path f y l2 z
    rw [Path.app, and_assoc]
theorem Path.other {f g : Nat → Nat} : ∀ {x x' y : Nat} {l : List Nat}, Path f x l y → g x' = f x → (∀ z ∈ l, g z = f z) → Path g x' l y
  | x, x', y, [], h, e, _ => e.trans h
  | x, x', y, a :: l, h, e, hl => ⟨e.trans h.1, Path.other h.2 (hl a List.mem_cons_self) fun z hz => hl z (List.mem_cons_of_mem _ hz)⟩
/-- the rings of f: every dart below m in just one -/
structure Rings (f : Nat → Nat) (m : Nat) (R : List (List Nat)) : Prop where
  all : R.flatten.Perm (List.range m)
  ok : ∀ r ∈ R, ∃ x l, r = x :: l ∧ Path f x l x
theorem Rings.nd {f : Nat → Nat} {m : Nat} {R : List (List Nat)} (h : Rings f m R) : R.flatten.Nodup := h.all.nodup_iff.mpr List.nodup_range
theorem Rings.mem {f : Nat → Nat} {m : Nat} {R : List (List Nat)} (h : Rings f m R) {d : Nat} : d ∈ R.flatten ↔ d < m := by rw [h.all.mem_iff, List.mem_range]
theorem Rings.congr {f g : Nat → Nat} {m : Nat} {R : List (List Nat)} (h : Rings f m R) (e : ∀ d, d < m → g d = f d) : Rings g m R := by
  refine ⟨h.all, fun r hr => ?_⟩
  obtain ⟨x, l, rfl, p⟩ := h.ok r hr
  have hm : ∀ z ∈ x :: l, g z = f z := fun z hz => e z (h.mem.mp (List.mem_flatten.mpr ⟨_, hr, hz⟩))
  exact ⟨x, l, rfl, p.other (hm x List.mem_cons_self) fun z hz => hm z (List.mem_cons_of_mem _ hz)⟩
/-- the ring of x, begun at x -/
theorem Rings.at {f : Nat → Nat} {m : Nat} {R : List (List Nat)} (h : Rings f m R) {x : Nat} (hx : x < m) :
    ∃ A r B l, R = A ++ r :: B ∧ (x :: l).Perm r ∧ Path f x l x := by
  obtain ⟨r, hr, hxr⟩ := List.mem_flatten.mp (h.mem.mpr hx)
  obtain ⟨A, B, e⟩ := List.append_of_mem hr
  obtain ⟨y, l, rfl, p⟩ := h.ok r hr
  rcases List.mem_cons.mp hxr with rfl | hl
  · exact ⟨A, _, B, l, e, List.Perm.refl _, p⟩
  · obtain ⟨u, v, rfl⟩ := List.append_of_mem hl
    obtain ⟨p1, p2⟩ := Path.app.mp p
    refine ⟨A, _, B, v ++ y :: u, e, ?_, Path.app.mpr ⟨p2, p1⟩⟩
    show (x :: v ++ y :: u).Perm (y :: u ++ x :: v)
    exact List.perm_append_comm
theorem range_two (m : Nat) : (List.range (m + 2)).Perm (m :: (m + 1) :: List.range m) := by
  rw [List.range_succ, List.range_succ, List.append_assoc]
  refine List.perm_append_comm.trans ?_
  exact List.Perm.refl _
/-- a leaf: the new dart out goes behind left, back behind it -/
theorem Rings.leaf {f g : Nat → Nat} {m left out back : Nat} {R : List (List Nat)} (h : Rings f m R) (hl : left < m) (ho : (out = m ∧ back = m + 1) ∨ (out = m + 1 ∧ back = m))
    (g1 : g left = out) (g2 : g out = back) (g3 : g back = f left) (g4 : ∀ z, z < m → z ≠ left → g z = f z) : ∃ R', Rings g (m + 2) R' ∧ R'.length = R.length := by
  obtain ⟨A, r, B, l, e, hp, p⟩ := h.at hl
  have hn := h.nd
  have hm : ∀ z ∈ R.flatten, z < m := fun z hz => h.mem.mp hz
  rw [e] at hn hm
  have hs : r.Sublist (A ++ r :: B).flatten := by
    rw [List.flatten_append, List.flatten_cons]
    exact ((List.sublist_append_left r B.flatten)).trans (List.sublist_append_right _ _)
  have hnr : (left :: l).Nodup := (hp.nodup_iff).mpr (hn.sublist hs)
  have hml : ∀ z ∈ l, z < m ∧ z ≠ left := fun z hz => ⟨hm z (hs.subset (hp.mem_iff.mp (List.mem_cons_of_mem _ hz))), fun q => (List.nodup_cons.mp hnr).1 (q ▸ hz)⟩
  refine ⟨A ++ (left :: out :: back :: l) :: B, ⟨?_, ?_⟩, by rw [e]; simp⟩
  · have q1 : (A ++ (left :: out :: back :: l) :: B).flatten.Perm (out :: back :: (A ++ r :: B).flatten) := by
      rw [List.flatten_append, List.flatten_append, List.flatten_cons, List.flatten_cons]
      have q2 : (left :: out :: back :: l).Perm (out :: back :: r) := by
        refine (List.Perm.swap _ _ _).trans (List.Perm.cons _ ((List.Perm.swap _ _ _).trans (List.Perm.cons _ hp)))
      refine (List.Perm.append_left _ (List.Perm.append_right _ q2)).trans ?_
      show (A.flatten ++ ([out, back] ++ (r ++ B.flatten))).Perm ([out, back] ++ (A.flatten ++ (r ++ B.flatten)))
      exact List.perm_append_comm_assoc _ _ _
    rw [← e] at q1
    refine q1.trans (((h.all.cons _).cons _).trans ?_)
    refine List.Perm.trans ?_ (range_two m).symm
    rcases ho with ⟨rfl, rfl⟩ | ⟨rfl, rfl⟩
    · exact List.Perm.refl _
    · exact List.Perm.swap _ _ _
  · intro r' hr'
    have hold : ∀ s ∈ A ++ B, ∃ x l, s = x :: l ∧ Path g x l x := fun s hsm => by
      have hsR : s ∈ R := by rw [e]; rcases List.mem_append.mp hsm with a | a; exact List.mem_append_left _ a; exact List.mem_append_right _ (List.mem_cons_of_mem _ a)
      obtain ⟨x, l', rfl, p'⟩ := h.ok s hsR
      have nl : left ∉ x :: l' := fun hin => by
        have hlr : left ∈ r := hp.mem_iff.mp List.mem_cons_self
        rw [List.flatten_append, List.flatten_cons] at hn
        rcases List.mem_append.mp hsm with a | a
        · exact (List.nodup_append.mp hn).2.2 left (List.mem_flatten.mpr ⟨_, a, hin⟩) left (List.mem_append_left _ hlr) rfl
        · exact (List.nodup_append.mp (List.nodup_append.mp hn).2.1).2.2 left hlr left (List.mem_flatten.mpr ⟨_, a, hin⟩) rfl
      have hz : ∀ z ∈ x :: l', g z = f z := fun z hz => g4 z (h.mem.mp (List.mem_flatten.mpr ⟨_, hsR, hz⟩)) fun q => nl (q ▸ hz)
      exact ⟨x, l', rfl, p'.other (hz x List.mem_cons_self) fun z q => hz z (List.mem_cons_of_mem _ q)⟩
    rcases List.mem_append.mp hr' with a | a
    · exact hold r' (List.mem_append_left _ a)
    · rcases List.mem_cons.mp a with rfl | a
      · exact ⟨left, _, rfl, g1, g2, p.other g3 fun z hz => g4 z (hml z hz).1 (hml z hz).2⟩
      · exact hold r' (List.mem_append_right _ a)
/-- a chord: the ring falls in two -/
theorem Rings.chord {f g : Nat → Nat} {m left right out back : Nat} {R : List (List Nat)} {r0 : List Nat} (h : Rings f m R) (hl : left < m) (hne : left ≠ right) (hp0 : Path f left r0 left) (hn0 : (left :: r0).Nodup) (hr0 : right ∈ r0) (ho : (out = m ∧ back = m + 1) ∨ (out = m + 1 ∧ back = m))
    (g1 : g left = out) (g2 : g out = f right) (g3 : g right = back) (g4 : g back = f left) (g5 : ∀ z, z < m → z ≠ left → z ≠ right → g z = f z) : ∃ R', Rings g (m + 2) R' ∧ R'.length = R.length + 1 := by
  obtain ⟨A, r, B, l, e, hp, p⟩ := h.at hl
  have hn := h.nd
  have hm : ∀ z ∈ R.flatten, z < m := fun z hz => h.mem.mp hz
  rw [e] at hn hm
  have hs : r.Sublist (A ++ r :: B).flatten := by
    rw [List.flatten_append, List.flatten_cons]
    exact ((List.sublist_append_left r B.flatten)).trans (List.sublist_append_right _ _)
  have hnr : (left :: l).Nodup := (hp.nodup_iff).mpr (hn.sublist hs)
  -- the same row
  have same : ∀ {x : Nat} {l1 l2 : List Nat}, Path f x l1 left → Path f x l2 left → left ∉ l1 → left ∉ l2 → l1 = l2 := by
    intro x l1
    induction l1 generalizing x with
    | nil =>
      intro l2 a b _ nb
      cases l2 with
      | nil => rfl
      | cons z t => exact absurd (show left ∈ z :: t by rw [← b.1, show f x = left from a]; exact List.mem_cons_self) nb
    | cons z t ih =>
      intro l2 a b na nb
      cases l2 with
      | nil => exact absurd (show left ∈ z :: t by rw [← a.1, show f x = left from b]; exact List.mem_cons_self) na
      | cons z2 t2 =>
        have e1 : z = z2 := a.1.symm.trans b.1
        subst e1
        rw [ih a.2 b.2 (fun q => na (List.mem_cons_of_mem _ q)) fun q => nb (List.mem_cons_of_mem _ q)]
  have el : r0 = l := same hp0 p (List.nodup_cons.mp hn0).1 (List.nodup_cons.mp hnr).1
  subst el
  have hml : ∀ z ∈ r0, z < m ∧ z ≠ left := fun z hz => ⟨hm z (hs.subset (hp.mem_iff.mp (List.mem_cons_of_mem _ hz))), fun q => (List.nodup_cons.mp hnr).1 (q ▸ hz)⟩
  obtain ⟨u, v, rfl⟩ := List.append_of_mem hr0
  obtain ⟨p1, p2⟩ := Path.app.mp p
  have hnr2 := (List.nodup_cons.mp hnr).2
  have nu : ∀ z ∈ u, z ≠ right := fun z hz q => (List.nodup_append.mp hnr2).2.2 z hz right List.mem_cons_self q
  have nv : ∀ z ∈ v, z ≠ right := fun z hz q => (List.nodup_cons.mp (List.nodup_append.mp hnr2).2.1).1 (q ▸ hz)
  refine ⟨A ++ (left :: out :: v) :: (right :: back :: u) :: B, ⟨?_, ?_⟩, by rw [e]; simp; omega⟩
  · have q1 : (A ++ (left :: out :: v) :: (right :: back :: u) :: B).flatten.Perm (out :: back :: (A ++ r :: B).flatten) := by
      rw [List.flatten_append, List.flatten_append, List.flatten_cons, List.flatten_cons, List.flatten_cons, ← List.append_assoc (left :: out :: v)]
      have q2 : ((left :: out :: v) ++ (right :: back :: u)).Perm (out :: back :: r) := by
        refine List.Perm.trans ?_ ((hp.cons back).cons out)
        rw [List.perm_iff_count]
        intro a
        simp only [List.count_append, List.count_cons]
        omega
      refine (List.Perm.append_left _ (List.Perm.append_right _ q2)).trans ?_
      show (A.flatten ++ ([out, back] ++ (r ++ B.flatten))).Perm ([out, back] ++ (A.flatten ++ (r ++ B.flatten)))
      exact List.perm_append_comm_assoc _ _ _
    rw [← e] at q1
    refine q1.trans (((h.all.cons _).cons _).trans ?_)
    refine List.Perm.trans ?_ (range_two m).symm
    rcases ho with ⟨rfl, rfl⟩ | ⟨rfl, rfl⟩
    · exact List.Perm.refl _
    · exact List.Perm.swap _ _ _
  · intro r' hr'
    have hold : ∀ s ∈ A ++ B, ∃ x l, s = x :: l ∧ Path g x l x := fun s hsm => by
      have hsR : s ∈ R := by rw [e]; rcases List.mem_append.mp hsm with a | a; exact List.mem_append_left _ a; exact List.mem_append_right _ (List.mem_cons_of_mem _ a)
      obtain ⟨x, l', rfl, p'⟩ := h.ok s hsR
      have nl : ∀ z ∈ r, z ∉ x :: l' := fun z hlr hin => by
        rw [List.flatten_append, List.flatten_cons] at hn
        rcases List.mem_append.mp hsm with a | a
        · exact (List.nodup_append.mp hn).2.2 z (List.mem_flatten.mpr ⟨_, a, hin⟩) z (List.mem_append_left _ hlr) rfl
        · exact (List.nodup_append.mp (List.nodup_append.mp hn).2.1).2.2 z hlr z (List.mem_flatten.mpr ⟨_, a, hin⟩) rfl
      have nl1 := nl left (hp.mem_iff.mp List.mem_cons_self)
      have nl2 := nl right (hp.mem_iff.mp (List.mem_cons_of_mem _ hr0))
      have hz : ∀ z ∈ x :: l', g z = f z := fun z hz => g5 z (h.mem.mp (List.mem_flatten.mpr ⟨_, hsR, hz⟩)) (fun q => nl1 (q ▸ hz)) fun q => nl2 (q ▸ hz)
      exact ⟨x, l', rfl, p'.other (hz x List.mem_cons_self) fun z q => hz z (List.mem_cons_of_mem _ q)⟩
    rcases List.mem_append.mp hr' with a | a
    · exact hold r' (List.mem_append_left _ a)
    · rcases List.mem_cons.mp a with rfl | a
      · exact ⟨left, _, rfl, g1, p2.other g2 fun z hz => g5 z (hml z (by simp [hz])).1 (hml z (by simp [hz])).2 (nv z hz)⟩
      · rcases List.mem_cons.mp a with rfl | a
        · exact ⟨right, _, rfl, g3, p1.other g4 fun z hz => g5 z (hml z (by simp [hz])).1 (hml z (by simp [hz])).2 (nu z hz)⟩
        · exact hold r' (List.mem_append_right _ a)
/-! ### as many rings, however they are told -/
def lmin : List Nat → Nat
  | [] => 0
  | [x] => x
  | x :: y :: r => min x (lmin (y :: r))
theorem lmin_mem : ∀ {r : List Nat}, r ≠ [] → lmin r ∈ r
  | [], h => absurd rfl h
  | [x], _ => List.mem_cons_self
  | x :: y :: r, _ => by
    have ih := lmin_mem (r := y :: r) (by simp)
    unfold lmin
    rcases Nat.le_total x (lmin (y :: r)) with h | h
    · rw [Nat.min_eq_left h]; exact List.mem_cons_self
    · rw [Nat.min_eq_right h]; exact List.mem_cons_of_mem _ ih
theorem lmin_le : ∀ {r : List Nat} {x : Nat}, x ∈ r → lmin r ≤ x
  | [x], y, h => by
    have e : y = x := by simpa using h
    rw [e]
    exact Nat.le_refl _
  | x :: y :: r, z, h => by
    unfold lmin
    rcases List.mem_cons.mp h with rfl | h
    · exact Nat.min_le_left _ _
    · exact Nat.le_trans (Nat.min_le_right _ _) (lmin_le h)
def iter (f : Nat → Nat) : Nat → Nat → Nat
  | 0, x => x
  | k + 1, x => iter f k (f x)
def Reach (f : Nat → Nat) (x y : Nat) : Prop := ∃ k, iter f k x = y
theorem Path.reach {f : Nat → Nat} : ∀ {x y : Nat} {l : List Nat}, Path f x l y → ∀ z ∈ l ++ [y], Reach f x z
  | x, y, [], h, z, hz => ⟨1, by rw [show z = y by simpa using hz]; exact h⟩
  | x, y, a :: l, h, z, hz => by
    rcases List.mem_cons.mp hz with rfl | hz
    · exact ⟨1, h.1⟩
    · obtain ⟨k, e⟩ := Path.reach h.2 z hz
      refine ⟨k + 1, ?_⟩
      show iter f k (f x) = z
      rw [h.1]
      exact e
theorem Path.step {f : Nat → Nat} : ∀ {x y : Nat} {l : List Nat}, Path f x l y → ∀ z ∈ x :: l, f z ∈ l ++ [y]
  | x, y, [], h, z, hz => by rw [show z = x by simpa using hz, show f x = y from h]; simp
  | x, y, a :: l, h, z, hz => by
    rcases List.mem_cons.mp hz with rfl | hz
    · rw [h.1]; simp
    · exact List.mem_cons_of_mem _ (Path.step h.2 z hz)
theorem Path.ring {f : Nat → Nat} {x : Nat} {l : List Nat} (h : Path f x l x) {z w : Nat} (hz : z ∈ x :: l) : w ∈ x :: l ↔ Reach f z w := by
  have cl : ∀ z ∈ x :: l, f z ∈ x :: l := fun z hz => by
    have := h.step z hz
    simp at this ⊢
    exact this.symm
  constructor
  · intro hw
    -- from z to x, from x to w
    have toX : Reach f z x := by
      rcases List.mem_cons.mp hz with rfl | hz
      · exact ⟨0, rfl⟩
      · obtain ⟨u, v, rfl⟩ := List.append_of_mem hz
        exact (Path.app.mp h).2.reach x (by simp)
    have toW : Reach f x w := by
      rcases List.mem_cons.mp hw with rfl | hw
      · exact ⟨0, rfl⟩
      · exact h.reach w (by simp [hw])
    obtain ⟨a, ea⟩ := toX
    obtain ⟨b, eb⟩ := toW
    have it : ∀ a z, iter f b (iter f a z) = iter f (a + b) z := by
      intro a
      induction a with
      | zero => intro z; rw [Nat.zero_add]; rfl
      | succ a ih => intro z; rw [Nat.add_right_comm]; exact ih (f z)
    exact ⟨a + b, by rw [← it, ea, eb]⟩
  · rintro ⟨k, e⟩
    subst e
    induction k generalizing z with
    | zero => exact hz
    | succ k ih => exact ih (cl z hz)
theorem Rings.leaders {f : Nat → Nat} {m : Nat} {R : List (List Nat)} (h : Rings f m R) : (R.map lmin).Nodup ∧ ∀ a, a ∈ R.map lmin ↔ a < m ∧ ∀ y, Reach f a y → a ≤ y := by
  constructor
  · have hn := h.nd
    have hne : ∀ r ∈ R, r ≠ [] := fun r hr => by obtain ⟨x, l, rfl, _⟩ := h.ok r hr; simp
    clear h
    induction R with
    | nil => exact List.nodup_nil
    | cons r R ih =>
      rw [List.flatten_cons] at hn
      obtain ⟨n1, n2, n3⟩ := List.nodup_append.mp hn
      refine List.nodup_cons.mpr ⟨fun hin => ?_, ih n2 fun s hs => hne s (List.mem_cons_of_mem _ hs)⟩
      obtain ⟨s, hs, es⟩ := List.mem_map.mp hin
      have h1 := lmin_mem (hne r List.mem_cons_self)
      have h2 := lmin_mem (hne s (List.mem_cons_of_mem _ hs))
      exact n3 _ h1 _ (List.mem_flatten.mpr ⟨s, hs, h2⟩) es.symm
  · intro a
    constructor
    · intro ha
      obtain ⟨r, hr, rfl⟩ := List.mem_map.mp ha
      obtain ⟨x, l, e, p⟩ := h.ok r hr
      have hm := lmin_mem (r := r) (by rw [e]; simp)
      refine ⟨h.mem.mp (List.mem_flatten.mpr ⟨r, hr, hm⟩), fun y hy => lmin_le ?_⟩
      rw [e] at hm ⊢
      rw [e] at hy
      exact (p.ring hm).mpr hy
    · rintro ⟨ha, hl⟩
      obtain ⟨r, hr, har⟩ := List.mem_flatten.mp (h.mem.mpr ha)
      obtain ⟨x, l, e, p⟩ := h.ok r hr
      refine List.mem_map.mpr ⟨r, hr, ?_⟩
      have hm := lmin_mem (r := r) (by rw [e]; simp)
      have h1 := lmin_le har
      have h2 := hl (lmin r) (by rw [e] at hm har ⊢; exact (p.ring har).mp hm)
      omega
theorem Rings.count {f : Nat → Nat} {m : Nat} {R S : List (List Nat)} (h : Rings f m R) (k : Rings f m S) : R.length = S.length := by
  have a := h.leaders
  have b := k.leaders
  have := len_of_nodup a.1 b.1 fun x => (a.2 x).trans (b.2 x).symm
  simpa using this

/-! ### webs: the ends of the ties, the turns of the places -/
abbrev EdgL := List (Nat × Nat)
abbrev Turns := List (List Nat)
def en (E : EdgL) (i : Nat) : Nat × Nat := E.getD i (0, 0)
def row (T : Turns) (p : Nat) : List Nat := T.getD p []
def hd (E : EdgL) (d : Nat) : Nat := if d % 2 = 0 then (en E (d / 2)).2 else (en E (d / 2)).1
def tl (E : EdgL) (d : Nat) : Nat := if d % 2 = 0 then (en E (d / 2)).1 else (en E (d / 2)).2
/-- the dart of tie j that leaves p -/
def outOf (E : EdgL) (p j : Nat) : Nat := 2 * j + if (en E j).1 = p then 0 else 1
def fol (E : EdgL) (T : Turns) (d : Nat) : Nat := outOf E (hd E d) (nxt (row T (hd E d)) (d / 2))
structure Ok (E : EdgL) (T : Turns) : Prop where
  ends : ∀ i, i < E.length → (en E i).1 ≠ (en E i).2 ∧ (en E i).1 < T.length ∧ (en E i).2 < T.length
  nd : ∀ p, p < T.length → (row T p).Nodup
  mem : ∀ p, p < T.length → ∀ i, i ∈ row T p ↔ i < E.length ∧ ((en E i).1 = p ∨ (en E i).2 = p)
section
variable {E : EdgL} {T : Turns}
theorem Ok.hd_lt (h : Ok E T) {d : Nat} (hd' : d < 2 * E.length) : hd E d < T.length := by
  have := h.ends (d / 2) (by omega)
  unfold hd
  split <;> omega
theorem Ok.hd_mem (h : Ok E T) {d : Nat} (hd' : d < 2 * E.length) : d / 2 ∈ row T (hd E d) := by
  refine (h.mem _ (h.hd_lt hd') _).mpr ⟨by omega, ?_⟩
  unfold hd
  split
  · exact .inr rfl
  · exact .inl rfl
theorem outOf_half (E : EdgL) (p j : Nat) : outOf E p j / 2 = j := by unfold outOf; split <;> omega
theorem outOf_tl {E : EdgL} {p j : Nat} (h : (en E j).1 = p ∨ (en E j).2 = p) : tl E (outOf E p j) = p := by
  unfold tl
  rw [outOf_half]
  unfold outOf
  by_cases e : (en E j).1 = p
  · rw [if_pos e, if_pos (by omega)]; exact e
  · rw [if_neg e, if_neg (by omega)]
    rcases h with h | h
    · exact absurd h e
    · exact h
theorem Ok.nxt_mem' (h : Ok E T) {d : Nat} (hd' : d < 2 * E.length) : nxt (row T (hd E d)) (d / 2) < E.length ∧ ((en E (nxt (row T (hd E d)) (d / 2))).1 = hd E d ∨ (en E (nxt (row T (hd E d)) (d / 2))).2 = hd E d) :=
  (h.mem _ (h.hd_lt hd') _).mp (nxt_mem (h.hd_mem hd'))
theorem Ok.fol_lt (h : Ok E T) {d : Nat} (hd' : d < 2 * E.length) : fol E T d < 2 * E.length := by
  have := (h.nxt_mem' hd').1
  unfold fol outOf
  split <;> omega
theorem Ok.fol_tl (h : Ok E T) {d : Nat} (hd' : d < 2 * E.length) : tl E (fol E T d) = hd E d := outOf_tl (h.nxt_mem' hd').2
theorem dart_eq {E : EdgL} {d e : Nat} (hne : (en E (d / 2)).1 ≠ (en E (d / 2)).2) (h1 : d / 2 = e / 2) (h2 : hd E d = hd E e) : d = e := by
  unfold hd at h2
  rw [← h1] at h2
  by_cases a : d % 2 = 0 <;> by_cases b : e % 2 = 0
  · omega
  · rw [if_pos a, if_neg b] at h2; exact absurd h2.symm hne
  · rw [if_neg a, if_pos b] at h2; exact absurd h2 hne
  · omega
theorem Ok.fol_inj (h : Ok E T) {d e : Nat} (h1 : d < 2 * E.length) (h2 : e < 2 * E.length) (q : fol E T d = fol E T e) : d = e := by
  have t1 := h.fol_tl h1
  have t2 := h.fol_tl h2
  rw [q, t2] at t1
  have q2 : fol E T d / 2 = fol E T e / 2 := by rw [q]
  unfold fol at q2
  rw [outOf_half, outOf_half, t1] at q2
  have m1 := h.hd_mem h1
  have m2 := h.hd_mem h2
  rw [t1] at m2
  have := nxt_inj (h.nd _ (h.hd_lt h1)) m1 m2 q2
  exact dart_eq (h.ends (d / 2) (by omega)).1 this t1.symm
end
/-- in one piece -/
def Whole (E : EdgL) (many : Nat) : Prop := ∀ S : Nat → Bool, (∀ i, i < E.length → S (en E i).1 = S (en E i).2) → ∀ p q, p < many → q < many → S p = S q
/-- a flat web -/
structure Flat (E : EdgL) (T : Turns) : Prop where
  ok : Ok E T
  whole : Whole E T.length
  euler : ∃ R, Rings (fol E T) (2 * E.length) R ∧ T.length + R.length = E.length + 2
theorem en_push (E : EdgL) (x : Nat × Nat) (i : Nat) : en (E ++ [x]) i = if i = E.length then x else en E i := by
  unfold en
  rw [List.getD_eq_getElem?_getD, List.getD_eq_getElem?_getD]
  by_cases h : i = E.length
  · subst h
    rw [if_pos rfl, List.getElem?_append_right (Nat.le_refl _)]
    simp
  · rw [if_neg h]
    by_cases h2 : i < E.length
    · rw [List.getElem?_append_left h2]
    · rw [List.getElem?_eq_none (by simp; omega), List.getElem?_eq_none (by omega)]
theorem row_set (T : Turns) {p : Nat} (r : List Nat) (hp : p < T.length) (q : Nat) : row (T.set p r) q = if q = p then r else row T q := by
  unfold row
  rw [List.getD_eq_getElem?_getD, List.getD_eq_getElem?_getD]
  by_cases h : q = p
  · subst h
    rw [if_pos rfl, List.getElem?_set_self hp]
    rfl
  · rw [if_neg h, List.getElem?_set_ne (Ne.symm h)]
theorem row_push (T : Turns) (r : List Nat) (q : Nat) : row (T ++ [r]) q = if q = T.length then r else row T q := by
  unfold row
  rw [List.getD_eq_getElem?_getD, List.getD_eq_getElem?_getD]
  by_cases h : q = T.length
  · subst h
    rw [if_pos rfl, List.getElem?_append_right (Nat.le_refl _)]
    simp
  · rw [if_neg h]
    by_cases h2 : q < T.length
    · rw [List.getElem?_append_left h2]
    · rw [List.getElem?_eq_none (by simp; omega), List.getElem?_eq_none (by omega)]
theorem nxt_one (x : Nat) : nxt [x] x = x := by simp [nxt, Nat.mod_one]
/-- behind tie x in p's list -/
def putBehind (T : Turns) (p x y : Nat) : Turns := T.set p (putAt (row T p) ((row T p).idxOf x + 1) y)
theorem putBehind_len (T : Turns) (p x y : Nat) : (putBehind T p x y).length = T.length := by unfold putBehind; simp
theorem putBehind_row (T : Turns) {p : Nat} (x y : Nat) (hp : p < T.length) (q : Nat) : row (putBehind T p x y) q = if q = p then putAt (row T p) ((row T p).idxOf x + 1) y else row T q := row_set T _ hp q
/-- the first web: two places and a tie -/
theorem flat0 : Flat [(0, 1)] [[0], [0]] := by
  refine ⟨⟨?_, ?_, ?_⟩, ?_, [[0, 1]], ⟨by decide, ?_⟩, rfl⟩
  · intro i hi
    have : i = 0 := by simpa using hi
    subst this
    decide
  · intro p hp
    have : p = 0 ∨ p = 1 := by simp at hp; omega
    rcases this with rfl | rfl <;> decide
  · intro p hp i
    have : p = 0 ∨ p = 1 := by simp at hp; omega
    rcases this with rfl | rfl
    · show i ∈ [0] ↔ _
      constructor
      · intro h
        have : i = 0 := by simpa using h
        subst this
        exact ⟨by decide, .inl rfl⟩
      · rintro ⟨h, _⟩
        have : i = 0 := by simpa using h
        subst this
        decide
    · show i ∈ [0] ↔ _
      constructor
      · intro h
        have : i = 0 := by simpa using h
        subst this
        exact ⟨by decide, .inr rfl⟩
      · rintro ⟨h, _⟩
        have : i = 0 := by simpa using h
        subst this
        decide
  · intro S hS p q hp hq
    have h := hS 0 (by decide)
    have h' : S 0 = S 1 := h
    have a : p = 0 ∨ p = 1 := by simp at hp; omega
    have b : q = 0 ∨ q = 1 := by simp at hq; omega
    rcases a with rfl | rfl <;> rcases b with rfl | rfl
    · rfl
    · exact h'
    · exact h'.symm
    · rfl
  · intro r hr
    have : r = [0, 1] := by simpa using hr
    subst this
    exact ⟨0, [1], rfl, by decide, by show fol [(0, 1)] [[0], [0]] 1 = 0; decide⟩
section
variable {E : EdgL} {T : Turns}
theorem hd_old {x : Nat × Nat} {d : Nat} (h : d < 2 * E.length) : hd (E ++ [x]) d = hd E d := by
  have e : en (E ++ [x]) (d / 2) = en E (d / 2) := by rw [en_push, if_neg (by omega)]
  unfold hd
  rw [e]
theorem outOf_old {x : Nat × Nat} {p j : Nat} (h : j < E.length) : outOf (E ++ [x]) p j = outOf E p j := by
  have e : en (E ++ [x]) j = en E j := by rw [en_push, if_neg (by omega)]
  unfold outOf
  rw [e]
/-- the new tie's dart that leaves its end a (the other one b) -/
def newD (E : EdgL) (flip : Bool) : Nat := 2 * E.length + if flip = true then 1 else 0
def newE (flip : Bool) (a b : Nat) : Nat × Nat := if flip = true then (b, a) else (a, b)
theorem newE_or (flip : Bool) (a b p : Nat) : ((newE flip a b).1 = p ∨ (newE flip a b).2 = p) ↔ (p = a ∨ p = b) := by
  unfold newE
  cases flip <;> simp <;> omega
theorem out_new {flip : Bool} {a b : Nat} (hab : a ≠ b) : outOf (E ++ [newE flip a b]) a E.length = newD E flip ∧ outOf (E ++ [newE flip a b]) b E.length = newD E (!flip) := by
  unfold outOf newD
  rw [en_push, if_pos rfl]
  unfold newE
  cases flip <;> simp [hab, Ne.symm hab]
theorem hd_new {flip : Bool} {a b : Nat} : hd (E ++ [newE flip a b]) (newD E flip) = b ∧ hd (E ++ [newE flip a b]) (newD E (!flip)) = a := by
  have h1 : (2 * E.length + 1) / 2 = E.length := by omega
  have h2 : (2 * E.length) / 2 = E.length := by omega
  have h3 : (2 * E.length + 1) % 2 = 1 := by omega
  have h4 : (2 * E.length) % 2 = 0 := by omega
  unfold hd newD
  cases flip <;> simp [h1, h2, h3, h4, en_push, newE]
theorem newD_half (flip : Bool) : newD E flip / 2 = E.length := by unfold newD; split <;> omega
theorem newD_or (flip : Bool) : (newD E flip = 2 * E.length ∧ newD E (!flip) = 2 * E.length + 1) ∨ (newD E flip = 2 * E.length + 1 ∧ newD E (!flip) = 2 * E.length) := by
  unfold newD
  cases flip <;> simp
/-- a leaf at the corner behind left -/
theorem Flat.leaf (h : Flat E T) {left : Nat} (hl : left < 2 * E.length) (flip : Bool) :
    Flat (E ++ [newE flip (hd E left) T.length]) (putBehind T (hd E left) (left / 2) E.length ++ [[E.length]]) := by
  obtain ⟨ok, wh, R, hR, hE⟩ := h
  have hp := ok.hd_lt hl
  have hin := ok.hd_mem hl
  have hout : E.length ∉ row T (hd E left) := fun z => by have := ((ok.mem _ hp _).mp z).1; omega
  have hab : hd E left ≠ T.length := by omega
  have len2 : (putBehind T (hd E left) (left / 2) E.length ++ [[E.length]]).length = T.length + 1 := by simp [putBehind_len]
  have rows : ∀ q, row (putBehind T (hd E left) (left / 2) E.length ++ [[E.length]]) q = if q = T.length then [E.length] else if q = hd E left then putAt (row T (hd E left)) ((row T (hd E left)).idxOf (left / 2) + 1) E.length else row T q := fun q => by
    rw [row_push, putBehind_len, putBehind_row T _ _ hp]
  obtain ⟨n1, n2, n3⟩ := nxt_put (ok.nd _ hp) hin hout
  have nok : Ok (E ++ [newE flip (hd E left) T.length]) (putBehind T (hd E left) (left / 2) E.length ++ [[E.length]]) := by
    refine ⟨fun i hi => ?_, fun p hp' => ?_, fun p hp' i => ?_⟩
    · rw [len2, en_push]
      rw [List.length_append, List.length_singleton] at hi
      by_cases e : i = E.length
      · rw [if_pos e]
        unfold newE
        cases flip <;> simp <;> omega
      · rw [if_neg e]
        have := ok.ends i (by omega)
        omega
    · rw [rows]
      split
      · exact List.nodup_cons.mpr ⟨by simp, List.nodup_nil⟩
      · split
        · exact putAt_nodup (ok.nd _ hp) hout
        · exact ok.nd p (by rw [len2] at hp'; omega)
    · rw [rows, List.length_append, List.length_singleton, en_push]
      rw [len2] at hp'
      by_cases e : i = E.length
      · subst e
        rw [if_pos rfl, newE_or]
        by_cases e2 : p = T.length
        · rw [if_pos e2]; simp [e2]
        · rw [if_neg e2]
          by_cases e3 : p = hd E left
          · rw [if_pos e3, putAt_mem]; simp [e3]
          · rw [if_neg e3]
            constructor
            · intro z; have := ((ok.mem p (by omega) _).mp z).1; omega
            · rintro ⟨_, z | z⟩ <;> omega
      · rw [if_neg e]
        by_cases e2 : p = T.length
        · rw [if_pos e2]
          constructor
          · intro z; exact absurd (by simpa using z) e
          · rintro ⟨z1, z2⟩
            have := ok.ends i (by omega)
            omega
        · rw [if_neg e2]
          by_cases e3 : p = hd E left
          · rw [if_pos e3, putAt_mem, e3, ok.mem _ hp]
            constructor
            · rintro (z | ⟨z1, z2⟩)
              · exact absurd z e
              · exact ⟨by omega, z2⟩
            · rintro ⟨z1, z2⟩; exact .inr ⟨by omega, z2⟩
          · rw [if_neg e3, ok.mem p (by omega)]
            constructor
            · rintro ⟨z1, z2⟩; exact ⟨by omega, z2⟩
            · rintro ⟨z1, z2⟩; exact ⟨by omega, z2⟩
  refine ⟨nok, ?_, ?_⟩
  · intro S hS
    rw [len2]
    have hS' : ∀ i, i < E.length → S (en E i).1 = S (en E i).2 := fun i hi => by
      have := hS i (by simp; omega)
      rw [en_push, if_neg (by omega)] at this
      exact this
    have hnew : S (hd E left) = S T.length := by
      have := hS E.length (by simp)
      rw [en_push, if_pos rfl] at this
      unfold newE at this
      cases flip
      · exact this
      · exact this.symm
    have base := wh S hS'
    have all : ∀ p, p < T.length + 1 → S p = S (hd E left) := fun p hp' => by
      by_cases e : p = T.length
      · rw [e, hnew]
      · exact base p _ (by omega) hp
    intro p q hp' hq
    rw [all p hp', all q hq]
  · have f4 : ∀ z, z < 2 * E.length → z ≠ left → fol (E ++ [newE flip (hd E left) T.length]) (putBehind T (hd E left) (left / 2) E.length ++ [[E.length]]) z = fol E T z := fun z hz hne => by
      unfold fol
      rw [hd_old hz, rows, if_neg (by have := ok.hd_lt hz; omega)]
      by_cases e : hd E z = hd E left
      · rw [if_pos e]
        have hz2 : z / 2 ≠ left / 2 := fun q => hne (dart_eq (ok.ends _ (by omega)).1 q e)
        have hzm := ok.hd_mem hz
        rw [e] at hzm
        rw [n3 _ hzm hz2, e, outOf_old]
        have := (ok.nxt_mem' hz).1
        rw [e] at this
        exact this
      · rw [if_neg e, outOf_old (ok.nxt_mem' hz).1]
    have f1 : fol (E ++ [newE flip (hd E left) T.length]) (putBehind T (hd E left) (left / 2) E.length ++ [[E.length]]) left = newD E flip := by
      unfold fol
      rw [hd_old hl, rows, if_neg hab, if_pos rfl, n1, (out_new hab).1]
    have f2 : fol (E ++ [newE flip (hd E left) T.length]) (putBehind T (hd E left) (left / 2) E.length ++ [[E.length]]) (newD E flip) = newD E (!flip) := by
      unfold fol
      rw [hd_new.1, rows, if_pos rfl, newD_half, nxt_one, (out_new hab).2]
    have f3 : fol (E ++ [newE flip (hd E left) T.length]) (putBehind T (hd E left) (left / 2) E.length ++ [[E.length]]) (newD E (!flip)) = fol E T left := by
      unfold fol
      rw [hd_new.2, rows, if_neg hab, if_pos rfl, newD_half, n2, outOf_old (ok.nxt_mem' hl).1]
    obtain ⟨R', hR', hl'⟩ := hR.leaf hl (newD_or flip) f1 f2 f3 f4
    refine ⟨R', ?_, ?_⟩
    · have : 2 * (E ++ [newE flip (hd E left) T.length]).length = 2 * E.length + 2 := by simp; omega
      rw [this]
      exact hR'
    · rw [len2, List.length_append, List.length_singleton]; omega
/-- a chord between the corners behind left and right, darts of one ring -/
theorem Flat.chord (h : Flat E T) {left right : Nat} {l : List Nat} (hl : left < 2 * E.length) (hr : right < 2 * E.length) (hab : hd E left ≠ hd E right) (hp0 : Path (fol E T) left l left) (hn0 : (left :: l).Nodup) (hin0 : right ∈ l) (flip : Bool) :
    Flat (E ++ [newE flip (hd E left) (hd E right)]) (putBehind (putBehind T (hd E left) (left / 2) E.length) (hd E right) (right / 2) E.length) := by
  obtain ⟨ok, wh, R, hR, hE⟩ := h
  have hp := ok.hd_lt hl
  have hq := ok.hd_lt hr
  have hinp := ok.hd_mem hl
  have hinq := ok.hd_mem hr
  have hne : left ≠ right := fun e => hab (by rw [e])
  have outp : E.length ∉ row T (hd E left) := fun z => by have := ((ok.mem _ hp _).mp z).1; omega
  have outq : E.length ∉ row T (hd E right) := fun z => by have := ((ok.mem _ hq _).mp z).1; omega
  have len2 : (putBehind (putBehind T (hd E left) (left / 2) E.length) (hd E right) (right / 2) E.length).length = T.length := by rw [putBehind_len, putBehind_len]
  have rows : ∀ z, row (putBehind (putBehind T (hd E left) (left / 2) E.length) (hd E right) (right / 2) E.length) z = if z = hd E right then putAt (row T (hd E right)) ((row T (hd E right)).idxOf (right / 2) + 1) E.length else if z = hd E left then putAt (row T (hd E left)) ((row T (hd E left)).idxOf (left / 2) + 1) E.length else row T z := fun z => by
    rw [putBehind_row _ _ _ (by rw [putBehind_len]; exact hq), putBehind_row _ _ _ hp (hd E right), if_neg (Ne.symm hab), putBehind_row _ _ _ hp z]
  obtain ⟨n1, n2, n3⟩ := nxt_put (ok.nd _ hp) hinp outp
  obtain ⟨m1, m2, m3⟩ := nxt_put (ok.nd _ hq) hinq outq
  have nok : Ok (E ++ [newE flip (hd E left) (hd E right)]) (putBehind (putBehind T (hd E left) (left / 2) E.length) (hd E right) (right / 2) E.length) := by
    refine ⟨fun i hi => ?_, fun p hp' => ?_, fun p hp' i => ?_⟩
    · rw [len2, en_push]
      rw [List.length_append, List.length_singleton] at hi
      by_cases e : i = E.length
      · rw [if_pos e]
        unfold newE
        cases flip <;> simp <;> omega
      · rw [if_neg e]
        exact ok.ends i (by omega)
    · rw [rows]
      rw [len2] at hp'
      split
      · exact putAt_nodup (ok.nd _ hq) outq
      · split
        · exact putAt_nodup (ok.nd _ hp) outp
        · exact ok.nd p hp'
    · rw [rows, List.length_append, List.length_singleton, en_push]
      rw [len2] at hp'
      by_cases e : i = E.length
      · subst e
        rw [if_pos rfl, newE_or]
        by_cases e2 : p = hd E right
        · rw [if_pos e2, putAt_mem]; simp [e2]
        · rw [if_neg e2]
          by_cases e3 : p = hd E left
          · rw [if_pos e3, putAt_mem]; simp [e3]
          · rw [if_neg e3]
            constructor
            · intro z; have := ((ok.mem p hp' _).mp z).1; omega
            · rintro ⟨_, z | z⟩ <;> omega
      · rw [if_neg e]
        have fin : i ∈ row T p ↔ i < E.length + 1 ∧ ((en E i).1 = p ∨ (en E i).2 = p) := by
          rw [ok.mem p hp']
          constructor
          · rintro ⟨z1, z2⟩; exact ⟨by omega, z2⟩
          · rintro ⟨z1, z2⟩; exact ⟨by omega, z2⟩
        by_cases e2 : p = hd E right
        · rw [if_pos e2, putAt_mem, ← e2, ← fin]
          constructor
          · rintro (z | z)
            · exact absurd z e
            · exact z
          · exact .inr
        · rw [if_neg e2]
          by_cases e3 : p = hd E left
          · rw [if_pos e3, putAt_mem, ← e3, ← fin]
            constructor
            · rintro (z | z)
              · exact absurd z e
              · exact z
            · exact .inr
          · rw [if_neg e3, fin]
  refine ⟨nok, ?_, ?_⟩
  · intro S hS
    rw [len2]
    exact wh S fun i hi => by
      have := hS i (by simp; omega)
      rw [en_push, if_neg (by omega)] at this
      exact this
  · have f5 : ∀ z, z < 2 * E.length → z ≠ left → z ≠ right → fol (E ++ [newE flip (hd E left) (hd E right)]) (putBehind (putBehind T (hd E left) (left / 2) E.length) (hd E right) (right / 2) E.length) z = fol E T z := fun z hz hne1 hne2 => by
      unfold fol
      rw [hd_old hz, rows]
      by_cases e : hd E z = hd E right
      · rw [if_pos e]
        have hz2 : z / 2 ≠ right / 2 := fun q => hne2 (dart_eq (ok.ends _ (by omega)).1 q e)
        have hzm := ok.hd_mem hz
        rw [e] at hzm
        rw [m3 _ hzm hz2, e, outOf_old]
        have := (ok.nxt_mem' hz).1
        rw [e] at this
        exact this
      · rw [if_neg e]
        by_cases e2 : hd E z = hd E left
        · rw [if_pos e2]
          have hz2 : z / 2 ≠ left / 2 := fun q => hne1 (dart_eq (ok.ends _ (by omega)).1 q e2)
          have hzm := ok.hd_mem hz
          rw [e2] at hzm
          rw [n3 _ hzm hz2, e2, outOf_old]
          have := (ok.nxt_mem' hz).1
          rw [e2] at this
          exact this
        · rw [if_neg e2, outOf_old (ok.nxt_mem' hz).1]
    have f1 : fol (E ++ [newE flip (hd E left) (hd E right)]) (putBehind (putBehind T (hd E left) (left / 2) E.length) (hd E right) (right / 2) E.length) left = newD E flip := by
      unfold fol
      rw [hd_old hl, rows, if_neg hab, if_pos rfl, n1, (out_new hab).1]
    have f2 : fol (E ++ [newE flip (hd E left) (hd E right)]) (putBehind (putBehind T (hd E left) (left / 2) E.length) (hd E right) (right / 2) E.length) (newD E flip) = fol E T right := by
      unfold fol
      rw [hd_new.1, rows, if_pos rfl, newD_half, m2, outOf_old (ok.nxt_mem' hr).1]
    have f3 : fol (E ++ [newE flip (hd E left) (hd E right)]) (putBehind (putBehind T (hd E left) (left / 2) E.length) (hd E right) (right / 2) E.length) right = newD E (!flip) := by
      unfold fol
      rw [hd_old hr, rows, if_pos rfl, m1, (out_new hab).2]
    have f4 : fol (E ++ [newE flip (hd E left) (hd E right)]) (putBehind (putBehind T (hd E left) (left / 2) E.length) (hd E right) (right / 2) E.length) (newD E (!flip)) = fol E T left := by
      unfold fol
      rw [hd_new.2, rows, if_neg hab, if_pos rfl, newD_half, n2, outOf_old (ok.nxt_mem' hl).1]
    obtain ⟨R', hR', hl'⟩ := hR.chord hl hne hp0 hn0 hin0 (newD_or flip) f1 f2 f3 f4 f5
    refine ⟨R', ?_, ?_⟩
    · have : 2 * (E ++ [newE flip (hd E left) (hd E right)]).length = 2 * E.length + 2 := by simp; omega
      rw [this]
      exact hR'
    · rw [len2, List.length_append, List.length_singleton]; omega
end

/-! ### numbered anew -/
def pm (π : List Nat) (i : Nat) : Nat := π.getD i 0
section
variable {π : List Nat} {m : Nat}
theorem pm_at (h : π.Perm (List.range m)) {i : Nat} (hi : i < m) : π[i]? = some (pm π i) := by
  have hl : π.length = m := by rw [h.length_eq, List.length_range]
  unfold pm
  rw [List.getD_eq_getElem?_getD, List.getElem?_eq_getElem (by omega)]
  rfl
theorem pm_lt (h : π.Perm (List.range m)) {i : Nat} (hi : i < m) : pm π i < m := by
  have := List.mem_of_getElem? (pm_at h hi)
  rw [h.mem_iff, List.mem_range] at this
  exact this
theorem pm_inj (h : π.Perm (List.range m)) {i j : Nat} (hi : i < m) (hj : j < m) (e : pm π i = pm π j) : i = j := by
  have hl : π.length = m := by rw [h.length_eq, List.length_range]
  have hn : π.Nodup := h.nodup_iff.mpr List.nodup_range
  have a := pm_at h hi
  have b := pm_at h hj
  rw [List.getElem?_eq_getElem (by omega)] at a b
  have e2 : π[i]'(by omega) = π[j]'(by omega) := by rw [Option.some.inj a, Option.some.inj b, e]
  exact (List.getElem_inj hn).mp e2
theorem pm_surj (h : π.Perm (List.range m)) {x : Nat} (hx : x < m) : ∃ i, i < m ∧ pm π i = x := by
  have hm : x ∈ π := h.mem_iff.mpr (List.mem_range.mpr hx)
  obtain ⟨i, hi, e⟩ := List.mem_iff_getElem.mp hm
  have hl : π.length = m := by rw [h.length_eq, List.length_range]
  refine ⟨i, by omega, ?_⟩
  have := pm_at h (i := i) (by omega)
  rw [List.getElem?_eq_getElem hi] at this
  rw [← Option.some.inj this, e]
end
def rot (c : Nat) (r : List Nat) : List Nat := r.drop c ++ r.take c
theorem rot_perm (c : Nat) (r : List Nat) : (rot c r).Perm r := by
  unfold rot
  refine List.perm_append_comm.trans ?_
  rw [List.take_append_drop]
theorem nxt_split {a b : List Nat} {x y : Nat} (h : (a ++ x :: y :: b).Nodup) : nxt (a ++ x :: y :: b) x = y := by
  refine nxt_at (i := a.length) h ?_ ?_
  · rw [List.getElem?_append_right (Nat.le_refl _), Nat.sub_self]; rfl
  · rw [Nat.mod_eq_of_lt (by simp), List.getElem?_append_right (by omega), show a.length + 1 - a.length = 1 by omega]; rfl
theorem nxt_end {a : List Nat} {x y : Nat} (h : (y :: (a ++ [x])).Nodup) : nxt (y :: (a ++ [x])) x = y := by
  refine nxt_at (i := a.length + 1) h ?_ ?_
  · show (a ++ [x])[a.length]? = some x
    rw [List.getElem?_append_right (Nat.le_refl _), Nat.sub_self]; rfl
  · have : (a.length + 1 + 1) % (y :: (a ++ [x])).length = 0 := by
      rw [show (y :: (a ++ [x])).length = a.length + 1 + 1 by simp, Nat.mod_self]
    rw [this]
    rfl
theorem nxt_rot1 {x : Nat} {r : List Nat} (h : (x :: r).Nodup) {z : Nat} (hz : z ∈ x :: r) : nxt (r ++ [x]) z = nxt (x :: r) z := by
  have h2 : (r ++ [x]).Nodup := (List.perm_append_comm (l₁ := r) (l₂ := [x])).nodup_iff.mpr h
  rcases List.mem_cons.mp hz with rfl | hz
  · cases r with
    | nil => rfl
    | cons y t =>
      have e : nxt (z :: y :: t) z = y := nxt_split (a := []) (b := t) h
      rw [e]
      exact nxt_end h2
  · obtain ⟨u, v, rfl⟩ := List.append_of_mem hz
    cases v with
    | nil =>
      rw [nxt_end h]
      have h3 : (u ++ z :: x :: []).Nodup := by
        have e : u ++ [z] ++ [x] = u ++ z :: x :: [] := by simp
        rw [← e]; exact h2
      have e : u ++ [z] ++ [x] = u ++ z :: x :: [] := by simp
      rw [e]
      exact nxt_split h3
    | cons y t =>
      have e1 : (x :: (u ++ z :: y :: t)) = (x :: u) ++ z :: y :: t := rfl
      have e2 : (u ++ z :: y :: t) ++ [x] = u ++ z :: y :: (t ++ [x]) := by simp
      rw [e1] at h
      rw [e2] at h2
      rw [e1, e2, nxt_split h, nxt_split h2]
theorem nxt_rot {z : Nat} : ∀ (c : Nat) {r : List Nat}, r.Nodup → z ∈ r → nxt (rot c r) z = nxt r z
  | 0, r, _, _ => by unfold rot; simp
  | c + 1, [], _, hz => by simp at hz
  | c + 1, x :: r, h, hz => by
    have h2 : (r ++ [x]).Nodup := (List.perm_append_comm (l₁ := r) (l₂ := [x])).nodup_iff.mpr h
    have hz2 : z ∈ r ++ [x] := (List.perm_append_comm (l₁ := r) (l₂ := [x])).mem_iff.mpr hz
    rw [← nxt_rot1 h hz]
    by_cases hc : c ≤ r.length
    · rw [← nxt_rot c h2 hz2]
      congr 1
      unfold rot
      rw [List.drop_succ_cons, List.take_succ_cons, List.drop_append_of_le_length hc, List.take_append_of_le_length hc]
      simp
    · unfold rot
      rw [List.drop_of_length_le (by simp; omega), List.take_of_length_le (by simp; omega), List.nil_append, nxt_rot1 h hz]
theorem nxt_map {f : Nat → Nat} {r : List Nat} {x : Nat} (hr : r.Nodup) (hi : ∀ a ∈ r, ∀ b ∈ r, f a = f b → a = b) (hx : x ∈ r) : nxt (r.map f) (f x) = f (nxt r x) := by
  obtain ⟨i, hi', rfl⟩ := List.mem_iff_getElem.mp hx
  have hl : 0 < r.length := by omega
  have m1 : (i + 1) % r.length < r.length := Nat.mod_lt _ hl
  rw [nxt_at hr (List.getElem?_eq_getElem hi') (List.getElem?_eq_getElem m1)]
  have hn : (r.map f).Nodup := by
    rw [List.Nodup, List.pairwise_map]
    refine List.Pairwise.imp_of_mem ?_ hr
    intro a b ha hb hne e
    exact hne (hi a ha b hb e)
  refine nxt_at (i := i) hn ?_ ?_
  · rw [List.getElem?_map, List.getElem?_eq_getElem hi']; rfl
  · rw [List.length_map, List.getElem?_map, List.getElem?_eq_getElem m1]; rfl
theorem Path.map {f g φ : Nat → Nat} : ∀ {x y : Nat} {l : List Nat}, Path f x l y → (∀ z ∈ x :: l, g (φ z) = φ (f z)) → Path g (φ x) (l.map φ) (φ y)
  | x, y, [], h, e => by
    show g (φ x) = φ y
    rw [e x List.mem_cons_self, show f x = y from h]
  | x, y, a :: l, h, e => by
    refine ⟨?_, Path.map h.2 fun z hz => e z (List.mem_cons_of_mem _ hz)⟩
    rw [e x List.mem_cons_self, h.1]
/-- the dart d in the new numbers -/
def dm (τ : List Nat) (d : Nat) : Nat := 2 * pm τ (d / 2) + d % 2
theorem dm_perm {τ : List Nat} {n : Nat} (h : τ.Perm (List.range n)) : ((List.range (2 * n)).map (dm τ)).Perm (List.range (2 * n)) := by
  have lt : ∀ d, d < 2 * n → dm τ d < 2 * n := fun d hd => by
    have := pm_lt h (i := d / 2) (by omega)
    unfold dm
    omega
  have inj : ∀ d e, d < 2 * n → e < 2 * n → dm τ d = dm τ e → d = e := fun d e hd he q => by
    unfold dm at q
    have := pm_inj h (i := d / 2) (j := e / 2) (by omega) (by omega) (by omega)
    omega
  have hn : ((List.range (2 * n)).map (dm τ)).Nodup := by
    rw [List.Nodup, List.pairwise_map]
    refine List.Pairwise.imp_of_mem ?_ List.nodup_range
    intro a b ha hb hne e
    exact hne (inj a b (List.mem_range.mp ha) (List.mem_range.mp hb) e)
  refine perm_of_nodup hn List.nodup_range fun a => ?_
  have hs : ∀ a ∈ (List.range (2 * n)).map (dm τ), a ∈ List.range (2 * n) := fun a ha => by
    obtain ⟨d, hd, rfl⟩ := List.mem_map.mp ha
    exact List.mem_range.mpr (lt d (List.mem_range.mp hd))
  exact ⟨hs a, nodup_full hn hs (by simp) a⟩
structure Renum (E : EdgL) (T : Turns) (σ τ : List Nat) (E' : EdgL) (T' : Turns) : Prop where
  ps : σ.Perm (List.range T.length)
  pt : τ.Perm (List.range E.length)
  le : E'.length = E.length
  lt : T'.length = T.length
  ends : ∀ k, k < E.length → en E' (pm τ k) = (pm σ (en E k).1, pm σ (en E k).2)
  rows : ∀ p, p < T.length → ∃ c, row T' (pm σ p) = rot c ((row T p).map (pm τ))
section
variable {E E' : EdgL} {T T' : Turns} {σ τ : List Nat}
theorem Renum.hd (h : Renum E T σ τ E' T') {d : Nat} (hd' : d < 2 * E.length) : hd E' (dm τ d) = pm σ (Sf.hd E d) := by
  have e1 : dm τ d / 2 = pm τ (d / 2) := by unfold dm; omega
  have e2 : dm τ d % 2 = d % 2 := by unfold dm; omega
  unfold Sf.hd
  rw [e1, e2, h.ends _ (by omega)]
  split <;> rfl
theorem Renum.fol (h : Renum E T σ τ E' T') (ok : Ok E T) {d : Nat} (hd' : d < 2 * E.length) : fol E' T' (dm τ d) = dm τ (Sf.fol E T d) := by
  have hp := ok.hd_lt hd'
  have hm := ok.hd_mem hd'
  obtain ⟨hj, hor⟩ := ok.nxt_mem' hd'
  have inj : ∀ a ∈ row T (Sf.hd E d), ∀ b ∈ row T (Sf.hd E d), pm τ a = pm τ b → a = b := fun a ha b hb e => pm_inj h.pt ((ok.mem _ hp a).mp ha).1 ((ok.mem _ hp b).mp hb).1 e
  have hn2 : ((row T (Sf.hd E d)).map (pm τ)).Nodup := by
    rw [List.Nodup, List.pairwise_map]
    refine List.Pairwise.imp_of_mem ?_ (ok.nd _ hp)
    intro a b ha hb hne e
    exact hne (inj a ha b hb e)
  obtain ⟨c, hc⟩ := h.rows _ hp
  have e1 : dm τ d / 2 = pm τ (d / 2) := by unfold dm; omega
  unfold Sf.fol
  rw [h.hd hd', e1, hc, nxt_rot c hn2 (List.mem_map.mpr ⟨_, hm, rfl⟩), nxt_map (ok.nd _ hp) inj hm]
  generalize nxt (row T (Sf.hd E d)) (d / 2) = j at hj hor
  have hends := ok.ends j hj
  unfold outOf dm
  rw [h.ends j hj]
  by_cases e : (en E j).1 = Sf.hd E d
  · rw [if_pos e, if_pos (by rw [e])]
    have : (2 * j + 0) / 2 = j := by omega
    rw [this]
    omega
  · rw [if_neg e, if_neg (fun q => e (pm_inj h.ps (by omega) hp q))]
    have : (2 * j + 1) / 2 = j := by omega
    rw [this]
    omega
theorem Renum.flat (h : Renum E T σ τ E' T') (F : Flat E T) : Flat E' T' := by
  obtain ⟨ok, wh, R, hR, hE⟩ := F
  have rowsP : ∀ p, p < T.length → (row T' (pm σ p)).Perm ((row T p).map (pm τ)) := fun p hp => by
    obtain ⟨c, hc⟩ := h.rows p hp
    rw [hc]
    exact rot_perm _ _
  refine ⟨⟨fun i hi => ?_, fun p hp => ?_, fun p hp i => ?_⟩, ?_, ?_⟩
  · rw [h.le] at hi
    obtain ⟨k, hk, rfl⟩ := pm_surj h.pt hi
    rw [h.ends k hk, h.lt]
    obtain ⟨a, b, c⟩ := ok.ends k hk
    exact ⟨fun q => a (pm_inj h.ps b c q), pm_lt h.ps b, pm_lt h.ps c⟩
  · rw [h.lt] at hp
    obtain ⟨q, hq, rfl⟩ := pm_surj h.ps hp
    rw [(rowsP q hq).nodup_iff, List.Nodup, List.pairwise_map]
    refine List.Pairwise.imp_of_mem ?_ (ok.nd q hq)
    intro a b ha hb hne e
    exact hne (pm_inj h.pt ((ok.mem q hq a).mp ha).1 ((ok.mem q hq b).mp hb).1 e)
  · rw [h.lt] at hp
    obtain ⟨q, hq, rfl⟩ := pm_surj h.ps hp
    rw [(rowsP q hq).mem_iff, List.mem_map, h.le]
    constructor
    · rintro ⟨k, hk, rfl⟩
      obtain ⟨k1, k2⟩ := (ok.mem q hq k).mp hk
      refine ⟨pm_lt h.pt k1, ?_⟩
      rw [h.ends k k1]
      rcases k2 with z | z
      · exact .inl (by rw [z])
      · exact .inr (by rw [z])
    · rintro ⟨hi, ho⟩
      obtain ⟨k, hk, rfl⟩ := pm_surj h.pt hi
      refine ⟨k, (ok.mem q hq k).mpr ⟨hk, ?_⟩, rfl⟩
      rw [h.ends k hk] at ho
      have := ok.ends k hk
      rcases ho with z | z
      · exact .inl (pm_inj h.ps (by omega) hq z)
      · exact .inr (pm_inj h.ps (by omega) hq z)
  · intro S hS
    rw [h.lt]
    have base := wh (fun p => S (pm σ p)) fun i hi => by
      have := hS (pm τ i) (by rw [h.le]; exact pm_lt h.pt hi)
      rw [h.ends i hi] at this
      exact this
    intro p q hp hq
    obtain ⟨p', hp', rfl⟩ := pm_surj h.ps hp
    obtain ⟨q', hq', rfl⟩ := pm_surj h.ps hq
    exact base p' q' hp' hq'
  · refine ⟨R.map (List.map (dm τ)), ⟨?_, ?_⟩, ?_⟩
    · rw [h.le, ← List.map_flatten]
      exact (hR.all.map _).trans (dm_perm h.pt)
    · intro r hr
      obtain ⟨s, hs, rfl⟩ := List.mem_map.mp hr
      obtain ⟨x, l, rfl, p⟩ := hR.ok s hs
      refine ⟨dm τ x, l.map (dm τ), rfl, p.map fun z hz => ?_⟩
      exact h.fol ok (hR.mem.mp (List.mem_flatten.mpr ⟨_, hs, hz⟩))
    · rw [h.lt, h.le, List.length_map]
      exact hE
end
theorem Path.get {f : Nat → Nat} : ∀ {x y : Nat} {l : List Nat}, Path f x l y → ∀ i, i ≤ l.length → f ((x :: l).getD i 0) = (l ++ [y]).getD i 0
  | x, y, [], h, i, hi => by
    have : i = 0 := by simpa using hi
    subst this
    exact h
  | x, y, a :: l, h, 0, _ => h.1
  | x, y, a :: l, h, i + 1, hi => Path.get h.2 i (by simpa using hi)

/-! ### the rings in the order of their least darts -/
structure Canon (f : Nat → Nat) (m : Nat) (R : List (List Nat)) : Prop where
  rings : Rings f m R
  least : ∀ r ∈ R, ∃ x l, r = x :: l ∧ ∀ z ∈ l, x < z
  order : R.Pairwise fun r s => r.headD 0 < s.headD 0
structure Pre (f : Nat → Nat) (m i : Nat) (R : List (List Nat)) : Prop where
  ok : ∀ r ∈ R, ∃ x l, r = x :: l ∧ Path f x l x ∧ (∀ z ∈ l, x < z) ∧ x < i
  nd : R.flatten.Nodup
  lt : ∀ d ∈ R.flatten, d < m
  cov : ∀ d, d < i → d ∈ R.flatten
  order : R.Pairwise fun r s => r.headD 0 < s.headD 0
section
variable {f : Nat → Nat} {m i : Nat} {R : List (List Nat)}
theorem Pre.zero : Pre f m 0 [] := ⟨fun r h => by simp at h, List.nodup_nil, fun d h => by simp at h, fun d h => absurd h (by omega), List.Pairwise.nil⟩
theorem Pre.skip (h : Pre f m i R) (hi : i ∈ R.flatten) : Pre f m (i + 1) R :=
  ⟨fun r hr => by obtain ⟨x, l, a, b, c, d⟩ := h.ok r hr; exact ⟨x, l, a, b, c, by omega⟩, h.nd, h.lt, fun d hd => by
    by_cases e : d = i
    · rw [e]; exact hi
    · exact h.cov d (by omega), h.order⟩
theorem Pre.add (h : Pre f m i R) (ni : i ∉ R.flatten) {l : List Nat} (p : Path f i l i) (hn : (i :: l).Nodup) (hlt : ∀ z ∈ i :: l, z < m) : Pre f m (i + 1) (R ++ [i :: l]) ∧ ∀ z ∈ i :: l, z ∉ R.flatten := by
  have dis : ∀ z ∈ i :: l, z ∉ R.flatten := fun z hz hin => by
    obtain ⟨r, hr, hzr⟩ := List.mem_flatten.mp hin
    obtain ⟨x, l', rfl, p', _, _⟩ := h.ok r hr
    have h1 : Reach f z i := (p.ring hz).mp List.mem_cons_self
    exact ni (List.mem_flatten.mpr ⟨_, hr, (p'.ring hzr).mpr h1⟩)
  have big : ∀ z ∈ l, i < z := fun z hz => by
    have h1 : z ≠ i := fun e => (List.nodup_cons.mp hn).1 (e ▸ hz)
    have h2 : ¬ z < i := fun e => dis z (List.mem_cons_of_mem _ hz) (h.cov z e)
    omega
  refine ⟨⟨fun r hr => ?_, ?_, fun d hd => ?_, fun d hd => ?_, ?_⟩, dis⟩
  · rcases List.mem_append.mp hr with a | a
    · obtain ⟨x, l', a, b, c, d⟩ := h.ok r a; exact ⟨x, l', a, b, c, by omega⟩
    · have : r = i :: l := by simpa using a
      exact ⟨i, l, this, p, big, by omega⟩
  · rw [List.flatten_append, List.flatten_singleton]
    exact List.nodup_append.mpr ⟨h.nd, hn, fun a ha b hb e => dis b hb (e ▸ ha)⟩
  · rw [List.flatten_append, List.flatten_singleton] at hd
    rcases List.mem_append.mp hd with a | a
    · exact h.lt d a
    · exact hlt d a
  · rw [List.flatten_append, List.flatten_singleton]
    by_cases e : d = i
    · rw [e]; exact List.mem_append_right _ List.mem_cons_self
    · exact List.mem_append_left _ (h.cov d (by omega))
  · refine List.pairwise_append.mpr ⟨h.order, List.pairwise_singleton _ _, fun r hr s hs => ?_⟩
    have : s = i :: l := by simpa using hs
    subst this
    obtain ⟨x, l', rfl, _, _, hx⟩ := h.ok r hr
    exact hx
theorem Pre.done (h : Pre f m m R) : Canon f m R := by
  refine ⟨⟨perm_of_nodup h.nd List.nodup_range fun a => ?_, fun r hr => ?_⟩, fun r hr => ?_, h.order⟩
  · rw [List.mem_range]
    exact ⟨h.lt a, h.cov a⟩
  · obtain ⟨x, l, a, b, _, _⟩ := h.ok r hr; exact ⟨x, l, a, b⟩
  · obtain ⟨x, l, a, _, c, _⟩ := h.ok r hr; exact ⟨x, l, a, c⟩
end
/-- the ring that d is in -/
def sideOf (R : List (List Nat)) (d : Nat) : Nat := R.findIdx fun r => r.contains d
theorem sideOf_at : ∀ {R : List (List Nat)} {i d : Nat} {r : List Nat}, R.flatten.Nodup → R[i]? = some r → d ∈ r → sideOf R d = i
  | [], i, d, r, _, h, _ => by simp at h
  | s :: R, 0, d, r, _, h, hd => by
    have e : s = r := by simpa using h
    subst e
    unfold sideOf
    rw [List.findIdx_cons]
    simp [hd]
  | s :: R, i + 1, d, r, hn, h, hd => by
    rw [List.flatten_cons] at hn
    obtain ⟨_, n2, n3⟩ := List.nodup_append.mp hn
    have h' : R[i]? = some r := by simpa using h
    have hns : d ∉ s := fun z => n3 d z d (List.mem_flatten.mpr ⟨r, List.mem_of_getElem? h', hd⟩) rfl
    have ih := sideOf_at n2 h' hd
    unfold sideOf at ih ⊢
    have e : s.contains d = false := by simpa using hns
    rw [List.findIdx_cons, e]
    show List.findIdx (fun r => r.contains d) R + 1 = i + 1
    rw [ih]
theorem flatten_ge : ∀ {R : List (List Nat)}, (∀ r ∈ R, 1 ≤ r.length) → R.length ≤ R.flatten.length
  | [], _ => Nat.le_refl _
  | r :: R, h => by
    have h1 := h r List.mem_cons_self
    have h2 := flatten_ge fun s hs => h s (List.mem_cons_of_mem _ hs)
    rw [List.flatten_cons, List.length_append, List.length_cons]
    omega

/-! ### defs by name -/
structure Has (P : Program) (w : World) (K : PySem.W.Frag) (mg : Str → Option Value) (base : Heap) (CX : CXT) (k : Nat) (x : Str) (ps : List Str) (sp : Sp) : Prop where
  ex : ∃ f fd, FnOk P w K mg base CX k f fd ps sp ∧ mg x = some (.ref f) ∧ PySem.W.keepIn K (.ref f) = true ∧ Binds K fd ps []
section
variable {P : Program} {w : World} {K : PySem.W.Frag} {mg : Str → Option Value} {base : Heap} {x qual : Str} {ps N : List Str} {sp : Sp} {k : Nat}
theorem Has.mk' {st : Stmt} {f : Addr} {fd : FuncData} (F : Fun K x qual st f fd) (gf : mg x = some (.ref f)) (b : Binds K fd ps []) (S : FnScope N ps (defScope st)) (len : ∀ vs H Q E, sp vs H Q E → vs.length = ps.length)
    (hbody : ∀ (cdv : Value) (A : Around) (outer : List Env) (s : Shared) (H : Hp) (vs : List V) (Q : VK) (E : XK), Room k (A.deeper (envOfC qual (defScope st) s.heap.objs.size f cdv)) → sp vs H Q E →
      ∃ t, PSs (cxOf CX0 P w K mg base N qual (defScope st) f cdv A outer s H E).nox (defBody st) t ∧ t { nx := fun _ H' => Q .non H', rt := Q } (start N vs) H) : Has P w K mg base CX0 (k + 1) x ps sp :=
  ⟨f, fd, F.ok S len hbody, gf, F.kp, b⟩
end
section
variable {X : Cx} {k : Nat} {ps : List Str} {sp : Sp} {x : Str} {p pos : Pos} {e : Expr} {es : List Expr} {t : TA}
theorem pe_fn (h : Has X.prog X.w X.K X.mg X.base CX0 k x ps sp) (hr : Room k X.A) (hg : Gl X x) (ha : PA X (e :: es) t) (hdb : (x == ("__debug__" : Str)) = false := by decide) (he : starEach (e :: es) X.env = (false, eval e X.env) :: starEach es X.env := by rfl) (hpl : (backTo pos (starEach es X.env)).any (·.1) = false := by rfl) :
    PE X (.Call (.Name x p) (e :: es) [] pos) (tCall sp [] E0 t) := by
  obtain ⟨f, fd, F, gf, kp, b⟩ := h.ex
  exact pe_call F hr hg gf kp b .nil pass0 ha hdb he hpl
theorem pe_fn0 (h : Has X.prog X.w X.K X.mg X.base CX0 k x ps sp) (hr : Room k X.A) (hg : Gl X x) (hdb : (x == ("__debug__" : Str)) = false := by decide) :
    PE X (.Call (.Name x p) [] [] pos) (tCall sp [] E0 tNil) := by
  obtain ⟨f, fd, F, gf, kp, b⟩ := h.ex
  exact pe_call0 F hr hg gf kp b .nil pass0 hdb
end
/-! ### lists whose object is known to the sign; the sum of two -/
def LsE (K : PySem.W.Frag) (H : Hp) (a : Addr) (xs : List V) : Prop :=
  Rd H a (.lst xs) ∨ ∃ (its : List Value) (n : Nat), K.lookup a = some { cls := .type "list", data := .seq its.toArray n } ∧ Vals xs its ∧ xs.length ≤ sizeLine
theorem LsE.sq {K : PySem.W.Frag} {H : Hp} {a : Addr} {xs : List V} (h : LsE K H a xs) : SqL K H a xs := by
  rcases h with h | ⟨its, n, h1, h2, h3⟩
  · exact .inl h
  · exact .inr ⟨_, its.toArray, n, h1, rfl, rfl, rfl, by rw [List.size_toArray, ← h2.length]; exact h3, by simpa using h2⟩
theorem LsE.of {K : PySem.W.Frag} {H : Hp} {a : Addr} {xs : List V} (h : H a = some (.lst xs)) : LsE K H a xs := .inl (.inl h)
theorem LsE.same {K : PySem.W.Frag} {H H' : Hp} {a : Addr} {xs : List V} (e : Same H H') (h : LsE K H a xs) : LsE K H' a xs := by
  rcases h with (h | ⟨o, h⟩) | h
  · exact .inl (.inl (e _ _ h))
  · exact .inl (.inr ⟨o, e _ _ h⟩)
  · exact .inr h
section
variable {X : Cx}
theorem LsE.obj {pins : List (Addr × Obj)} {σ : L2.St} {H : Hp} {s : Shared} {a : Addr} {xs : List V} (I : Inv X pins σ H s) (h : LsE X.K H a xs) :
    ∃ (its : List Value) (n : Nat), Vals xs its ∧ s.heap.get? a = some { cls := .type "list", data := .seq its.toArray n } := by
  rcases h with h | ⟨its, n, h1, h2, _⟩
  · obtain ⟨_, its, n, r, e⟩ := h.ok I.hok
    exact ⟨its, n, r, e⟩
  · exact ⟨its, n, h2, I.kIn a _ h1⟩
def rCatE (K : PySem.W.Frag) : R2 := fun x y H Q => ∃ l b xs zs, x = .ref l ∧ y = .ref b ∧ LsE K H l xs ∧ LsE K H b zs ∧ xs.length + zs.length ≤ sizeLine ∧ ∀ p, H p = none → Q (.ref p) (upd H p (.lst (xs ++ zs)))
theorem op_catE : OpR X (binaryOp .Add) (rCatE X.K) := by
  intro pins s σ H x y v u Q I rx ry h
  obtain ⟨l, b, xs, zs, rfl, rfl, hl, hb, hz, q⟩ := h
  cases rx
  cases ry
  obtain ⟨ix, n, rl, el⟩ := hl.obj I
  obtain ⟨iz, m, rb, eb⟩ := hb.obj I
  refine PySem.P.add_list el eb ?_ (by simp only [List.size_toArray, ← rl.length, ← rb.length]; exact hz)
  have join : ix.toArray ++ iz.toArray = (ix ++ iz).toArray := by simp
  rw [join]
  exact ⟨.ref s.heap.objs.size, _, I.lnew (t' := s.toks) (rl.append rb) (by simpa using hz), rfl, q _ I.fresh⟩
end
/-! ### tests -/
theorem ifd {c A B : Prop} [Decidable c] (h1 : c → A) (h2 : ¬ c → B) : if decide c = true then A else B := by
  by_cases h : c
  · simp only [h, decide_true, if_true]; exact h1 h
  · simp only [h, decide_false, Bool.false_eq_true, if_false]; exact h2 h
theorem ifnd {c A B : Prop} [Decidable c] (h1 : ¬ c → A) (h2 : c → B) : if (!decide c) = true then A else B := by
  by_cases h : c
  · simp only [h, decide_true, Bool.not_true, Bool.false_eq_true, if_false]; exact h2 h
  · simp only [h, decide_false, Bool.not_false, if_true]; exact h1 h
theorem ifb {b : Bool} {A B : Prop} (h1 : b = true → A) (h2 : b = false → B) : if b = true then A else B := by
  cases b with
  | true => exact h1 rfl
  | false => exact h2 rfl
theorem ifT {b : Bool} {A B : Prop} (hb : b = true) (h : A) : if b = true then A else B := by rw [if_pos hb]; exact h
theorem ifF {b : Bool} {A B : Prop} (hb : b = false) (h : B) : if b = true then A else B := by rw [hb]; exact h
theorem int_eq {i j : Int} : (V.int i = V.int j) = (i = j) := by simp
theorem same_upd {H : Hp} {p : Addr} {o : HO} (h : H p = none) : Same H (upd H p o) := fun b x e => by
  rw [upd_ne (ne_of_none e h)]
  exact e
/-- a place that is free -/
def New (H : Hp) (p : Addr) : Prop := H p = none
theorem w_new {H : Hp} {R : Addr → Prop} (h : ∀ p, New H p → R p) : ∀ p, H p = none → R p := h
theorem ne_new {H : Hp} {a b : Addr} {o : HO} (h : H a = some o) (n : New H b) : a ≠ b := ne_of_none h n
/-- one more object over what was tracked at H -/
theorem _root_.L2.Same.new {H H' : Hp} {p : Addr} {o : HO} (e : Same H H') (h : New H' p) : Same H (upd H' p o) := e.trans (same_upd h)
theorem _root_.L2.Same.get {H H' : Hp} {p : Addr} {o : HO} (e : Same H H') (h : H p = some o) : H' p = some o := e p o h
theorem New.of {H H' : Hp} {p : Addr} (n : New H' p) (e : Same H H') : New H p := e.free n
/-- an object that H does not track is changed -/
theorem _root_.L2.Same.mut {H H' : Hp} {p : Addr} {o : HO} (e : Same H H') (h : New H p) : Same H (upd H' p o) := fun b x hb => by
  rw [upd_ne (ne_of_none hb h)]
  exact e b x hb
/-! ### isinstance of ints and bools -/
theorem kb_ii : kitB "int" "int" = some true := by decide +kernel
theorem kb_ib : kitB "int" "bool" = some false := by decide +kernel
theorem kb_bb : kitB "bool" "bool" = some true := by decide +kernel
theorem kb_bi : kitB "bool" "int" = some true := by decide +kernel
theorem kb_ll : kitB "list" "list" = some true := by decide +kernel
theorem kb_tt : kitB "tuple" "tuple" = some true := by decide +kernel
theorem kb_ni : kitB "NoneType" "int" = some false := by decide +kernel
theorem kb_nb : kitB "NoneType" "bool" = some false := by decide +kernel
theorem kb_tl : kitB "tuple" "list" = some false := by decide +kernel
theorem kb_lt : kitB "list" "tuple" = some false := by decide +kernel
/-! ### the law's end, the script's list known to the sign, its bits told -/
theorem walk_ofE {l : PySem.W.OpenLaw} {n k : Nat} {q : Program} {loose : List Str} {XP : (Str → Option Value) → Heap → Prop} {YP : World → Heap → Prop} {d : DefRec} {K : Params → PySem.W.Frag} {sp : PySem.W.Frag → Sp}
    (hn : l.most = some n) (hn2 : n ≤ sizeLine) (hdf : d.params.defaults = []) (hr : Room k callerA) (hY : ∀ (w : World) (h : Heap), YP w h → (K w.params).In h)
    (F : ∀ (w : World) (mg : Str → Option Value) (fa : Addr) (h : Heap), (K w.params).In h → h.Ns mainGlobals mg → mg d.name = some (.ref fa) →
      ∃ fd : FuncData, (∀ (s : Shared) (u : Value), BindsTo s fd ⟨[u], []⟩ [("script", u)]) ∧ ∀ base : Heap, (K w.params).In base → base.Ns mainGlobals mg → FnOk l.prog w (K w.params) mg base CX0 k fa fd ["script"] (sp (K w.params)))
    (hsp : ∀ (K : PySem.W.Frag) (H : Hp) (a : Addr) (ns : List Int), ns.length ≤ n → (∀ z ∈ ns, Builtin.Int.intBits z ≤ 1048576) → LsE K H a (ns.map V.int) → sp K [.ref a] H (fun v _ => v = .bl true) fun _ _ _ => False) :
    PySem.W.WalkO q loose XP YP l.row.toRowW d [] (fun f vs => PySem.call f vs) := by
  refine Att.attach_callB hn hdf fun w s₀ s₁ mg mb fa o pm cd doc a vs ns G Y ho hd hcd hmg hobj hints hlen hbits hg => ?_
  obtain ⟨fd, hb, hF⟩ := F w mg fa _ (hY w _ Y) G.T.g hmg
  refine law_call (hY w _ Y) G.T.g G.T.b G.T.builtins G.T.nolimit hg hobj hints (Nat.le_trans hlen hn2) hr hF hb (fun H _ hS => hsp _ H a ns hlen hbits ?_) fun _ _ _ h => h
  rcases hS with h | ⟨ob, its, m, hk, h1, h2, h3, h4, h5⟩
  · exact .inl h
  · have e := (hY w _ Y) a ob hk
    rw [hobj] at e
    cases e
    cases h3
    exact .inr ⟨vs, _, hk, by simpa using h5, by rw [List.length_map]; exact Nat.le_trans hlen hn2⟩
/-! ### bounds of operators -/
theorem cdivw_small {i j : Int} (h : 0 < j) (h2 : j < 2 ^ 200) : CDivW i j := wide_div (b := 200) h (by omega) (by decide) (by decide)
theorem nab_lt {i : Int} {a : Nat} (h1 : -(2 ^ a) < i) (h2 : i < 2 ^ a) : i.natAbs < 2 ^ a := by
  have e : ((2 ^ a : Nat) : Int) = (2 : Int) ^ a := by simp
  omega
theorem cmulx_small {i j : Int} (h1 : -(2 ^ 200) < i) (h2 : i < 2 ^ 200) (h3 : -(2 ^ 200) < j) (h4 : j < 2 ^ 200) : CMulX i j := mulx_ok (nab_lt h1 h2) (nab_lt h3 h4) (by decide)
theorem cshl_one {j : Int} (h : 0 ≤ j) (h2 : j ≤ 100000) : CShl 1 j := by
  have e : ((j.toNat : Nat) : Int) = j := Int.toNat_of_nonneg h
  rw [← e]
  exact shl_ok (n := 1) (by decide) (by omega)
theorem cshl_small {i j : Int} (h0 : -(2 ^ 200) < i) (h1 : i < 2 ^ 200) (h : 0 ≤ j) (h2 : j ≤ 100000) : CShl i j := by
  have e : ((j.toNat : Nat) : Int) = j := Int.toNat_of_nonneg h
  rw [← e]
  exact shl_ok (n := 200) (nab_lt h0 h1) (by omega)
theorem szle {α : Type} {xs : List α} (h : Nat.ble xs.length 1000 = true) : xs.length ≤ sizeLine := Nat.le_trans (Nat.le_of_ble_eq_true h) (by decide)
theorem szlt {α : Type} {xs : List α} (h : xs.length < 1000000) : xs.length < sizeLine := Nat.lt_of_lt_of_le h (by decide)
theorem atI_get {α : Type} {xs : List α} {i : Int} {j : Nat} (e : i = j) (h : j < xs.length) : atI xs i = some xs[j] := by
  subst e
  exact atI_nat (List.getElem?_eq_getElem h)
theorem atI_map {α β : Type} {f : α → β} {xs : List α} {i : Int} {j : Nat} (e : i = j) (h : j < xs.length) : atI (xs.map f) i = some (f xs[j]) := by
  subst e
  exact atI_nat (by rw [List.getElem?_map, List.getElem?_eq_getElem h]; rfl)
/-! ### the readings, one at a time -/
section
variable {σ : L2.St} {H : Hp} {Q : VK} {QT : Bool → Hp → Prop} {QA : List V → Hp → Prop} {D : Ends} {v x y z : V} {ta tb tc te tv : TE} {t u c : TT} {ts us : TS} {tl tr : TA} {r : R2} {g : TG} {gs : TGs} {i j : Nat} {m n : Int} {K : PySem.W.Frag} {a p q C dx : Addr} {f : Str} {xs ys : List V} {fs : List (Str × V)}
theorem w_seq (h : ts { D with nx := us D } σ H) : tSeq ts us D σ H := h
theorem w_next (h : D.nx σ H) : tNext D σ H := h
theorem w_var (h : ∃ v, σ[i]? = some (some v) ∧ Q v H) : tVar i σ H Q := h
theorem w_c (h : Q v H) : tC v σ H Q := h
theorem w_op (h : ta σ H fun x H1 => tb σ H1 fun y H2 => r x y H2 Q) : tOp r ta tb σ H Q := h
theorem w_un {r : V → Hp → VK → Prop} (h : ta σ H fun x H1 => r x H1 Q) : tUn r ta σ H Q := h
theorem w_rI0 {g : Int → Int → V} (h : Q (g m n) H) : rI0 g (.int m) (.int n) H Q := ⟨m, n, rfl, rfl, h⟩
theorem w_mod (h0 : 0 < n) (h : Q (.int (m % n)) H) : rI (fun _ j => 0 < j) (fun i j => .int (i % j)) (.int m) (.int n) H Q := ⟨m, n, rfl, rfl, h0, h⟩
theorem w_div (h0 : 0 < n) (h1 : n < 2 ^ 200) (h : Q (.int (m / n)) H) : rI CDivW (fun i j => .int (i / j)) (.int m) (.int n) H Q := ⟨m, n, rfl, rfl, cdivw_small h0 h1, h⟩
theorem w_shr (h0 : 0 ≤ n) (h : Q (.int (m / 2 ^ n.toNat)) H) : rI (fun _ j => 0 ≤ j) (fun i j => .int (i / 2 ^ j.toNat)) (.int m) (.int n) H Q := ⟨m, n, rfl, rfl, h0, h⟩
theorem w_mul (h1 : -(2 ^ 200) < m) (h2 : m < 2 ^ 200) (h3 : -(2 ^ 200) < n) (h4 : n < 2 ^ 200) (h : Q (.int (m * n)) H) : rI CMulX (fun i j => .int (i * j)) (.int m) (.int n) H Q := ⟨m, n, rfl, rfl, cmulx_small h1 h2 h3 h4, h⟩
theorem w_shl1 (h1 : 0 ≤ n) (h2 : n ≤ 100000) (h : Q (.int (1 * 2 ^ n.toNat)) H) : rI CShl (fun i j => .int (i * 2 ^ j.toNat)) (.int 1) (.int n) H Q := ⟨1, n, rfl, rfl, cshl_one h1 h2, h⟩
theorem w_shl (h1 : -(2 ^ 200) < m) (h2 : m < 2 ^ 200) (h3 : 0 ≤ n) (h4 : n ≤ 100000) (h : Q (.int (m * 2 ^ n.toNat)) H) : rI CShl (fun i j => .int (i * 2 ^ j.toNat)) (.int m) (.int n) H Q := ⟨m, n, rfl, rfl, cshl_small h1 h2 h3 h4, h⟩
theorem w_pow (h0 : CPow m n) (h : Q (.int (m ^ n.toNat)) H) : rI CPow (fun i j => .int (i ^ j.toNat)) (.int m) (.int n) H Q := ⟨m, n, rfl, rfl, h0, h⟩
theorem w_rU {g : Int → V} (h : Q (g m) H) : rU g (.int m) H Q := ⟨m, rfl, h⟩
theorem dec_ii : decide (V.int m = V.int n) = decide (m = n) := by
  by_cases h : m = n
  · rw [h]; simp
  · simp [h]
theorem dec_bb {a b : Bool} : decide (V.bl a = V.bl b) = decide (a = b) := by cases a <;> cases b <;> decide
theorem dec_ss {a b : Str} : decide (V.str a = V.str b) = decide (a = b) := by
  by_cases h : a = b
  · rw [h]; simp
  · simp [h]
theorem w_eqI (h : Q (.bl (decide (m = n))) H) : rEq (.int m) (.int n) H Q := ⟨rfl, by rw [dec_ii]; exact h⟩
theorem w_eqB {a b : Bool} (h : Q (.bl (decide (a = b))) H) : rEq (.bl a) (.bl b) H Q := ⟨rfl, by rw [dec_bb]; exact h⟩
theorem w_eqS {a b : Str} (h : Q (.bl (decide (a = b))) H) : rEq (.str a) (.str b) H Q := ⟨rfl, by rw [dec_ss]; exact h⟩
theorem w_eqNI (h : Q (.bl false) H) : rEq .non (.int n) H Q := ⟨rfl, by rw [decide_eq_false (by simp)]; exact h⟩
theorem w_eqIN (h : Q (.bl false) H) : rEq (.int n) .non H Q := ⟨rfl, by rw [decide_eq_false (by simp)]; exact h⟩
theorem w_neI (h : Q (.bl (!decide (m = n))) H) : rNe (.int m) (.int n) H Q := ⟨rfl, by rw [dec_ii]; exact h⟩
theorem w_neB {a b : Bool} (h : Q (.bl (!decide (a = b))) H) : rNe (.bl a) (.bl b) H Q := ⟨rfl, by rw [dec_bb]; exact h⟩
theorem w_neS {a b : Str} (h : Q (.bl (!decide (a = b))) H) : rNe (.str a) (.str b) H Q := ⟨rfl, by rw [dec_ss]; exact h⟩
theorem w_ixL (hs : SqL K H p xs) (ha : atI xs m = some v) (h : Q v H) : rIxL K (.ref p) (.int m) H Q := ⟨p, xs, m, v, rfl, rfl, hs, ha, h⟩
theorem w_ixT (hs : SqT K H p xs) (ha : atI xs m = some v) (h : Q v H) : rIxT K (.ref p) (.int m) H Q := ⟨p, xs, m, v, rfl, rfl, hs, ha, h⟩
theorem w_ixl (hs : SqL K H p xs) (ha : atI xs m = some v) (h : Q v H) : rIx K (.ref p) (.int m) H Q := .inl ⟨p, xs, m, v, rfl, rfl, hs, ha, h⟩
theorem w_ixt (hs : SqT K H p xs) (ha : atI xs m = some v) (h : Q v H) : rIx K (.ref p) (.int m) H Q := .inr (.inl ⟨p, xs, m, v, rfl, rfl, hs, ha, h⟩)
theorem w_catE (h1 : LsE K H p xs) (h2 : LsE K H q ys) (hz : xs.length + ys.length ≤ sizeLine) (h : ∀ p, H p = none → Q (.ref p) (upd H p (.lst (xs ++ ys)))) : rCatE K (.ref p) (.ref q) H Q := ⟨p, q, xs, ys, rfl, rfl, h1, h2, hz, h⟩
theorem w_rep (h1 : H p = some (.lst xs)) (h2 : -(2 ^ 63) ≤ n) (h3 : n < 2 ^ 63) (h4 : xs.length * n.toNat ≤ sizeLine) (h : ∀ p, H p = none → Q (.ref p) (upd H p (.lst (List.replicate n.toNat xs).flatten))) : rRep (.ref p) (.int n) H Q := ⟨p, n, xs, rfl, rfl, h1, h2, h3, h4, h⟩
theorem w_test (h : te σ H fun x H' => ∃ k, x = .bl k ∧ QT k H') : tTest te σ H QT := h
theorem w_tB (h : te σ H fun x H' => ∃ k, x = .bl k ∧ QT k H') : tB te σ H QT := h
theorem w_bl {b : Bool} {R : Bool → Prop} (h : R b) : ∃ k, V.bl b = .bl k ∧ R k := ⟨b, rfl, h⟩
theorem w_and (h : t σ H fun c H1 => if c = true then u σ H1 QT else QT false H1) : tAnd t u σ H QT := h
theorem w_or (h : t σ H fun c H1 => if c = true then QT true H1 else u σ H1 QT) : tOr t u σ H QT := h
theorem w_not (h : t σ H fun c H1 => QT (!c) H1) : tNot t σ H QT := h
theorem w_andV (h : ta σ H fun x H1 => ∃ c, x = .bl c ∧ if c = true then tb σ H1 Q else Q (.bl false) H1) : tAndV ta tb σ H Q := h
theorem w_orV (h : ta σ H fun x H1 => ∃ c, x = .bl c ∧ if c = true then Q (.bl true) H1 else tb σ H1 Q) : tOrV ta tb σ H Q := h
theorem w_notV (h : ta σ H fun x H1 => ∃ c, x = .bl c ∧ Q (.bl (!c)) H1) : tNotV ta σ H Q := h
theorem w_ifE (h : t σ H fun c H1 => if c = true then ta σ H1 Q else tb σ H1 Q) : tIf t ta tb σ H Q := h
theorem w_asg (h : te σ H fun x H1 => g x σ H1 D.nx) : tAsg te g D σ H := h
theorem w_gn {R : L2.St → Hp → Prop} (h : R (σ.set i (some v)) H) : gName i v σ H R := h
theorem w_gt {R : L2.St → Hp → Prop} {k : Nat} (hs : SqT K H p xs) (hl : xs.length = k) (h : gs xs σ H R) : gTup K k gs (.ref p) σ H R := ⟨p, xs, rfl, hs, hl, h⟩
theorem w_gc {R : L2.St → Hp → Prop} (h : g v σ H fun σ' H' => gs xs σ' H' R) : gCons g gs (v :: xs) σ H R := ⟨v, xs, rfl, h⟩
theorem w_g0 {R : L2.St → Hp → Prop} (h : R σ H) : gNil [] σ H R := ⟨rfl, h⟩
theorem w_gs {R : L2.St → Hp → Prop} {tt : TSet} (h : ta σ H fun o H1 => tb σ H1 fun i H2 => tt o i v H2 fun H3 => R σ H3) : gSub ta tb tt v σ H R := h
theorem w_setL {R : Hp → Prop} (hp : H p = some (.lst xs)) (hj : ixN xs.length m = some j) (h : R (upd H p (.lst (xs.set j v)))) : rSetL (.ref p) (.int m) v H R := ⟨p, xs, m, j, rfl, rfl, hp, hj, h⟩
theorem w_drop (h : te σ H fun _ H1 => D.nx σ H1) : tDrop te D σ H := h
theorem w_ret (h : te σ H D.rt) : tRet te D σ H := h
theorem w_retN (h : D.rt .non H) : tRetN D σ H := h
theorem w_if (h : t σ H fun b H1 => if b = true then ts D σ H1 else us D σ H1) : tIfS t ts us D σ H := h
theorem w_break (h : D.bk σ H) : tBreak D σ H := h
theorem w_cont (h : D.ct σ H) : tCont D σ H := h
theorem w_aug {ti : TIp} (h : ∃ x, σ[i]? = some (some x) ∧ te σ H fun y H1 => ti x y H1 fun z H2 => D.nx (σ.set i (some z)) H2) : tAug i te ti D σ H := h
theorem w_ip {f : Int → Int → Int} (h : Q (.int (f m n)) H) : ipI f (.int m) (.int n) H Q := ⟨m, n, rfl, rfl, h⟩
theorem w_par (h : tl σ H fun vs H1 => ∃ v w, vs = [v, w] ∧ D.nx ((σ.set i (some v)).set j (some w)) H1) : tPar i j tl D σ H := h
theorem w_par2 {R : V → V → Prop} (h : R v x) : ∃ a b, [v, x] = [a, b] ∧ R a b := ⟨v, x, rfl, h⟩
theorem w_nil (h : QA [] H) : tNil σ H QA := h
theorem w_cons (h : ta σ H fun x H1 => tl σ H1 fun xs H2 => QA (x :: xs) H2) : tCons ta tl σ H QA := h
theorem w_call {sp : Sp} {E : XK} (h : tl σ H fun vs H1 => sp vs H1 Q E) : tCall sp [] E tl σ H Q := by
  unfold tCall
  simp only [List.append_nil]
  exact h
theorem w_cb {r : List V → Hp → VK → Prop} (h : tl σ H fun vs H1 => r vs H1 Q) : tCB r tl σ H Q := h
theorem w_tup (h : tl σ H fun xs H1 => xs.length ≤ sizeLine ∧ ∀ p, H1 p = none → Q (.ref p) (upd H1 p (.tup xs))) : tTup tl σ H Q := h
theorem w_lst (h : tl σ H fun xs H1 => xs.length ≤ sizeLine ∧ ∀ p, H1 p = none → Q (.ref p) (upd H1 p (.lst xs))) : tLst tl σ H Q := h
theorem w_sl {r : V → Option Int → Option Int → Hp → VK → Prop} {to tu : TO} (h : te σ H fun x H1 => to σ H1 fun l H2 => tu σ H2 fun u H3 => r x l u H3 Q) : tSl r te to tu σ H Q := h
theorem w_np {R : Option Int → Hp → Prop} (h : R none H) : tNoPart σ H R := h
theorem w_part {R : Option Int → Hp → Prop} (h : te σ H fun x H1 => ∃ i, x = .int i ∧ R (some i) H1) : tPart te σ H R := h
theorem w_partI {R : Int → Prop} (h : R m) : ∃ i, V.int m = .int i ∧ R i := ⟨m, rfl, h⟩
theorem w_slL {lo hi : Option Int} (hs : SqL K H p xs) (h : ∀ q, H q = none → Q (.ref q) (upd H q (.lst (cutV xs lo hi)))) : rSlL K (.ref p) lo hi H Q := ⟨p, xs, rfl, hs, h⟩
theorem w_bm {T : String} {r : V → List V → Hp → VK → Prop} (h : ta σ H fun x H1 => tyV K T x H1 ∧ tl σ H1 fun xs H2 => r x xs H2 Q) : tBM K T r ta tl σ H Q := h
theorem w_bm0 {T : String} {r : V → List V → Hp → VK → Prop} (h : ta σ H fun x H1 => tyV K T x H1 ∧ r x [] H1 Q) : tBM0 K T r ta σ H Q := h
theorem w_tyl {R : Prop} (hs : SqL K H p xs) (h : R) : tyV K "list" (.ref p) H ∧ R := ⟨.inl ⟨rfl, xs, hs⟩, h⟩
theorem w_app (hp : H p = some (.lst xs)) (hl : xs.length < sizeLine) (h : Q .non (upd H p (.lst (xs ++ [v])))) : rAppend (.ref p) [v] H Q := ⟨p, xs, v, rfl, rfl, hp, hl, h⟩
theorem w_rev (hp : H p = some (.lst xs)) (h : Q .non (upd H p (.lst xs.reverse))) : rReverse (.ref p) [] H Q := ⟨p, xs, rfl, rfl, hp, h⟩
theorem w_len {R : List V → Prop} (hs : SqL K H p xs) (h : R xs) : ∃ p' ys, [V.ref p] = [.ref p'] ∧ (SqL K H p' ys ∨ SqT K H p' ys) ∧ R ys := ⟨p, xs, rfl, .inl hs, h⟩
theorem w_lenT {R : List V → Prop} (hs : SqT K H p xs) (h : R xs) : ∃ p' ys, [V.ref p] = [.ref p'] ∧ (SqL K H p' ys ∨ SqT K H p' ys) ∧ R ys := ⟨p, xs, rfl, .inr hs, h⟩
theorem w_isi {s : String} {b : Bool} (hk : kitB "int" s = some b) (h : Q (.bl b) H) : rIsi K [.int m, .ty s] H Q := ⟨_, _, _, _, b, rfl, .ty _, .base (.int _), kit_ty hk, h⟩
theorem w_isb {k : Bool} {s : String} {b : Bool} (hk : kitB "bool" s = some b) (h : Q (.bl b) H) : rIsi K [.bl k, .ty s] H Q := ⟨_, _, _, _, b, rfl, .ty _, .base (.bl _), kit_ty hk, h⟩
theorem w_isn {s : String} {b : Bool} (hk : kitB "NoneType" s = some b) (h : Q (.bl b) H) : rIsi K [.non, .ty s] H Q := ⟨_, _, _, _, b, rfl, .ty _, .base .non, kit_ty hk, h⟩
theorem w_isl {s : String} {b : Bool} (hp : H p = some (.lst xs)) (hk : kitB "list" s = some b) (h : Q (.bl b) H) : rIsi K [.ref p, .ty s] H Q := ⟨_, _, _, _, b, rfl, .ty _, .base (.lst hp), kit_ty hk, h⟩
theorem w_ist {s : String} {b : Bool} (hp : H p = some (.tup xs)) (hk : kitB "tuple" s = some b) (h : Q (.bl b) H) : rIsi K [.ref p, .ty s] H Q := ⟨_, _, _, _, b, rfl, .ty _, .base (.tup hp), kit_ty hk, h⟩
theorem w_2i {R : Int → Int → Prop} (h : R m n) : ∃ i j, [V.int m, V.int n] = [.int i, .int j] ∧ R i j := ⟨m, n, rfl, h⟩
theorem w_1i {R : Int → Prop} (h : R m) : ∃ i, [V.int m] = [.int i] ∧ R i := ⟨m, rfl, h⟩
theorem w_int1 {R : Int → Prop} {S : Prop} (h : R m) : (∃ i, [V.int m] = [.int i] ∧ R i) ∨ S := .inl ⟨m, rfl, h⟩
theorem w_intb {b : Bool} {R : Bool → Prop} {S : Prop} (h : R b) : S ∨ ∃ k, [V.bl b] = [.bl k] ∧ R k := .inr ⟨b, rfl, h⟩
theorem w_isN {R : Prop} (h : R) : V.non = .non ∧ R := ⟨rfl, h⟩
theorem w_fld {v : V} {R : V → Prop} (hp : H p = some (.ins C dx fs)) (hc : Cls K C) (hn : NoAttr K C f) (hl : fs.lookup f = some v) (h : R v) : ∃ a C' dx' fs' v', V.ref p = .ref a ∧ H a = some (.ins C' dx' fs') ∧ Cls K C' ∧ NoAttr K C' f ∧ fs'.lookup f = some v' ∧ R v' := ⟨p, C, dx, fs, v, rfl, hp, hc, hn, hl, h⟩
theorem w_fl (h : ta σ H fun x H1 => ∃ a C dx fs v, x = .ref a ∧ H1 a = some (.ins C dx fs) ∧ Cls K C ∧ NoAttr K C f ∧ fs.lookup f = some v ∧ Q v H1) : tFld K ta f σ H Q := h
theorem w_for {wi : TI} {tu : TS} (h : wi σ H fun J H1 => ∃ W : Nat → Nat → L2.St → Hp → Prop, (∃ m, W 0 m σ H1) ∧ ∀ i m σ H, W i m σ H →
  (J.stop i H ∧ D.nx σ H) ∨ (J.go i H ∧ ∃ N : L2.St → Hp → Prop, (∀ σ' H', N σ' H' → ∃ m', m' < m ∧ W (i + 1) m' σ' H') ∧ ∀ x H', J.yld i H x H' → g x σ H' fun σ2 H2 => tu { D with nx := N, ct := N, bk := D.nx } σ2 H2)) : tFor wi g tu D σ H := h
theorem w_iL {R : It → Hp → Prop} (h : te σ H fun x H1 => ∃ a, x = .ref a ∧ (∃ xs, SqL K H1 a xs) ∧ R (Itl K a) H1) : iList K te σ H R := h
theorem w_iLq {R : Addr → Prop} (hs : SqL K H p xs) (h : R p) : ∃ a, V.ref p = .ref a ∧ (∃ xs, SqL K H a xs) ∧ R a := ⟨p, rfl, ⟨xs, hs⟩, h⟩
theorem w_iTu {R : It → Hp → Prop} (h : te σ H fun x H1 => ∃ a, x = .ref a ∧ (∃ xs, SqT K H1 a xs) ∧ R (Itt K a) H1) : iTup K te σ H R := h
theorem w_iTq {R : Addr → Prop} (hs : SqT K H p xs) (h : R p) : ∃ a, V.ref p = .ref a ∧ (∃ xs, SqT K H a xs) ∧ R a := ⟨p, rfl, ⟨xs, hs⟩, h⟩
theorem w_r1 {R : It → Hp → Prop} (h : tl σ H fun vs H1 => ∃ j : Int, vs = [.int j] ∧ -(2 ^ 62) ≤ j ∧ j < 2 ^ 62 ∧ R (Itr 0 j.toNat) H1) : iRng1 tl σ H R := h
theorem w_r1q {R : Int → Prop} (h1 : -(2 ^ 62) ≤ m) (h2 : m < 2 ^ 62) (h : R m) : ∃ j : Int, [V.int m] = [.int j] ∧ -(2 ^ 62) ≤ j ∧ j < 2 ^ 62 ∧ R j := ⟨m, rfl, h1, h2, h⟩
theorem w_r2 {R : It → Hp → Prop} (h : tl σ H fun vs H1 => ∃ i j : Int, vs = [.int i, .int j] ∧ (-(2 ^ 62) ≤ i ∧ i < 2 ^ 62 ∧ -(2 ^ 62) ≤ j ∧ j < 2 ^ 62) ∧ R (Itr i (j - i).toNat) H1) : iRng2 tl σ H R := h
theorem w_r2q {R : Int → Int → Prop} (h1 : -(2 ^ 62) ≤ m) (h2 : m < 2 ^ 62) (h3 : -(2 ^ 62) ≤ n) (h4 : n < 2 ^ 62) (h : R m n) : ∃ i j : Int, [V.int m, V.int n] = [.int i, .int j] ∧ (-(2 ^ 62) ≤ i ∧ i < 2 ^ 62 ∧ -(2 ^ 62) ≤ j ∧ j < 2 ^ 62) ∧ R i j := ⟨m, n, rfl, ⟨h1, h2, h3, h4⟩, h⟩
theorem w_len1 {R : Prop} (hl : Nat.ble xs.length 1000 = true) (h : R) : xs.length ≤ sizeLine ∧ R := ⟨szle hl, h⟩
end
theorem same_read {K : PySem.W.Frag} {H H' : Hp} {a : Addr} {xs : List V} (e : Same H H') (h : SqT K H a xs) : SqT K H' a xs := by
  rcases h with (h | ⟨o, h⟩) | h
  · exact .inl (.inl (e _ _ h))
  · exact .inl (.inr ⟨o, e _ _ h⟩)
  · exact .inr h
theorem w_iT {A B : Prop} (h : A) : if true = true then A else B := by rw [if_pos rfl]; exact h
theorem w_iF {A B : Prop} (h : B) : if false = true then A else B := by rw [if_neg Bool.false_ne_true]; exact h
theorem w_iNT {A B : Prop} (h : B) : if (!true) = true then A else B := by rw [Bool.not_true, if_neg Bool.false_ne_true]; exact h
theorem w_iNF {A B : Prop} (h : A) : if (!false) = true then A else B := by rw [Bool.not_false, if_pos rfl]; exact h
theorem w_iNN {A B : Prop} {b : Bool} (h : if b = true then A else B) : if (!!b) = true then A else B := by rw [Bool.not_not]; exact h

/-! ### data -/
mutual
theorem dpSame {K : PySem.W.Frag} {H H' : Hp} (e : Same H H') : ∀ (d : PyData) (v : V), Dp K H v d → Dp K H' v d
  | .none, _, h => by cases h; exact .non
  | .bool _, _, h => by cases h; exact .bl _
  | .int _, _, h => by cases h; exact .int _
  | .str _, _, h => by cases h; exact .str _
  | .list ds, _, h => by
    cases h with
    | lst hs ha => exact .lst (e.seq hs) (dpSameAll e ds _ ha)
  | .tuple ds, _, h => by
    cases h with
    | tup hs ha => exact .tup (same_read e hs) (dpSameAll e ds _ ha)
  | .dict _, _, h => by cases h
theorem dpSameAll {K : PySem.W.Frag} {H H' : Hp} (e : Same H H') : ∀ (ds : List PyData) (xs : List V), DpAll K H xs ds → DpAll K H' xs ds
  | [], _, h => by cases h; exact .nil
  | d :: ds, _, h => by
    cases h with
    | cons h1 h2 => exact .cons (dpSame e d _ h1) (dpSameAll e ds _ h2)
end
section
variable {K : PySem.W.Frag} {H H' : Hp} {xs ys : List V} {ds es : List PyData} {v : V} {d : PyData} {a : Addr}
theorem _root_.L2.Dp.same (e : Same H H') (h : Dp K H v d) : Dp K H' v d := dpSame e d v h
theorem _root_.L2.DpAll.same (e : Same H H') (h : DpAll K H xs ds) : DpAll K H' xs ds := dpSameAll e ds xs h
theorem dpaLen : ∀ {xs : List V} {ds : List PyData}, DpAll K H xs ds → xs.length = ds.length
  | _, _, .nil => rfl
  | _, _, .cons _ t => by rw [List.length_cons, List.length_cons, dpaLen t]
theorem dpaGet : ∀ {xs : List V} {ds : List PyData} {i : Nat} {d : PyData}, DpAll K H xs ds → ds[i]? = some d → ∃ v, xs[i]? = some v ∧ Dp K H v d
  | _, _, _, _, .nil, e => by simp at e
  | _, _, 0, _, .cons h _, e => by simp at e; subst e; exact ⟨_, rfl, h⟩
  | _, _, i + 1, _, .cons _ t, e => by
    obtain ⟨v, h1, h2⟩ := dpaGet (i := i) t (by simpa using e)
    exact ⟨v, by simpa using h1, h2⟩
theorem dpaApp : ∀ {xs ys : List V} {ds es : List PyData}, DpAll K H xs ds → DpAll K H ys es → DpAll K H (xs ++ ys) (ds ++ es)
  | _, _, _, _, .nil, h => h
  | _, _, _, _, .cons h t, s => .cons h (dpaApp t s)
theorem dpInts : ∀ ns : List Int, DpAll K H (ns.map V.int) (ns.map PyData.int)
  | [] => .nil
  | n :: r => .cons (.int n) (dpInts r)
theorem dpAll_ints : ∀ {ns : List Int} {xs : List V}, DpAll K H xs (ns.map PyData.int) → xs = ns.map V.int
  | [], _, h => by cases h; rfl
  | n :: r, _, h => by
    cases h with
    | cons h t => cases h; rw [dpAll_ints t]; rfl
theorem dpInt {i : Int} (h : Dp K H v (.int i)) : v = .int i := by cases h; rfl
theorem dpTup (h : Dp K H v (.tuple ds)) : ∃ a xs, v = .ref a ∧ SqT K H a xs ∧ DpAll K H xs ds := by cases h with | tup h1 h2 => exact ⟨_, _, rfl, h1, h2⟩
theorem dpLst (h : Dp K H v (.list ds)) : ∃ a xs, v = .ref a ∧ SqL K H a xs ∧ DpAll K H xs ds := by cases h with | lst h1 h2 => exact ⟨_, _, rfl, h1, h2⟩
theorem dpLstA (h : Dp K H (.ref a) (.list ds)) : ∃ xs, SqL K H a xs ∧ DpAll K H xs ds := by cases h with | lst h1 h2 => exact ⟨_, h1, h2⟩
theorem dpTupA (h : Dp K H (.ref a) (.tuple ds)) : ∃ xs, SqT K H a xs ∧ DpAll K H xs ds := by cases h with | tup h1 h2 => exact ⟨_, h1, h2⟩
end
/-- data that == serves: no dicts, no deeper than n -/
def Good (n : Nat) (d : PyData) : Prop := d.canLay0 = true ∧ d.depth ≤ n
theorem goodInt {n : Nat} {i : Int} : Good n (.int i) := ⟨rfl, Nat.zero_le _⟩
theorem goodBool {n : Nat} {b : Bool} : Good n (.bool b) := ⟨rfl, Nat.zero_le _⟩
theorem goodNone {n : Nat} : Good n .none := ⟨rfl, Nat.zero_le _⟩
theorem goodAll {n : Nat} : ∀ {ds : List PyData}, (∀ d ∈ ds, Good n d) → PyData.canLayAll0 ds = true ∧ PyData.depthAll ds ≤ n
  | [], _ => ⟨rfl, Nat.zero_le _⟩
  | d :: ds, h => by
    obtain ⟨h1, h2⟩ := h d List.mem_cons_self
    obtain ⟨h3, h4⟩ := goodAll fun e he => h e (List.mem_cons_of_mem _ he)
    exact ⟨by simp [PyData.canLayAll0, h1, h3], by simp only [PyData.depthAll]; omega⟩
theorem goodLst {n : Nat} {ds : List PyData} (h : ∀ d ∈ ds, Good n d) : Good (n + 1) (.list ds) := ⟨(goodAll h).1, Nat.succ_le_succ (goodAll h).2⟩
theorem goodTup {n : Nat} {ds : List PyData} (h : ∀ d ∈ ds, Good n d) : Good (n + 1) (.tuple ds) := ⟨(goodAll h).1, Nat.succ_le_succ (goodAll h).2⟩
theorem goodMap {α : Type} {n : Nat} {f : α → PyData} {xs : List α} (h : ∀ x, Good n (f x)) : ∀ d ∈ xs.map f, Good n d := by
  intro d hd
  obtain ⟨x, _, rfl⟩ := List.mem_map.mp hd
  exact h x
theorem Good.mono {n m : Nat} {d : PyData} (h : Good n d) (e : n ≤ m) : Good m d := ⟨h.1, Nat.le_trans h.2 e⟩
theorem Good.shaped {n : Nat} {d : PyData} (h : Good n d) (e : n ≤ 64) : SeqAt.shaped d = true := by
  unfold SeqAt.shaped
  rw [h.1, decide_eq_true (Nat.le_trans h.2 e)]
  rfl
theorem Good.eqv {n : Nat} {d : PyData} (h : Good n d) : PyData.eqv d d = true := SeqAt.eqv_refl d h.1
section
variable {K : PySem.W.Frag} {H : Hp} {x y : V} {d : PyData} {Q : VK} {n : Nat}
/-- two things of the same data are equal -/
theorem w_eqD (h1 : Dp K H x d) (h2 : Dp K H y d) (g : Good n d) (hn : n ≤ 64) (h : Q (.bl true) H) : rEqD K x y H Q := ⟨d, d, h1, h2, g.shaped hn, g.shaped hn, by rw [g.eqv]; exact h⟩
theorem w_neD (h1 : Dp K H x d) (h2 : Dp K H y d) (g : Good n d) (hn : n ≤ 64) (h : Q (.bl false) H) : rNeD K x y H Q := ⟨d, d, h1, h2, g.shaped hn, g.shaped hn, by rw [g.eqv]; exact h⟩
end
/-! ### xs[i] op= e -/
def rGetL (K : PySem.W.Frag) : V → V → Hp → VK → Prop := fun x y H Q => ∃ (p : Addr) (xs : List V) (j : Nat) (v : V), x = .ref p ∧ y = .int j ∧ SqL K H p xs ∧ xs[j]? = some v ∧ Q v H
theorem get_list {X : Cx} : PGet X (rGetL X.K) := by
  intro pins s σ H o i ov iv Q I ro ri h
  obtain ⟨p, xs, j, v, rfl, rfl, hq, he, q⟩ := h
  cases ro
  obtain ⟨t, rfl⟩ := ri
  obtain ⟨its, r, pl, hz⟩ := I.list hq
  obtain ⟨u, eu, ru⟩ := r.get he
  have hj : j < xs.length := (List.getElem?_eq_some_iff.mp he).1
  have hn := line63
  exact wpAny_getItem_list pl.isList (Int.natCast_nonneg j) (by omega) (by simpa using eu) ⟨v, H, I, ru, q⟩
theorem ps_augL {X : Cx} {o i e : Expr} {to ti te : TE} {tip : TIp} {op : Operator} {tpos pos : Pos} (ho : PE X o to) (hi : PE X i ti) (he : PE X e te) (hp : PIp X op tip)
    (ha : ∀ ov iv new, augStore i ov iv new = (do holding [new, ov, iv] (setItem ov iv new); release [new, ov, iv] []; pure .next) := by intros; rfl) : PS X (.AugAssign (.Subscript o i tpos) op e pos) (tAugS to ti te (rGetL X.K) tip rSetL) :=
  ps_augS ho hi get_list he hp set_list ha
section
variable {σ : L2.St} {H : Hp} {Q : VK} {D : Ends} {K : PySem.W.Frag} {p : Addr} {xs : List V} {v : V} {j : Nat}
theorem w_augS {to ti te : TE} {tget : V → V → Hp → VK → Prop} {tip : TIp} {tset : TSet} (h : to σ H fun o H1 => ti σ H1 fun i H2 => tget o i H2 fun x H3 => te σ H3 fun y H4 => tip x y H4 fun z H5 => tset o i z H5 fun H6 => D.nx σ H6) : tAugS to ti te tget tip tset D σ H := h
theorem w_getL (hs : SqL K H p xs) (he : xs[j]? = some v) (h : Q v H) : rGetL K (.ref p) (.int (j : Int)) H Q := ⟨p, xs, j, v, rfl, rfl, hs, he, h⟩
theorem ixN_nat {n j : Nat} (h : j < n) : ixN n (j : Int) = some j := by
  unfold ixN
  rw [if_pos (Int.natCast_nonneg j), if_pos (by omega)]
  simp
end
/-! ### range from nought -/
theorem for_r0 {m : Int} {n : Nat} {g : TG} {tb : TS} {D : Ends} {σ : L2.St} {H : Hp} (hm : m = n) (Pv : Nat → L2.St → Hp → Prop) (h0 : Pv 0 σ H)
    (hs : ∀ i σ H, i < n → Pv i σ H → g (.int (i : Nat)) σ H fun σ2 H2 => tb { D with nx := Pv (i + 1), ct := Pv (i + 1), bk := D.nx } σ2 H2) (hd : ∀ σ H, Pv n σ H → D.nx σ H) :
    ∃ W : Nat → Nat → L2.St → Hp → Prop, (∃ m, W 0 m σ H) ∧ ∀ i k σ H, W i k σ H →
      ((Itr 0 m.toNat).stop i H ∧ D.nx σ H) ∨ ((Itr 0 m.toNat).go i H ∧ ∃ N : L2.St → Hp → Prop, (∀ σ' H', N σ' H' → ∃ m', m' < k ∧ W (i + 1) m' σ' H') ∧ ∀ x H', (Itr 0 m.toNat).yld i H x H' → g x σ H' fun σ2 H2 => tb { D with nx := N, ct := N, bk := D.nx } σ2 H2) := by
  subst hm
  rw [Int.toNat_natCast]
  exact for_range (lo := 0) Pv h0 (fun i σ H hi hp => by rw [Int.zero_add]; exact hs i σ H hi hp) hd
/-! ### bits of numbers from nought on -/
theorem shr_nat (m k : Nat) : (m : Int) / 2 ^ (Int.toNat (k : Int)) = ((m >>> k : Nat) : Int) := by
  rw [Int.toNat_natCast, Nat.shiftRight_eq_div_pow]
  simp
theorem shl_nat (m k : Nat) : (m : Int) * 2 ^ (Int.toNat (k : Int)) = ((m <<< k : Nat) : Int) := by
  rw [Int.toNat_natCast, Nat.shiftLeft_eq]
  simp
theorem shl_one (k : Nat) : (1 : Int) * 2 ^ (Int.toNat (k : Int)) = ((2 ^ k : Nat) : Int) := by
  rw [Int.toNat_natCast, Int.one_mul]
  simp
theorem xor_nat (m n : Nat) : Builtin.bitXor (m : Int) (n : Int) = ((m ^^^ n : Nat) : Int) := by
  have h := Bits.bitXor_pp (x := (m : Int)) (y := (n : Int)) (Int.natCast_nonneg m) (Int.natCast_nonneg n)
  rw [Int.toNat_natCast, Int.toNat_natCast] at h
  exact h
theorem or_nat (m n : Nat) : Builtin.bitOr (m : Int) (n : Int) = ((m ||| n : Nat) : Int) := by
  have h := Bits.bitOr_pp (x := (m : Int)) (y := (n : Int)) (Int.natCast_nonneg m) (Int.natCast_nonneg n)
  rw [Int.toNat_natCast, Int.toNat_natCast] at h
  exact h
theorem and_one (m : Int) (h : 0 ≤ m) : Builtin.bitAnd m 1 = m % 2 := by
  have e := Bits.bitAnd_mask (x := m) 1 h
  simpa using e
theorem bit_nat (m k : Nat) : Builtin.bitAnd ((m : Int) / 2 ^ (Int.toNat (k : Int))) 1 = (((m.testBit k).toNat : Nat) : Int) := by
  rw [shr_nat, and_one _ (Int.natCast_nonneg _), Nat.testBit_eq_decide_div_mod_eq, Nat.shiftRight_eq_div_pow]
  have h : m / 2 ^ k % 2 < 2 := Nat.mod_lt _ (by decide)
  generalize m / 2 ^ k = z at h
  have e : z % 2 = 0 ∨ z % 2 = 1 := by omega
  rcases e with e | e
  · rw [e]; simp; omega
  · rw [e]; simp; omega
theorem bit_dec (m k : Nat) : decide (Builtin.bitAnd ((m : Int) / 2 ^ (Int.toNat (k : Int))) 1 = 1) = m.testBit k := by
  rw [bit_nat]
  cases m.testBit k <;> simp
/-! ### tables by number -/
theorem map_set {α : Type} {f : Nat → α} {m j : Nat} {y : α} : ((List.range m).map f).set j y = (List.range m).map fun r => if r = j then y else f r := by
  apply List.ext_getElem
  · simp
  · intro i h1 h2
    simp only [List.length_set, List.length_map, List.length_range] at h1
    simp only [List.getElem_set, List.getElem_map, List.getElem_range]
    by_cases e : j = i
    · subst e; simp
    · rw [if_neg e, if_neg (Ne.symm e)]
theorem map_at {α : Type} {f : Nat → α} {m j : Nat} (h : j < m) : ((List.range m).map f)[j]? = some (f j) := by
  rw [List.getElem?_map, List.getElem?_range h]
  rfl
theorem map_len {α : Type} {f : Nat → α} {m : Nat} : ((List.range m).map f).length = m := by simp
theorem map_setI {f : Nat → Int} {m j : Nat} {y : Int} : ((List.range m).map fun r => V.int (f r)).set j (V.int y) = (List.range m).map fun r => V.int (if r = j then y else f r) := by
  rw [map_set]
  congr 1
  funext r
  split <;> rfl
/-! ### comprehensions, slices -/
section
variable {σ σ' : L2.St} {H : Hp} {Q : VK} {QT : Bool → Hp → Prop}
theorem w_lc {wi : TI} {g : TG} {tt : TT} {te : TE} {vs : List Nat} (h : wi σ H fun J H1 => ∀ D, New H1 D → ∃ W : Nat → Nat → Hp → Prop, (∃ m, W 0 m (upd H1 D (.lst []))) ∧ ∀ i m H, W i m H →
  (J.stop i H ∧ Q (.ref D) H) ∨ (J.go i H ∧ ∃ Nx : Hp → Prop, (∀ H', Nx H' → ∃ m', m' < m ∧ W (i + 1) m' H') ∧ ∀ x H', J.yld i H x H' → g x (wipe σ vs) H' fun σ2 H2 => wipe σ2 vs = wipe σ vs ∧ tt σ2 H2 fun b H3 =>
    if b = true then te σ2 H3 fun y H4 => ∃ acc, H4 D = some (.lst acc) ∧ acc.length < sizeLine ∧ Nx (upd H4 D (.lst (acc ++ [y]))) else Nx H3)) : tLc wi g tt te vs σ H Q := h
theorem w_wipe {vs : List Nat} {R : Prop} (e : wipe σ vs = wipe σ' vs) (h : R) : wipe σ vs = wipe σ' vs ∧ R := ⟨e, h⟩
theorem w_yes (h : QT true H) : tYes σ H QT := h
theorem cutV_nat (xs : List V) (a b : Nat) : cutV xs (some (a : Int)) (some (b : Int)) = (xs.drop a).take (b - a) := by
  unfold cutV
  rw [HT.sIx_nat, HT.sIx_nat]
  apply List.ext_getElem?
  intro i
  simp only [List.getElem?_take, List.getElem?_drop]
  by_cases ha : a ≤ xs.length
  · rw [Nat.min_eq_left ha]
    by_cases h : i < b - a
    · by_cases h2 : i < min b xs.length - a
      · rw [if_pos h, if_pos h2]
      · rw [if_pos h, if_neg h2, List.getElem?_eq_none (by omega)]
    · rw [if_neg h, if_neg (by omega)]
  · rw [if_neg (by omega)]
    split
    · rw [List.getElem?_eq_none (by omega)]
    · rfl
theorem cutV_from (xs : List V) (a : Nat) : cutV xs (some (a : Int)) none = xs.drop a := by
  unfold cutV
  rw [HT.sIx_nat, HT.sIx_none]
  by_cases h : a ≤ xs.length
  · rw [Nat.min_eq_left h]
    exact List.take_of_length_le (by simp)
  · rw [Nat.min_eq_right (by omega), List.drop_of_length_le (Nat.le_refl _), List.drop_of_length_le (by omega), List.take_nil]
theorem cutV_to (xs : List V) (b : Nat) : cutV xs none (some (b : Int)) = xs.take b := by
  unfold cutV
  rw [HT.sIx_nat, HT.sIx_none, List.drop_zero, Nat.sub_zero]
  by_cases h : b ≤ xs.length
  · rw [Nat.min_eq_left h]
  · rw [Nat.min_eq_right (by omega), List.take_of_length_le (Nat.le_refl _), List.take_of_length_le (by omega)]
end
theorem w_list {K : PySem.W.Frag} {H : Hp} {p : Addr} {xs : List V} {R : List V → Prop} (hs : SqL K H p xs) (h : R xs) : ∃ p' ys, [V.ref p] = [.ref p'] ∧ (SqL K H p' ys ∨ SqT K H p' ys) ∧ R ys := ⟨p, xs, rfl, .inl hs, h⟩
/-! ### a heap without one place -/
def wo (H : Hp) (D : Addr) : Hp := fun b => if b = D then none else H b
section
variable {K : PySem.W.Frag} {H H' H2 : Hp} {D p : Addr} {o : HO} {xs : List V} {ds : List PyData} {v : V} {d : PyData}
theorem wo_same : Same (wo H D) H := fun b o h => by
  unfold wo at h
  split at h
  · cases h
  · exact h
theorem wo_new : New (wo H D) D := if_pos rfl
theorem wo_get (h : H p = some o) (n : p ≠ D) : wo H D p = some o := (if_neg n).trans h
theorem wo_eq : wo (upd H D o) D = wo H D := by
  funext b
  unfold wo
  split
  · rfl
  · rw [upd_ne (by assumption)]
theorem wo_mono (e : Same H H') : Same (wo H D) (wo H' D) := fun b o h => by
  unfold wo at h ⊢
  split at h
  · cases h
  · rw [if_neg (by assumption)]; exact e b o h
theorem same_wo (e : Same H H') (n : New H D) : Same H (wo H' D) := fun b o h => wo_get (e b o h) (ne_new h n)
theorem dpaPush (h : DpAll K (wo H D) xs ds) (e : Same H H2) (hv : Dp K (wo H2 D) v d) : DpAll K (wo (upd H2 D o) D) (xs ++ [v]) (ds ++ [d]) := by
  rw [wo_eq]
  exact dpaApp (h.same (wo_mono e)) (.cons hv .nil)
theorem dpaPushI (h : DpAll K (wo H D) xs ds) {i : Int} : DpAll K (wo (upd H D o) D) (xs ++ [.int i]) (ds ++ [.int i]) := dpaPush h (Same.refl _) (.int i)
end
/-! ### while -/
theorem w_wt {W : Nat → L2.St → Hp → Prop} {tb : TS} {D : Ends} {σ : L2.St} {H : Hp} {m : Nat} (h : tb { D with nx := fun σ' H' => ∃ m', m' < m ∧ W m' σ' H', ct := fun σ' H' => ∃ m', m' < m ∧ W m' σ' H', bk := D.nx } σ H) :
    ∃ N : L2.St → Hp → Prop, (∀ σ' H', N σ' H' → ∃ m', m' < m ∧ W m' σ' H') ∧ tb { D with nx := N, ct := N, bk := D.nx } σ H := ⟨_, fun _ _ h => h, h⟩
theorem and_nat (m n : Nat) : Builtin.bitAnd (m : Int) (n : Int) = ((m &&& n : Nat) : Int) := rfl
/-! ### two ways to read -/
theorem _root_.L2.PE.or {X : Cx} {e : Expr} {t t' : TE} (h : PE X e t) (h' : PE X e t') : PE X e (fun σ H Q => t σ H Q ∨ t' σ H Q) := ⟨fun pins s σ H Q I q => by
  rcases q with q | q
  · exact h.run pins s σ H Q I q
  · exact h'.run pins s σ H Q I q⟩
/-! ### classes by name -/
structure HasMk (P : Program) (w : World) (K : PySem.W.Frag) (mg : Str → Option Value) (base : Heap) (CX : CXT) (k : Nat) (x : Str) (C : Addr) (ps : List Str) (sp : Sp) : Prop where
  ex : ∃ f fd, FnOk P w K mg base CX k f fd ps sp ∧ Mk K C f ∧ mg x = some (.ref C) ∧ Binds K fd ps []
structure HasMeth (P : Program) (w : World) (K : PySem.W.Frag) (mg : Str → Option Value) (base : Heap) (CX : CXT) (k : Nat) (C : Addr) (m : Str) (ps : List Str) (sp : Sp) : Prop where
  ex : ∃ f fd, FnOk P w K mg base CX k f fd ps sp ∧ Cls K C ∧ Meth K C m f ∧ Binds K fd ps []
/-- a method's body, proved once for whatever class holds it -/
structure HasFn (P : Program) (w : World) (K : PySem.W.Frag) (mg : Str → Option Value) (base : Heap) (CX : CXT) (k : Nat) (f : Addr) (ps : List Str) (sp : Sp) : Prop where
  ex : ∃ fd, FnOk P w K mg base CX k f fd ps sp ∧ Binds K fd ps []
section
variable {P : Program} {w : World} {K : PySem.W.Frag} {mg : Str → Option Value} {base : Heap} {x qual : Str} {ps N : List Str} {sp : Sp} {k : Nat}
theorem HasFn.mk' {st : Stmt} {f : Addr} {fd : FuncData} (F : Fun K x qual st f fd) (b : Binds K fd ps []) (S : FnScope N ps (defScope st)) (len : ∀ vs H Q E, sp vs H Q E → vs.length = ps.length)
    (hbody : ∀ (cdv : Value) (A : Around) (outer : List Env) (s : Shared) (H : Hp) (vs : List V) (Q : VK) (E : XK), Room k (A.deeper (envOfC qual (defScope st) s.heap.objs.size f cdv)) → sp vs H Q E →
      ∃ t, PSs (cxOf CX0 P w K mg base N qual (defScope st) f cdv A outer s H E).nox (defBody st) t ∧ t { nx := fun _ H' => Q .non H', rt := Q } (start N vs) H) : HasFn P w K mg base CX0 (k + 1) f ps sp :=
  ⟨fd, F.ok S len hbody, b⟩
theorem HasFn.mkOf {CX : CXT} {f C : Addr} (h : HasFn P w K mg base CX k f ps sp) (M : Mk K C f) (g : mg x = some (.ref C)) : HasMk P w K mg base CX k x C ps sp := by
  obtain ⟨fd, F, b⟩ := h.ex
  exact ⟨f, fd, F, M, g, b⟩
theorem HasFn.meth {CX : CXT} {f C : Addr} {m : Str} (h : HasFn P w K mg base CX k f ps sp) (c : Cls K C) (M : Meth K C m f) : HasMeth P w K mg base CX k C m ps sp := by
  obtain ⟨fd, F, b⟩ := h.ex
  exact ⟨f, fd, F, c, M, b⟩
end
section
variable {X : Cx} {k : Nat} {ps : List Str} {sp : Sp} {x m : Str} {p pos apos : Pos} {e o : Expr} {es : List Expr} {t : TA} {ta : TE} {C : Addr}
theorem pe_mk (h : HasMk X.prog X.w X.K X.mg X.base CX0 k x C ps sp) (hr : Room (k + 1) X.A) (hg : Gl X x) (ha : PA X (e :: es) t) (hdb : (x == ("__debug__" : Str)) = false := by decide) (he : starEach (e :: es) X.env = (false, eval e X.env) :: starEach es X.env := by rfl) (hpl : (backTo pos (starEach es X.env)).any (·.1) = false := by rfl) :
    PE X (.Call (.Name x p) (e :: es) [] pos) (tMake C sp [] E0 t) := by
  obtain ⟨f, fd, F, M, g, b⟩ := h.ex
  exact pe_make M F hr hg g b .nil pass0 ha hdb he hpl
theorem pe_mt {pl : Sem Bool} (h : HasMeth X.prog X.w X.K X.mg X.base CX0 k C m ps sp) (he : PE X o ta) (hr : Room k X.A) (ha : PA X (e :: es) t)
    (hst : starEach (e :: es) X.env = (false, eval e X.env) :: starEach es X.env := by rfl) (hpl : (backTo pos (starEach es X.env)).any (·.1) = false := by rfl)
    (ht : eval (.Call (.Attribute o m apos) (e :: es) [] pos) X.env = (do
      let v ← eval o X.env
      standAt apos.atName
      let (f, first) ← holding [v] (getMethod v m pl)
      callWith pos f first (backTo pos (starEach (e :: es) X.env)) (backToKw pos (keywordEach [] X.env))) := by rfl) :
    PE X (.Call (.Attribute o m apos) (e :: es) [] pos) (tMeth C m sp [] E0 ta t) := by
  obtain ⟨f, fd, F, c, M, b⟩ := h.ex
  exact pe_meth he c M F hr b .nil pass0 ha hst hpl ht
theorem pe_mt0 {pl : Sem Bool} (h : HasMeth X.prog X.w X.K X.mg X.base CX0 k C m ps sp) (he : PE X o ta) (hr : Room k X.A)
    (ht : eval (.Call (.Attribute o m apos) [] [] pos) X.env = (do
      let v ← eval o X.env
      standAt apos.atName
      let (f, first) ← holding [v] (getMethod v m pl)
      callWith pos f first (backTo pos (starEach [] X.env)) (backToKw pos (keywordEach [] X.env))) := by rfl) :
    PE X (.Call (.Attribute o m apos) [] [] pos) (tMeth C m sp [] E0 ta tNil) := by
  obtain ⟨f, fd, F, c, M, b⟩ := h.ex
  exact pe_meth0 he c M F hr b .nil pass0 ht
end
section
variable {σ : L2.St} {H : Hp} {Q : VK} {D : Ends} {K : PySem.W.Frag} {ta tv : TE} {tl : TA} {sp : Sp} {E : XK} {C p dx : Addr} {fs : List (Str × V)} {f m : Str} {v : V}
theorem w_make (h : tl σ H fun vs H1 => ∀ x dx, New H1 x → New H1 dx → dx ≠ x → sp (.ref x :: vs) (upd (upd H1 dx (.own x)) x (.ins C dx [])) (fun v H2 => v = .non ∧ Q (.ref x) H2) E) : tMake C sp [] E tl σ H Q := by
  unfold tMake
  simp only [List.append_nil]
  exact h
theorem w_meth (h : ta σ H fun x H1 => ∃ a dx fs, x = .ref a ∧ H1 a = some (.ins C dx fs) ∧ fs.lookup m = none ∧ tl σ H1 fun vs H2 => sp (x :: vs) H2 Q E) : tMeth C m sp [] E ta tl σ H Q := by
  unfold tMeth
  simp only [List.append_nil]
  exact h
theorem w_methq {R : Prop} (hp : H p = some (.ins C dx fs)) (hl : fs.lookup m = none) (h : R) : ∃ a dx fs, V.ref p = .ref a ∧ H a = some (.ins C dx fs) ∧ fs.lookup m = none ∧ R := ⟨p, dx, fs, rfl, hp, hl, h⟩
theorem w_sf (h : tv σ H fun y H1 => ta σ H1 fun x H2 => ∃ a C dx fs, x = .ref a ∧ H2 a = some (.ins C dx fs) ∧ Cls K C ∧ NoAttr K C f ∧ fs.length < 1000 ∧ D.nx σ (upd H2 a (.ins C dx (putF f y fs)))) : sFld K ta tv f D σ H := h
theorem w_sfq {R : Addr → Addr → Addr → List (Str × V) → Prop} (hp : H p = some (.ins C dx fs)) (hc : Cls K C) (hn : NoAttr K C f) (hl : fs.length < 1000) (h : R p C dx fs) : ∃ a C' dx' fs', V.ref p = .ref a ∧ H a = some (.ins C' dx' fs') ∧ Cls K C' ∧ NoAttr K C' f ∧ fs'.length < 1000 ∧ R a C' dx' fs' := ⟨p, C, dx, fs, rfl, hp, hc, hn, hl, h⟩
end
/-! ### isinstance of an object -/
structure IsoK (K : PySem.W.Frag) (C : Addr) : Prop where
  cl : Cls K C
  oc : PySem.W.findIn K (.ref C) "__class__" = some (some (.builtin "object.__class__"))
  og : PySem.W.specialIn K (.builtin "object.__class__") "__get__" = some (some (.builtin "getset_descriptor.__get__"))
  ot : PySem.W.takesIn K (.builtin "object.__class__") = some true
  om : PySem.W.mroIn K C (.type "object") = some true
theorem w_iso {K : PySem.W.Frag} {H : Hp} {Q : VK} {p C D dx : Addr} {fs : List (Str × V)} {b : Bool} (hp : H p = some (.ins C dx fs)) (I : IsoK K C) (hk : PySem.W.kitOne K (.ref C) (.ref D) = some b) (h : Q (.bl b) H) : rIsi K [.ref p, .ref D] H Q :=
  ⟨_, _, _, _, b, rfl, .own D, .base (.ins hp I.cl I.oc I.og I.ot I.om), hk, h⟩
theorem w_isoN {K : PySem.W.Frag} {H : Hp} {Q : VK} {D : Addr} {b : Bool} (hk : PySem.W.kitOne K (.type "NoneType") (.ref D) = some b) (h : Q (.bl b) H) : rIsi K [.non, .ref D] H Q :=
  ⟨_, _, _, _, b, rfl, .own D, .base .non, hk, h⟩
theorem kit_own {K : PySem.W.Frag} {C D : Addr} {b : Bool} (h1 : PySem.W.isClsIn K D = true) (h2 : PySem.W.typeIn K (.ref D) = some (.type "type")) (h3 : PySem.W.subIn K (.ref C) (.ref D) = some b) (h4 : PySem.W.subIn K (.ref C) (.ref C) = some true) : PySem.W.kitOne K (.ref C) (.ref D) = some b := by
  unfold PySem.W.kitOne
  by_cases e : C = D
  · subst e
    rw [h4] at h3
    cases h3
    rw [if_pos (by simp)]
  · have hn : ¬ ((Value.ref C == Value.ref D) = true) := by
      intro z
      rw [beq_iff_eq] at z
      cases z
      exact e rfl
    rw [if_neg hn]
    unfold PySem.W.kitCls
    have h5 : (PySem.W.clsIn K D).isSome = true := h1
    show (if ((PySem.W.clsIn K D).isSome && PySem.W.typeIn K (.ref D) == some (.type "type")) = true then PySem.W.subIn K (.ref C) (.ref D) else none) = some b
    rw [h5, h2, if_pos (by simp)]
    exact h3
/-! ### range by steps -/
theorem w_r3 {σ : L2.St} {H : Hp} {ta : TA} {R : It → Hp → Prop} (h : ta σ H fun vs H1 => ∃ (i j c : Int) (n : Nat), vs = [.int i, .int j, .int c] ∧ RgC i j c n ∧ R (Itc i c n) H1) : iRng3 ta σ H R := h
theorem w_r3q {i j c : Int} {n : Nat} {R : Int → Int → Nat → Prop} (hc : RgC i j c n) (h : R i c n) : ∃ (i' j' c' : Int) (n' : Nat), [V.int i, V.int j, V.int c] = [.int i', .int j', .int c'] ∧ RgC i' j' c' n' ∧ R i' c' n' := ⟨i, j, c, n, rfl, hc, h⟩
/-! ### ways joined behind a statement -/
def tCutX (t u : TS) : TS := fun D σ H => ∃ M : L2.St → Hp → Prop, t { D with nx := M } σ H ∧ ∀ σ' H', M σ' H' → u D σ' H'
theorem pss_cutX {X : Cx} {st : Stmt} {more : List Stmt} {t u : TS} (h1 : PS X st t) (h2 : PSs X more u) : PSs X (st :: more) (tCutX t u) := ⟨fun pins s σ H D I h => by
  obtain ⟨M, hm, hu⟩ := h
  refine wpAny_execs_cons (thn (h1.run pins s σ H { D with nx := M } I hm) fun f s1 q => ?_)
  cases f with
  | next => obtain ⟨σ1, H1, I1, q1⟩ := q; exact h2.run pins s1 σ1 H1 D I1 (hu σ1 H1 q1)
  | ret v => exact q
  | brk => exact q
  | cont => exact q⟩
theorem w_cut {t u : TS} {D : Ends} {σ : L2.St} {H : Hp} (M : L2.St → Hp → Prop) (h : t { D with nx := M } σ H) (k : ∀ σ' H', M σ' H' → u D σ' H') : tCutX t u D σ H := ⟨M, h, k⟩
/-! ### dicts with number keys; heaps that grow -/
theorem _root_.L2.Same.add {G H : Hp} {q : Addr} {o : HO} (e : Same G H) (h : H q = some o) : Same (upd G q o) H := fun b u hb => by
  by_cases e2 : b = q
  · subst e2
    rw [upd_same] at hb
    rw [h]
    exact hb
  · rw [upd_ne e2] at hb
    exact e b u hb
theorem New.upd {G : Hp} {p q : Addr} {o : HO} (n : New G p) (h : p ≠ q) : New (upd G q o) p := (upd_ne h).trans n
theorem putK_len {kvs : List (Key × V)} {k : Key} {v : V} : (putK kvs k v).length ≤ kvs.length + 1 := by
  unfold putK
  split <;> simp
theorem w_put {σ : L2.St} {H : Hp} {D : Ends} {td ty tv : TE} (h : tv σ H fun v H1 => td σ H1 fun x H2 => ty σ H2 fun y H3 => ∃ a H4, x = .ref a ∧ DPut H3 a y v H4 ∧ D.nx σ H4) : sDPut td ty tv D σ H := h
theorem w_putI {H : Hp} {a : Addr} {kvs : List (Key × V)} {i : Int} {v : V} {R : Hp → Prop} (e : H a = some (.dK kvs)) (hl : kvs.length < sizeLine) (h : R (upd H a (.dK (putK kvs (.inl i) v)))) : ∃ a' H4, V.ref a = .ref a' ∧ DPut H a' (.int i) v H4 ∧ R H4 := ⟨a, _, rfl, DPut.k (k := .inl i) e hl, h⟩
theorem w_getI {H : Hp} {a : Addr} {kvs : List (Key × V)} {i : Int} {v : V} {R : V → Prop} (e : H a = some (.dK kvs)) (hv : valV kvs (.inl i) = some v) (h : R v) : ∃ a' v', V.ref a = .ref a' ∧ DGet H a' (.int i) (some v') ∧ R v' := ⟨a, v, rfl, by rw [← hv]; exact DGet.k (k := .inl i) e, h⟩
theorem w_inI {H : Hp} {a : Addr} {kvs : List (Key × V)} {i : Int} {R : Option V → Prop} (e : H a = some (.dK kvs)) (h : R (valV kvs (.inl i))) : ∃ a' o, V.ref a = .ref a' ∧ DGet H a' (.int i) o ∧ R o := ⟨a, _, rfl, DGet.k (k := .inl i) e, h⟩
theorem w_din {σ : L2.St} {H : Hp} {Q : VK} {td ty : TE} (h : ty σ H fun y H1 => td σ H1 fun x H2 => ∃ a o, x = .ref a ∧ DGet H2 a y o ∧ Q (.bl o.isSome) H2) : tDIn ty td σ H Q := h
theorem w_dni {σ : L2.St} {H : Hp} {Q : VK} {td ty : TE} (h : ty σ H fun y H1 => td σ H1 fun x H2 => ∃ a o, x = .ref a ∧ DGet H2 a y o ∧ Q (.bl (!o.isSome)) H2) : tDNotIn ty td σ H Q := h
theorem w_dg {σ : L2.St} {H : Hp} {Q : VK} {td ty : TE} (h : td σ H fun x H1 => ty σ H1 fun y H2 => ∃ a v, x = .ref a ∧ DGet H2 a y (some v) ∧ Q v H2) : tDGet td ty σ H Q := h
theorem w_dn {σ : L2.St} {H : Hp} {Q : VK} (h : ∀ p, New H p → Q (.ref p) (upd H p (.dK []))) : tDNewK σ H Q := h
/-- a dict with number keys: what it holds -/
def Holds (kvs : List (Key × V)) (S : List Nat) (g : Nat → V) : Prop := kvs.length ≤ S.length ∧ ∀ d : Nat, valV kvs (.inl (d : Int)) = if d ∈ S then some (g d) else none
theorem Holds.nil {g : Nat → V} : Holds [] [] g := ⟨Nat.le_refl _, fun d => by simp [valV]⟩
theorem Holds.put {kvs : List (Key × V)} {S : List Nat} {g : Nat → V} (h : Holds kvs S g) (x : Nat) : Holds (putK kvs (.inl (x : Int)) (g x)) (S ++ [x]) g := by
  refine ⟨by have := putK_len (kvs := kvs) (k := .inl (x : Int)) (v := g x); have := h.1; simp; omega, fun d => ?_⟩
  rw [valV_put, h.2]
  by_cases e : d = x
  · subst e; simp
  · have : ¬ ((.inl (d : Int) : Key) = .inl (x : Int)) := fun z => e (by have := Sum.inl.inj z; omega)
    rw [if_neg this]
    simp [e]
theorem lc_r0 {m : Int} {n : Nat} {g : TG} {tt : TT} {te : TE} {vs : List Nat} {σ : L2.St} {H1 : Hp} {D : Addr} {Qd : Hp → Prop} (hm : m = n) (Pv : Nat → Hp → Prop) (h0 : Pv 0 (upd H1 D (.lst [])))
    (hs : ∀ i H, i < n → Pv i H → g (.int (i : Nat)) (wipe σ vs) H fun σ2 H2 => wipe σ2 vs = wipe σ vs ∧ tt σ2 H2 fun b H3 =>
      if b = true then te σ2 H3 fun y H4 => ∃ acc, H4 D = some (.lst acc) ∧ acc.length < sizeLine ∧ Pv (i + 1) (upd H4 D (.lst (acc ++ [y]))) else Pv (i + 1) H3) (hd : ∀ H, Pv n H → Qd H) :
    ∃ W : Nat → Nat → Hp → Prop, (∃ m, W 0 m (upd H1 D (.lst []))) ∧ ∀ i k H, W i k H →
      ((Itr 0 m.toNat).stop i H ∧ Qd H) ∨ ((Itr 0 m.toNat).go i H ∧ ∃ Nx : Hp → Prop, (∀ H', Nx H' → ∃ m', m' < k ∧ W (i + 1) m' H') ∧ ∀ x H', (Itr 0 m.toNat).yld i H x H' → g x (wipe σ vs) H' fun σ2 H2 => wipe σ2 vs = wipe σ vs ∧ tt σ2 H2 fun b H3 =>
        if b = true then te σ2 H3 fun y H4 => ∃ acc, H4 D = some (.lst acc) ∧ acc.length < sizeLine ∧ Nx (upd H4 D (.lst (acc ++ [y]))) else Nx H3) := by
  subst hm
  rw [Int.toNat_natCast]
  exact lc_range (lo := 0) Pv h0 (fun i H hi hp => by rw [Int.zero_add]; exact hs i H hi hp) hd
theorem w_acc {H : Hp} {D : Addr} {acc : List V} {R : List V → Prop} (h1 : H D = some (.lst acc)) (h2 : acc.length < sizeLine) (h : R acc) : ∃ acc', H D = some (.lst acc') ∧ acc'.length < sizeLine ∧ R acc' := ⟨acc, h1, h2, h⟩
/-! ### enumerate -/
theorem for_enumX {K : PySem.W.Frag} {a : Addr} {xs : List V} {g : TG} {tb : TS} {D : Ends} {σ : L2.St} {H : Hp} (Pv : Nat → L2.St → Hp → Prop) (h0 : Pv 0 σ H) (hl : ∀ i σ H, i ≤ xs.length → Pv i σ H → SqL K H a xs)
    (hs : ∀ i x σ H p, xs[i]? = some x → Pv i σ H → New H p → g (.ref p) σ (upd H p (.tup [.int (i : Nat), x])) fun σ2 H2 => tb { D with nx := Pv (i + 1), ct := Pv (i + 1), bk := D.nx } σ2 H2) (hd : ∀ σ H, Pv xs.length σ H → D.nx σ H) :
    ∃ W : Nat → Nat → L2.St → Hp → Prop, (∃ m, W 0 m σ H) ∧ ∀ i m σ H, W i m σ H →
      ((Ite K a).stop i H ∧ D.nx σ H) ∨ ((Ite K a).go i H ∧ ∃ N : L2.St → Hp → Prop, (∀ σ' H', N σ' H' → ∃ m', m' < m ∧ W (i + 1) m' σ' H') ∧ ∀ x H', (Ite K a).yld i H x H' → g x σ H' fun σ2 H2 => tb { D with nx := N, ct := N, bk := D.nx } σ2 H2) := by
  refine ⟨fun i m σ H => i + m = xs.length ∧ Pv i σ H, ⟨xs.length, by omega, h0⟩, fun i m σ H hW => ?_⟩
  obtain ⟨e, p⟩ := hW
  have q := hl i σ H (by omega) p
  cases m with
  | zero =>
    have e2 : i = xs.length := by omega
    subst e2
    exact .inl ⟨⟨xs, q, Nat.le_refl _⟩, hd σ H p⟩
  | succ m =>
    have hi : i < xs.length := by omega
    refine .inr ⟨⟨xs, xs[i], q, List.getElem?_eq_getElem hi⟩, Pv (i + 1), fun σ' H' h => ⟨m, by omega, by omega, h⟩, fun x H' hy => ?_⟩
    obtain ⟨T, y, rfl, nT, rfl, hx⟩ := hy
    exact hs i y σ H T (hx xs q) p nT
theorem w_enum {σ : L2.St} {H : Hp} {K : PySem.W.Frag} {ta : TA} {R : It → Hp → Prop} (h : ta σ H fun vs H1 => ∃ a xs, vs = [.ref a] ∧ SqL K H1 a xs ∧ R (Ite K a) H1) : iEnum K ta σ H R := h
theorem w_enq {H : Hp} {K : PySem.W.Frag} {p : Addr} {xs : List V} {R : Addr → Prop} (hs : SqL K H p xs) (h : R p) : ∃ a xs, [V.ref p] = [.ref a] ∧ SqL K H a xs ∧ R a := ⟨p, xs, rfl, hs, h⟩

/-! ### rules that name the written part -/
section
variable {X : Cx}
theorem ix_listK (K : PySem.W.Frag) (hK : X.K = K := by rfl) : IxR X (rIxL K) := by subst hK; exact ix_list
theorem ix_tupK (K : PySem.W.Frag) (hK : X.K = K := by rfl) : IxR X (rIxT K) := by subst hK; exact ix_tup
theorem ix_seqK (K : PySem.W.Frag) (hK : X.K = K := by rfl) : IxR X (rIx K) := by subst hK; exact ix_seq
theorem sl_listK (K : PySem.W.Frag) (hK : X.K = K := by rfl) : SlR X (rSlL K) := by subst hK; exact sl_list
def rLenK (K : PySem.W.Frag) : List V → Hp → VK → Prop := fun xs H Q => ∃ p ys, xs = [.ref p] ∧ (SqL K H p ys ∨ SqT K H p ys) ∧ Q (.int ys.length) H
theorem call_lenK (K : PySem.W.Frag) (hK : X.K = K := by rfl) : CallR X (.builtin "len") (rLenK K) := by subst hK; exact call_len_seq
def rListK (K : PySem.W.Frag) : List V → Hp → VK → Prop := fun xs H Q => ∃ p ys, xs = [.ref p] ∧ (SqL K H p ys ∨ SqT K H p ys) ∧ ∀ l, H l = none → Q (.ref l) (upd H l (.lst ys))
theorem call_listK (K : PySem.W.Frag) (hK : X.K = K := by rfl) : CallR X (.type "list") (rListK K) := by subst hK; exact call_list_of
theorem call_isiK' (K : PySem.W.Frag) (hK : X.K = K := by rfl) : CallR X (.builtin "isinstance") (rIsi K) := by subst hK; exact call_isi
theorem cr_sumK (K : PySem.W.Frag) (hc : X.calm = true) (hK : X.K = K := by rfl) : CallR X (.builtin "sum") (rSum K) := by subst hK; exact cr_sum hc
theorem cr_maxK (K : PySem.W.Frag) (hc : X.calm = true) (hK : X.K = K := by rfl) : CallR X (.builtin "max") (rMax K) := by subst hK; exact cr_max hc
theorem cr_minK (K : PySem.W.Frag) (hc : X.calm = true) (hK : X.K = K := by rfl) : CallR X (.builtin "min") (rMin K) := by subst hK; exact cr_min hc
theorem cr_allK (K : PySem.W.Frag) (hc : X.calm = true) (hK : X.K = K := by rfl) : CallR X (.builtin "all") (rAll K) := by subst hK; exact cr_all hc
theorem cr_anyK (K : PySem.W.Frag) (hc : X.calm = true) (hK : X.K = K := by rfl) : CallR X (.builtin "any") (rAny K) := by subst hK; exact cr_any hc
theorem cr_sortedIK (K : PySem.W.Frag) (hK : X.K = K := by rfl) : CallR X (.builtin "sorted") (rSortedI K) := by subst hK; exact cr_sortedI
theorem op_eqDK (K : PySem.W.Frag) (hu : X.A.units + 64 < cLine) (hK : X.K = K := by rfl) : OpR X (compareOp .Eq) (rEqD K) := by subst hK; exact op_eqD hu
theorem op_neDK (K : PySem.W.Frag) (hu : X.A.units + 64 < cLine) (hK : X.K = K := by rfl) : OpR X (compareOp .NotEq) (rNeD K) := by subst hK; exact op_neD hu
theorem op_inK (K : PySem.W.Frag) (hK : X.K = K := by rfl) : OpR X (compareOp .In) (rIn K false) := by subst hK; exact op_in_seq
theorem op_notInK (K : PySem.W.Frag) (hK : X.K = K := by rfl) : OpR X (compareOp .NotIn) (rIn K true) := by subst hK; exact op_notIn_seq
theorem mt_indexK (K : PySem.W.Frag) (hK : X.K = K := by rfl) : MtR X "list.index" (rIndex K) := by subst hK; exact mt_index
theorem w_lenK {K : PySem.W.Frag} {H : Hp} {Q : VK} {p : Addr} {xs : List V} (hs : SqL K H p xs) (h : Q (.int xs.length) H) : rLenK K [.ref p] H Q := ⟨p, xs, rfl, .inl hs, h⟩
theorem w_lenTK {K : PySem.W.Frag} {H : Hp} {Q : VK} {p : Addr} {xs : List V} (hs : SqT K H p xs) (h : Q (.int xs.length) H) : rLenK K [.ref p] H Q := ⟨p, xs, rfl, .inr hs, h⟩
theorem w_listK {K : PySem.W.Frag} {H : Hp} {Q : VK} {p : Addr} {xs : List V} (hs : SqL K H p xs) (h : ∀ l, New H l → Q (.ref l) (upd H l (.lst xs))) : rListK K [.ref p] H Q := ⟨p, xs, rfl, .inl hs, h⟩
end
section
variable {X : Cx} {e o : Expr} {f name : Str} {pos apos cpos : Pos} {ta to : TE} {t : TA} {es : List Expr}
theorem pe_fldK (K : PySem.W.Frag) (he : PE X e ta) (hb : attributeBase e f X.env (eval e X.env) = eval e X.env) (hK : X.K = K := by rfl) : PE X (.Attribute e f pos) (tFld K ta f) := by subst hK; exact pe_fld he hb
theorem pe_bmK (K : PySem.W.Frag) {T : String} {r : V → List V → Hp → VK → Prop} (h : PE X (.Call (.Attribute o name apos) es [] cpos) (tBM X.K T r to t)) (hK : X.K = K := by rfl) : PE X (.Call (.Attribute o name apos) es [] cpos) (tBM K T r to t) := by subst hK; exact h
theorem pe_bm0K (K : PySem.W.Frag) {T : String} {r : V → List V → Hp → VK → Prop} (h : PE X (.Call (.Attribute o name apos) es [] cpos) (tBM0 X.K T r to)) (hK : X.K = K := by rfl) : PE X (.Call (.Attribute o name apos) es [] cpos) (tBM0 K T r to) := by subst hK; exact h
theorem pi_listK (K : PySem.W.Frag) {tg l : Expr} {tl : TE} (hl : PE X l tl) (hK : X.K = K := by rfl) : PI X tg l (iList K tl) := by subst hK; exact pi_list hl
theorem pi_tupK (K : PySem.W.Frag) {tg l : Expr} {tl : TE} (hl : PE X l tl) (hK : X.K = K := by rfl) : PI X tg l (iTup K tl) := by subst hK; exact pi_tup hl
theorem pg_tupK (K : PySem.W.Frag) {es : List Expr} {k n : Nat} {t : TGs} (hc : X.calm = true) (h : PGs X es t) (hn : (assignEach es X.env).length = n := by rfl) (hst : (assignEach es X.env).findIdx? (·.1) = none := by rfl) (hK : X.K = K := by rfl) : PG X (.Tuple es k pos) (gTup K n t) := by subst hK; exact pg_tup hc h hn hst
end
/-! ### list.insert -/
theorem w_ins {H : Hp} {p : Addr} {xs : List V} {m : Int} {v : V} {R : Addr → List V → Int → V → Prop} (hp : H p = some (.lst xs)) (hl : xs.length < sizeLine) (h0 : 0 ≤ m) (h1 : m < 2 ^ 63) (h : R p xs m v) :
    ∃ (l : Addr) (ys : List V) (i : Int) (y : V), V.ref p = .ref l ∧ [V.int m, v] = [.int i, y] ∧ H l = some (.lst ys) ∧ ys.length < sizeLine ∧ 0 ≤ i ∧ i < 2 ^ 63 ∧ R l ys i y := ⟨p, xs, m, v, rfl, rfl, hp, hl, h0, h1, h⟩

/-! ### steps of the reading -/
local macro_rules | `(tactic| walk_at "len") => `(tactic| (intro vs H Q E h; first | (obtain ⟨e, _⟩ := h; subst e; rfl) | (obtain ⟨_, e, _⟩ := h; subst e; rfl) | (obtain ⟨_, _, e, _⟩ := h; subst e; rfl) | (obtain ⟨_, _, _, e, _⟩ := h; subst e; rfl) | (obtain ⟨_, _, _, _, e, _⟩ := h; subst e; rfl) | (obtain ⟨_, _, _, _, _, e, _⟩ := h; subst e; rfl) | (obtain ⟨_, _, _, _, _, _, e, _⟩ := h; subst e; rfl) | (obtain ⟨_, _, _, _, _, _, _, e, _⟩ := h; subst e; rfl) | (obtain ⟨_, _, _, _, _, _, _, _, e, _⟩ := h; subst e; rfl) | (obtain ⟨_, _, _, _, _, _, _, _, _, e, _⟩ := h; subst e; rfl) | (obtain ⟨_, _, _, _, _, _, _, _, _, _, e, _⟩ := h; subst e; rfl) | (obtain ⟨_, _, _, _, _, _, _, _, _, _, _, e, _⟩ := h; subst e; rfl)))
/-- p ≠ q -/
local macro_rules | `(tactic| walk_at "ne1") => `(tactic| (refine ne_new (H := ?H) (o := ?o) ?a ?b; (case b => assumption); (case a => walk_at "hp")))
local macro_rules | `(tactic| walk_at "ne") => `(tactic| first
  | assumption | (apply Ne.symm; assumption) | walk_at "ne1" | (apply Ne.symm; walk_at "ne1") | fail)
/-- H p = some o -/
local macro_rules | `(tactic| walk_at "hp") => `(tactic| first
  | assumption
  | exact upd_same
  | (refine (upd_ne ?n).trans ?h; (case n => walk_at "ne"); (case h => walk_at "hp"))
  | (refine Same.get (H := ?H) ?s ?h; (case s => assumption); (case h => assumption)) | fail)
local macro_rules | `(tactic| walk_at "sq") => `(tactic| first
  | assumption
  | exact SqL.of (by walk_at "hp") | exact SqT.of (by walk_at "hp")
  | (refine Same.seq (H := ?H) ?s ?h; (case h => assumption); (case s => walk_at "same"))
  | (refine same_read (H := ?H) ?s ?h; (case h => assumption); (case s => walk_at "same")) | fail)
/-- a later new object was free ahead -/
local macro_rules | `(tactic| walk_at "fr") => `(tactic| first | assumption | (refine New.of (H' := ?H) ?n ?s; (case n => assumption); (case s => walk_at "same")) | fail)
/-- what was tracked stays -/
local macro_rules | `(tactic| walk_at "same") => `(tactic| first | assumption | exact Same.refl _ | (refine Same.new ?_ (by assumption); walk_at "same") | (refine Same.mut ?s ?n; (case n => walk_at "fr"); (case s => walk_at "same")) | (refine Same.trans (H1 := ?H1) ?a ?b; (case b => assumption); (case a => walk_at "same")) | fail)
local macro_rules | `(tactic| walk_at "side") => `(tactic| first | decide | omega | (with_reducible assumption) | fail)
local macro_rules | `(tactic| walk_at "at") => `(tactic| first | rfl | assumption | exact atI_nat (by assumption) | fail)
local macro_rules | `(tactic| walk_at "ll") => `(tactic| first | omega | (simp only [List.length_append, List.length_cons, List.length_nil, List.length_map, List.length_range, List.length_set, List.length_replicate]; omega) | (simp only [List.length_append, List.length_cons, List.length_nil, List.length_map, List.length_range, List.length_set, List.length_replicate] at *; omega) | (simp; done) | (simp; omega) | fail)
local macro_rules | `(tactic| walk_at "ix") => `(tactic| first | assumption | (refine ixN_nat ?_; walk_at "ll") | rfl | fail)
local macro_rules | `(tactic| walk_at "szlt") => `(tactic| first | assumption | (refine szlt ?_; walk_at "ll") | fail)
local macro_rules | `(tactic| walk_at "szk") => `(tactic| first | assumption | (refine szlt ?_; omega) | fail)
/-- one step -/
local macro_rules | `(tactic| walk_at "st") => `(tactic| first
  | with_reducible refine w_iT ?_
  | with_reducible refine w_iF ?_
  | with_reducible refine w_iNT ?_
  | with_reducible refine w_iNF ?_
  | with_reducible refine w_iNN ?_
  | with_reducible refine w_seq ?_
  | with_reducible refine w_asg ?_
  | with_reducible refine w_gn ?_
  | with_reducible refine w_c ?_
  | with_reducible refine w_op ?_
  | with_reducible refine w_ret ?_
  | with_reducible refine w_if ?_
  | with_reducible refine w_test ?_
  | with_reducible refine w_rI0 ?_
  | with_reducible refine w_cons ?_
  | with_reducible refine w_nil ?_
  | with_reducible refine w_call ?_
  | with_reducible refine w_cb ?_
  | with_reducible refine w_drop ?_
  | with_reducible refine w_next ?_
  | with_reducible refine w_eqI ?_
  | with_reducible refine w_neI ?_
  | ((with_reducible refine w_var ?_); refine ⟨_, rfl, ?_⟩)
  | ((with_reducible refine w_aug ?_); refine ⟨_, rfl, ?_⟩)
  | with_reducible refine w_eqB ?_
  | with_reducible refine w_neB ?_
  | with_reducible refine w_tB ?_
  | with_reducible refine w_bl ?_
  | with_reducible refine w_and ?_
  | with_reducible refine w_or ?_
  | with_reducible refine w_not ?_
  | with_reducible refine w_andV ?_
  | with_reducible refine w_orV ?_
  | with_reducible refine w_notV ?_
  | with_reducible refine w_ifE ?_
  | with_reducible refine w_un ?_
  | with_reducible refine w_rU ?_
  | with_reducible refine w_ip ?_
  | with_reducible refine w_gc ?_
  | with_reducible refine w_g0 ?_
  | with_reducible refine w_gs ?_
  | with_reducible refine w_tup ?_
  | with_reducible refine w_lst ?_
  | with_reducible refine w_sl ?_
  | with_reducible refine w_np ?_
  | with_reducible refine w_part ?_
  | with_reducible refine w_partI ?_
  | with_reducible refine w_bm ?_
  | with_reducible refine w_bm0 ?_
  | with_reducible refine w_for ?_
  | with_reducible refine w_lc ?_
  | with_reducible refine w_yes ?_
  | with_reducible refine w_make ?_
  | with_reducible refine w_meth ?_
  | with_reducible refine w_sf ?_
  | with_reducible refine w_r3 ?_
  | with_reducible refine w_din ?_
  | with_reducible refine w_dni ?_
  | with_reducible refine w_dg ?_
  | with_reducible refine w_put ?_
  | with_reducible refine w_dn ?_
  | with_reducible refine w_enum ?_
  | with_reducible refine w_iL ?_
  | with_reducible refine w_iTu ?_
  | with_reducible refine w_r1 ?_
  | with_reducible refine w_r2 ?_
  | with_reducible refine w_int1 ?_
  | with_reducible refine w_intb ?_
  | with_reducible refine w_fl ?_
  | with_reducible refine w_retN ?_
  | with_reducible refine w_break ?_
  | with_reducible refine w_cont ?_
  | with_reducible refine w_par ?_
  | with_reducible refine w_par2 ?_
  | with_reducible refine w_eqS ?_
  | with_reducible refine w_neS ?_
  | with_reducible refine w_eqNI ?_
  | with_reducible refine w_eqIN ?_
  | with_reducible refine w_callS ?_
  | with_reducible refine w_ost ?_
  | with_reducible refine w_xf ?_
  | with_reducible refine w_mko ?_
  | ((with_reducible refine w_mod ?s0 ?_); (case s0 => walk_at "side"))
  | ((with_reducible refine w_div ?s0 ?s1 ?_); (case s0 => walk_at "side"); (case s1 => walk_at "side"))
  | ((with_reducible refine w_shr ?s0 ?_); (case s0 => walk_at "side"))
  | ((with_reducible refine w_shl1 ?s0 ?s1 ?_); (case s0 => walk_at "side"); (case s1 => walk_at "side"))
  | ((with_reducible refine w_mul ?s0 ?s1 ?s2 ?s3 ?_); (case s0 => walk_at "side"); (case s1 => walk_at "side"); (case s2 => walk_at "side"); (case s3 => walk_at "side"))
  | ((with_reducible refine w_shl ?s0 ?s1 ?s2 ?s3 ?_); (case s0 => walk_at "side"); (case s1 => walk_at "side"); (case s2 => walk_at "side"); (case s3 => walk_at "side"))
  | ((with_reducible refine w_r1q ?s0 ?s1 ?_); (case s0 => walk_at "side"); (case s1 => walk_at "side"))
  | ((with_reducible refine w_r2q ?s0 ?s1 ?s2 ?s3 ?_); (case s0 => walk_at "side"); (case s1 => walk_at "side"); (case s2 => walk_at "side"); (case s3 => walk_at "side"))
  | ((with_reducible refine w_ixL (xs := ?xs) (v := ?v) ?s0 ?s1 ?_); (case s0 => walk_at "sq"); (case s1 => walk_at "at"))
  | ((with_reducible refine w_ixT (xs := ?xs) (v := ?v) ?s0 ?s1 ?_); (case s0 => walk_at "sq"); (case s1 => walk_at "at"))
  | ((with_reducible refine w_ixl (xs := ?xs) (v := ?v) ?s0 ?s1 ?_); (case s0 => walk_at "sq"); (case s1 => walk_at "at"))
  | ((with_reducible refine w_ixt (xs := ?xs) (v := ?v) ?s0 ?s1 ?_); (case s0 => walk_at "sq"); (case s1 => walk_at "at"))
  | ((with_reducible refine w_lenK (xs := ?xs) ?s0 ?_); (case s0 => walk_at "sq"))
  | ((with_reducible refine w_lenTK (xs := ?xs) ?s0 ?_); (case s0 => walk_at "sq"))
  | ((with_reducible refine w_listK (xs := ?xs) ?s0 ?_); (case s0 => walk_at "sq"))
  | ((with_reducible refine w_len (xs := ?xs) ?s0 ?_); (case s0 => walk_at "sq"))
  | ((with_reducible refine w_lenT (xs := ?xs) ?s0 ?_); (case s0 => walk_at "sq"))
  | ((with_reducible refine w_iLq (xs := ?xs) ?s0 ?_); (case s0 => walk_at "sq"))
  | ((with_reducible refine w_iTq (xs := ?xs) ?s0 ?_); (case s0 => walk_at "sq"))
  | ((with_reducible refine w_tyl (xs := ?xs) ?s0 ?_); (case s0 => walk_at "sq"))
  | ((with_reducible refine w_slL (xs := ?xs) ?s0 ?_); (case s0 => walk_at "sq"))
  | ((with_reducible refine w_gt (xs := ?xs) ?s0 ?s1 ?_); (case s0 => walk_at "sq"); (case s1 => rfl))
  | ((with_reducible refine w_setL (xs := ?xs) (j := ?j) ?s0 ?s1 ?_); (case s0 => walk_at "hp"); (case s1 => walk_at "ix"))
  | ((with_reducible refine w_app (xs := ?xs) ?s0 ?s1 ?_); (case s0 => walk_at "hp"); (case s1 => walk_at "szlt"))
  | ((with_reducible refine w_rev (xs := ?xs) ?s0 ?_); (case s0 => walk_at "hp"))
  | with_reducible refine w_isi kb_ii ?_
  | with_reducible refine w_isi kb_ib ?_
  | with_reducible refine w_isb kb_bb ?_
  | with_reducible refine w_isb kb_bi ?_
  | with_reducible refine w_isn kb_ni ?_
  | with_reducible refine w_isn kb_nb ?_
  | ((with_reducible refine w_isl (xs := ?xs) ?s0 kb_ll ?_); (case s0 => walk_at "hp"))
  | ((with_reducible refine w_isl (xs := ?xs) ?s0 kb_lt ?_); (case s0 => walk_at "hp"))
  | ((with_reducible refine w_ist (xs := ?xs) ?s0 kb_tt ?_); (case s0 => walk_at "hp"))
  | ((with_reducible refine w_ist (xs := ?xs) ?s0 kb_tl ?_); (case s0 => walk_at "hp"))
  | with_reducible refine w_len1 rfl ?_
  | with_reducible refine w_isN ?_
  | with_reducible refine w_2i ?_
  | with_reducible refine w_1i ?_
  | with_reducible refine w_augS ?_
  | ((with_reducible refine w_getL (xs := ?xs) (v := ?v) ?s0 ?s1 ?_); (case s0 => walk_at "sq"); (case s1 => assumption))
  | ((with_reducible refine w_wipe ?s0 ?_); (case s0 => rfl))
  | ((with_reducible refine w_inI (kvs := ?kvs) ?s0 ?_); (case s0 => walk_at "hp"))
  | ((with_reducible refine w_putI (kvs := ?kvs) ?s0 ?s1 ?_); (case s0 => walk_at "hp"); (case s1 => walk_at "szk"))
  | ((with_reducible refine w_ins (xs := ?xs) ?s0 ?s1 ?s2 ?s3 ?_); (case s0 => walk_at "hp"); (case s1 => walk_at "szlt"); (case s2 => walk_at "side"); (case s3 => walk_at "side"))
  | ((with_reducible refine w_pow ?s0 ?_); (case s0 => exact ⟨by decide, by decide, by decide⟩))
  | ((with_reducible refine ifd (fun h => ?c) (fun _ => ?_)); (case c => exfalso; omega))
  | ((with_reducible refine ifd (fun _ => ?_) (fun h => ?c)); (case c => exfalso; omega))
  | ((with_reducible refine ifnd (fun h => ?c) (fun _ => ?_)); (case c => exfalso; omega))
  | ((with_reducible refine ifnd (fun _ => ?_) (fun h => ?c)); (case c => exfalso; omega))
  | fail)
local macro_rules | `(tactic| walk_at "sts") => `(tactic| repeat (walk_at "st"))

def topS (i : Nat) : Stmt := PySem.Challenge.pw_spinfloor_k08_whole_rounds_and_sides.main.body.getD i (.Pass ⟨0, 0, 0, 0⟩)
abbrev s_head : Stmt := topS 2
theorem sc_head : FnScope ["ties", "dart"] ["ties", "dart"] (defScope s_head) := ⟨rfl, rfl, rfl, by decide +kernel, rfl, by decide +kernel, by decide +kernel⟩
abbrev s_follower : Stmt := topS 3
theorem sc_follower : FnScope ["ties", "turns", "dart", "place", "row", "number"] ["ties", "turns", "dart"] (defScope s_follower) := ⟨rfl, rfl, rfl, by decide +kernel, rfl, by decide +kernel, by decide +kernel⟩
abbrev s_round_from : Stmt := topS 4
theorem sc_round_from : FnScope ["ties", "turns", "first", "row", "dart"] ["ties", "turns", "first"] (defScope s_round_from) := ⟨rfl, rfl, rfl, by decide +kernel, rfl, by decide +kernel, by decide +kernel⟩
abbrev s_rounds_of : Stmt := topS 5
theorem sc_rounds_of : FnScope ["ties", "turns", "rounds", "seen", "dart", "row", "each"] ["ties", "turns"] (defScope s_rounds_of) := ⟨rfl, rfl, rfl, by decide +kernel, rfl, by decide +kernel, by decide +kernel⟩
abbrev s_sides_of : Stmt := topS 6
theorem sc_sides_of : FnScope ["ties", "rounds", "where", "number", "row", "dart", "i"] ["ties", "rounds"] (defScope s_sides_of) := ⟨rfl, rfl, rfl, by decide +kernel, rfl, by decide +kernel, by decide +kernel⟩
abbrev s_Tie___init__ : Stmt := inClass (topS 11) 0
theorem sc_Tie___init__ : FnScope ["self", "one", "two", "strength"] ["self", "one", "two", "strength"] (defScope s_Tie___init__) := ⟨rfl, rfl, rfl, by decide +kernel, rfl, by decide +kernel, by decide +kernel⟩
abbrev s_law_cell : Stmt := topS 15
theorem sc_law_cell : FnScope ["script", "k"] ["script", "k"] (defScope s_law_cell) := ⟨rfl, rfl, rfl, by decide +kernel, rfl, by decide +kernel, by decide +kernel⟩
abbrev s_law_built : Stmt := topS 16
theorem sc_law_built : FnScope ["script", "many", "ends", "turns", "cell", "mixed", "one", "two", "row", "k"] ["script"] (defScope s_law_built) := ⟨rfl, rfl, rfl, by decide +kernel, rfl, by decide +kernel, by decide +kernel⟩
abbrev s_law_ties : Stmt := topS 17
theorem sc_law_ties : FnScope ["ends", "ties", "i"] ["ends"] (defScope s_law_ties) := ⟨rfl, rfl, rfl, by decide +kernel, rfl, by decide +kernel, by decide +kernel⟩
abbrev s_law_behind : Stmt := topS 18
theorem sc_law_behind : FnScope ["ends", "turns", "dart", "place", "row", "k", "tie"] ["ends", "turns", "dart"] (defScope s_law_behind) := ⟨rfl, rfl, rfl, by decide +kernel, rfl, by decide +kernel, by decide +kernel⟩
abbrev s_law_number : Stmt := topS 19
theorem sc_law_number : FnScope ["found"] ["found"] (defScope s_law_number) := ⟨rfl, rfl, rfl, by decide +kernel, rfl, by decide +kernel, by decide +kernel⟩
abbrev s_law_where : Stmt := topS 20
theorem sc_law_where : FnScope ["ends", "turns", "rings", "where", "greatest", "number", "ring", "dart", "k"] ["ends", "turns", "rings"] (defScope s_law_where) := ⟨rfl, rfl, rfl, by decide +kernel, rfl, by decide +kernel, by decide +kernel⟩
abbrev s_law : Stmt := topS 21
theorem sc_law : FnScope ["script", "built", "ends", "turns", "ties", "handed", "rings", "where", "kept", "sides", "i", "side", "row", "ring", "tie"] ["script"] (defScope s_law) := ⟨rfl, rfl, rfl, by decide +kernel, rfl, by decide +kernel, by decide +kernel⟩
structure Bl (mg : Str → Option Value) : Prop where
  len : mg "len" = none
  range : mg "range" = none
  enumerate : mg "enumerate" = none
  isinstance : mg "isinstance" = none
  int : mg "int" = none
  bool : mg "bool" = none
  list : mg "list" = none
  tuple : mg "tuple" = none
structure Txt (K : PySem.W.Frag) (mg : Str → Option Value) (C_Pull C_Push : Addr) : Prop where
  g_Pull : mg "Pull" = some (.ref C_Pull)
  g_Push : mg "Push" = some (.ref C_Push)
  cl_Pull : Cls K C_Pull
  mk_Pull : PySem.W.makesIn K C_Pull = true
  kp_Pull : PySem.W.keepIn K (.ref C_Pull) = true
  n_Pull_one : NoAttr K C_Pull "one"
  n_Pull_two : NoAttr K C_Pull "two"
  n_Pull_strength : NoAttr K C_Pull "strength"
  cl_Push : Cls K C_Push
  mk_Push : PySem.W.makesIn K C_Push = true
  kp_Push : PySem.W.keepIn K (.ref C_Push) = true
  n_Push_one : NoAttr K C_Push "one"
  n_Push_two : NoAttr K C_Push "two"
  n_Push_strength : NoAttr K C_Push "strength"
/-! ### ties -/
structure Ti where
  push : Bool
  one : Nat
  two : Nat
  s : Nat
def tf (a b s : Int) : List (Str × V) := [("one", .int a), ("two", .int b), ("strength", .int s)]
theorem tf_one (a b s : Int) : (tf a b s).lookup ("one" : Str) = some (.int a) := by rfl
theorem tf_two (a b s : Int) : (tf a b s).lookup ("two" : Str) = some (.int b) := by rfl
theorem tf_str (a b s : Int) : (tf a b s).lookup ("strength" : Str) = some (.int s) := by rfl
theorem tf_eq (a b s : Int) : putF "strength" (.int s) (putF "two" (.int b) (putF "one" (.int a) [])) = tf a b s := by rfl
def clsOf (CP CQ : Addr) (push : Bool) : Addr := if push = true then CQ else CP
def TieAt (CP CQ : Addr) (H : Hp) (p : Addr) (t : Ti) : Prop := ∃ dx, H p = some (.ins (clsOf CP CQ t.push) dx (tf t.one t.two t.s))
theorem TieAt.same {CP CQ : Addr} {H H' : Hp} {p : Addr} {t : Ti} (h : TieAt CP CQ H p t) (e : Same H H') : TieAt CP CQ H' p t := by
  obtain ⟨dx, h⟩ := h
  exact ⟨dx, e _ _ h⟩
/-- a list of ties: where each stands -/
def TiesIn (CP CQ : Addr) (H : Hp) (ps : List Addr) (ts : List Ti) : Prop := ps.length = ts.length ∧ ∀ (i : Nat) (p : Addr) (t : Ti), ps[i]? = some p → ts[i]? = some t → TieAt CP CQ H p t
def TiesAt (K : PySem.W.Frag) (CP CQ : Addr) (H : Hp) (a : Addr) (ts : List Ti) : Prop := ∃ ps : List Addr, SqL K H a (ps.map V.ref) ∧ TiesIn CP CQ H ps ts
theorem TiesIn.same {CP CQ : Addr} {H H' : Hp} {ps : List Addr} {ts : List Ti} (h : TiesIn CP CQ H ps ts) (e : Same H H') : TiesIn CP CQ H' ps ts := ⟨h.1, fun i p t a b => (h.2 i p t a b).same e⟩
theorem TiesAt.same {K : PySem.W.Frag} {CP CQ : Addr} {H H' : Hp} {a : Addr} {ts : List Ti} (h : TiesAt K CP CQ H a ts) (e : Same H H') : TiesAt K CP CQ H' a ts := by
  obtain ⟨ps, h1, h2⟩ := h
  exact ⟨ps, e.seq h1, h2.same e⟩
theorem TiesIn.nil {CP CQ : Addr} {H : Hp} : TiesIn CP CQ H [] [] := ⟨rfl, fun i p t a _ => by simp at a⟩
theorem TieAt.ins {CP CQ : Addr} {H : Hp} {p D : Addr} {t : Ti} {xs ys : List V} (h : TieAt CP CQ H p t) (hD : H D = some (.lst xs)) : TieAt CP CQ (upd H D (.lst ys)) p t := by
  obtain ⟨dx, h⟩ := h
  exact ⟨dx, by rw [upd_ne (ne_of h hD (by intro z; cases z))]; exact h⟩
theorem TiesIn.lst {CP CQ : Addr} {H : Hp} {D : Addr} {ps : List Addr} {ts : List Ti} {xs ys : List V} (h : TiesIn CP CQ H ps ts) (hD : H D = some (.lst xs)) : TiesIn CP CQ (upd H D (.lst ys)) ps ts :=
  ⟨h.1, fun i p t a b => (h.2 i p t a b).ins hD⟩
theorem TiesIn.push {CP CQ : Addr} {H : Hp} {p : Addr} {t : Ti} {ps : List Addr} {ts : List Ti} (h : TiesIn CP CQ H ps ts) (hp : TieAt CP CQ H p t) : TiesIn CP CQ H (ps ++ [p]) (ts ++ [t]) := by
  refine ⟨by simp [h.1], fun i p' t' a b => ?_⟩
  have hl := h.1
  by_cases e : i < ps.length
  · rw [List.getElem?_append_left e] at a
    rw [List.getElem?_append_left (by omega)] at b
    exact h.2 i p' t' a b
  · have e2 : i = ps.length := by
      have := (List.getElem?_eq_some_iff.mp a).1
      simp at this
      omega
    subst e2
    rw [List.getElem?_append_right (Nat.le_refl _), Nat.sub_self] at a
    rw [List.getElem?_append_right (by omega), hl, Nat.sub_self] at b
    simp at a b
    subst a b
    exact hp
theorem TiesIn.get {CP CQ : Addr} {H : Hp} {ps : List Addr} {ts : List Ti} (h : TiesIn CP CQ H ps ts) {i : Nat} {t : Ti} (e : ts[i]? = some t) : ∃ p, (ps.map V.ref)[i]? = some (.ref p) ∧ TieAt CP CQ H p t := by
  have hi : i < ps.length := by have := (List.getElem?_eq_some_iff.mp e).1; rw [h.1]; exact this
  exact ⟨ps[i], by rw [List.getElem?_map, List.getElem?_eq_getElem hi]; rfl, h.2 i _ _ (List.getElem?_eq_getElem hi) e⟩
theorem made_same {H : Hp} {x dx C : Addr} {fs : List (Str × V)} (h1 : New H x) (h2 : New H dx) (h3 : dx ≠ x) : Same H (upd (upd H dx (.own x)) x (.ins C dx fs)) :=
  ((Same.refl H).new h2).new (show upd H dx (.own x) x = none by rw [upd_ne (Ne.symm h3)]; exact h1)
section
variable {P : Program} {w : World} {K : PySem.W.Frag} {mg : Str → Option Value} {base : Heap} {C_Pull C_Push : Addr}
structure TieCls (K : PySem.W.Frag) (CP CQ : Addr) : Prop where
  cp : Cls K CP
  cq : Cls K CQ
  p1 : NoAttr K CP "one"
  p2 : NoAttr K CP "two"
  p3 : NoAttr K CP "strength"
  q1 : NoAttr K CQ "one"
  q2 : NoAttr K CQ "two"
  q3 : NoAttr K CQ "strength"
theorem TieCls.cl (T : TieCls K C_Pull C_Push) (push : Bool) : Cls K (clsOf C_Pull C_Push push) := by cases push; exact T.cp; exact T.cq
theorem TieCls.n1 (T : TieCls K C_Pull C_Push) (push : Bool) : NoAttr K (clsOf C_Pull C_Push push) "one" := by cases push; exact T.p1; exact T.q1
theorem TieCls.n2 (T : TieCls K C_Pull C_Push) (push : Bool) : NoAttr K (clsOf C_Pull C_Push push) "two" := by cases push; exact T.p2; exact T.q2
theorem TieCls.n3 (T : TieCls K C_Pull C_Push) (push : Bool) : NoAttr K (clsOf C_Pull C_Push push) "strength" := by cases push; exact T.p3; exact T.q3
theorem Txt.tie {C_Pull C_Push : Addr} (T : Txt K mg C_Pull C_Push) : TieCls K C_Pull C_Push := ⟨T.cl_Pull, T.cl_Push, T.n_Pull_one, T.n_Pull_two, T.n_Pull_strength, T.n_Push_one, T.n_Push_two, T.n_Push_strength⟩
theorem w_t1 {H : Hp} {p : Addr} {t : Ti} {R : V → Prop} (T : TieCls K C_Pull C_Push) (hp : TieAt C_Pull C_Push H p t) (h : R (.int (t.one : Nat))) : ∃ a C' dx' fs' v', V.ref p = .ref a ∧ H a = some (.ins C' dx' fs') ∧ Cls K C' ∧ NoAttr K C' "one" ∧ fs'.lookup ("one" : Str) = some v' ∧ R v' := by
  obtain ⟨dx, e⟩ := hp
  exact ⟨p, _, dx, _, _, rfl, e, T.cl _, T.n1 _, tf_one _ _ _, h⟩
theorem w_t2 {H : Hp} {p : Addr} {t : Ti} {R : V → Prop} (T : TieCls K C_Pull C_Push) (hp : TieAt C_Pull C_Push H p t) (h : R (.int (t.two : Nat))) : ∃ a C' dx' fs' v', V.ref p = .ref a ∧ H a = some (.ins C' dx' fs') ∧ Cls K C' ∧ NoAttr K C' "two" ∧ fs'.lookup ("two" : Str) = some v' ∧ R v' := by
  obtain ⟨dx, e⟩ := hp
  exact ⟨p, _, dx, _, _, rfl, e, T.cl _, T.n2 _, tf_two _ _ _, h⟩
theorem w_t3 {H : Hp} {p : Addr} {t : Ti} {R : V → Prop} (T : TieCls K C_Pull C_Push) (hp : TieAt C_Pull C_Push H p t) (h : R (.int (t.s : Nat))) : ∃ a C' dx' fs' v', V.ref p = .ref a ∧ H a = some (.ins C' dx' fs') ∧ Cls K C' ∧ NoAttr K C' "strength" ∧ fs'.lookup ("strength" : Str) = some v' ∧ R v' := by
  obtain ⟨dx, e⟩ := hp
  exact ⟨p, _, dx, _, _, rfl, e, T.cl _, T.n3 _, tf_str _ _ _, h⟩
def spTInit (CP CQ : Addr) : Sp := fun vs H Q _ => ∃ (p dx : Addr) (t : Ti), vs = [.ref p, .int t.one, .int t.two, .int t.s] ∧ H p = some (.ins (clsOf CP CQ t.push) dx []) ∧ t.one ≠ t.two ∧ Q .non (upd H p (.ins (clsOf CP CQ t.push) dx (tf t.one t.two t.s)))
theorem ok_Tie___init__ {f : Addr} {fd : FuncData} (F : Fun K "__init__" "Tie.__init__" s_Tie___init__ f fd) (B : Bl mg) {C_Pull C_Push : Addr} (T : Txt K mg C_Pull C_Push) : HasFn P w K mg base CX0 1 f ["self", "one", "two", "strength"] (spTInit C_Pull C_Push) := by
  refine HasFn.mk' F (F.binds (ps := ["self", "one", "two", "strength"]) fun _ _ _ _ _ _ us hl => match us, hl with | [_, _, _, _], _ => rfl) sc_Tie___init__ (by walk_at "len") (fun cdv A outer s H vs Q E hr h => ?_)
  obtain ⟨p, dx, t, rfl, hp, hne, q⟩ := h
  refine ⟨_, (pss_cons (ps_if (PW.pt (pw_or (pt_cmpR op_eq (pv 1) (pv 2) (nomark _)) (pw_or (pt_cmpR op_lt (pv 1) pe_int (nomark _)) (pw_or (pt_cmpR op_lt (pv 2) pe_int (nomark _)) (pw_or1 (pt_cmpR op_lt (pv 3) pe_int (nomark _))))))) (pss_one ps_never) pss_nil)
 (pss_cons (ps_fld (pv 0) (pv 1) rfl)
 (pss_cons (ps_fld (pv 0) (pv 2) rfl)
 (pss_one (ps_fld (pv 0) (pv 3) rfl))))), ?_⟩
  walk_at "sts"
  refine w_sfq hp (T.tie.cl _) (T.tie.n1 _) (by show 0 < 1000; decide) ?_
  walk_at "sts"
  refine w_sfq upd_same (T.tie.cl _) (T.tie.n2 _) (by show 1 < 1000; decide) ?_
  walk_at "sts"
  refine w_sfq upd_same (T.tie.cl _) (T.tie.n3 _) (by show 2 < 1000; decide) ?_
  walk_at "sts"
  rw [tf_eq, upd_upd, upd_upd]
  exact q
end

/-! ### data of webs -/
def dRow (r : List Nat) : PyData := .list (r.map fun x : Nat => .int (x : Int))
def dRows (T : List (List Nat)) : PyData := .list (T.map dRow)
def iv (r : List Nat) : List V := r.map fun x : Nat => V.int (x : Int)
theorem iv_len (r : List Nat) : (iv r).length = r.length := by unfold iv; simp
theorem iv_at {r : List Nat} {i : Nat} (h : i < r.length) : (iv r)[i]? = some (.int ((r.getD i 0 : Nat) : Int)) := by
  unfold iv
  rw [List.getElem?_map, List.getD_eq_getElem?_getD, List.getElem?_eq_getElem h]
  rfl
theorem iv_app (r s : List Nat) : iv (r ++ s) = iv r ++ iv s := by unfold iv; simp
theorem take_snoc {l : List Nat} {i : Nat} (h : i < l.length) : l.take (i + 1) = l.take i ++ [l.getD i 0] := by
  rw [List.take_add_one, List.getElem?_eq_getElem h, List.getD_eq_getElem?_getD, List.getElem?_eq_getElem h]
  rfl
theorem iv_flat (r : List Nat) : (iv r).all flatV = true := by
  rw [List.all_eq_true]
  intro v hv
  obtain ⟨x, _, rfl⟩ := List.mem_map.mp hv
  rfl
theorem dpRowA {K : PySem.W.Frag} {H : Hp} {a : Addr} {r : List Nat} (h : Dp K H (.ref a) (dRow r)) : SqL K H a (iv r) := by
  obtain ⟨xs, h1, h2⟩ := dpLstA h
  have e := dpAll_ints (ns := r.map fun x : Nat => (x : Int)) (by rw [List.map_map]; exact h2)
  rw [List.map_map] at e
  have e2 : xs = iv r := e
  rw [← e2]
  exact h1
theorem dpRow {K : PySem.W.Frag} {H : Hp} {a : Addr} {r : List Nat} (h : SqL K H a (iv r)) : Dp K H (.ref a) (dRow r) := by
  have := dpInts (K := K) (H := H) (r.map fun x : Nat => (x : Int))
  rw [List.map_map, List.map_map] at this
  exact .lst h this
theorem goodRow (r : List Nat) : Good 1 (dRow r) := goodLst (goodMap fun _ => goodInt)
theorem goodRows (T : List (List Nat)) : Good 2 (dRows T) := goodLst (goodMap fun r => goodRow r)
theorem w_idx {K : PySem.W.Frag} {H : Hp} {Q : VK} {p : Addr} {r : List Nat} {x : Nat} (hs : SqL K H p (iv r)) (hx : x ∈ r) (h : Q (.int ((r.idxOf x : Nat) : Int)) H) : rIndex K (.ref p) [.int (x : Int)] H Q := by
  have hl : r.idxOf x < r.length := List.idxOf_lt_length_of_mem hx
  refine ⟨p, iv r, .int (x : Int), r.idxOf x, .int ((r.getD (r.idxOf x) 0 : Nat) : Int), rfl, rfl, hs, rfl, iv_flat r, iv_at hl, ?_, ?_, h⟩
  · have : r.getD (r.idxOf x) 0 = x := by
      rw [List.getD_eq_getElem?_getD, List.getElem?_eq_getElem hl]
      exact List.getElem_idxOf hl
    rw [this]
    simp [eqV]
  · intro m z' hm hz
    have hml : m < r.length := by omega
    rw [iv_at hml] at hz
    cases hz
    have hne : r.getD m 0 ≠ x := by
      rw [List.getD_eq_getElem?_getD, List.getElem?_eq_getElem hml]
      have := List.not_of_lt_findIdx (xs := r) (p := (· == x)) hm
      simpa using this
    show (((r.getD m 0 : Nat) : Int) == (x : Int)) = false
    rw [beq_eq_false_iff_ne]
    omega
theorem iv_map (r : List Nat) : iv r = (r.map fun x : Nat => (x : Int)).map V.int := by unfold iv; rw [List.map_map]; rfl

theorem dpRowsAt {K : PySem.W.Frag} {H : Hp} {xs : List V} {T : List (List Nat)} (h : DpAll K H xs (T.map dRow)) {i : Nat} (hi : i < T.length) : ∃ q, xs[i]? = some (.ref q) ∧ SqL K H q (iv (row T i)) := by
  obtain ⟨v, h1, h2⟩ := dpaGet (i := i) (d := dRow (row T i)) h (by
    rw [List.getElem?_map, row, List.getD_eq_getElem?_getD, List.getElem?_eq_getElem hi]
    rfl)
  obtain ⟨q, xs', rfl, _, _⟩ := dpLst h2
  exact ⟨q, h1, dpRowA h2⟩
def endsOf (ts : List Ti) : EdgL := ts.map fun t => (t.one, t.two)
theorem endsOf_len (ts : List Ti) : (endsOf ts).length = ts.length := by unfold endsOf; simp
def ti (ts : List Ti) (i : Nat) : Ti := ts.getD i ⟨false, 0, 0, 0⟩
theorem ti_at {ts : List Ti} {i : Nat} (h : i < ts.length) : ts[i]? = some (ti ts i) := by
  unfold ti
  rw [List.getD_eq_getElem?_getD, List.getElem?_eq_getElem h]
  rfl
theorem en_ti {ts : List Ti} {i : Nat} (h : i < ts.length) : en (endsOf ts) i = ((ti ts i).one, (ti ts i).two) := by
  unfold en endsOf
  rw [List.getD_eq_getElem?_getD, List.getElem?_map, ti_at h]
  rfl
section
variable {P : Program} {w : World} {K : PySem.W.Frag} {mg : Str → Option Value} {base : Heap} {C_Pull C_Push : Addr}
def spHead (K : PySem.W.Frag) (CP CQ : Addr) : Sp := fun vs H Q _ => ∃ (a : Addr) (d : Nat) (ts : List Ti), vs = [.ref a, .int d] ∧ TiesAt K CP CQ H a ts ∧ d < 2 * ts.length ∧ Q (.int (hd (endsOf ts) d : Nat)) H
theorem ok_head {f : Addr} {fd : FuncData} (F : Fun K "head" "head" s_head f fd) (gf : mg "head" = some (.ref f)) (B : Bl mg) {C_Pull C_Push : Addr} (T : Txt K mg C_Pull C_Push) : Has P w K mg base CX0 1 "head" ["ties", "dart"] (spHead K C_Pull C_Push) := by
  refine Has.mk' F gf (F.binds (ps := ["ties", "dart"]) fun _ _ _ _ _ _ us hl => match us, hl with | [_, _], _ => rfl) sc_head (by walk_at "len") (fun cdv A outer s H vs Q E hr h => ?_)
  obtain ⟨a, d, ts, rfl, ⟨ps, hS, hT⟩, hd', q⟩ := h
  obtain ⟨p, h1, h2⟩ := hT.get (ti_at (ts := ts) (i := d / 2) (by omega))
  unfold hd at q
  rw [en_ti (by omega)] at q
  refine ⟨_, (pss_cons (ps_if (pt_cmpR op_eq (pe_op op_mod (pv 1) pe_int) pe_int (nomark _)) (pss_one (ps_ret (pe_fldK K (pe_ix (ix_listK K) (pv 0) (pe_op op_fdivW (pv 1) pe_int) (fun _ _ => rfl)) rfl))) pss_nil)
 (pss_one (ps_ret (pe_fldK K (pe_ix (ix_listK K) (pv 0) (pe_op op_fdivW (pv 1) pe_int) (fun _ _ => rfl)) rfl)))), ?_⟩
  walk_at "sts"
  refine ifd (fun h => ?_) (fun h => ?_)
  · rw [if_pos (by omega)] at q
    walk_at "sts"
    refine w_t2 T.tie h2 ?_
    walk_at "sts"
    exact q
  · rw [if_neg (by omega)] at q
    walk_at "sts"
    refine w_t1 T.tie h2 ?_
    walk_at "sts"
    exact q
def spFol (K : PySem.W.Frag) (CP CQ : Addr) : Sp := fun vs H Q _ => ∃ (a b : Addr) (d : Nat) (ts : List Ti) (T : Turns), vs = [.ref a, .ref b, .int d] ∧ TiesAt K CP CQ H a ts ∧ Dp K H (.ref b) (dRows T) ∧ Ok (endsOf ts) T ∧ d < 2 * ts.length ∧ ts.length ≤ 1000 ∧ Q (.int (fol (endsOf ts) T d : Nat)) H
theorem ok_follower {f : Addr} {fd : FuncData} (F : Fun K "follower" "follower" s_follower f fd) (gf : mg "follower" = some (.ref f)) (B : Bl mg) {C_Pull C_Push : Addr} (T : Txt K mg C_Pull C_Push) (h_head : Has P w K mg base CX0 1 "head" ["ties", "dart"] (spHead K C_Pull C_Push)) : Has P w K mg base CX0 2 "follower" ["ties", "turns", "dart"] (spFol K C_Pull C_Push) := by
  refine Has.mk' F gf (F.binds (ps := ["ties", "turns", "dart"]) fun _ _ _ _ _ _ us hl => match us, hl with | [_, _, _], _ => rfl) sc_follower (by walk_at "len") (fun cdv A outer s H vs Q E hr h => ?_)
  obtain ⟨a, b, d, ts, Tu, rfl, hTi, hTu, ok, hd', hsz, q⟩ := h
  have hd2 : d < 2 * (endsOf ts).length := by rw [endsOf_len]; exact hd'
  obtain ⟨ps, hS, hT⟩ := id hTi
  obtain ⟨xs, hx, hX⟩ := dpLstA hTu
  obtain ⟨rq, hr1, hr2⟩ := dpRowsAt hX (ok.hd_lt hd2)
  have hm := ok.hd_mem hd2
  obtain ⟨hj, hjo⟩ := ok.nxt_mem' hd2
  rw [endsOf_len] at hj
  obtain ⟨p, h1, h2⟩ := hT.get (ti_at hj)
  unfold fol outOf at q
  rw [en_ti hj] at q
  have hl0 : 0 < (row Tu (hd (endsOf ts) d)).length := List.length_pos_of_mem hm
  have hn : atI (iv (row Tu (hd (endsOf ts) d))) ((((row Tu (hd (endsOf ts) d)).idxOf (d / 2) : Nat) : Int) + 1) = atI (iv (row Tu (hd (endsOf ts) d))) ((((row Tu (hd (endsOf ts) d)).idxOf (d / 2) : Nat) : Int) + 1) := rfl
  have hix : atI (iv (row Tu (hd (endsOf ts) d))) (((((row Tu (hd (endsOf ts) d)).idxOf (d / 2) : Nat) : Int) + 1) % ((iv (row Tu (hd (endsOf ts) d))).length : Int)) = some (.int ((nxt (row Tu (hd (endsOf ts) d)) (d / 2) : Nat) : Int)) := by
    rw [iv_len, show ((((row Tu (hd (endsOf ts) d)).idxOf (d / 2) : Nat) : Int) + 1) % ((row Tu (hd (endsOf ts) d)).length : Int) = (((row Tu (hd (endsOf ts) d)).idxOf (d / 2) + 1) % (row Tu (hd (endsOf ts) d)).length : Nat) by rw [Int.natCast_emod, Int.natCast_add]; rfl]
    exact atI_nat (iv_at (Nat.mod_lt _ hl0))
  have hpos : 0 < ((iv (row Tu (hd (endsOf ts) d))).length : Int) := by rw [iv_len]; omega
  refine ⟨_, (pss_cons (ps_set (i := 3) sc_follower.nd rfl (.inl rfl) (pe_fn h_head (hr.mono (by decide)) (by rfl) (pa_cons (pv 0) (pa_cons (pv 2) pa_nil))))
 (pss_cons (ps_set (i := 4) sc_follower.nd rfl (.inl rfl) (pe_ix (ix_listK K) (pv 1) (pv 3) (fun _ _ => rfl)))
 (pss_cons (ps_set (i := 5) sc_follower.nd rfl (.inl rfl) (pe_ix (ix_listK K) (pv 4) (pe_op op_mod (pe_op op_add (pe_bmK K (pe_bm PySem.F.plainAttrs_list PySem.F.slot_list_index PySem.F.type_list_index (mt_indexK K) (pv 4) (pa_cons (pe_op op_fdivW (pv 2) pe_int) pa_nil))) pe_int) (pe_callB (call_lenK K) (by rfl) B.len (by decide +kernel) (pa_cons (pv 4) pa_nil))) (fun _ _ => rfl)))
 (pss_cons (ps_if (pt_cmpR op_eq (pe_fldK K (pe_ix (ix_listK K) (pv 0) (pv 5) (fun _ _ => rfl)) rfl) (pv 3) (nomark _)) (pss_one (ps_ret (pe_op op_mulX pe_int (pv 5)))) pss_nil)
 (pss_one (ps_ret (pe_op op_add (pe_op op_mulX pe_int (pv 5)) pe_int))))))), ?_⟩
  walk_at "sts"
  refine ⟨a, d, ts, rfl, hTi, hd', ?_⟩
  walk_at "sts"
  refine w_idx hr2 hm ?_
  walk_at "sts"
  refine w_t1 T.tie h2 ?_
  walk_at "sts"
  refine ifd (fun h => ?_) (fun h => ?_)
  · rw [if_pos (by omega)] at q
    walk_at "sts"
    exact q
  · rw [if_neg (by omega)] at q
    walk_at "sts"
    exact q
def spRound (K : PySem.W.Frag) (CP CQ : Addr) : Sp := fun vs H Q _ => ∃ (a b : Addr) (x : Nat) (l : List Nat) (ts : List Ti) (T : Turns), vs = [.ref a, .ref b, .int x] ∧ TiesAt K CP CQ H a ts ∧ Dp K H (.ref b) (dRows T) ∧ Ok (endsOf ts) T ∧ ts.length ≤ 1000 ∧
  Path (fol (endsOf ts) T) x l x ∧ (x :: l).Nodup ∧ (∀ z ∈ x :: l, z < 2 * ts.length) ∧ ∀ p H', Same H H' → New H p → H' p = some (.lst (iv (x :: l))) → Q (.ref p) H'
theorem ok_round_from {f : Addr} {fd : FuncData} (F : Fun K "round_from" "round_from" s_round_from f fd) (gf : mg "round_from" = some (.ref f)) (B : Bl mg) {C_Pull C_Push : Addr} (T : Txt K mg C_Pull C_Push) (h_follower : Has P w K mg base CX0 2 "follower" ["ties", "turns", "dart"] (spFol K C_Pull C_Push)) : Has P w K mg base CX0 3 "round_from" ["ties", "turns", "first"] (spRound K C_Pull C_Push) := by
  refine Has.mk' F gf (F.binds (ps := ["ties", "turns", "first"]) fun _ _ _ _ _ _ us hl => match us, hl with | [_, _, _], _ => rfl) sc_round_from (by walk_at "len") (fun cdv A outer s H vs Q E hr h => ?_)
  obtain ⟨a, b, x, l, ts, Tu, rfl, hTi, hTu, ok, hsz, hp, hn, hlt, q⟩ := h
  have hll : l.length ≤ 2 * ts.length := by
    have := nodup_sub_len (ys := List.range (2 * ts.length)) hn fun z hz => List.mem_range.mpr (hlt z hz)
    simp at this
    omega
  have nx : ∀ i, i < l.length → l.getD i 0 ≠ x ∧ l.getD i 0 < 2 * ts.length := fun i hi => by
    have e : l.getD i 0 = l[i] := by rw [List.getD_eq_getElem?_getD, List.getElem?_eq_getElem hi]; rfl
    have hm : l[i] ∈ l := List.getElem_mem hi
    rw [e]
    exact ⟨fun q => (List.nodup_cons.mp hn).1 (q ▸ hm), hlt _ (List.mem_cons_of_mem _ hm)⟩
  have gx : ∀ i, (l ++ [x]).getD i 0 = if i < l.length then l.getD i 0 else if i = l.length then x else 0 := fun i => by
    rw [List.getD_eq_getElem?_getD, List.getD_eq_getElem?_getD]
    by_cases h : i < l.length
    · rw [if_pos h, List.getElem?_append_left h]
    · rw [if_neg h]
      by_cases h2 : i = l.length
      · rw [if_pos h2, h2, List.getElem?_append_right (Nat.le_refl _), Nat.sub_self]; rfl
      · rw [if_neg h2, List.getElem?_eq_none (by simp; omega)]; rfl
  refine ⟨_, (pss_cons (ps_set (i := 3) sc_round_from.nd rfl (.inl rfl) (pe_lst (pa_cons (pv 2) pa_nil)))
 (pss_cons (ps_set (i := 4) sc_round_from.nd rfl (.inl rfl) (pe_fn h_follower (hr.mono (by decide)) (by rfl) (pa_cons (pv 0) (pa_cons (pv 1) (pa_cons (pv 2) pa_nil)))))
 (pss_cons (ps_while PassesOwn.never (pt_cmpR op_ne (pv 4) (pv 2) (nomark _)) (pss_cons (ps_expr (pe_bmK K (pe_bm PySem.F.plainAttrs_list PySem.F.slot_list_append PySem.F.type_list_append mt_append (pv 3) (pa_cons (pv 4) pa_nil))))
 (pss_one (ps_set (i := 4) sc_round_from.nd rfl (.inl rfl) (pe_fn h_follower (hr.mono (by decide)) (by rfl) (pa_cons (pv 0) (pa_cons (pv 1) (pa_cons (pv 4) pa_nil))))))))
 (pss_one (ps_ret (pv 3)))))), ?_⟩
  walk_at "sts"
  refine w_new fun p1 n1 => ?_
  walk_at "sts"
  have s1 : Same H (upd H p1 (.lst [.int (x : Int)])) := by walk_at "same"
  refine ⟨a, b, x, ts, Tu, rfl, hTi.same s1, hTu.same s1, ok, hlt x List.mem_cons_self, hsz, ?_⟩
  have g0 := hp.get 0 (Nat.zero_le _)
  rw [show fol (endsOf ts) Tu x = (l ++ [x]).getD 0 0 from g0]
  walk_at "sts"
  refine ⟨fun k σ H' => ∃ i, i + k = l.length ∧ σ = [some (.ref a), some (.ref b), some (.int (x : Int)), some (.ref p1), some (.int (((l ++ [x]).getD i 0 : Nat) : Int))] ∧ Same H H' ∧ H' p1 = some (.lst (iv (x :: l.take i))), ⟨l.length, 0, by omega, rfl, s1, upd_same⟩, ?_⟩
  rintro k σ H' ⟨i, hi, rfl, s2, h1⟩
  walk_at "sts"
  rw [gx]
  by_cases hk : i < l.length
  · rw [if_pos hk]
    obtain ⟨n2, n3⟩ := nx i hk
    refine ifnd (fun _ => ?_) (fun h => absurd h (by omega))
    refine w_wt ?_
    have hsl : (iv (x :: l.take i)).length < sizeLine := szlt (by rw [iv_len]; simp; omega)
    walk_at "sts"
    have s3 : Same H (upd H' p1 (.lst (iv (x :: l.take i) ++ [.int ((l.getD i 0 : Nat) : Int)]))) := by walk_at "same"
    refine ⟨a, b, _, ts, Tu, rfl, hTi.same s3, hTu.same s3, ok, n3, hsz, ?_⟩
    have g1 := hp.get (i + 1) (by omega)
    rw [show fol (endsOf ts) Tu (l.getD i 0) = (l ++ [x]).getD (i + 1) 0 from g1]
    walk_at "sts"
    refine ⟨k - 1, by omega, i + 1, by omega, rfl, s3, ?_⟩
    rw [upd_same]
    rw [take_snoc hk, ← List.cons_append, iv_app]
    rfl
  · have e : i = l.length := by omega
    rw [if_neg hk, if_pos e]
    refine ifnd (fun h => absurd rfl h) (fun _ => ?_)
    walk_at "sts"
    rw [e, List.take_length] at h1
    exact q p1 H' s2 n1 h1
end
section
variable {P : Program} {w : World} {K : PySem.W.Frag} {mg : Str → Option Value} {base : Heap} {C_Pull C_Push : Addr}
end
/-! ### the rest of a web's making -/
section
variable {P : Program} {w : World} {K : PySem.W.Frag} {mg : Str → Option Value} {base : Heap} {C_Pull C_Push : Addr}
/-- a list of lists of numbers, each of which may change -/
structure LL (H : Hp) (a : Addr) (qs : List Addr) (T : List (List Nat)) : Prop where
  top : H a = some (.lst (qs.map V.ref))
  len : qs.length = T.length
  nd : qs.Nodup
  row : ∀ (i : Nat) (q : Addr), qs[i]? = some q → H q = some (.lst (iv (row T i)))
  ne : a ∉ qs
theorem LL.same {H H' : Hp} {a : Addr} {qs : List Addr} {T : List (List Nat)} (h : LL H a qs T) (e : Same H H') : LL H' a qs T := ⟨e _ _ h.top, h.len, h.nd, fun i q hq => e _ _ (h.row i q hq), h.ne⟩
theorem LL.get {H : Hp} {a : Addr} {qs : List Addr} {T : List (List Nat)} (h : LL H a qs T) {i : Nat} (hi : i < T.length) : ∃ q, qs[i]? = some q ∧ (qs.map V.ref)[i]? = some (.ref q) ∧ H q = some (.lst (iv (Sf.row T i))) := by
  have hl : i < qs.length := by rw [h.len]; exact hi
  refine ⟨qs[i], List.getElem?_eq_getElem hl, by rw [List.getElem?_map, List.getElem?_eq_getElem hl]; rfl, h.row i _ (List.getElem?_eq_getElem hl)⟩
theorem LL.set {H : Hp} {a q : Addr} {qs : List Addr} {T : List (List Nat)} (h : LL H a qs T) {i : Nat} (hi : i < T.length) (hq : qs[i]? = some q) (r : List Nat) : LL (upd H q (.lst (iv r))) a qs (T.set i r) := by
  have hm : q ∈ qs := List.mem_of_getElem? hq
  have hqa : a ≠ q := fun e => h.ne (by rw [e]; exact hm)
  refine ⟨by rw [upd_ne hqa]; exact h.top, by rw [h.len, List.length_set], h.nd, fun j q' hj => ?_, h.ne⟩
  rw [row_set T r hi]
  by_cases e : j = i
  · subst e
    rw [hq] at hj
    cases hj
    rw [upd_same, if_pos rfl]
  · rw [if_neg e, upd_ne, h.row j q' hj]
    intro z
    subst z
    exact e (nd_ix h.nd hj hq)
theorem LL.push {H : Hp} {a q : Addr} {qs : List Addr} {T : List (List Nat)} (h : LL H a qs T) {r : List Nat} (hq : H q = some (.lst (iv r))) (n1 : q ∉ qs) (n2 : q ≠ a) : LL (upd H a (.lst ((qs ++ [q]).map V.ref))) a (qs ++ [q]) (T ++ [r]) := by
  refine ⟨upd_same, by simp [h.len], ?_, fun i q' hi => ?_, ?_⟩
  · exact List.nodup_append.mpr ⟨h.nd, by simp, fun x hx y hy e => by
      have e2 : y = q := by simpa using hy
      subst e2
      subst e
      exact n1 hx⟩
  · rw [row_push]
    by_cases e : i < qs.length
    · rw [List.getElem?_append_left e] at hi
      rw [if_neg (by rw [← h.len]; omega), upd_ne, h.row i q' hi]
      intro z
      subst z
      exact h.ne (List.mem_of_getElem? hi)
    · have e2 : i = qs.length := by
        have := (List.getElem?_eq_some_iff.mp hi).1
        simp at this
        omega
      subst e2
      rw [List.getElem?_append_right (Nat.le_refl _), Nat.sub_self] at hi
      simp at hi
      subst hi
      rw [if_pos h.len, upd_ne n2, hq]
  · intro z
    rcases List.mem_append.mp z with z | z
    · exact h.ne z
    · have : a = q := by simpa using z
      exact n2 this.symm
theorem LL.dpa {K : PySem.W.Frag} {H : Hp} {a : Addr} {qs : List Addr} {T : List (List Nat)} (h : LL H a qs T) : DpAll K H (qs.map V.ref) (T.map dRow) := by
  have go : ∀ (qs : List Addr) (T : List (List Nat)), qs.length = T.length → (∀ (i : Nat) (q : Addr), qs[i]? = some q → H q = some (.lst (iv (Sf.row T i)))) → DpAll K H (qs.map V.ref) (T.map dRow) := by
    intro qs
    induction qs with
    | nil => intro T hl _; cases T with
      | nil => exact .nil
      | cons _ _ => simp at hl
    | cons q qs ih =>
      intro T hl hr
      cases T with
      | nil => simp at hl
      | cons r T => exact .cons (dpRow (SqL.of (hr 0 q rfl))) (ih T (by simpa using hl) fun i q' hi => hr (i + 1) q' (by simpa using hi))
  exact go qs T h.len h.row
theorem LL.dp {K : PySem.W.Frag} {H : Hp} {a : Addr} {qs : List Addr} {T : List (List Nat)} (h : LL H a qs T) : Dp K H (.ref a) (dRows T) := .lst (SqL.of h.top) h.dpa
/-- the ties at p, below i -/
def atP (E : EdgL) (p i : Nat) : List Nat := (List.range i).filter fun k => (en E k).1 == p || (en E k).2 == p
def ownT (E : EdgL) (m i : Nat) : List (List Nat) := (List.range m).map fun p => atP E p i
theorem ownT_row {E : EdgL} {m i p : Nat} (h : p < m) : row (ownT E m i) p = atP E p i := by
  unfold row ownT
  rw [List.getD_eq_getElem?_getD, map_at h]
  rfl
theorem atP_succ (E : EdgL) (p i : Nat) : atP E p (i + 1) = if (en E i).1 = p ∨ (en E i).2 = p then atP E p i ++ [i] else atP E p i := by
  unfold atP
  rw [List.range_succ, List.filter_append]
  by_cases h : (en E i).1 = p ∨ (en E i).2 = p
  · rw [if_pos h]
    simp [h]
  · rw [if_neg h]
    have : ¬ (en E i).1 = p ∧ ¬ (en E i).2 = p := by omega
    simp [this]
theorem ownT_step {E : EdgL} {m i : Nat} (h1 : (en E i).1 < m) (h2 : (en E i).2 < m) (hne : (en E i).1 ≠ (en E i).2) :
    ((ownT E m i).set (en E i).1 (atP E (en E i).1 i ++ [i])).set (en E i).2 (atP E (en E i).2 i ++ [i]) = ownT E m (i + 1) := by
  unfold ownT
  rw [map_set, map_set]
  refine List.map_congr_left fun p _ => ?_
  rw [atP_succ]
  by_cases a : p = (en E i).2
  · rw [if_pos a, if_pos (.inr a.symm), a]
  · rw [if_neg a]
    by_cases b : p = (en E i).1
    · rw [if_pos b, if_pos (.inl b.symm), b]
    · rw [if_neg b, if_neg (by omega)]
theorem sorted_own {E : EdgL} {T : Turns} (ok : Ok E T) {p : Nat} (hp : p < T.length) {ns : List Int} (h1 : ns.Perm ((row T p).map fun x : Nat => (x : Int))) (h2 : ns.Pairwise (· ≤ ·)) : ns = (atP E p E.length).map fun x : Nat => (x : Int) := by
  have n2 : (atP E p E.length).Nodup := List.Pairwise.filter _ List.nodup_range
  have pm : ((row T p).map fun x : Nat => (x : Int)).Perm ((atP E p E.length).map fun x : Nat => (x : Int)) := by
    refine List.Perm.map _ (perm_of_nodup (ok.nd p hp) n2 fun a => ?_)
    rw [ok.mem p hp]
    unfold atP
    simp
  have s2 : ((atP E p E.length).map fun x : Nat => (x : Int)).Pairwise (· ≤ ·) := by
    rw [List.pairwise_map]
    refine List.Pairwise.imp ?_ (List.Pairwise.filter _ List.pairwise_lt_range)
    intro a b h
    omega
  exact List.Perm.eq_of_pairwise (fun a b _ _ h1 h2 => Int.le_antisymm h1 h2) h2 s2 (h1.trans pm)
end

/-! ### a going round that turns back -/
def itf (f : Nat → Nat) : Nat → Nat → Nat
  | 0, x => x
  | k + 1, x => f (itf f k x)
theorem itf_lt {f : Nat → Nat} {m : Nat} (hlt : ∀ x, x < m → f x < m) {x : Nat} (hx : x < m) : ∀ k, itf f k x < m
  | 0 => hx
  | k + 1 => hlt _ (itf_lt hlt hx k)
theorem itf_back {f : Nat → Nat} {m : Nat} (hlt : ∀ x, x < m → f x < m) (hinj : ∀ x y, x < m → y < m → f x = f y → x = y) {x : Nat} (hx : x < m) (d : Nat) : ∀ i, itf f (i + d) x = itf f i x → itf f d x = x
  | 0, h => by rw [Nat.zero_add] at h; exact h
  | i + 1, h => by
    rw [show i + 1 + d = (i + d) + 1 by omega] at h
    exact itf_back hlt hinj hx d i (hinj _ _ (itf_lt hlt hx _) (itf_lt hlt hx _) h)
theorem itf_path (f : Nat → Nat) (x : Nat) : ∀ k, Path f x ((List.range k).map fun j => itf f (j + 1) x) (itf f (k + 1) x)
  | 0 => rfl
  | k + 1 => by
    rw [List.range_succ, List.map_append]
    exact Path.app.mpr ⟨itf_path f x k, rfl⟩
theorem itf_nodup {f : Nat → Nat} {m : Nat} (hlt : ∀ x, x < m → f x < m) (hinj : ∀ x y, x < m → y < m → f x = f y → x = y) {x : Nat} (hx : x < m) (p : Nat) (h : ∀ k, 1 ≤ k → k < p → itf f k x ≠ x) : ((List.range p).map fun j => itf f j x).Nodup := by
  refine List.pairwise_map.mpr (List.Pairwise.imp_of_mem ?_ List.pairwise_lt_range)
  intro i j hi hj hij e
  have hj' := List.mem_range.mp hj
  refine h (j - i) (by omega) (by omega) (itf_back hlt hinj hx (j - i) i ?_)
  rw [show i + (j - i) = j by omega]
  exact e.symm
theorem orbit {f : Nat → Nat} {m : Nat} (hlt : ∀ x, x < m → f x < m) (hinj : ∀ x y, x < m → y < m → f x = f y → x = y) {x : Nat} (hx : x < m) : ∃ l, Path f x l x ∧ (x :: l).Nodup ∧ ∀ z ∈ x :: l, z < m := by
  have hex : ∃ p, 1 ≤ p ∧ itf f p x = x := by
    refine Classical.byContradiction fun hc => ?_
    have := itf_nodup hlt hinj hx (m + 1) fun k h1 _ e => hc ⟨k, h1, e⟩
    have h2 := nodup_sub_len (ys := List.range m) this fun y hy => by
      obtain ⟨j, _, rfl⟩ := List.mem_map.mp hy
      exact List.mem_range.mpr (itf_lt hlt hx j)
    rw [List.length_map, List.length_range, List.length_range] at h2
    omega
  have hmin : ∃ p, (1 ≤ p ∧ itf f p x = x) ∧ ∀ k, 1 ≤ k → k < p → itf f k x ≠ x := by
    obtain ⟨p, hp⟩ := hex
    induction p using Nat.strongRecOn with
    | _ p ih =>
      by_cases h : ∃ k, 1 ≤ k ∧ k < p ∧ itf f k x = x
      · obtain ⟨k, k1, k2, k3⟩ := h
        exact ih k k2 ⟨k1, k3⟩
      · exact ⟨p, hp, fun k k1 k2 e => h ⟨k, k1, k2, e⟩⟩
  obtain ⟨p, ⟨hp1, hp2⟩, hp3⟩ := hmin
  have hcons : x :: ((List.range (p - 1)).map fun j => itf f (j + 1) x) = (List.range p).map fun j => itf f j x := by
    obtain ⟨p', rfl⟩ : ∃ p', p = p' + 1 := ⟨p - 1, by omega⟩
    rw [List.range_succ_eq_map, List.map_cons, List.map_map, Nat.add_sub_cancel]
    rfl
  refine ⟨(List.range (p - 1)).map fun j => itf f (j + 1) x, ?_, ?_, ?_⟩
  · have := itf_path f x (p - 1)
    rw [show p - 1 + 1 = p by omega, hp2] at this
    exact this
  · rw [hcons]; exact itf_nodup hlt hinj hx p hp3
  · intro z hz
    rw [hcons] at hz
    obtain ⟨j, _, rfl⟩ := List.mem_map.mp hz
    exact itf_lt hlt hx j
theorem rings_of {f : Nat → Nat} {m : Nat} (hlt : ∀ x, x < m → f x < m) (hinj : ∀ x y, x < m → y < m → f x = f y → x = y) : ∃ R, Rings f m R := by
  have : ∀ i, i ≤ m → ∃ R, Pre f m i R := by
    intro i
    induction i with
    | zero => exact fun _ => ⟨[], Pre.zero⟩
    | succ i ih =>
      intro hi
      obtain ⟨R, hR⟩ := ih (by omega)
      by_cases hin : i ∈ R.flatten
      · exact ⟨R, hR.skip hin⟩
      · obtain ⟨l, h1, h2, h3⟩ := orbit hlt hinj (show i < m by omega)
        exact ⟨_, (hR.add hin h1 h2 h3).1⟩
  obtain ⟨R, hR⟩ := this m (Nat.le_refl m)
  exact ⟨R, hR.done.rings⟩
section
variable {P : Program} {w : World} {K : PySem.W.Frag} {mg : Str → Option Value} {base : Heap} {C_Pull C_Push : Addr}
def RowsG (K : PySem.W.Frag) (G : Hp) (xs : List V) (R : List (List Nat)) : Prop := DpAll K G xs (R.map dRow) ∧ ∀ (i : Nat) (v : V), xs[i]? = some v → ∃ q, v = .ref q ∧ G q = some (.lst (iv (row R i)))
theorem RowsG.push {G G' : Hp} {xs : List V} {R : List (List Nat)} {q : Addr} {r : List Nat} (h : RowsG K G xs R) (s : Same G G') (hq : G' q = some (.lst (iv r))) : RowsG K G' (xs ++ [.ref q]) (R ++ [r]) := by
  have hl : xs.length = R.length := by have := dpaLen h.1; simpa using this
  refine ⟨by rw [List.map_append]; exact dpaApp (h.1.same s) (.cons (dpRow (SqL.of hq)) .nil), fun i v hv => ?_⟩
  rw [row_push]
  by_cases e : i < xs.length
  · rw [List.getElem?_append_left e] at hv
    obtain ⟨q', h1, h2⟩ := h.2 i v hv
    rw [if_neg (by omega)]
    exact ⟨q', h1, s _ _ h2⟩
  · have hi : i = xs.length := by have := (List.getElem?_eq_some_iff.mp hv).1; simp at this; omega
    subst hi
    rw [List.getElem?_append_right (Nat.le_refl _), Nat.sub_self] at hv
    simp at hv
    rw [if_pos hl]
    exact ⟨q, hv.symm, hq⟩
theorem RowsG.same {G G' : Hp} {xs : List V} {R : List (List Nat)} (h : RowsG K G xs R) (s : Same G G') : RowsG K G' xs R := ⟨h.1.same s, fun i v hv => by
  obtain ⟨q, h1, h2⟩ := h.2 i v hv
  exact ⟨q, h1, s _ _ h2⟩⟩
def spRounds (K : PySem.W.Frag) (CP CQ : Addr) : Sp := fun vs H Q _ => ∃ (a b : Addr) (ts : List Ti) (T : Turns) (F : List (List Nat)), vs = [.ref a, .ref b] ∧ TiesAt K CP CQ H a ts ∧ Dp K H (.ref b) (dRows T) ∧ Ok (endsOf ts) T ∧ ts.length ≤ 1000 ∧ Rings (fol (endsOf ts) T) (2 * ts.length) F ∧
  ∀ p H' R, Same H H' → New H p → (∃ xs G, H' p = some (.lst xs) ∧ Same H G ∧ Same G H' ∧ New G p ∧ RowsG K G xs R) → Canon (fol (endsOf ts) T) (2 * ts.length) R → Q (.ref p) H'
theorem ok_rounds_of {f : Addr} {fd : FuncData} (F : Fun K "rounds_of" "rounds_of" s_rounds_of f fd) (gf : mg "rounds_of" = some (.ref f)) (B : Bl mg) {C_Pull C_Push : Addr} (T : Txt K mg C_Pull C_Push) (h_round_from : Has P w K mg base CX0 3 "round_from" ["ties", "turns", "first"] (spRound K C_Pull C_Push)) : Has P w K mg base CX0 4 "rounds_of" ["ties", "turns"] (spRounds K C_Pull C_Push) := by
  refine Has.mk' F gf (F.binds (ps := ["ties", "turns"]) fun _ _ _ _ _ _ us hl => match us, hl with | [_, _], _ => rfl) sc_rounds_of (by walk_at "len") (fun cdv A outer s H vs Q E hr h => ?_)
  obtain ⟨a, b, ts, Tu, F, rfl, hTi, hTu, ok, hsz, hF, q⟩ := h
  obtain ⟨ps, hS, hT⟩ := id hTi
  have hpl : (ps.map V.ref).length = ts.length := by rw [List.length_map]; exact hT.1
  refine ⟨_, (pss_cons (ps_set (i := 2) sc_rounds_of.nd rfl (.inl rfl) (pe_lst pa_nil))
 (pss_cons (ps_set (i := 3) sc_rounds_of.nd rfl (.inl rfl) pe_dnewK)
 (pss_cons (ps_for PassesOwn.never rfl (pi_range1 (by rfl) B.range (pa_cons (pe_op op_mulX pe_int (pe_callB (call_lenK K) (by rfl) B.len (by decide +kernel) (pa_cons (pv 0) pa_nil))) pa_nil)) (pg_name (i := 4) sc_rounds_of.nd rfl (.inl rfl)) (pss_one (ps_if (pt_cmp (pc_dnotin (hu_of hr) (pv 4) (pv 3))) (pss_cons (ps_set (i := 5) sc_rounds_of.nd rfl (.inl rfl) (pe_fn h_round_from (hr.mono (by decide)) (by rfl) (pa_cons (pv 0) (pa_cons (pv 1) (pa_cons (pv 4) pa_nil)))))
 (pss_cons (ps_for PassesOwn.never rfl (pi_listK K (pv 5)) (pg_name (i := 6) sc_rounds_of.nd rfl (.inl rfl)) (pss_one (ps_dput (hu_of hr) (pv 3) (pv 6) pe_bl rfl)))
 (pss_one (ps_expr (pe_bmK K (pe_bm PySem.F.plainAttrs_list PySem.F.slot_list_append PySem.F.type_list_append mt_append (pv 2) (pa_cons (pv 5) pa_nil))))))) pss_nil)))
 (pss_one (ps_ret (pv 2)))))), ?_⟩
  walk_at "sts"
  refine w_new fun p1 n1 => ?_
  walk_at "sts"
  refine w_new fun p2 n2 => ?_
  walk_at "sts"
  have n12 : p1 ≠ p2 := ne_new upd_same n2
  have s0 : Same H (upd (upd H p1 (.lst [])) p2 (.dK [])) := by walk_at "same"
  have hS0 := s0.seq hS
  have m1 : New H p2 := n2.of (by walk_at "same")
  have hE : (endsOf ts).length = ts.length := endsOf_len ts
  walk_at "sts"
  refine for_r0 (n := 2 * ts.length) ?_ (fun i σ H' => ∃ (R : List (List Nat)) (xs : List V) (G : Hp) (kvs : List (Key × V)) (y4 y5 y6 : Option V), σ = [some (.ref a), some (.ref b), some (.ref p1), some (.ref p2), y4, y5, y6] ∧ Pre (fol (endsOf ts) Tu) (2 * ts.length) i R ∧
    H' p1 = some (.lst xs) ∧ H' p2 = some (.dK kvs) ∧ Holds kvs R.flatten (fun _ => .bl true) ∧ Same H G ∧ Same G H' ∧ New G p1 ∧ New G p2 ∧ RowsG K G xs R) ?_ ?_ ?_
  · rw [hpl]; omega
  · exact ⟨[], [], H, [], _, _, _, rfl, Pre.zero, by walk_at "hp", upd_same, Holds.nil, Same.refl _, s0, n1, m1, .nil, fun i v h => by simp at h⟩
  · rintro i σ H' hi ⟨R, xs, G, kvs, y4, y5, y6, rfl, hP, h1, h2, hK, sG, sG', g1, g2, hD⟩
    have hfl : R.flatten.length ≤ 2 * ts.length := by
      have := nodup_sub_len (ys := List.range (2 * ts.length)) hP.nd fun z hz => List.mem_range.mpr (hP.lt z hz)
      simpa using this
    have hxl : xs.length = R.length := by have := dpaLen hD.1; simpa using this
    walk_at "sts"
    rw [hK.2]
    by_cases hin : i ∈ R.flatten
    · rw [if_pos hin]
      refine ifF rfl ?_
      walk_at "sts"
      exact ⟨R, xs, G, kvs, _, _, _, rfl, hP.skip hin, h1, h2, hK, sG, sG', g1, g2, hD⟩
    · rw [if_neg hin]
      refine ifT rfl ?_
      walk_at "sts"
      obtain ⟨A, r, B', l, eF, hp, pth⟩ := hF.at hi
      have hrF : r ∈ F := by rw [eF]; simp
      have hnr : (i :: l).Nodup := by
        rw [hp.nodup_iff]
        exact hF.nd.sublist (List.sublist_flatten_of_mem hrF)
      have hlt : ∀ z ∈ i :: l, z < 2 * ts.length := fun z hz => hF.mem.mp (List.mem_flatten.mpr ⟨r, hrF, hp.mem_iff.mp hz⟩)
      have sH : Same H H' := sG.trans sG'
      refine ⟨a, b, i, l, ts, Tu, rfl, hTi.same sH, hTu.same sH, ok, hsz, pth, hnr, hlt, fun p3 H2 s2 n3 h3 => ?_⟩
      obtain ⟨hP2, dis⟩ := hP.add hin pth hnr hlt
      have n3G : New G p3 := n3.of sG'
      have q13 : p1 ≠ p3 := ne_new h1 n3
      have q23 : p2 ≠ p3 := ne_new h2 n3
      have sG2 : Same G (upd G p3 (.lst (iv (i :: l)))) := (Same.refl G).new n3G
      have sG3 : Same (upd G p3 (.lst (iv (i :: l)))) H2 := (sG'.trans s2).add h3
      have g12 : New (upd G p3 (.lst (iv (i :: l)))) p1 := g1.upd q13
      have g22 : New (upd G p3 (.lst (iv (i :: l)))) p2 := g2.upd q23
      have hD2 : RowsG K (upd G p3 (.lst (iv (i :: l)))) (xs ++ [.ref p3]) (R ++ [i :: l]) := hD.push sG2 upd_same
      have hl2 : (i :: l).length ≤ 2 * ts.length := by
        have := nodup_sub_len (ys := List.range (2 * ts.length)) hnr fun z hz => List.mem_range.mpr (hlt z hz)
        simpa using this
      generalize hGG : upd G p3 (.lst (iv (i :: l))) = G2 at sG2 sG3 g12 g22 hD2
      have gp3 : G2 p3 = some (.lst (iv (i :: l))) := by rw [← hGG]; exact upd_same
      walk_at "sts"
      refine for_list (xs := iv (i :: l)) (fun j σ H3 => ∃ (kvs : List (Key × V)) (y6 : Option V), σ = [some (.ref a), some (.ref b), some (.ref p1), some (.ref p2), some (.int (i : Nat)), some (.ref p3), y6] ∧ H3 p1 = some (.lst xs) ∧ H3 p2 = some (.dK kvs) ∧ Holds kvs (R.flatten ++ (i :: l).take j) (fun _ => .bl true) ∧ Same G2 H3) ?_ ?_ ?_ ?_
      · exact ⟨kvs, _, rfl, s2 _ _ h1, s2 _ _ h2, by simpa using hK, sG3⟩
      · rintro j σ H3 _ ⟨kvs, y6, _, _, _, _, s4⟩
        exact SqL.of (s4 _ _ gp3)
      · rintro j x σ H3 hx ⟨kvs, y6, rfl, h1, h2, hK, s4⟩
        have hj : j < (i :: l).length := by
          have := (List.getElem?_eq_some_iff.mp hx).1
          rwa [iv_len] at this
        rw [iv_at hj] at hx
        cases hx
        have hkl : kvs.length < 1000000 := by
          have := hK.1
          rw [List.length_append, List.length_take] at this
          omega
        walk_at "sts"
        refine ⟨_, _, rfl, by walk_at "hp", upd_same, ?_, by walk_at "same"⟩
        rw [take_snoc hj, ← List.append_assoc]
        exact hK.put _
      · rintro σ H3 ⟨kvs, y6, rfl, h1, h2, hK, s4⟩
        rw [iv_len, List.take_length] at hK
        have hxs : xs.length < 1000000 := by
          have : R.length ≤ R.flatten.length := by
            have hne : ∀ r ∈ R, 1 ≤ r.length := fun r hr => by obtain ⟨x, l', rfl, _⟩ := hP.ok r hr; simp
            exact flatten_ge hne
          omega
        walk_at "sts"
        refine ⟨R ++ [i :: l], _, G2, kvs, _, _, _, rfl, hP2, upd_same, ?_, ?_, sG.trans sG2, by walk_at "same", g12, g22, hD2⟩
        · rw [upd_ne (Ne.symm n12)]; exact h2
        · rw [List.flatten_append, List.flatten_singleton]; exact hK
  · rintro σ H' ⟨R, xs, G, kvs, y4, y5, y6, rfl, hP, h1, h2, hK, sG, sG', g1, g2, hD⟩
    walk_at "sts"
    exact q p1 H' R (sG.trans sG') n1 ⟨xs, G, h1, sG, sG', g1, hD⟩ hP.done
end

def sideD (R : List (List Nat)) (i : Nat) : PyData := .tuple ([((sideOf R (2 * i) : Nat) : Int), ((sideOf R (2 * i + 1) : Nat) : Int)].map PyData.int)
def sidesD (R : List (List Nat)) (n : Nat) : List PyData := (List.range n).map (sideD R)
theorem flat_take (R : List (List Nat)) (i : Nat) (r : List Nat) (h : R[i]? = some r) : (R.take (i + 1)).flatten = (R.take i).flatten ++ r := by
  rw [List.take_add_one, h, List.flatten_append]
  simp
theorem Holds.get {kvs : List (Key × V)} {S : List Nat} {g : Nat → V} (h : Holds kvs S g) {d : Nat} (hd : d ∈ S) : valV kvs (.inl (d : Int)) = some (g d) := by rw [h.2, if_pos hd]
theorem same_wo_upd {H : Hp} {p : Addr} {o : HO} : Same (wo H p) (upd H p o) := fun b u h => by
  unfold wo at h
  split at h
  · cases h
  · rw [upd_ne (by assumption)]; exact h
theorem sqWo {K : PySem.W.Frag} {H : Hp} {p a : Addr} {xs : List V} {C dx : Addr} {fs : List (Str × V)} (hp : H p = some (.ins C dx fs)) (h : SqL K H a xs) : SqL K (wo H p) a xs := by
  rcases h with (h | ⟨o, h⟩) | h
  · exact .inl (.inl (wo_get h (ne_of h hp (by intro z; cases z))))
  · exact .inl (.inr ⟨o, wo_get h (ne_of h hp (by intro z; cases z))⟩)
  · exact .inr h
theorem stWo {K : PySem.W.Frag} {H : Hp} {p a : Addr} {xs : List V} {C dx : Addr} {fs : List (Str × V)} (hp : H p = some (.ins C dx fs)) (h : SqT K H a xs) : SqT K (wo H p) a xs := by
  rcases h with (h | ⟨o, h⟩) | h
  · exact .inl (.inl (wo_get h (ne_of h hp (by intro z; cases z))))
  · exact .inl (.inr ⟨o, wo_get h (ne_of h hp (by intro z; cases z))⟩)
  · exact .inr h
mutual
theorem dpWo {K : PySem.W.Frag} {H : Hp} {p C dx : Addr} {fs : List (Str × V)} (hp : H p = some (.ins C dx fs)) : ∀ (d : PyData) (v : V), Dp K H v d → Dp K (wo H p) v d
  | .none, _, h => by cases h; exact .non
  | .bool _, _, h => by cases h; exact .bl _
  | .int _, _, h => by cases h; exact .int _
  | .str _, _, h => by cases h; exact .str _
  | .list ds, _, h => by
    cases h with
    | lst hs ha => exact .lst (sqWo hp hs) (dpWoAll hp ds _ ha)
  | .tuple ds, _, h => by
    cases h with
    | tup hs ha => exact .tup (stWo hp hs) (dpWoAll hp ds _ ha)
  | .dict _, _, h => by cases h
theorem dpWoAll {K : PySem.W.Frag} {H : Hp} {p C dx : Addr} {fs : List (Str × V)} (hp : H p = some (.ins C dx fs)) : ∀ (ds : List PyData) (xs : List V), DpAll K H xs ds → DpAll K (wo H p) xs ds
  | [], _, h => by cases h; exact .nil
  | d :: ds, _, h => by
    cases h with
    | cons h1 h2 => exact .cons (dpWo hp d _ h1) (dpWoAll hp ds _ h2)
end
section
variable {P : Program} {w : World} {K : PySem.W.Frag} {mg : Str → Option Value} {base : Heap} {C_Pull C_Push : Addr}
def spSides (K : PySem.W.Frag) : Sp := fun vs H Q _ => ∃ (a b : Addr) (xs : List V) (R : List (List Nat)), vs = [.ref a, .ref b] ∧ SqL K H a xs ∧ Dp K H (.ref b) (dRows R) ∧ R.flatten.Perm (List.range (2 * xs.length)) ∧ (∀ r ∈ R, 1 ≤ r.length) ∧ xs.length ≤ 1000 ∧
  ∀ p H' ys G, Same H H' → New H p → H' p = some (.lst ys) → Same H G → Same G H' → New G p → DpAll K G ys (sidesD R xs.length) → Q (.ref p) H'
theorem ok_sides_of {f : Addr} {fd : FuncData} (F : Fun K "sides_of" "sides_of" s_sides_of f fd) (gf : mg "sides_of" = some (.ref f)) (B : Bl mg) {C_Pull C_Push : Addr} (T : Txt K mg C_Pull C_Push) : Has P w K mg base CX0 1 "sides_of" ["ties", "rounds"] (spSides K) := by
  refine Has.mk' F gf (F.binds (ps := ["ties", "rounds"]) fun _ _ _ _ _ _ us hl => match us, hl with | [_, _], _ => rfl) sc_sides_of (by walk_at "len") (fun cdv A outer s H vs Q E hr h => ?_)
  obtain ⟨a, b, xs, R, rfl, hS, hR, hpm, hne, hsz, q⟩ := h
  obtain ⟨zs, hz, hZ⟩ := dpLstA hR
  have hzl : zs.length = R.length := by have := dpaLen hZ; simpa using this
  have hnd : R.flatten.Nodup := hpm.nodup_iff.mpr List.nodup_range
  have hfl : R.flatten.length = 2 * xs.length := by rw [hpm.length_eq, List.length_range]
  refine ⟨_, (pss_cons (ps_set (i := 2) sc_sides_of.nd rfl (.inr rfl) pe_dnewK)
 (pss_cons (ps_for PassesOwn.never rfl (pi_enum (by rfl) B.enumerate (pa_cons (pv 1) pa_nil)) (pg_tupK K rfl (pgs_cons (pg_name (i := 3) sc_sides_of.nd rfl (.inl rfl)) (pgs_cons (pg_name (i := 4) sc_sides_of.nd rfl (.inl rfl)) pgs_nil))) (pss_one (ps_for PassesOwn.never rfl (pi_listK K (pv 4)) (pg_name (i := 5) sc_sides_of.nd rfl (.inl rfl)) (pss_one (ps_dput (hu_of hr) (pv 2) (pv 5) (pv 3) rfl)))))
 (pss_one (ps_ret (pe_lc (own := [("i", 6)]) rfl sc_sides_of.nd (pi_range1 (by rfl) B.range (pa_cons (pe_callB (call_lenK K) (by rfl) B.len (by decide +kernel) (pa_cons (pv 0) pa_nil)) pa_nil)) (blkOk_by (own := [("i", 6)]) (N := ["ties", "rounds", "where", "number", "row", "dart", "i"]) (sc := defScope s_sides_of) (by decide +kernel)) (fun _ _ _ _ _ => pg_name (i := 6) sc_sides_of.nd rfl (Or.inl rfl)) (fun _ _ _ _ _ => pts_nil) (fun _ _ _ _ _ => (pe_tup (pa_cons (pe_dget (hu_of hr) (pv 2) (pe_op op_mulX pe_int (pv 6)) (fun _ _ => rfl)) (pa_cons (pe_dget (hu_of hr) (pv 2) (pe_op op_add (pe_op op_mulX pe_int (pv 6)) pe_int) (fun _ _ => rfl)) pa_nil))))))))), ?_⟩
  walk_at "sts"
  refine w_new fun p1 n1 => ?_
  walk_at "sts"
  have s0 : Same H (upd H p1 (.dK [])) := by walk_at "same"
  have hz0 := s0.seq hz
  refine w_enq hz0 ?_
  refine for_enumX (xs := zs) (fun i σ H' => ∃ (kvs : List (Key × V)) (y3 y4 y5 y6 : Option V), σ = [some (.ref a), some (.ref b), some (.ref p1), y3, y4, y5, y6] ∧ H' p1 = some (.dK kvs) ∧ Holds kvs (R.take i).flatten (fun d => .int (sideOf R d : Nat)) ∧ Same H H') ?_ ?_ ?_ ?_
  · exact ⟨[], _, _, _, _, rfl, upd_same, by simpa using Holds.nil, s0⟩
  · rintro i σ H' _ ⟨kvs, y3, y4, y5, y6, _, _, _, s1⟩
    exact s1.seq hz
  · rintro i x σ H' T hx ⟨kvs, y3, y4, y5, y6, rfl, h1, hK, s1⟩ nT
    have hi : i < R.length := by rw [← hzl]; exact (List.getElem?_eq_some_iff.mp hx).1
    obtain ⟨r1, e1, e2⟩ := dpRowsAt hZ hi
    rw [hx] at e1
    cases e1
    have hri : R[i]? = some (row R i) := by
      unfold row
      rw [List.getD_eq_getElem?_getD, List.getElem?_eq_getElem hi]
      rfl
    have hpT : p1 ≠ T := ne_new h1 nT
    have s2 : Same H (upd H' T (.tup [.int (i : Nat), .ref r1])) := s1.trans (same_upd nT)
    have e3 := s2.seq e2
    have hle : (R.take (i + 1)).flatten.length ≤ 2 * xs.length := by
      rw [← hfl]
      have : R.flatten.length = (R.take (i + 1)).flatten.length + (R.drop (i + 1)).flatten.length := by rw [← List.length_append, ← List.flatten_append, List.take_append_drop]
      omega
    rw [flat_take R i _ hri, List.length_append] at hle
    refine w_gt (SqT.of upd_same) rfl ?_
    walk_at "sts"
    refine for_list (xs := iv (row R i)) (fun j σ H'' => ∃ (kvs : List (Key × V)) (y5 y6 : Option V), σ = [some (.ref a), some (.ref b), some (.ref p1), some (.int (i : Nat)), some (.ref r1), y5, y6] ∧ H'' p1 = some (.dK kvs) ∧ Holds kvs ((R.take i).flatten ++ (row R i).take j) (fun d => .int (sideOf R d : Nat)) ∧ Same H H'') ?_ ?_ ?_ ?_
    · exact ⟨kvs, _, _, rfl, by walk_at "hp", by simpa using hK, s2⟩
    · rintro j σ H'' _ ⟨kvs, y5, y6, _, _, _, s3⟩
      exact s3.seq e2
    · rintro j x σ H'' hx ⟨kvs, y5, y6, rfl, h1, hK, s3⟩
      have hj : j < (row R i).length := by
        have := (List.getElem?_eq_some_iff.mp hx).1
        rwa [iv_len] at this
      rw [iv_at hj] at hx
      cases hx
      have hkl : kvs.length < 1000000 := by
        have := hK.1
        rw [List.length_append, List.length_take] at this
        omega
      have hm : (row R i).getD j 0 ∈ row R i := by
        rw [List.getD_eq_getElem?_getD, List.getElem?_eq_getElem hj]
        exact List.getElem_mem hj
      have hside : sideOf R ((row R i).getD j 0) = i := sideOf_at hnd hri hm
      walk_at "sts"
      refine ⟨_, _, _, rfl, upd_same, ?_, s3.mut n1⟩
      rw [take_snoc hj, ← List.append_assoc]
      have := hK.put ((row R i).getD j 0)
      rw [hside] at this
      exact this
    · rintro σ H'' ⟨kvs, y5, y6, rfl, h1, hK, s3⟩
      rw [iv_len, List.take_length, ← flat_take R i _ hri] at hK
      exact ⟨kvs, _, _, _, _, rfl, h1, hK, s3⟩
  · rintro σ H1 ⟨kvs, y3, y4, y5, y6, rfl, h1, hK, s1⟩
    rw [hzl, List.take_length] at hK
    have hS1 := s1.seq hS
    walk_at "sts"
    intro D nD
    have nD0 : New H D := nD.of s1
    refine lc_r0 (n := xs.length) rfl (fun i H' => ∃ ys G, H' D = some (.lst ys) ∧ Same H1 G ∧ Same G H' ∧ New G D ∧ DpAll K G ys (sidesD R i)) ?_ ?_ ?_
    · exact ⟨[], H1, upd_same, Same.refl _, same_upd nD, nD, .nil⟩
    · rintro i H' hi ⟨ys, G, d1, sG, sG', gD, hD⟩
      have hk : H' p1 = some (.dK kvs) := sG' _ _ (sG _ _ h1)
      have hyl : ys.length = i := by have := dpaLen hD; unfold sidesD at this; simpa using this
      have m1 : 2 * i ∈ R.flatten := by rw [hpm.mem_iff, List.mem_range]; omega
      have m2 : 2 * i + 1 ∈ R.flatten := by rw [hpm.mem_iff, List.mem_range]; omega
      have v1 := hK.get m1
      have v2 := hK.get m2
      walk_at "sts"
      refine w_getI (kvs := kvs) hk (v := .int (sideOf R (2 * i) : Nat)) v1 ?_
      walk_at "sts"
      refine w_getI (kvs := kvs) hk (v := .int (sideOf R (2 * i + 1) : Nat)) v2 ?_
      walk_at "sts"
      refine w_new fun t nt => ?_
      have hDt : D ≠ t := ne_new d1 nt
      refine ⟨ys, by walk_at "hp", szlt (by omega), _, upd G t (.tup [.int (sideOf R (2 * i) : Nat), .int (sideOf R (2 * i + 1) : Nat)]), upd_same, sG.trans (same_upd (nt.of sG')), ?_, gD.upd hDt, ?_⟩
      · refine Same.mut ?_ (gD.upd hDt)
        exact (sG'.trans (same_upd nt)).add upd_same
      · unfold sidesD
        rw [List.range_succ, List.map_append]
        exact dpaApp (hD.same (same_upd (nt.of sG'))) (.cons (.tup (SqT.of upd_same) (dpInts [((sideOf R (2 * i) : Nat) : Int), ((sideOf R (2 * i + 1) : Nat) : Int)])) .nil)
    · rintro H2 ⟨ys, G, d1, sG, sG', gD, hD⟩
      exact q D H2 ys G (s1.trans (sG.trans sG')) nD0 d1 (s1.trans sG) sG' gD hD
/-! ### the web -/
structure WebM where
  ts : List Ti
  T : Turns
  R : List (List Nat)
end

section
variable {P : Program} {w : World} {K : PySem.W.Frag} {mg : Str → Option Value} {base : Heap} {C_Pull C_Push : Addr}
def spLaw (K : PySem.W.Frag) : Sp := fun vs H Q _ => ∃ (a : Addr) (ns : List Int), vs = [.ref a] ∧ LsE K H a (ns.map V.int) ∧ ns.length ≤ 63 ∧ (∀ z ∈ ns, Builtin.Int.intBits z ≤ 1048576) ∧ ∀ H', Q (.bl true) H'
end
theorem modN (z : Int) {n : Nat} (h : 0 < n) : ∃ k : Nat, z % (n : Int) = (k : Int) ∧ k < n := by
  have h1 := Int.emod_nonneg z (show (n : Int) ≠ 0 by omega)
  have h2 := Int.emod_lt_of_pos z (show (0 : Int) < n by omega)
  exact ⟨(z % (n : Int)).toNat, by omega, by omega⟩

def dEnd (e : Nat × Nat) : PyData := .tuple ([((e.1 : Nat) : Int), ((e.2 : Nat) : Int)].map PyData.int)
def dEnds (E : EdgL) : PyData := .list (E.map dEnd)
theorem goodEnds (E : EdgL) : Good 2 (dEnds E) := goodLst (goodMap fun e => goodTup (goodMap fun _ => goodInt))
theorem dpEnd {K : PySem.W.Frag} {H : Hp} {v : V} {e : Nat × Nat} (h : Dp K H v (dEnd e)) : ∃ p, v = .ref p ∧ SqT K H p [.int (e.1 : Nat), .int (e.2 : Nat)] := by
  obtain ⟨p, xs, rfl, h1, h2⟩ := dpTup h
  have e2 := dpAll_ints h2
  rw [e2] at h1
  exact ⟨p, rfl, h1⟩
theorem dEndT {K : PySem.W.Frag} {H : Hp} {p : Addr} {a b : Nat} (h : SqT K H p [.int (a : Nat), .int (b : Nat)]) : Dp K H (.ref p) (dEnd (a, b)) := .tup h (dpInts [((a : Nat) : Int), ((b : Nat) : Int)])
theorem dpEndsAt {K : PySem.W.Frag} {H : Hp} {xs : List V} {E : EdgL} (h : DpAll K H xs (E.map dEnd)) {i : Nat} (hi : i < E.length) : ∃ p, xs[i]? = some (.ref p) ∧ SqT K H p [.int ((en E i).1 : Nat), .int ((en E i).2 : Nat)] := by
  obtain ⟨v, h1, h2⟩ := dpaGet (i := i) (d := dEnd (en E i)) h (by
    rw [List.getElem?_map, en, List.getD_eq_getElem?_getD, List.getElem?_eq_getElem hi]
    rfl)
  obtain ⟨p, rfl, h3⟩ := dpEnd h2
  exact ⟨p, h1, h3⟩
theorem iv_put (r : List Nat) (k x : Nat) : (iv r).take k ++ [V.int (x : Int)] ++ (iv r).drop k = iv (putAt r k x) := by
  unfold iv putAt
  simp

/-! ### ties put into both places' lists -/
theorem ok_nil (n : Nat) : Ok [] (List.replicate n []) := by
  have hr : ∀ p, row (List.replicate n []) p = [] := fun p => by
    unfold row
    rw [List.getD_eq_getElem?_getD, List.getElem?_replicate]
    split <;> rfl
  exact ⟨fun i h => absurd h (by simp), fun p _ => by rw [hr]; exact List.nodup_nil, fun p _ i => by rw [hr]; simp⟩
theorem Ok.put {E : EdgL} {T : Turns} (h : Ok E T) {a b k k2 : Nat} (ha : a < T.length) (hb : b < T.length) (hab : a ≠ b) : Ok (E ++ [(a, b)]) ((T.set a (putAt (row T a) k E.length)).set b (putAt (row T b) k2 E.length)) := by
  have hl : ((T.set a (putAt (row T a) k E.length)).set b (putAt (row T b) k2 E.length)).length = T.length := by rw [List.length_set, List.length_set]
  have hr : ∀ p, row ((T.set a (putAt (row T a) k E.length)).set b (putAt (row T b) k2 E.length)) p = if p = b then putAt (row T b) k2 E.length else if p = a then putAt (row T a) k E.length else row T p := fun p => by
    rw [row_set _ _ (by rw [List.length_set]; exact hb), row_set _ _ ha]
  have hen : ∀ i, i < E.length → en (E ++ [(a, b)]) i = en E i := fun i hi => by rw [en_push, if_neg (by omega)]
  have hen2 : en (E ++ [(a, b)]) E.length = (a, b) := by rw [en_push, if_pos rfl]
  have hnot : ∀ p, p < T.length → E.length ∉ row T p := fun p hp z => by have := ((h.mem p hp E.length).mp z).1; omega
  refine ⟨fun i hi => ?_, fun p hp => ?_, fun p hp i => ?_⟩
  · rw [hl]
    by_cases e : i < E.length
    · rw [hen i e]; exact h.ends i e
    · have : i = E.length := by simp at hi; omega
      subst this
      rw [hen2]
      exact ⟨hab, ha, hb⟩
  · rw [hl] at hp
    rw [hr]
    by_cases e : p = b
    · rw [if_pos e]; exact putAt_nodup (h.nd b hb) (hnot b hb)
    · rw [if_neg e]
      by_cases e2 : p = a
      · rw [if_pos e2]; exact putAt_nodup (h.nd a ha) (hnot a ha)
      · rw [if_neg e2]; exact h.nd p hp
  · rw [hl] at hp
    rw [hr]
    have hi1 : i < (E ++ [(a, b)]).length ↔ i < E.length ∨ i = E.length := by simp; omega
    rw [hi1]
    by_cases e : p = b
    · subst e
      rw [if_pos rfl, putAt_mem, h.mem p hb]
      constructor
      · rintro (e1 | ⟨e1, e2⟩)
        · subst e1; rw [hen2]; exact ⟨.inr rfl, .inr rfl⟩
        · rw [hen i e1]; exact ⟨.inl e1, e2⟩
      · rintro ⟨e1 | e1, e2⟩
        · rw [hen i e1] at e2; exact .inr ⟨e1, e2⟩
        · exact .inl e1
    · rw [if_neg e]
      by_cases e3 : p = a
      · subst e3
        rw [if_pos rfl, putAt_mem, h.mem p ha]
        constructor
        · rintro (e1 | ⟨e1, e2⟩)
          · subst e1; rw [hen2]; exact ⟨.inr rfl, .inl rfl⟩
          · rw [hen i e1]; exact ⟨.inl e1, e2⟩
        · rintro ⟨e1 | e1, e2⟩
          · rw [hen i e1] at e2; exact .inr ⟨e1, e2⟩
          · exact .inl e1
      · rw [if_neg e3, h.mem p hp]
        constructor
        · rintro ⟨e1, e2⟩; rw [hen i e1]; exact ⟨.inl e1, e2⟩
        · rintro ⟨e1 | e1, e2⟩
          · rw [hen i e1] at e2; exact ⟨e1, e2⟩
          · subst e1
            rw [hen2] at e2
            rcases e2 with e2 | e2
            · exact absurd e2.symm e3
            · exact absurd e2.symm e
section
variable {P : Program} {w : World} {K : PySem.W.Frag} {mg : Str → Option Value} {base : Heap} {C_Pull C_Push : Addr}
def spCell (K : PySem.W.Frag) : Sp := fun vs H Q _ => ∃ (p : Addr) (ns : List Int) (k : Nat), vs = [.ref p, .int k] ∧ SqL K H p (ns.map V.int) ∧ Q (.int (ns.getD k 0)) H
theorem ok_law_cell {f : Addr} {fd : FuncData} (F : Fun K "_law_cell" "_law_cell" s_law_cell f fd) (gf : mg "_law_cell" = some (.ref f)) (B : Bl mg) {C_Pull C_Push : Addr} (T : Txt K mg C_Pull C_Push) : Has P w K mg base CX0 1 "_law_cell" ["script", "k"] (spCell K) := by
  refine Has.mk' F gf (F.binds (ps := ["script", "k"]) fun _ _ _ _ _ _ us hl => match us, hl with | [_, _], _ => rfl) sc_law_cell (by walk_at "len") (fun cdv A outer s H vs Q E hr h => ?_)
  obtain ⟨p, ns, k, rfl, hp, q⟩ := h
  refine ⟨_, (pss_cons (ps_if (pt_cmpR op_lt (pv 1) (pe_callB (call_lenK K) (by rfl) B.len (by decide +kernel) (pa_cons (pv 0) pa_nil)) (nomark _)) (pss_one (ps_ret (pe_ix (ix_listK K) (pv 0) (pv 1) (fun _ _ => rfl)))) pss_nil)
 (pss_one (ps_ret pe_int))), ?_⟩
  walk_at "sts"
  refine ifd (fun hc => ?_) (fun hc => ?_)
  · rw [List.length_map] at hc
    have e : (ns.map V.int)[k]? = some (.int (ns.getD k 0)) := by
      rw [List.getElem?_map, List.getD_eq_getElem?_getD, List.getElem?_eq_getElem (by omega)]
      rfl
    walk_at "sts"
    exact q
  · rw [List.length_map] at hc
    walk_at "sts"
    rw [List.getD_eq_getElem?_getD, List.getElem?_eq_none (by omega)] at q
    exact q
def spBuilt7 (K : PySem.W.Frag) : Sp := fun vs H Q _ => ∃ (a : Addr) (ns : List Int), vs = [.ref a] ∧ SqL K H a (ns.map V.int) ∧ ns.length ≤ 63 ∧
  ∀ p H' e t E T, Same H H' → New H p → H' p = some (.tup [.ref e, .ref t]) → Dp K H' (.ref e) (dEnds E) → Dp K H' (.ref t) (dRows T) → Ok E T → E.length ≤ 63 → T.length ≤ 40 → Q (.ref p) H'
theorem ok_law_built {f : Addr} {fd : FuncData} (F : Fun K "_law_built" "_law_built" s_law_built f fd) (gf : mg "_law_built" = some (.ref f)) (B : Bl mg) {C_Pull C_Push : Addr} (T : Txt K mg C_Pull C_Push) (h_law_cell : Has P w K mg base CX0 1 "_law_cell" ["script", "k"] (spCell K)) : Has P w K mg base CX0 2 "_law_built" ["script"] (spBuilt7 K) := by
  refine Has.mk' F gf (F.binds (ps := ["script"]) fun _ _ _ _ _ _ us hl => match us, hl with | [_], _ => rfl) sc_law_built (by walk_at "len") (fun cdv A outer s H vs Q E hr h => ?_)
  obtain ⟨a, ns, rfl, hS, hlen, q⟩ := h
  refine ⟨_, (pss_cons (ps_set (i := 1) sc_law_built.nd rfl (.inl rfl) (pe_op op_add pe_int (pe_op op_mod (pe_fn h_law_cell (hr.mono (by decide)) (by rfl) (pa_cons (pv 0) (pa_cons pe_int pa_nil))) pe_int)))
 (pss_cons (ps_set (i := 2) sc_law_built.nd rfl (.inl rfl) (pe_lst pa_nil))
 (pss_cons (ps_setLc (i := 3) (own := [("k", 9)]) rfl sc_law_built.nd rfl rfl (sw_true rfl rfl rfl (by decide +kernel)) (pi_range1 (by rfl) B.range (pa_cons (pv 1) pa_nil)) (blkOk_by (own := [("k", 9)]) (N := ["script", "many", "ends", "turns", "cell", "mixed", "one", "two", "row", "k"]) (sc := defScope s_law_built) (by decide +kernel)) (fun _ _ _ _ _ => pg_name (i := 9) sc_law_built.nd rfl (Or.inl rfl)) (fun _ _ _ _ _ => pts_nil) (fun _ _ _ _ _ => (pe_lst pa_nil)))
 (pss_cons (ps_for PassesOwn.never rfl (pi_listK K (pe_slice (sl_listK K) (pv 0) (po_some pe_int) (po_some pe_int))) (pg_name (i := 4) sc_law_built.nd rfl (.inl rfl)) (pss_cons (ps_set (i := 5) sc_law_built.nd rfl (.inl rfl) (pe_op op_mod (pe_op op_mulX (pe_op op_mod (pv 4) pe_int) pe_int) pe_int))
 (pss_cons (ps_set (i := 6) sc_law_built.nd rfl (.inl rfl) (pe_op op_mod (pv 5) (pv 1)))
 (pss_cons (ps_set (i := 5) sc_law_built.nd rfl (.inl rfl) (pe_op op_fdivW (pv 5) (pv 1)))
 (pss_cons (ps_set (i := 7) sc_law_built.nd rfl (.inl rfl) (pe_op op_mod (pe_op op_add (pe_op op_add (pv 6) pe_int) (pe_op op_mod (pv 5) (pe_op op_sub (pv 1) pe_int))) (pv 1)))
 (pss_cons (ps_set (i := 5) sc_law_built.nd rfl (.inl rfl) (pe_op op_fdivW (pv 5) (pe_op op_sub (pv 1) pe_int)))
 (pss_cons (ps_set (i := 8) sc_law_built.nd rfl (.inl rfl) (pe_ix (ix_listK K) (pv 3) (pv 6) (fun _ _ => rfl)))
 (pss_cons (ps_expr (pe_bmK K (pe_bm PySem.F.plainAttrs_list PySem.F.slot_list_insert PySem.F.type_list_insert mt_insert (pv 8) (pa_cons (pe_op op_mod (pv 5) (pe_op op_add (pe_callB (call_lenK K) (by rfl) B.len (by decide +kernel) (pa_cons (pv 8) pa_nil)) pe_int)) (pa_cons (pe_callB (call_lenK K) (by rfl) B.len (by decide +kernel) (pa_cons (pv 2) pa_nil)) pa_nil)))))
 (pss_cons (ps_set (i := 5) sc_law_built.nd rfl (.inl rfl) (pe_op op_fdivW (pv 5) (pe_callB (call_lenK K) (by rfl) B.len (by decide +kernel) (pa_cons (pv 8) pa_nil))))
 (pss_cons (ps_set (i := 8) sc_law_built.nd rfl (.inl rfl) (pe_ix (ix_listK K) (pv 3) (pv 7) (fun _ _ => rfl)))
 (pss_cons (ps_expr (pe_bmK K (pe_bm PySem.F.plainAttrs_list PySem.F.slot_list_insert PySem.F.type_list_insert mt_insert (pv 8) (pa_cons (pe_op op_mod (pv 5) (pe_op op_add (pe_callB (call_lenK K) (by rfl) B.len (by decide +kernel) (pa_cons (pv 8) pa_nil)) pe_int)) (pa_cons (pe_callB (call_lenK K) (by rfl) B.len (by decide +kernel) (pa_cons (pv 2) pa_nil)) pa_nil)))))
 (pss_one (ps_expr (pe_bmK K (pe_bm PySem.F.plainAttrs_list PySem.F.slot_list_append PySem.F.type_list_append mt_append (pv 2) (pa_cons (pe_tup (pa_cons (pv 6) (pa_cons (pv 7) pa_nil))) pa_nil))))))))))))))))
 (pss_one (ps_ret (pe_tup (pa_cons (pv 2) (pa_cons (pv 3) pa_nil))))))))), ?_⟩
  walk_at "sts"
  refine ⟨a, ns, 0, rfl, hS, ?_⟩
  generalize ns.getD 0 0 = z0
  walk_at "sts"
  obtain ⟨n, hn, hn1, hn2⟩ : ∃ n : Nat, 2 + z0 % 39 = (n : Int) ∧ 2 ≤ n ∧ n ≤ 40 := ⟨(2 + z0 % 39).toNat, by omega, by omega, by omega⟩
  rw [hn]
  walk_at "sts"
  refine w_new fun p2 n2 => ?_
  have s2 := same_upd (o := .lst []) n2
  have l2 : upd H p2 (.lst []) p2 = some (.lst []) := upd_same
  generalize upd H p2 (.lst []) = H2 at s2 l2 ⊢
  walk_at "sts"
  intro p5 n5
  refine lc_r0 (n := n) rfl (fun i H' => ∃ qs : List Addr, LL H' p5 qs (List.replicate i []) ∧ Same H2 H' ∧ ∀ q ∈ qs, New H2 q) ?_ ?_ ?_
  · exact ⟨[], ⟨upd_same, rfl, List.nodup_nil, fun i q hq => by simp at hq, by simp⟩, same_upd n5, fun q hq => absurd hq (by simp)⟩
  · rintro i H' hi ⟨qs, hL, g1, g2⟩
    have hql := hL.len
    rw [List.length_replicate] at hql
    walk_at "sts"
    refine w_new fun qn nq => ?_
    have hqn : qn ∉ qs := fun z => by
      obtain ⟨k, hk, e⟩ := List.mem_iff_getElem.mp z
      exact ne_new (hL.row k qn (by rw [List.getElem?_eq_getElem hk, e])) nq rfl
    have hqn2 : qn ≠ p5 := Ne.symm (ne_new hL.top nq)
    have LP := (hL.same (same_upd (o := .lst []) nq)).push (r := []) (q := qn) (by rw [upd_same]; rfl) hqn hqn2
    refine ⟨qs.map V.ref, by rw [upd_ne (Ne.symm hqn2)]; exact hL.top, szlt (by rw [List.length_map]; omega), qs ++ [qn], ?_, (g1.trans (same_upd nq)).mut n5, fun z hz => ?_⟩
    · rw [List.map_append] at LP
      rw [List.replicate_succ']
      exact LP
    · rcases List.mem_append.mp hz with hz | hz
      · exact g2 z hz
      · rw [List.mem_singleton.mp hz]; exact nq.of g1
  rintro H3 ⟨qs0, hL3, s3, hq3⟩
  have l3 := s3 _ _ l2
  have hd3 : p2 ≠ p5 := ne_new l2 n5
  have hS3 := (s2.trans s3).seq hS
  walk_at "sts"
  refine w_new fun pc nc => ?_
  have ec : cutV (ns.map V.int) (some 1) (some 81) = ((ns.drop 1).take 80).map V.int := by
    rw [show (some (1 : Int)) = some ((1 : Nat) : Int) from rfl, show (some (81 : Int)) = some ((81 : Nat) : Int) from rfl, cutV_nat, List.map_take, List.map_drop]
  rw [ec]
  have hcl : ((ns.drop 1).take 80).length ≤ 63 := by rw [List.length_take, List.length_drop]; omega
  generalize (ns.drop 1).take 80 = cs at hcl ⊢
  have sc := same_upd (o := .lst (cs.map V.int)) nc
  have lc : upd H3 pc (.lst (cs.map V.int)) pc = some (.lst (cs.map V.int)) := upd_same
  have l4 := sc _ _ l3
  have hL4 := hL3.same sc
  have hpc2 : pc ≠ p2 := Ne.symm (ne_new l3 nc)
  have hpc5 : pc ≠ p5 := Ne.symm (ne_new hL3.top nc)
  generalize upd H3 pc (.lst (cs.map V.int)) = H4 at sc lc l4 hL4 ⊢
  have lcS := SqL.of (K := K) lc
  have m2 : New H p2 := n2
  have m5 : New H p5 := n5.of s2
  have mq : ∀ q ∈ qs0, New H q := fun q hq => (hq3 q hq).of s2
  have s04 : Same H H4 := (s2.trans s3).trans sc
  have mcq : pc ∉ qs0 := fun z => by
    obtain ⟨k, hk, e⟩ := List.mem_iff_getElem.mp z
    exact ne_new (hL3.row k pc (by rw [List.getElem?_eq_getElem hk, e])) nc rfl
  have m2q : p2 ∉ qs0 := fun z => by have := hq3 p2 z; rw [New, l2] at this; cases this
  clear hL3
  walk_at "sts"
  refine for_list (xs := cs.map V.int) (fun i σ H' => ∃ (E' : EdgL) (Tu : Turns) (xs : List V) (G : Hp) (y4 y5 y6 y7 y8 y9 : Option V), σ = [some (.ref a), some (.int (n : Nat)), some (.ref p2), some (.ref p5), y4, y5, y6, y7, y8, y9] ∧ Ok E' Tu ∧ E'.length = i ∧ Tu.length = n ∧
    H' p2 = some (.lst xs) ∧ DpAll K G xs (E'.map dEnd) ∧ LL H' p5 qs0 Tu ∧ Same H G ∧ Same G H' ∧ G pc = some (.lst (cs.map V.int)) ∧ New G p2 ∧ New G p5 ∧ ∀ q ∈ qs0, New G q) ?_ ?_ ?_ ?_
  · refine ⟨[], List.replicate n [], [], upd H pc (.lst (cs.map V.int)), _, _, _, _, _, _, rfl, ok_nil n, rfl, List.length_replicate, l4, .nil, hL4, same_upd (nc.of (s2.trans s3)), s04.add lc, upd_same, m2.upd (Ne.symm hpc2), m5.upd (Ne.symm hpc5), fun q hq => (mq q hq).upd (fun e => mcq (e ▸ hq))⟩
  · rintro i σ H' _ ⟨_, _, _, _, _, _, _, _, _, _, _, _, _, _, _, _, _, _, g, gc, _⟩
    exact SqL.of (g _ _ gc)
  · rintro i v σ H' hv ⟨E', Tu, xs, G, y4, y5, y6, y7, y8, y9, rfl, ok, hEl, hTl, e1, e2, hL, sG, sG', gc, g1, g2, g3⟩
    have hi : i < cs.length := by have := (List.getElem?_eq_some_iff.mp hv).1; simpa using this
    rw [List.getElem?_map, List.getElem?_eq_getElem hi] at hv
    cases hv
    generalize cs[i] = c
    have hxl : xs.length = i := by have := dpaLen e2; simp at this; omega
    obtain ⟨M, hM, hM2⟩ : ∃ M : Nat, c % 1000000007 * 48271 % 2147483647 = (M : Int) ∧ M < 2147483647 := ⟨(c % 1000000007 * 48271 % 2147483647).toNat, by omega, by omega⟩
    obtain ⟨a0, ha, ha2⟩ := modN (M : Int) (show 0 < n by omega)
    have eM1 : (M : Int) / (n : Int) = ((M / n : Nat) : Int) := rfl
    have hM1 : M / n < 2147483647 := Nat.lt_of_le_of_lt (Nat.div_le_self _ _) hM2
    obtain ⟨r0, hr, hr2⟩ := modN ((M / n : Nat) : Int) (show 0 < n - 1 by omega)
    have en1 : (n : Int) - 1 = ((n - 1 : Nat) : Int) := by omega
    have eM2 : ((M / n : Nat) : Int) / ((n - 1 : Nat) : Int) = ((M / n / (n - 1) : Nat) : Int) := rfl
    have hM2' : M / n / (n - 1) < 2147483647 := Nat.lt_of_le_of_lt (Nat.div_le_self _ _) hM1
    walk_at "sts"
    rw [hM]
    walk_at "sts"
    rw [ha, eM1, en1]
    obtain ⟨b0, hb, hb2, hab⟩ : ∃ b0 : Nat, ((a0 : Int) + 1 + (r0 : Int)) % (n : Int) = (b0 : Int) ∧ b0 < n ∧ a0 ≠ b0 := by
      by_cases h1 : a0 + 1 + r0 < n
      · exact ⟨a0 + 1 + r0, by rw [Int.emod_eq_of_lt (by omega) (by omega)]; omega, h1, by omega⟩
      · refine ⟨a0 + 1 + r0 - n, ?_, by omega, by omega⟩
        rw [show (a0 : Int) + 1 + (r0 : Int) = ((a0 + 1 + r0 - n : Nat) : Int) + (n : Int) by omega, Int.add_emod_right, Int.emod_eq_of_lt (by omega) (by omega)]
    walk_at "sts"
    rw [hr, hb, eM2]
    have ea : a0 < Tu.length := by omega
    have eb : b0 < Tu.length := by omega
    obtain ⟨q1, f1, f2, f3⟩ := hL.get ea
    obtain ⟨q2, f4, f5, f6⟩ := hL.get eb
    have htop := SqL.of (K := K) hL.top
    have rl : ∀ p, p < Tu.length → (row Tu p).length ≤ E'.length := fun p hp' => by
      have := nodup_sub_len (ys := List.range E'.length) (ok.nd p hp') fun z hz => List.mem_range.mpr ((ok.mem p hp' z).mp hz).1
      simpa using this
    have hrl := rl _ ea
    have hrl2 := rl _ eb
    have q12 : q1 ≠ q2 := fun e => by
      subst e
      have := nd_ix hL.nd f1 f4
      exact hab this
    have hq1 : q1 ∈ qs0 := List.mem_of_getElem? f1
    have hq2 : q2 ∈ qs0 := List.mem_of_getElem? f4
    have f3S := SqL.of (K := K) f3
    have e1S := SqL.of (K := K) e1
    have hsl : (iv (row Tu a0)).length < sizeLine := szlt (by rw [iv_len]; omega)
    have hsl2 : (iv (row Tu b0)).length < sizeLine := szlt (by rw [iv_len]; omega)
    generalize M / n / (n - 1) = M2 at hM2' ⊢
    obtain ⟨k, hk, hk2⟩ := modN (M2 : Int) (show 0 < (row Tu a0).length + 1 by omega)
    have hk' : (M2 : Int) % ((((iv (row Tu a0)).length : Nat) : Int) + 1) = (k : Int) := by rw [iv_len, ← hk]; rfl
    walk_at "sts"
    rw [hk']
    have hxE : xs.length = E'.length := by omega
    have ep : List.take (Int.toNat (k : Int)) (iv (row Tu a0)) ++ [V.int (xs.length : Int)] ++ List.drop (Int.toNat (k : Int)) (iv (row Tu a0)) = iv (putAt (row Tu a0) k E'.length) := by
      rw [hxE]; exact iv_put _ _ _
    rw [ep]
    have hL3 := hL.set ea f1 (putAt (row Tu a0) k E'.length)
    have s5 : Same G (upd H' q1 (.lst (iv (putAt (row Tu a0) k E'.length)))) := sG'.mut (g3 q1 hq1)
    have d21 : p2 ≠ q1 := fun e => by have := g3 q1 hq1; subst e; exact m2q hq1
    have e5 : upd H' q1 (.lst (iv (putAt (row Tu a0) k E'.length))) p2 = some (.lst xs) := (upd_ne d21).trans e1
    have f5' : upd H' q1 (.lst (iv (putAt (row Tu a0) k E'.length))) q2 = some (.lst (iv (row Tu b0))) := (upd_ne (Ne.symm q12)).trans f6
    have f1' : upd H' q1 (.lst (iv (putAt (row Tu a0) k E'.length))) q1 = some (.lst (iv (putAt (row Tu a0) k E'.length))) := upd_same
    generalize upd H' q1 (.lst (iv (putAt (row Tu a0) k E'.length))) = H5 at hL3 s5 e5 f5' f1' ⊢
    have hpl : (putAt (row Tu a0) k E'.length).length = (row Tu a0).length + 1 := putAt_len _ _ _
    have htop5 := SqL.of (K := K) hL3.top
    have f5S := SqL.of (K := K) f5'
    have e5S := SqL.of (K := K) e5
    obtain ⟨M3, hM3⟩ : ∃ M3 : Nat, (M2 : Int) / (((row Tu a0).length + 1 : Nat) : Int) = (M3 : Int) := ⟨M2 / ((row Tu a0).length + 1), rfl⟩
    have hM3b : M3 < 2147483647 := by
      have : M3 = M2 / ((row Tu a0).length + 1) := by have : ((M2 / ((row Tu a0).length + 1) : Nat) : Int) = (M3 : Int) := hM3; omega
      rw [this]
      exact Nat.lt_of_le_of_lt (Nat.div_le_self _ _) hM2'
    obtain ⟨k2, hk2e, hk2b⟩ := modN (M3 : Int) (show 0 < (row Tu b0).length + 1 by omega)
    have hk2' : (M3 : Int) % ((((iv (row Tu b0)).length : Nat) : Int) + 1) = (k2 : Int) := by rw [iv_len, ← hk2e]; rfl
    rw [iv_len, hpl]
    walk_at "sts"
    rw [hM3]
    walk_at "sts"
    rw [hk2']
    have ep2 : List.take (Int.toNat (k2 : Int)) (iv (row Tu b0)) ++ [V.int (xs.length : Int)] ++ List.drop (Int.toNat (k2 : Int)) (iv (row Tu b0)) = iv (putAt (row Tu b0) k2 E'.length) := by
      rw [hxE]; exact iv_put _ _ _
    rw [ep2]
    have hL6 := hL3.set (i := b0) (by rw [List.length_set]; exact eb) f4 (putAt (row Tu b0) k2 E'.length)
    have s6 : Same G (upd H5 q2 (.lst (iv (putAt (row Tu b0) k2 E'.length)))) := s5.mut (g3 q2 hq2)
    have d22 : p2 ≠ q2 := fun e => by subst e; exact m2q hq2
    have e6 : upd H5 q2 (.lst (iv (putAt (row Tu b0) k2 E'.length))) p2 = some (.lst xs) := (upd_ne d22).trans e5
    generalize upd H5 q2 (.lst (iv (putAt (row Tu b0) k2 E'.length))) = H6 at hL6 s6 e6 ⊢
    have hok := ok.put (k := k) (k2 := k2) ea eb hab
    have hxsz : xs.length < sizeLine := szlt (by omega)
    walk_at "sts"
    refine w_new fun t nt => ?_
    have h2t : p2 ≠ t := ne_new e6 nt
    have h5t : p5 ≠ t := ne_new hL6.top nt
    have hLt := hL6.same (same_upd (o := .tup [.int (a0 : Nat), .int (b0 : Nat)]) nt)
    walk_at "sts"
    refine ⟨E' ++ [(a0, b0)], _, xs ++ [.ref t], upd G t (.tup [.int (a0 : Nat), .int (b0 : Nat)]), _, _, _, _, _, _, rfl, hok, by simp [hEl], by simp [hTl], upd_same, ?_, ?_, sG.trans (same_upd (nt.of s6)), ?_, ?_, g1.upd h2t, g2.upd h5t, ?_⟩
    · rw [List.map_append]
      refine dpaApp (e2.same (same_upd (nt.of s6))) (.cons ?_ .nil)
      exact dEndT (SqT.of upd_same)
    · refine ⟨?_, hLt.len, hLt.nd, fun k hk => ?_, hLt.ne⟩
      · rw [upd_ne (Ne.symm hd3)]
        exact hLt.top
      · intro hkk
        rw [upd_ne (fun e => m2q (by rw [← e]; exact List.mem_of_getElem? hkk))]
        exact hLt.row k hk hkk
    · exact Same.mut ((s6.trans (same_upd nt)).add upd_same) (g1.upd h2t)
    · exact (same_upd (nt.of s6)) _ _ gc
    · intro z hz
      refine (g3 z hz).upd (fun e => ?_)
      obtain ⟨k, hk, e'⟩ := List.mem_iff_getElem.mp hz
      exact ne_new (hL6.row k z (by rw [List.getElem?_eq_getElem hk, e'])) nt e
  · rintro σ H' ⟨E', Tu, xs, G, y4, y5, y6, y7, y8, y9, rfl, ok, hEl, hTl, e1, e2, hL, sG, sG', gc, g1, g2, g3⟩
    rw [List.length_map] at hEl
    walk_at "sts"
    refine w_new fun p np => ?_
    have sN := same_upd (o := .tup [.ref p2, .ref p5]) np
    exact q p _ p2 p5 E' Tu ((sG.trans sG').trans sN) (np.of (sG.trans sG')) upd_same (.lst (SqL.of (sN _ _ e1)) (e2.same (sG'.trans sN))) (hL.same sN).dp ok (by omega) (by omega)
end

section
variable {P : Program} {w : World} {K : PySem.W.Frag} {mg : Str → Option Value} {base : Heap} {C_Pull C_Push : Addr}
def spIsInt : Sp := fun vs H Q _ => ∃ i : Int, vs = [.int i] ∧ Q (.bl true) H
theorem ok_law_number {f : Addr} {fd : FuncData} (F : Fun K "_law_number" "_law_number" s_law_number f fd) (gf : mg "_law_number" = some (.ref f)) (B : Bl mg) {C_Pull C_Push : Addr} (T : Txt K mg C_Pull C_Push) : Has P w K mg base CX0 1 "_law_number" ["found"] spIsInt := by
  refine Has.mk' F gf (F.binds (ps := ["found"]) fun _ _ _ _ _ _ us hl => match us, hl with | [_], _ => rfl) sc_law_number (by walk_at "len") (fun cdv A outer s H vs Q E hr h => ?_)
  obtain ⟨i, rfl, q⟩ := h
  refine ⟨_, (pss_one (ps_ret (pe_and (pe_callB (call_isiK' K) (by rfl) B.isinstance (by decide +kernel) (pa_cons (pv 0) (pa_cons (pe_bltn (v := .ty "int") (by rfl) B.int (by decide +kernel) rfl) pa_nil))) (pe_one (pe_not (pe_callB (call_isiK' K) (by rfl) B.isinstance (by decide +kernel) (pa_cons (pv 0) (pa_cons (pe_bltn (v := .ty "bool") (by rfl) B.bool (by decide +kernel) rfl) pa_nil)))))))), ?_⟩
  walk_at "sts"
  exact q
end

section
variable {P : Program} {w : World} {K : PySem.W.Frag} {mg : Str → Option Value} {base : Heap} {C_Pull C_Push : Addr}
def tsOf (E : EdgL) (i : Nat) : List Ti := (List.range i).map fun j => ⟨decide (((en E j).1 + j) % 2 = 1), (en E j).1, (en E j).2, if ((en E j).1 + j) % 2 = 1 then j else 7⟩
theorem tsOf_ends (E : EdgL) : endsOf (tsOf E E.length) = E := by
  have h : endsOf (tsOf E E.length) = (List.range E.length).map fun j => en E j := by unfold endsOf tsOf; rw [List.map_map]; rfl
  rw [h]
  refine List.ext_getElem (by simp) fun i h1 h2 => ?_
  rw [List.getElem_map, List.getElem_range]
  unfold en
  rw [List.getD_eq_getElem?_getD, List.getElem?_eq_getElem h2]
  rfl
def spTies7 (K : PySem.W.Frag) (CP CQ : Addr) : Sp := fun vs H Q _ => ∃ (e : Addr) (E : EdgL), vs = [.ref e] ∧ Dp K H (.ref e) (dEnds E) ∧ (∀ i, i < E.length → (en E i).1 ≠ (en E i).2) ∧ E.length ≤ 1000 ∧
  ∀ p H' ts, Same H H' → New H p → TiesAt K CP CQ H' p ts → endsOf ts = E → Q (.ref p) H'
theorem ok_law_ties {f : Addr} {fd : FuncData} (F : Fun K "_law_ties" "_law_ties" s_law_ties f fd) (gf : mg "_law_ties" = some (.ref f)) (B : Bl mg) {C_Pull C_Push : Addr} (T : Txt K mg C_Pull C_Push) (h_mk_Push : HasMk P w K mg base CX0 1 "Push" C_Push ["self", "one", "two", "strength"] (spTInit C_Pull C_Push)) (h_mk_Pull : HasMk P w K mg base CX0 1 "Pull" C_Pull ["self", "one", "two", "strength"] (spTInit C_Pull C_Push)) : Has P w K mg base CX0 3 "_law_ties" ["ends"] (spTies7 K C_Pull C_Push) := by
  refine Has.mk' F gf (F.binds (ps := ["ends"]) fun _ _ _ _ _ _ us hl => match us, hl with | [_], _ => rfl) sc_law_ties (by walk_at "len") (fun cdv A outer s H vs Q E hr h => ?_)
  obtain ⟨e, E', rfl, hE, hne0, hsz, q⟩ := h
  obtain ⟨es, he, hEs⟩ := dpLstA hE
  have hel : es.length = E'.length := by have := dpaLen hEs; simpa using this
  refine ⟨_, (pss_cons (ps_set (i := 1) sc_law_ties.nd rfl (.inl rfl) (pe_lst pa_nil))
 (pss_cons (ps_for PassesOwn.never rfl (pi_range1 (by rfl) B.range (pa_cons (pe_callB (call_lenK K) (by rfl) B.len (by decide +kernel) (pa_cons (pv 0) pa_nil)) pa_nil)) (pg_name (i := 2) sc_law_ties.nd rfl (.inl rfl)) (pss_one (ps_if (pt_cmpR op_eq (pe_op op_mod (pe_op op_add (pe_ix (ix_tupK K) (pe_ix (ix_listK K) (pv 0) (pv 2) (fun _ _ => rfl)) pe_int (fun _ _ => rfl)) (pv 2)) pe_int) pe_int (nomark _)) (pss_one (ps_expr (pe_bmK K (pe_bm PySem.F.plainAttrs_list PySem.F.slot_list_append PySem.F.type_list_append mt_append (pv 1) (pa_cons (pe_mk h_mk_Push (hr.mono (by decide)) (by rfl) (pa_cons (pe_ix (ix_tupK K) (pe_ix (ix_listK K) (pv 0) (pv 2) (fun _ _ => rfl)) pe_int (fun _ _ => rfl)) (pa_cons (pe_ix (ix_tupK K) (pe_ix (ix_listK K) (pv 0) (pv 2) (fun _ _ => rfl)) pe_int (fun _ _ => rfl)) (pa_cons (pv 2) pa_nil)))) pa_nil))))) (pss_one (ps_expr (pe_bmK K (pe_bm PySem.F.plainAttrs_list PySem.F.slot_list_append PySem.F.type_list_append mt_append (pv 1) (pa_cons (pe_mk h_mk_Pull (hr.mono (by decide)) (by rfl) (pa_cons (pe_ix (ix_tupK K) (pe_ix (ix_listK K) (pv 0) (pv 2) (fun _ _ => rfl)) pe_int (fun _ _ => rfl)) (pa_cons (pe_ix (ix_tupK K) (pe_ix (ix_listK K) (pv 0) (pv 2) (fun _ _ => rfl)) pe_int (fun _ _ => rfl)) (pa_cons pe_int pa_nil)))) pa_nil))))))))
 (pss_one (ps_ret (pv 1))))), ?_⟩
  walk_at "sts"
  refine w_new fun pL nL => ?_
  walk_at "sts"
  refine for_r0 (n := E'.length) ?_ (fun i σ' H' => ∃ (y2 : Option V) (ps : List Addr), σ' = [some (.ref e), some (.ref pL), y2] ∧ Same H H' ∧ H' pL = some (.lst (ps.map V.ref)) ∧ TiesIn C_Pull C_Push H' ps (tsOf E' i)) ?_ ?_ ?_
  · rw [hel]
  · exact ⟨_, [], rfl, same_upd nL, upd_same, .nil⟩
  · rintro i σ' H' hi ⟨y2, ps, rfl, s1, l1, t1⟩
    have hpl : ps.length = i := by have := t1.1; unfold tsOf at this; simpa using this
    obtain ⟨p0, b1, b2⟩ := dpEndsAt hEs hi
    have he' := s1.seq he
    have b2' := same_read s1 b2
    have hne := hne0 i hi
    have htk : tsOf E' (i + 1) = tsOf E' i ++ [⟨decide (((en E' i).1 + i) % 2 = 1), (en E' i).1, (en E' i).2, if ((en E' i).1 + i) % 2 = 1 then i else 7⟩] := by unfold tsOf; rw [List.range_succ, List.map_append]; rfl
    have hsl : (ps.map V.ref).length < sizeLine := szlt (by rw [List.length_map]; omega)
    rw [htk]
    clear htk
    have fin : ∀ (x dx : Addr) (t : Ti), New H' x → New H' dx → dx ≠ x → ∃ (ps' : List Addr), ps.map V.ref ++ [V.ref x] = ps'.map V.ref ∧ pL ≠ x ∧ Same H (upd (upd (upd H' dx (.own x)) x (.ins (clsOf C_Pull C_Push t.push) dx (tf t.one t.two t.s))) pL (.lst (ps.map V.ref ++ [.ref x]))) ∧
        upd (upd H' dx (.own x)) x (.ins (clsOf C_Pull C_Push t.push) dx (tf t.one t.two t.s)) pL = some (.lst (ps.map V.ref)) ∧ TiesIn C_Pull C_Push (upd (upd (upd H' dx (.own x)) x (.ins (clsOf C_Pull C_Push t.push) dx (tf t.one t.two t.s))) pL (.lst (ps.map V.ref ++ [.ref x]))) ps' (tsOf E' i ++ [t]) := by
      rintro x dx t nx nd hxd
      have sm : Same H' (upd (upd H' dx (.own x)) x (.ins (clsOf C_Pull C_Push t.push) dx (tf t.one t.two t.s))) := made_same nx nd hxd
      have l2 := sm _ _ l1
      exact ⟨ps ++ [x], by simp, ne_new l1 nx, (s1.trans sm).mut nL, l2, ((t1.same sm).push ⟨dx, upd_same⟩).lst l2⟩
    walk_at "sts"
    refine ifd (fun hc => ?_) (fun hc => ?_)
    · have hm : ((en E' i).1 + i) % 2 = 1 := by omega
      rw [decide_eq_true hm, if_pos hm]
      walk_at "sts"
      intro x dx nx nd hxd
      refine ⟨x, dx, ⟨true, (en E' i).1, (en E' i).2, i⟩, rfl, upd_same, hne, ?_⟩
      rw [upd_upd]
      obtain ⟨ps', f1, f2, f3, f4, f5⟩ := fin x dx ⟨true, (en E' i).1, (en E' i).2, i⟩ nx nd hxd
      refine ⟨rfl, ?_⟩
      walk_at "sts"
      rw [f1] at f3 f5 ⊢
      exact ⟨_, ps', rfl, f3, upd_same, f5⟩
    · have hm : ¬ ((en E' i).1 + i) % 2 = 1 := by omega
      rw [decide_eq_false hm, if_neg hm]
      walk_at "sts"
      intro x dx nx nd hxd
      refine ⟨x, dx, ⟨false, (en E' i).1, (en E' i).2, 7⟩, rfl, upd_same, hne, ?_⟩
      rw [upd_upd]
      obtain ⟨ps', f1, f2, f3, f4, f5⟩ := fin x dx ⟨false, (en E' i).1, (en E' i).2, 7⟩ nx nd hxd
      refine ⟨rfl, ?_⟩
      walk_at "sts"
      rw [f1] at f3 f5 ⊢
      exact ⟨_, ps', rfl, f3, upd_same, f5⟩
  · rintro σ' H1 ⟨y2, ps, rfl, s1, l1, t1⟩
    walk_at "sts"
    exact q pL H1 _ s1 nL ⟨ps, SqL.of l1, t1⟩ (tsOf_ends E')
def spLFol (K : PySem.W.Frag) : Sp := fun vs H Q _ => ∃ (a b : Addr) (d : Nat) (E : EdgL) (T : Turns), vs = [.ref a, .ref b, .int d] ∧ Dp K H (.ref a) (dEnds E) ∧ Dp K H (.ref b) (dRows T) ∧ Ok E T ∧ d < 2 * E.length ∧ E.length ≤ 1000 ∧ Q (.int (fol E T d : Nat)) H
theorem ok_law_behind {f : Addr} {fd : FuncData} (F : Fun K "_law_behind" "_law_behind" s_law_behind f fd) (gf : mg "_law_behind" = some (.ref f)) (B : Bl mg) {C_Pull C_Push : Addr} (T : Txt K mg C_Pull C_Push) : Has P w K mg base CX0 1 "_law_behind" ["ends", "turns", "dart"] (spLFol K) := by
  refine Has.mk' F gf (F.binds (ps := ["ends", "turns", "dart"]) fun _ _ _ _ _ _ us hl => match us, hl with | [_, _, _], _ => rfl) sc_law_behind (by walk_at "len") (fun cdv A outer s H vs Q E hr h => ?_)
  obtain ⟨a, b, d, E', Tu, rfl, hE, hTu, ok, hd', hsz, q⟩ := h
  obtain ⟨es, he, hEE⟩ := dpLstA hE
  obtain ⟨xs, hx, hX⟩ := dpLstA hTu
  obtain ⟨rq, hr1, hr2⟩ := dpRowsAt hX (ok.hd_lt hd')
  have hm := ok.hd_mem hd'
  have hnd := ok.nd _ (ok.hd_lt hd')
  obtain ⟨hj, hjo⟩ := ok.nxt_mem' hd'
  obtain ⟨p, h1, h2⟩ := dpEndsAt hEE hj
  obtain ⟨p0, h3, h4⟩ := dpEndsAt hEE (i := d / 2) (by omega)
  unfold fol outOf at q
  have hl0 : 0 < (row Tu (hd E' d)).length := List.length_pos_of_mem hm
  have e : atI [V.int ((en E' (d / 2)).1 : Nat), .int ((en E' (d / 2)).2 : Nat)] (1 - (d : Int) % 2) = some (.int (hd E' d : Nat)) := by
    unfold hd
    by_cases hm : d % 2 = 0
    · rw [if_pos hm, show (1 - (d : Int) % 2) = ((1 : Nat) : Int) by omega]; exact atI_nat rfl
    · rw [if_neg hm, show (1 - (d : Int) % 2) = ((0 : Nat) : Int) by omega]; exact atI_nat rfl
  have ed : (d : Int) / 2 = ((d / 2 : Nat) : Int) := rfl
  have hidx : (row Tu (hd E' d)).idxOf (d / 2) < (row Tu (hd E' d)).length := List.idxOf_lt_length_of_mem hm
  have hrl : (row Tu (hd E' d)).length ≤ E'.length := by
    have := nodup_sub_len (ys := List.range E'.length) hnd fun z hz => List.mem_range.mpr ((ok.mem _ (ok.hd_lt hd') z).mp hz).1
    simpa using this
  have hix : (row Tu (hd E' d)).getD (((row Tu (hd E' d)).idxOf (d / 2) + 1) % (row Tu (hd E' d)).length) 0 = nxt (row Tu (hd E' d)) (d / 2) := rfl
  generalize row Tu (hd E' d) = r at hr2 hnd hl0 hidx hrl hix hj hjo h1 h2 q
  refine ⟨_, (pss_cons (ps_set (i := 3) sc_law_behind.nd rfl (.inl rfl) (pe_ix (ix_tupK K) (pe_ix (ix_listK K) (pv 0) (pe_op op_fdivW (pv 2) pe_int) (fun _ _ => rfl)) (pe_op op_sub pe_int (pe_op op_mod (pv 2) pe_int)) (fun _ _ => rfl)))
 (pss_cons (ps_set (i := 4) sc_law_behind.nd rfl (.inl rfl) (pe_ix (ix_listK K) (pv 1) (pv 3) (fun _ _ => rfl)))
 (pss_cons (ps_set (i := 5) sc_law_behind.nd rfl (.inl rfl) pe_int)
 (pss_cons (ps_while PassesOwn.never (pt_cmpR op_ne (pe_ix (ix_listK K) (pv 4) (pv 5) (fun _ _ => rfl)) (pe_op op_fdivW (pv 2) pe_int) (nomark _)) (pss_one (ps_set (i := 5) sc_law_behind.nd rfl (.inl rfl) (pe_op op_add (pv 5) pe_int))))
 (pss_cons (ps_set (i := 6) sc_law_behind.nd rfl (.inl rfl) (pe_ix (ix_listK K) (pv 4) (pe_op op_mod (pe_op op_add (pv 5) pe_int) (pe_callB (call_lenK K) (by rfl) B.len (by decide +kernel) (pa_cons (pv 4) pa_nil))) (fun _ _ => rfl)))
 (pss_cons (ps_if (pt_cmpR op_eq (pe_ix (ix_tupK K) (pe_ix (ix_listK K) (pv 0) (pv 6) (fun _ _ => rfl)) pe_int (fun _ _ => rfl)) (pv 3) (nomark _)) (pss_one (ps_ret (pe_op op_mulX pe_int (pv 6)))) pss_nil)
 (pss_one (ps_ret (pe_op op_add (pe_op op_mulX pe_int (pv 6)) pe_int))))))))), ?_⟩
  walk_at "sts"
  refine ⟨fun m σ H' => ∃ k : Nat, σ = [some (.ref a), some (.ref b), some (.int (d : Nat)), some (.int (hd E' d : Nat)), some (.ref rq), some (.int (k : Nat)), none] ∧ H' = H ∧ k ≤ r.idxOf (d / 2) ∧ m + k = r.idxOf (d / 2), ⟨r.idxOf (d / 2), 0, rfl, rfl, Nat.zero_le _, rfl⟩, ?_⟩
  rintro m σ H' ⟨k, rfl, rfl, hk, hmk⟩
  have hkl : k < r.length := by omega
  have hat := iv_at hkl
  have hgk : r.getD k 0 = r[k] := by rw [List.getD_eq_getElem?_getD, List.getElem?_eq_getElem hkl]; rfl
  walk_at "sts"
  rw [ed]
  refine ifnd (fun h0 => w_wt ?_) (fun h0 => ?_)
  · have hne : r.getD k 0 ≠ d / 2 := fun e => h0 (by rw [e])
    have hk2 : k ≠ r.idxOf (d / 2) := fun e => hne (by
      rw [hgk]
      have := List.getElem_idxOf (x := d / 2) (xs := r) hidx
      simp only [← e] at this
      exact this)
    walk_at "sts"
    exact ⟨m - 1, by omega, k + 1, by rw [Int.natCast_add]; rfl, rfl, by omega, by omega⟩
  · have hke : r.idxOf (d / 2) = k := by
      have e1 : r[k] = d / 2 := by rw [← hgk]; omega
      have := hnd.idxOf_getElem k hkl
      rw [e1] at this
      exact this
    rw [hke] at hix
    have hpos : 0 < ((iv r).length : Int) := by rw [iv_len]; omega
    have hix2 : atI (iv r) (((k : Int) + 1) % ((iv r).length : Int)) = some (.int ((nxt r (d / 2) : Nat) : Int)) := by
      rw [iv_len, show ((k : Int) + 1) % (r.length : Int) = ((k + 1) % r.length : Nat) by rw [Int.natCast_emod, Int.natCast_add]; rfl, ← hix]
      exact atI_nat (iv_at (Nat.mod_lt _ hl0))
    walk_at "sts"
    refine ifd (fun h => ?_) (fun h => ?_)
    · rw [if_pos (by omega)] at q
      walk_at "sts"
      exact q
    · rw [if_neg (by omega)] at q
      walk_at "sts"
      exact q
end

section
variable {P : Program} {w : World} {K : PySem.W.Frag} {mg : Str → Option Value} {base : Heap} {C_Pull C_Push : Addr}
/-- found in the n-th ring: as the law's own dict holds it -/
def spWhere (K : PySem.W.Frag) : Sp := fun vs H Q _ => ∃ (e t p : Addr) (E : EdgL) (T : Turns) (xs : List V) (R : List (List Nat)), vs = [.ref e, .ref t, .ref p] ∧ Dp K H (.ref e) (dEnds E) ∧ Dp K H (.ref t) (dRows T) ∧ Ok E T ∧ E.length ≤ 1000 ∧ H p = some (.lst xs) ∧ RowsG K H xs R ∧ Canon (fol E T) (2 * E.length) R ∧
  ∀ d H' kvs S g, Same H H' → New H d → H' d = some (.dK kvs) → Holds kvs S g → kvs.length = 2 * E.length → (∀ x, x < 2 * E.length → x ∈ S ∧ g x = .int (sideOf R x : Nat)) → Q (.ref d) H'
theorem flat_sub (R : List (List Nat)) (i : Nat) : (R.take i).flatten.Sublist R.flatten := by
  have e : R.flatten = (R.take i).flatten ++ (R.drop i).flatten := by rw [← List.flatten_append, List.take_append_drop]
  rw [e]
  exact List.sublist_append_left _ _
theorem eqv_nil (x : Nat) (l : List Nat) : PyData.eqv (dRow (x :: l)) (.list []) = false := by
  unfold dRow
  simp [PyData.eqv, PyData.eqvAll]
theorem putK_new {kvs : List (Key × V)} {k : Key} {v : V} (h : valV kvs k = none) : (putK kvs k v).length = kvs.length + 1 := by
  unfold valV at h
  have h2 := Option.map_eq_none_iff.mp h
  have h3 : (kvs.any fun kv => decide (kv.1 = k)) = false := by
    rw [List.any_eq_false]
    intro z hz
    exact List.find?_eq_none.mp h2 z hz
  unfold putK
  rw [if_neg (by rw [h3]; decide)]
  simp
theorem wo_mono2 {H H' : Hp} {p : Addr} (h : Same (wo H p) H') : Same (wo H p) (wo H' p) := fun b o hb => by
  have h1 := h b o hb
  refine wo_get h1 fun z => ?_
  subst z
  rw [wo_new] at hb
  cases hb
theorem ok_law_where {f : Addr} {fd : FuncData} (F : Fun K "_law_where" "_law_where" s_law_where f fd) (gf : mg "_law_where" = some (.ref f)) (B : Bl mg) {C_Pull C_Push : Addr} (T : Txt K mg C_Pull C_Push) (h_law_behind : Has P w K mg base CX0 1 "_law_behind" ["ends", "turns", "dart"] (spLFol K)) (h_law_number : Has P w K mg base CX0 1 "_law_number" ["found"] spIsInt) : Has P w K mg base CX0 2 "_law_where" ["ends", "turns", "rings"] (spWhere K) := by
  refine Has.mk' F gf (F.binds (ps := ["ends", "turns", "rings"]) fun _ _ _ _ _ _ us hl => match us, hl with | [_, _, _], _ => rfl) sc_law_where (by walk_at "len") (fun cdv A outer s H vs Q E hr h => ?_)
  obtain ⟨e, t, p, E', Tu, xs, R, rfl, hE, hTu, ok, hsz, hp, hR, hC, q⟩ := h
  obtain ⟨es, he, hEs⟩ := dpLstA hE
  have hel : es.length = E'.length := by have := dpaLen hEs; simpa using this
  have hxl : xs.length = R.length := by have := dpaLen hR.1; simpa using this
  refine ⟨_, (pss_cons (ps_set (i := 3) sc_law_where.nd rfl (.inl rfl) pe_dnewK)
 (pss_cons (ps_set (i := 4) sc_law_where.nd rfl (.inl rfl) (pe_un un_neg pe_int))
 (pss_cons (ps_for PassesOwn.never rfl (pi_range1 (by rfl) B.range (pa_cons (pe_callB (call_lenK K) (by rfl) B.len (by decide +kernel) (pa_cons (pv 2) pa_nil)) pa_nil)) (pg_name (i := 5) sc_law_where.nd rfl (.inl rfl)) (pss_cons (ps_set (i := 6) sc_law_where.nd rfl (.inl rfl) (pe_ix (ix_listK K) (pv 2) (pv 5) (fun _ _ => rfl)))
 (pss_cons (ps_if (PW.pt (pw_or (pt_not (pt_val (pe_callB (call_isiK' K) (by rfl) B.isinstance (by decide +kernel) (pa_cons (pv 6) (pa_cons (pe_bltn (v := .ty "list") (by rfl) B.list (by decide +kernel) rfl) pa_nil))))) (pw_or1 (pt_cmpR (op_eqDK K hr.units) (pv 6) (pe_lst pa_nil) (nomark _))))) (pss_one (ps_ret pe_non)) pss_nil)
 (pss_cons (ps_for PassesOwn.never rfl (pi_listK K (pv 6)) (pg_name (i := 7) sc_law_where.nd rfl (.inl rfl)) (pss_cons (ps_if (PW.pt (pw_or (pt_not (pt_val (pe_fn h_law_number (hr.mono (by decide)) (by rfl) (pa_cons (pv 7) pa_nil)))) (pw_or (pt_cmpR op_lt (pv 7) (pe_ix (ix_listK K) (pv 6) pe_int (fun _ _ => rfl)) (nomark _)) (pw_or (pt_cmpR op_ge (pv 7) (pe_op op_mulX pe_int (pe_callB (call_lenK K) (by rfl) B.len (by decide +kernel) (pa_cons (pv 0) pa_nil))) (nomark _)) (pw_or1 (pt_cmp (pc_din (hu_of hr) (pv 7) (pv 3)))))))) (pss_one (ps_ret pe_non)) pss_nil)
 (pss_one (ps_dput (hu_of hr) (pv 3) (pv 7) (pv 5) rfl))))
 (pss_cons (ps_if (pt_cmpR op_le (pe_ix (ix_listK K) (pv 6) pe_int (fun _ _ => rfl)) (pv 4) (nomark _)) (pss_one (ps_ret pe_non)) pss_nil)
 (pss_cons (ps_set (i := 4) sc_law_where.nd rfl (.inl rfl) (pe_ix (ix_listK K) (pv 6) pe_int (fun _ _ => rfl)))
 (pss_one (ps_for PassesOwn.never rfl (pi_range1 (by rfl) B.range (pa_cons (pe_callB (call_lenK K) (by rfl) B.len (by decide +kernel) (pa_cons (pv 6) pa_nil)) pa_nil)) (pg_name (i := 8) sc_law_where.nd rfl (.inl rfl)) (pss_one (ps_if (pt_cmpR op_ne (pe_ix (ix_listK K) (pv 6) (pe_op op_mod (pe_op op_add (pv 8) pe_int) (pe_callB (call_lenK K) (by rfl) B.len (by decide +kernel) (pa_cons (pv 6) pa_nil))) (fun _ _ => rfl)) (pe_fn h_law_behind (hr.mono (by decide)) (by rfl) (pa_cons (pv 0) (pa_cons (pv 1) (pa_cons (pe_ix (ix_listK K) (pv 6) (pv 8) (fun _ _ => rfl)) pa_nil)))) (nomark _)) (pss_one (ps_ret pe_non)) pss_nil))))))))))
 (pss_one (ps_ret (pv 3)))))), ?_⟩
  walk_at "sts"
  intro pw npw
  have s1 := same_upd (o := .dK []) npw
  have k1 : upd H pw (.dK []) pw = some (.dK []) := upd_same
  generalize upd H pw (.dK []) = H1 at s1 k1 ⊢
  have hp1S := SqL.of (K := K) (s1 _ _ hp)
  have hRl : R.length ≤ 2 * E'.length := by
    have a1 := flatten_ge (R := R) fun r hr => by obtain ⟨x, l, rfl, _⟩ := hC.rings.ok r hr; simp
    have a2 := hC.rings.all.length_eq
    rw [List.length_range] at a2
    omega
  have hxb : xs.length ≤ 2000 := by omega
  walk_at "sts"
  rw [hxl]
  have hnd := hC.rings.nd
  have hmemR : ∀ j, j < R.length → row R j ∈ R := fun j hj => by
    unfold row
    rw [List.getD_eq_getElem?_getD, List.getElem?_eq_getElem hj]
    exact List.getElem_mem hj
  have hRat : ∀ j, j < R.length → R[j]? = some (row R j) := fun j hj => by
    unfold row
    rw [List.getD_eq_getElem?_getD, List.getElem?_eq_getElem hj]
    rfl
  have s1w : Same H (wo H1 pw) := same_wo s1 npw
  refine for_r0 (n := R.length) rfl (fun i σ H' => ∃ (kvs : List (Key × V)) (gr : Int) (y5 y6 y7 y8 : Option V), σ = [some (.ref e), some (.ref t), some (.ref p), some (.ref pw), some (.int gr), y5, y6, y7, y8] ∧ Same (wo H1 pw) H' ∧ H' pw = some (.dK kvs) ∧ Holds kvs (R.take i).flatten (fun x => .int (sideOf R x : Nat)) ∧ kvs.length = (R.take i).flatten.length ∧ ∀ j, i ≤ j → j < R.length → gr < ((row R j).headD 0 : Nat)) ?_ ?_ ?_
  · exact ⟨[], -1, _, _, _, _, rfl, wo_same, k1, Holds.nil, rfl, fun j _ _ => by omega⟩
  · rintro i σ H' hi ⟨kvs, gr, y5, y6, y7, y8, rfl, g, kd, hK, hKl, hgr⟩
    have gH := s1w.trans g
    obtain ⟨x, l, hrx, hlst⟩ := hC.least _ (hmemR i hi)
    obtain ⟨x', l', hrx', pth⟩ := hC.rings.ok _ (hmemR i hi)
    rw [hrx] at hrx'
    cases hrx'
    have hgi := hgr i (Nat.le_refl i) hi
    rw [hrx] at hgi
    have hgi' : gr < (x : Int) := hgi
    have hxi : i < xs.length := by omega
    have exi : xs[i]? = some xs[i] := List.getElem?_eq_getElem hxi
    obtain ⟨qr, eq, hq⟩ := hR.2 i _ exi
    rw [eq] at exi
    rw [hrx] at hq
    have hq2 := gH _ _ hq
    have hq2S := SqL.of (K := K) hq2
    have hpS := SqL.of (K := K) (gH _ _ hp)
    have hft := flat_take R i _ (hRat i hi)
    rw [hrx] at hft
    have hndr : ((R.take i).flatten ++ (x :: l)).Nodup := by
      rw [← hft]
      exact hnd.sublist (flat_sub _ _)
    obtain ⟨nd1, nd2, nd3⟩ := List.nodup_append.mp hndr
    have hrlt : ∀ z ∈ x :: l, z < 2 * E'.length := fun z hz => hC.rings.mem.mp (List.mem_flatten.mpr ⟨_, hmemR i hi, by rw [hrx]; exact hz⟩)
    have hside : ∀ z ∈ x :: l, sideOf R z = i := fun z hz => sideOf_at hnd (hRat i hi) (by rw [hrx]; exact hz)
    have hrl : (x :: l).length ≤ 2 * E'.length := by
      have := nodup_sub_len (ys := List.range (2 * E'.length)) nd2 fun z hz => List.mem_range.mpr (hrlt z hz)
      simpa using this
    have hfl : (R.take i).flatten.length ≤ 2 * E'.length := by
      have := nodup_sub_len (ys := List.range (2 * E'.length)) nd1 fun z hz => List.mem_range.mpr (hC.rings.mem.mp (List.Sublist.subset (flat_sub R i) hz))
      simpa using this
    have e0 : (iv (x :: l))[0]? = some (.int (x : Nat)) := rfl
    have e0' : atI (iv (x :: l)) 0 = some (.int (x : Nat)) := show atI (iv (x :: l)) ((0 : Nat) : Int) = _ from atI_nat rfl
    walk_at "sts"
    refine w_new fun pn nn => ?_
    have sn := same_upd (o := .lst []) nn
    refine ⟨dRow (x :: l), .list [], (dpRow hq2S).same sn, .lst (SqL.of upd_same) .nil, (goodRow _).shaped (by decide), (goodLst (n := 0) (ds := []) (fun d h => absurd h (by simp))).shaped (by decide), ?_⟩
    rw [eqv_nil]
    have gn := g.trans sn
    have gHn := gH.trans sn
    have kdn := sn _ _ kd
    have hq3 := sn _ _ hq2
    generalize upd H' pn (.lst []) = H2 at sn gn gHn kdn hq3 ⊢
    have hqw : qr ≠ pw := fun z => by rw [z, kdn] at hq3; cases hq3
    have hq3S := SqL.of (K := K) hq3
    walk_at "sts"
    refine for_list (xs := iv (x :: l)) (fun j σ H3 => ∃ (kvs : List (Key × V)) (y7 y8 : Option V), σ = [some (.ref e), some (.ref t), some (.ref p), some (.ref pw), some (.int gr), some (.int (i : Nat)), some (.ref qr), y7, y8] ∧ Same (wo H2 pw) H3 ∧ H3 pw = some (.dK kvs) ∧ Holds kvs ((R.take i).flatten ++ (x :: l).take j) (fun x => .int (sideOf R x : Nat)) ∧ kvs.length = ((R.take i).flatten ++ (x :: l).take j).length) ?_ ?_ ?_ ?_
    · exact ⟨kvs, _, _, rfl, wo_same, kdn, by simpa using hK, by simpa using hKl⟩
    · rintro j σ H3 _ ⟨_, _, _, _, g3, _⟩
      exact SqL.of (g3 _ _ (wo_get hq3 hqw))
    · rintro j v σ H3 hv ⟨kvs, y7, y8, rfl, g3, kd3, hK3, hKl3⟩
      have hj : j < (x :: l).length := by rw [← iv_len]; exact (List.getElem?_eq_some_iff.mp hv).1
      rw [iv_at hj] at hv
      cases hv
      have hmem : (x :: l).getD j 0 ∈ x :: l := by rw [List.getD_eq_getElem?_getD, List.getElem?_eq_getElem hj]; exact List.getElem_mem hj
      have hnot : (x :: l).getD j 0 ∉ (R.take i).flatten ++ (x :: l).take j := fun z => by
        rcases List.mem_append.mp z with z | z
        · exact nd3 _ z _ hmem rfl
        · obtain ⟨j', hj', e'⟩ := List.getElem_of_mem z
          rw [List.getElem_take, List.getD_eq_getElem?_getD, List.getElem?_eq_getElem hj] at e'
          rw [List.length_take] at hj'
          have := (List.getElem_inj nd2).mp e'
          omega
      have hge : x ≤ (x :: l).getD j 0 := by
        rcases List.mem_cons.mp hmem with z | z
        · omega
        · have := hlst _ z; omega
      have hlt := hrlt _ hmem
      have hsd := hside _ hmem
      rw [take_snoc hj, ← List.append_assoc]
      generalize (x :: l).getD j 0 = dd at hmem hnot hge hlt hsd ⊢
      have hq4 := SqL.of (K := K) (g3 _ _ (wo_get hq3 hqw))
      have he3 := ((same_wo gHn npw).trans g3).seq he
      have hkl : kvs.length < sizeLine := szlt (by rw [hKl3, List.length_append, List.length_take]; omega)
      walk_at "sts"
      refine ⟨_, rfl, ?_⟩
      walk_at "sts"
      rw [hK3.2, if_neg hnot, Option.isSome_none]
      walk_at "sts"
      have hval : valV kvs (.inl ((dd : Nat) : Int)) = none := by rw [hK3.2, if_neg hnot]
      refine ⟨_, _, _, rfl, g3.mut wo_new, upd_same, ?_, ?_⟩
      · have ee : V.int ((sideOf R dd : Nat) : Int) = V.int ((i : Nat) : Int) := by rw [hsd]
        rw [← ee]
        exact hK3.put dd
      · rw [putK_new hval, hKl3, List.length_append, List.length_append (bs := [dd])]
        simp
    · rintro σ H3 ⟨kvs, y7, y8, rfl, g3, kd3, hK3, hKl3⟩
      rw [iv_len, List.take_length, ← hft] at hK3 hKl3
      have hq5 := SqL.of (K := K) (g3 _ _ (wo_get hq3 hqw))
      have gH3 := (same_wo gHn npw).trans g3
      have hivl : (iv (x :: l)).length ≤ 2000 := by rw [iv_len]; omega
      walk_at "sts"
      refine for_r0 (n := (x :: l).length) ?_ (fun k σ H4 => ∃ (y8 : Option V), σ = [some (.ref e), some (.ref t), some (.ref p), some (.ref pw), some (.int (x : Nat)), some (.int (i : Nat)), some (.ref qr), y7, y8] ∧ H4 = H3) ?_ ?_ ?_
      · rw [iv_len]
      · exact ⟨_, rfl, rfl⟩
      · rintro k σ H4 hk ⟨y8, rfl, rfl⟩
        have hk1 := iv_at hk
        have hmk : (x :: l).getD k 0 ∈ x :: l := by rw [List.getD_eq_getElem?_getD, List.getElem?_eq_getElem hk]; exact List.getElem_mem hk
        have hpos : 0 < (x :: l).length := by simp
        have hmod : (k + 1) % (x :: l).length < (x :: l).length := Nat.mod_lt _ hpos
        have hlp : 0 < ((iv (x :: l)).length : Int) := by rw [iv_len]; omega
        have hix : atI (iv (x :: l)) (((k : Int) + 1) % ((iv (x :: l)).length : Int)) = some (.int (((x :: l).getD ((k + 1) % (x :: l).length) 0 : Nat) : Int)) := by
          rw [iv_len, show ((k : Int) + 1) % (((x :: l).length : Nat) : Int) = ((k + 1) % (x :: l).length : Nat) by rw [Int.natCast_emod, Int.natCast_add]; rfl]
          exact atI_nat (iv_at hmod)
        have hfol : fol E' Tu ((x :: l).getD k 0) = (x :: l).getD ((k + 1) % (x :: l).length) 0 := by
          have hkl2 : k ≤ l.length := by simp at hk; omega
          rw [pth.get k hkl2]
          by_cases ek : k < l.length
          · rw [Nat.mod_eq_of_lt (by simp; omega), List.getD_eq_getElem?_getD, List.getElem?_append_left ek, List.getD_eq_getElem?_getD, List.getElem?_cons_succ]
          · have : k = l.length := by omega
            subst this
            rw [show (l.length + 1) % (x :: l).length = 0 by simp, List.getD_eq_getElem?_getD, List.getElem?_append_right (Nat.le_refl _), Nat.sub_self]
            rfl
        have hdk := hrlt _ hmk
        rw [← hfol] at hix
        walk_at "sts"
        refine ⟨e, t, _, E', Tu, rfl, hE.same gH3, hTu.same gH3, ok, hdk, hsz, ?_⟩
        walk_at "sts"
        exact ⟨_, rfl, rfl⟩
      · rintro σ H4 ⟨y8, rfl, rfl⟩
        walk_at "sts"
        refine ⟨kvs, _, _, _, _, _, rfl, (wo_mono2 gn).trans g3, kd3, hK3, hKl3, fun j hj hjl => ?_⟩
        have := List.pairwise_iff_getElem.mp hC.order i j hi hjl hj
        have e1 : row R i = R[i] := by unfold row; rw [List.getD_eq_getElem?_getD, List.getElem?_eq_getElem hi]; rfl
        have e2 : row R j = R[j] := by unfold row; rw [List.getD_eq_getElem?_getD, List.getElem?_eq_getElem hjl]; rfl
        rw [← e1, ← e2, hrx] at this
        have h3 : x < (row R j).headD 0 := this
        omega
  · rintro σ H' ⟨kvs, gr, y5, y6, y7, y8, rfl, g, kd, hK, hKl, hgr⟩
    rw [List.take_length] at hK hKl
    walk_at "sts"
    refine q pw H' kvs _ _ (s1w.trans g) npw kd hK ?_ fun z hz => ⟨hC.rings.mem.mpr hz, rfl⟩
    have := hC.rings.all.length_eq
    rw [List.length_range] at this
    omega
theorem w_istS {H : Hp} {Q : VK} {p : Addr} {xs : List V} {s : String} {b : Bool} (hp : SqT K H p xs) (hk : kitB "tuple" s = some b) (h : Q (.bl b) H) : rIsi K [.ref p, .ty s] H Q := by
  rcases hp with (hp | ⟨o, hp⟩) | ⟨o, its, n, h1, h2, _⟩
  · exact ⟨_, _, _, _, b, rfl, .ty _, .base (.tup hp), kit_ty hk, h⟩
  · exact ⟨_, _, _, _, b, rfl, .ty _, .fTuple hp, kit_ty hk, h⟩
  · exact ⟨_, _, _, _, b, rfl, .ty _, .kTuple h1 h2, kit_ty hk, h⟩
theorem ok_law {f : Addr} {fd : FuncData} (F : Fun K "law" "law" s_law f fd) (B : Bl mg) {C_Pull C_Push : Addr} (T : Txt K mg C_Pull C_Push) (h_law_built : Has P w K mg base CX0 2 "_law_built" ["script"] (spBuilt7 K)) (h_law_ties : Has P w K mg base CX0 3 "_law_ties" ["ends"] (spTies7 K C_Pull C_Push)) (h_rounds_of : Has P w K mg base CX0 4 "rounds_of" ["ties", "turns"] (spRounds K C_Pull C_Push)) (h_law_where : Has P w K mg base CX0 2 "_law_where" ["ends", "turns", "rings"] (spWhere K)) (h_sides_of : Has P w K mg base CX0 1 "sides_of" ["ties", "rounds"] (spSides K)) (h_law_number : Has P w K mg base CX0 1 "_law_number" ["found"] spIsInt) : FnOk P w K mg base CX0 5 f fd ["script"] (spLaw K) := by
  refine F.ok sc_law (by walk_at "len") (fun cdv A outer s H vs Q E hr h => ?_)
  obtain ⟨a, ns, rfl, hS, hlen, _, q⟩ := h
  have hS0 := hS.sq
  refine ⟨_, (pss_cons (ps_set (i := 1) sc_law.nd rfl (.inl rfl) (pe_fn h_law_built (hr.mono (by decide)) (by rfl) (pa_cons (pv 0) pa_nil)))
 (pss_cons (ps_set (i := 2) sc_law.nd rfl (.inl rfl) (pe_ix (ix_tupK K) (pv 1) pe_int (fun _ _ => rfl)))
 (pss_cons (ps_set (i := 3) sc_law.nd rfl (.inl rfl) (pe_ix (ix_tupK K) (pv 1) pe_int (fun _ _ => rfl)))
 (pss_cons (ps_set (i := 4) sc_law.nd rfl (.inl rfl) (pe_fn h_law_ties (hr.mono (by decide)) (by rfl) (pa_cons (pv 2) pa_nil)))
 (pss_cons (ps_setLc (i := 5) (own := [("row", 12)]) rfl sc_law.nd rfl rfl (sw_true rfl rfl rfl (by decide +kernel)) (pi_listK K (pv 3)) (blkOk_by (own := [("row", 12)]) (N := ["script", "built", "ends", "turns", "ties", "handed", "rings", "where", "kept", "sides", "i", "side", "row", "ring", "tie"]) (sc := defScope s_law) (by decide +kernel)) (fun _ _ _ _ _ => pg_name (i := 12) sc_law.nd rfl (Or.inl rfl)) (fun _ _ _ _ _ => pts_nil) (fun _ _ _ _ _ => (pe_callTy (call_listK K) (by rfl) B.list (by decide +kernel) (pa_cons (pv 12) pa_nil))))
 (pss_cons (ps_set (i := 6) sc_law.nd rfl (.inl rfl) (pe_fn h_rounds_of (hr.mono (by decide)) (by rfl) (pa_cons (pv 4) (pa_cons (pv 5) pa_nil))))
 (pss_cons (ps_if (PW.pt (pw_or (pt_not (pt_val (pe_callB (call_isiK' K) (by rfl) B.isinstance (by decide +kernel) (pa_cons (pv 6) (pa_cons (pe_bltn (v := .ty "list") (by rfl) B.list (by decide +kernel) rfl) pa_nil))))) (pw_or1 (pt_cmpR (op_neDK K hr.units) (pv 5) (pv 3) (nomark _))))) (pss_one (ps_ret pe_bl)) pss_nil)
 (pss_cons (ps_set (i := 7) sc_law.nd rfl (.inl rfl) (pe_fn h_law_where (hr.mono (by decide)) (by rfl) (pa_cons (pv 2) (pa_cons (pv 3) (pa_cons (pv 6) pa_nil)))))
 (pss_cons (ps_if (PW.pt (pw_or (pt_cmpR op_isN (pv 7) pe_non (nomark _)) (pw_or1 (pt_cmpR op_ne (pe_callB call_lenD (by rfl) B.len (by decide +kernel) (pa_cons (pv 7) pa_nil)) (pe_op op_mulX pe_int (pe_callB (call_lenK K) (by rfl) B.len (by decide +kernel) (pa_cons (pv 2) pa_nil))) (nomark _))))) (pss_one (ps_ret pe_bl)) pss_nil)
 (pss_cons (ps_setLc (i := 8) (own := [("ring", 13)]) rfl sc_law.nd rfl rfl (sw_true rfl rfl rfl (by decide +kernel)) (pi_listK K (pv 6)) (blkOk_by (own := [("ring", 13)]) (N := ["script", "built", "ends", "turns", "ties", "handed", "rings", "where", "kept", "sides", "i", "side", "row", "ring", "tie"]) (sc := defScope s_law) (by decide +kernel)) (fun _ _ _ _ _ => pg_name (i := 13) sc_law.nd rfl (Or.inl rfl)) (fun _ _ _ _ _ => pts_nil) (fun _ _ _ _ _ => (pe_callTy (call_listK K) (by rfl) B.list (by decide +kernel) (pa_cons (pv 13) pa_nil))))
 (pss_cons (ps_set (i := 9) sc_law.nd rfl (.inl rfl) (pe_fn h_sides_of (hr.mono (by decide)) (by rfl) (pa_cons (pv 4) (pa_cons (pv 8) pa_nil))))
 (pss_cons (ps_if (PW.pt (pw_or (pt_cmpR (op_neDK K hr.units) (pv 8) (pv 6) (nomark _)) (pw_or (pt_not (pt_val (pe_callB (call_isiK' K) (by rfl) B.isinstance (by decide +kernel) (pa_cons (pv 9) (pa_cons (pe_bltn (v := .ty "list") (by rfl) B.list (by decide +kernel) rfl) pa_nil))))) (pw_or1 (pt_cmpR op_ne (pe_callB (call_lenK K) (by rfl) B.len (by decide +kernel) (pa_cons (pv 9) pa_nil)) (pe_callB (call_lenK K) (by rfl) B.len (by decide +kernel) (pa_cons (pv 2) pa_nil)) (nomark _)))))) (pss_one (ps_ret pe_bl)) pss_nil)
 (pss_cons (ps_for PassesOwn.never rfl (pi_range1 (by rfl) B.range (pa_cons (pe_callB (call_lenK K) (by rfl) B.len (by decide +kernel) (pa_cons (pv 2) pa_nil)) pa_nil)) (pg_name (i := 10) sc_law.nd rfl (.inl rfl)) (pss_cons (ps_set (i := 11) sc_law.nd rfl (.inl rfl) (pe_ix (ix_listK K) (pv 9) (pv 10) (fun _ _ => rfl)))
 (pss_cons (ps_if (PW.pt (pw_or (pt_not (pt_val (pe_callB (call_isiK' K) (by rfl) B.isinstance (by decide +kernel) (pa_cons (pv 11) (pa_cons (pe_bltn (v := .ty "tuple") (by rfl) B.tuple (by decide +kernel) rfl) pa_nil))))) (pw_or1 (pt_cmpR op_ne (pe_callB (call_lenK K) (by rfl) B.len (by decide +kernel) (pa_cons (pv 11) pa_nil)) pe_int (nomark _))))) (pss_one (ps_ret pe_bl)) pss_nil)
 (pss_cons (ps_if (PW.pt (pw_or (pt_not (pt_val (pe_fn h_law_number (hr.mono (by decide)) (by rfl) (pa_cons (pe_ix (ix_tupK K) (pv 11) pe_int (fun _ _ => rfl)) pa_nil)))) (pw_or1 (pt_not (pt_val (pe_fn h_law_number (hr.mono (by decide)) (by rfl) (pa_cons (pe_ix (ix_tupK K) (pv 11) pe_int (fun _ _ => rfl)) pa_nil))))))) (pss_one (ps_ret pe_bl)) pss_nil)
 (pss_one (ps_if (PW.pt (pw_or (pt_cmpR op_ne (pe_ix (ix_tupK K) (pv 11) pe_int (fun _ _ => rfl)) (pe_dget (hu_of hr) (pv 7) (pe_op op_mulX pe_int (pv 10)) (fun _ _ => rfl)) (nomark _)) (pw_or1 (pt_cmpR op_ne (pe_ix (ix_tupK K) (pv 11) pe_int (fun _ _ => rfl)) (pe_dget (hu_of hr) (pv 7) (pe_op op_add (pe_op op_mulX pe_int (pv 10)) pe_int) (fun _ _ => rfl)) (nomark _))))) (pss_one (ps_ret pe_bl)) pss_nil))))))
 (pss_one (ps_ret (pe_cmpR (op_eqDK K hr.units) (pe_lc (own := [("tie", 14)]) rfl sc_law.nd (pi_listK K (pv 4)) (blkOk_by (own := [("tie", 14)]) (N := ["script", "built", "ends", "turns", "ties", "handed", "rings", "where", "kept", "sides", "i", "side", "row", "ring", "tie"]) (sc := defScope s_law) (by decide +kernel)) (fun _ _ _ _ _ => pg_name (i := 14) sc_law.nd rfl (Or.inl rfl)) (fun _ _ _ _ _ => pts_nil) (fun _ _ _ _ _ => (pe_tup (pa_cons (pe_fldK K (pv 14) rfl) (pa_cons (pe_fldK K (pv 14) rfl) pa_nil))))) (pv 2) (nomark _))))))))))))))))), ?_⟩
  walk_at "sts"
  refine ⟨a, ns, rfl, hS0, hlen, fun p H1 e t E' Tu s1 n1 hp hE hTu ok hEl hTl => ?_⟩
  have hpt := SqT.of (K := K) hp
  obtain ⟨es, he, hEs⟩ := dpLstA hE
  have hel : es.length = E'.length := by have := dpaLen hEs; simpa using this
  obtain ⟨us, hu, hTs⟩ := dpLstA hTu
  have hul : us.length = Tu.length := by have := dpaLen hTs; simpa using this
  walk_at "sts"
  refine ⟨e, E', rfl, hE, fun i hi => (ok.ends i hi).1, by omega, fun p3 H3 ts s3 n3 hT hts => ?_⟩
  have hu3 := s3.seq hu
  walk_at "sts"
  intro D nD
  refine lc_list (xs := us) (fun i H' => ∃ ys G, H' D = some (.lst ys) ∧ Same H3 G ∧ Same G H' ∧ New G D ∧ DpAll K G ys ((Tu.take i).map dRow)) ?_ ?_ ?_ ?_
  · exact ⟨[], H3, upd_same, Same.refl _, same_upd nD, nD, .nil⟩
  · rintro i H' _ ⟨ys, G, _, g1, g2, _, _⟩
    exact (g1.trans g2).seq hu3
  · rintro i x H' hx ⟨ys, G, y1, g1, g2, g3, hD⟩
    have hi : i < Tu.length := by rw [← hul]; exact (List.getElem?_eq_some_iff.mp hx).1
    obtain ⟨q1, e1, e2⟩ := dpRowsAt hTs hi
    rw [hx] at e1
    cases e1
    have e3 := (s3.trans (g1.trans g2)).seq e2
    have hyl : ys.length = i := by have := dpaLen hD; simp at this; omega
    walk_at "sts"
    refine w_new fun t nt => ?_
    have hDt : D ≠ t := ne_new y1 nt
    refine ⟨ys, by walk_at "hp", szlt (by omega), _, upd G t (.lst (iv (row Tu i))), upd_same, g1.trans (same_upd (nt.of g2)), ?_, g3.upd hDt, ?_⟩
    · refine Same.mut ?_ (g3.upd hDt)
      exact (g2.trans (same_upd nt)).add upd_same
    · have et : Tu.take (i + 1) = Tu.take i ++ [row Tu i] := by
        rw [List.take_add_one, List.getElem?_eq_getElem hi]
        unfold row
        rw [List.getD_eq_getElem?_getD, List.getElem?_eq_getElem hi]
        rfl
      rw [et, List.map_append]
      exact dpaApp (hD.same (same_upd (nt.of g2))) (.cons (dpRow (SqL.of upd_same)) .nil)
  rintro H4 ⟨ys, G, y1, g1, g2, g3, hD⟩
  rw [hul, List.take_length] at hD
  have s4 := g1.trans g2
  have hDD : Dp K H4 (.ref D) (dRows Tu) := .lst (SqL.of y1) (hD.same g2)
  have hT4 := hT.same s4
  have s14 := s3.trans s4
  have hE4 := hE.same s14
  have hTu4 := hTu.same s14
  have he4 := s14.seq he
  subst hts
  have htl : (endsOf ts).length = ts.length := endsOf_len ts
  obtain ⟨F, hF⟩ := rings_of (f := fol (endsOf ts) Tu) (m := 2 * ts.length) (fun x hx => by have := ok.fol_lt (d := x) (by rw [htl]; exact hx); rw [htl] at this; exact this) fun x y hx hy e => ok.fol_inj (by rw [htl]; exact hx) (by rw [htl]; exact hy) e
  clear hD hE hTu hT hpt hp hu hu3 he hEs hTs
  walk_at "sts"
  refine ⟨p3, D, ts, Tu, F, rfl, hT4, hDD, ok, by omega, hF, fun pr H5 R s5 n5 hx hC => ?_⟩
  obtain ⟨xs, G5, x1, k1, k2, k3, hR⟩ := hx
  have hR5 := hR.same k2
  have hxl : xs.length = R.length := by have := dpaLen hR.1; simpa using this
  have hDD5 := hDD.same s5
  have hTu5 := hTu4.same s5
  have hE5 := hE4.same s5
  have hT5 := hT4.same s5
  have he5 := s5.seq he4
  have x1S := SqL.of (K := K) x1
  have hRl : R.length ≤ 2 * ts.length := by
    have a1 := flatten_ge (R := R) fun r hr => by obtain ⟨x, l, rfl, _⟩ := hC.rings.ok r hr; simp
    have a2 := hC.rings.all.length_eq
    rw [List.length_range] at a2
    omega
  have hne : ∀ r ∈ R, 1 ≤ r.length := fun r hr => by obtain ⟨x, l, rfl, _⟩ := hC.rings.ok r hr; simp
  clear hDD hTu4 hE4 hT4 he4 g1 g2 g3 y1 k1 k2 k3 hR
  walk_at "sts"
  refine w_neD hDD5 hTu5 (goodRows Tu) (by decide) ?_
  walk_at "sts"
  refine ⟨e, t, pr, _, Tu, xs, R, rfl, hE5, hTu5, ok, by omega, x1, hR5, by rw [htl]; exact hC, fun pd H6 kvs S g s6 n6 kd hK hKl hg => ?_⟩
  rw [htl] at hKl hg
  have hDD6 := hDD5.same s6
  have hTu6 := hTu5.same s6
  have hE6 := hE5.same s6
  have hT6 := hT5.same s6
  have he6 := s6.seq he5
  have x6 := s6 _ _ x1
  have x6S := SqL.of (K := K) x6
  have hR6 := hR5.same s6
  clear hDD5 hTu5 hE5 hT5 he5 x1 x1S hR5
  walk_at "sts"
  rw [show decide (V.ref pd = V.non) = false from decide_eq_false (by simp)]
  walk_at "sts"
  refine ⟨pd, kvs, rfl, kd, ?_⟩
  walk_at "sts"
  intro D2 nD2
  refine lc_list (xs := xs) (fun i H' => ∃ ys G, H' D2 = some (.lst ys) ∧ Same H6 G ∧ Same G H' ∧ New G D2 ∧ DpAll K G ys ((R.take i).map dRow)) ?_ ?_ ?_ ?_
  · exact ⟨[], H6, upd_same, Same.refl _, same_upd nD2, nD2, .nil⟩
  · rintro i H' _ ⟨ys, G, _, g1, g2, _, _⟩
    exact (g1.trans g2).seq x6S
  · rintro i v H' hv ⟨ys, G, y1, g1, g2, g3, hD⟩
    have hi : i < R.length := by rw [← hxl]; exact (List.getElem?_eq_some_iff.mp hv).1
    obtain ⟨q1, rfl, e2⟩ := hR6.2 i v hv
    have e3 := SqL.of (K := K) ((g1.trans g2) _ _ e2)
    have hyl : ys.length = i := by have := dpaLen hD; simp at this; omega
    walk_at "sts"
    refine w_new fun t nt => ?_
    have hDt : D2 ≠ t := ne_new y1 nt
    refine ⟨ys, by walk_at "hp", szlt (by omega), _, upd G t (.lst (iv (row R i))), upd_same, g1.trans (same_upd (nt.of g2)), ?_, g3.upd hDt, ?_⟩
    · refine Same.mut ?_ (g3.upd hDt)
      exact (g2.trans (same_upd nt)).add upd_same
    · have et : R.take (i + 1) = R.take i ++ [row R i] := by
        rw [List.take_add_one, List.getElem?_eq_getElem hi]
        unfold row
        rw [List.getD_eq_getElem?_getD, List.getElem?_eq_getElem hi]
        rfl
      rw [et, List.map_append]
      exact dpaApp (hD.same (same_upd (nt.of g2))) (.cons (dpRow (SqL.of upd_same)) .nil)
  rintro H7 ⟨ys2, G2, y2, k1, k2, k3, hD2⟩
  rw [hxl, List.take_length] at hD2
  have s7 := k1.trans k2
  have hK7 : Dp K H7 (.ref D2) (dRows R) := .lst (SqL.of y2) (hD2.same k2)
  obtain ⟨ps, hps, hTin⟩ := hT6.same s7
  have hpsl : (ps.map V.ref).length = ts.length := by rw [List.length_map]; exact hTin.1
  walk_at "sts"
  refine ⟨p3, D2, ps.map V.ref, R, rfl, hps, hK7, by rw [hpsl]; exact hC.rings.all, hne, by omega, fun p8 H8 zs G8 s8 n8 z8 j1 j2 j3 hZ => ?_⟩
  rw [hpsl] at hZ
  have s68 := s7.trans s8
  have hZ8 := hZ.same j2
  have hzl : zs.length = ts.length := by have := dpaLen hZ8; unfold sidesD at this; simpa using this
  have z8S := SqL.of (K := K) z8
  have hR8 : Dp K H8 (.ref pr) (dRows R) := .lst (SqL.of (s68 _ _ x6)) (hR6.1.same s68)
  have kd8 := s68 _ _ kd
  have he8 := s68.seq he6
  have hE8 := hE6.same s68
  have hT8 := hT6.same s68
  walk_at "sts"
  refine w_neD (hK7.same s8) hR8 (goodRows R) (by decide) ?_
  walk_at "sts"
  refine for_r0 (n := ts.length) ?_ (fun i σ H' => ∃ (y10 y11 : Option V), σ = [some (.ref a), some (.ref p), some (.ref e), some (.ref t), some (.ref p3), some (.ref D), some (.ref pr), some (.ref pd), some (.ref D2), some (.ref p8), y10, y11, none, none, none] ∧ H' = H8) ?_ ?_ ?_
  · rw [hel, htl]
  · exact ⟨_, _, rfl, rfl⟩
  · rintro i σ H' hi ⟨y10, y11, rfl, rfl⟩
    obtain ⟨v, h1, h2⟩ := dpaGet (i := i) (d := sideD R i) hZ8 (by unfold sidesD; rw [List.getElem?_map, List.getElem?_range hi]; rfl)
    obtain ⟨pq, ys5, rfl, h3, h4⟩ := dpTup h2
    have e5 := dpAll_ints h4
    rw [e5] at h3
    have h3' : SqT K H' pq [.int ((sideOf R (2 * i) : Nat) : Int), .int ((sideOf R (2 * i + 1) : Nat) : Int)] := h3
    have hv0 : valV kvs (.inl ((2 * i : Nat) : Int)) = some (.int ((sideOf R (2 * i) : Nat) : Int)) := by
      obtain ⟨b1, b2⟩ := hg (2 * i) (by omega)
      rw [hK.2, if_pos b1, b2]
    have hv1 : valV kvs (.inl ((2 * i + 1 : Nat) : Int)) = some (.int ((sideOf R (2 * i + 1) : Nat) : Int)) := by
      obtain ⟨b1, b2⟩ := hg (2 * i + 1) (by omega)
      rw [hK.2, if_pos b1, b2]
    have ev0 : 2 * (i : Int) = ((2 * i : Nat) : Int) := by omega
    have ev1 : ((2 * i : Nat) : Int) + 1 = ((2 * i + 1 : Nat) : Int) := by omega
    clear h3 e5 h4 h2
    walk_at "sts"
    refine w_istS h3' kb_tt ?_
    walk_at "sts"
    refine ⟨_, rfl, ?_⟩
    walk_at "sts"
    refine ⟨_, rfl, ?_⟩
    walk_at "sts"
    refine ⟨_, rfl, ?_⟩
    walk_at "sts"
    rw [ev0]
    refine w_getI kd8 hv0 ?_
    walk_at "sts"
    rw [ev0, ev1]
    refine w_getI kd8 hv1 ?_
    walk_at "sts"
    exact ⟨_, _, rfl, rfl⟩
  rintro σ H' ⟨y10, y11, rfl, rfl⟩
  obtain ⟨ps8, hps8, hTin8⟩ := hT8
  have hpsl8 : ps8.length = ts.length := hTin8.1
  walk_at "sts"
  intro D3 nD3
  refine lc_list (xs := ps8.map V.ref) (fun i H9 => ∃ ys G, H9 D3 = some (.lst ys) ∧ Same H' G ∧ Same G H9 ∧ New G D3 ∧ DpAll K G ys (((endsOf ts).take i).map dEnd)) ?_ ?_ ?_ ?_
  · exact ⟨[], H', upd_same, Same.refl _, same_upd nD3, nD3, .nil⟩
  · rintro i H9 _ ⟨ys, G, _, g1, g2, _, _⟩
    exact (g1.trans g2).seq hps8
  · rintro i x H9 hx ⟨ys, G, y1, g1, g2, g3, hDi⟩
    rw [List.getElem?_map] at hx
    obtain ⟨pi, hpi, rfl⟩ := Option.map_eq_some_iff.mp hx
    have hi : i < ts.length := by rw [← hpsl8]; exact (List.getElem?_eq_some_iff.mp hpi).1
    have ht := (hTin8.same (g1.trans g2)).2 i pi _ hpi (ti_at hi)
    have hyl : ys.length = i := by have := dpaLen hDi; rw [List.length_map, List.length_take, htl] at this; omega
    walk_at "sts"
    refine w_t1 T.tie ht ?_
    walk_at "sts"
    refine w_t2 T.tie ht ?_
    walk_at "sts"
    refine w_new fun tt nt2 => ?_
    have hDt : D3 ≠ tt := ne_new y1 nt2
    refine ⟨ys, by walk_at "hp", szlt (by omega), _, upd G tt (.tup [.int ((ti ts i).one : Nat), .int ((ti ts i).two : Nat)]), upd_same, g1.trans (same_upd (nt2.of g2)), ?_, g3.upd hDt, ?_⟩
    · refine Same.mut ?_ (g3.upd hDt)
      exact (g2.trans (same_upd nt2)).add upd_same
    · have et : (endsOf ts).take (i + 1) = (endsOf ts).take i ++ [((ti ts i).one, (ti ts i).two)] := by
        have : (endsOf ts)[i]? = some ((ti ts i).one, (ti ts i).two) := by
          have h9 := en_ti hi
          unfold en at h9
          rw [List.getD_eq_getElem?_getD, List.getElem?_eq_getElem (by rw [htl]; exact hi)] at h9
          rw [List.getElem?_eq_getElem (by rw [htl]; exact hi)]
          exact congrArg some h9
        rw [List.take_add_one, this]
        rfl
      rw [et, List.map_append]
      exact dpaApp (hDi.same (same_upd (nt2.of g2))) (.cons (dEndT (SqT.of upd_same)) .nil)
  rintro H9 ⟨ys9, G9, y9, k1, k2, k3, hD9⟩
  rw [List.length_map, hpsl8, ← htl, List.take_length] at hD9
  walk_at "sts"
  refine w_eqD (.lst (SqL.of y9) (hD9.same k2)) (hE8.same (k1.trans k2)) (goodEnds _) (by decide) ?_
  exact q _
end

theorem all_mk {l : PySem.W.OpenLaw} {w : World} {K : PySem.W.Frag} {h : Heap} {mg : Str → Option Value} {fa f0 f1 f2 f3 f4 f5 f6 f7 f8 f9 f10 f11 f12 C_Pull C_Push : Addr} (X : K.In h) (G : h.Ns mainGlobals mg) (hfa : mg "law" = some (.ref fa))
    {od0 an0 od1 an1 od2 an2 od3 an3 od4 an4 od5 an5 od6 an6 od7 an7 od8 an8 od9 an9 od10 an10 od11 an11 od12 an12 : Option Addr} {sl0 sl1 sl2 sl3 sl4 sl5 sl6 sl7 sl8 sl9 sl10 sl11 sl12 : Array (Option Value)} {oc0 kV0 dc0 pm0 cd0 ct0 oc1 kV1 dc1 pm1 cd1 ct1 oc2 kV2 dc2 pm2 cd2 ct2 oc3 kV3 dc3 pm3 cd3 ct3 oc4 kV4 dc4 pm4 cd4 ct4 oc5 kV5 dc5 pm5 cd5 ct5 oc6 kV6 dc6 pm6 cd6 ct6 oc7 kV7 dc7 pm7 cd7 ct7 oc8 kV8 dc8 pm8 cd8 ct8 oc9 kV9 dc9 pm9 cd9 ct9 oc10 kV10 dc10 pm10 cd10 ct10 oc11 kV11 dc11 pm11 cd11 ct11 oc12 kV12 dc12 pm12 cd12 ct12 : Value}
    (g_Pull : PySem.W.nsIn K mainGlobals "Pull" = some (some (.ref C_Pull)))
    (g_Push : PySem.W.nsIn K mainGlobals "Push" = some (some (.ref C_Push)))
    (a0 : PySem.W.nsIn K mainGlobals "head" = some (some (.ref f0)))
    (l0 : K.lookup f0 = some ⟨oc0, od0, .func (PySem.W.fnOf "head" "head" (defArgs s_head) (defBody s_head) (defScope s_head) .none kV0 dc0 pm0 an0 cd0 ct0), sl0⟩)
    (c0 : PySem.W.codeIn K cd0 "head" = true)
    (k0 : PySem.W.keepIn K (.ref f0) = true)
    (a1 : PySem.W.nsIn K mainGlobals "follower" = some (some (.ref f1)))
    (l1 : K.lookup f1 = some ⟨oc1, od1, .func (PySem.W.fnOf "follower" "follower" (defArgs s_follower) (defBody s_follower) (defScope s_follower) .none kV1 dc1 pm1 an1 cd1 ct1), sl1⟩)
    (c1 : PySem.W.codeIn K cd1 "follower" = true)
    (k1 : PySem.W.keepIn K (.ref f1) = true)
    (a2 : PySem.W.nsIn K mainGlobals "round_from" = some (some (.ref f2)))
    (l2 : K.lookup f2 = some ⟨oc2, od2, .func (PySem.W.fnOf "round_from" "round_from" (defArgs s_round_from) (defBody s_round_from) (defScope s_round_from) .none kV2 dc2 pm2 an2 cd2 ct2), sl2⟩)
    (c2 : PySem.W.codeIn K cd2 "round_from" = true)
    (k2 : PySem.W.keepIn K (.ref f2) = true)
    (a3 : PySem.W.nsIn K mainGlobals "rounds_of" = some (some (.ref f3)))
    (l3 : K.lookup f3 = some ⟨oc3, od3, .func (PySem.W.fnOf "rounds_of" "rounds_of" (defArgs s_rounds_of) (defBody s_rounds_of) (defScope s_rounds_of) .none kV3 dc3 pm3 an3 cd3 ct3), sl3⟩)
    (c3 : PySem.W.codeIn K cd3 "rounds_of" = true)
    (k3 : PySem.W.keepIn K (.ref f3) = true)
    (a4 : PySem.W.nsIn K mainGlobals "sides_of" = some (some (.ref f4)))
    (l4 : K.lookup f4 = some ⟨oc4, od4, .func (PySem.W.fnOf "sides_of" "sides_of" (defArgs s_sides_of) (defBody s_sides_of) (defScope s_sides_of) .none kV4 dc4 pm4 an4 cd4 ct4), sl4⟩)
    (c4 : PySem.W.codeIn K cd4 "sides_of" = true)
    (k4 : PySem.W.keepIn K (.ref f4) = true)
    (r5_Pull : PySem.W.findIn K (.ref C_Pull) "__init__" = some (some (.ref f5)))
    (r5_Push : PySem.W.findIn K (.ref C_Push) "__init__" = some (some (.ref f5)))
    (i5 : PySem.W.isFn K (.ref f5) = true)
    (l5 : K.lookup f5 = some ⟨oc5, od5, .func (PySem.W.fnOf "__init__" "Tie.__init__" (defArgs s_Tie___init__) (defBody s_Tie___init__) (defScope s_Tie___init__) .none kV5 dc5 pm5 an5 cd5 ct5), sl5⟩)
    (c5 : PySem.W.codeIn K cd5 "Tie.__init__" = true)
    (k5 : PySem.W.keepIn K (.ref f5) = true)
    (a6 : PySem.W.nsIn K mainGlobals "_law_cell" = some (some (.ref f6)))
    (l6 : K.lookup f6 = some ⟨oc6, od6, .func (PySem.W.fnOf "_law_cell" "_law_cell" (defArgs s_law_cell) (defBody s_law_cell) (defScope s_law_cell) .none kV6 dc6 pm6 an6 cd6 ct6), sl6⟩)
    (c6 : PySem.W.codeIn K cd6 "_law_cell" = true)
    (k6 : PySem.W.keepIn K (.ref f6) = true)
    (a7 : PySem.W.nsIn K mainGlobals "_law_built" = some (some (.ref f7)))
    (l7 : K.lookup f7 = some ⟨oc7, od7, .func (PySem.W.fnOf "_law_built" "_law_built" (defArgs s_law_built) (defBody s_law_built) (defScope s_law_built) .none kV7 dc7 pm7 an7 cd7 ct7), sl7⟩)
    (c7 : PySem.W.codeIn K cd7 "_law_built" = true)
    (k7 : PySem.W.keepIn K (.ref f7) = true)
    (a8 : PySem.W.nsIn K mainGlobals "_law_ties" = some (some (.ref f8)))
    (l8 : K.lookup f8 = some ⟨oc8, od8, .func (PySem.W.fnOf "_law_ties" "_law_ties" (defArgs s_law_ties) (defBody s_law_ties) (defScope s_law_ties) .none kV8 dc8 pm8 an8 cd8 ct8), sl8⟩)
    (c8 : PySem.W.codeIn K cd8 "_law_ties" = true)
    (k8 : PySem.W.keepIn K (.ref f8) = true)
    (a9 : PySem.W.nsIn K mainGlobals "_law_behind" = some (some (.ref f9)))
    (l9 : K.lookup f9 = some ⟨oc9, od9, .func (PySem.W.fnOf "_law_behind" "_law_behind" (defArgs s_law_behind) (defBody s_law_behind) (defScope s_law_behind) .none kV9 dc9 pm9 an9 cd9 ct9), sl9⟩)
    (c9 : PySem.W.codeIn K cd9 "_law_behind" = true)
    (k9 : PySem.W.keepIn K (.ref f9) = true)
    (a10 : PySem.W.nsIn K mainGlobals "_law_number" = some (some (.ref f10)))
    (l10 : K.lookup f10 = some ⟨oc10, od10, .func (PySem.W.fnOf "_law_number" "_law_number" (defArgs s_law_number) (defBody s_law_number) (defScope s_law_number) .none kV10 dc10 pm10 an10 cd10 ct10), sl10⟩)
    (c10 : PySem.W.codeIn K cd10 "_law_number" = true)
    (k10 : PySem.W.keepIn K (.ref f10) = true)
    (a11 : PySem.W.nsIn K mainGlobals "_law_where" = some (some (.ref f11)))
    (l11 : K.lookup f11 = some ⟨oc11, od11, .func (PySem.W.fnOf "_law_where" "_law_where" (defArgs s_law_where) (defBody s_law_where) (defScope s_law_where) .none kV11 dc11 pm11 an11 cd11 ct11), sl11⟩)
    (c11 : PySem.W.codeIn K cd11 "_law_where" = true)
    (k11 : PySem.W.keepIn K (.ref f11) = true)
    (a12 : PySem.W.nsIn K mainGlobals "law" = some (some (.ref f12)))
    (l12 : K.lookup f12 = some ⟨oc12, od12, .func (PySem.W.fnOf "law" "law" (defArgs s_law) (defBody s_law) (defScope s_law) .none kV12 dc12 pm12 an12 cd12 ct12), sl12⟩)
    (c12 : PySem.W.codeIn K cd12 "law" = true)
    (k12 : PySem.W.keepIn K (.ref f12) = true)
    (z_len : PySem.W.nsIn K mainGlobals "len" = some none)
    (z_range : PySem.W.nsIn K mainGlobals "range" = some none)
    (z_enumerate : PySem.W.nsIn K mainGlobals "enumerate" = some none)
    (z_isinstance : PySem.W.nsIn K mainGlobals "isinstance" = some none)
    (z_int : PySem.W.nsIn K mainGlobals "int" = some none)
    (z_bool : PySem.W.nsIn K mainGlobals "bool" = some none)
    (z_list : PySem.W.nsIn K mainGlobals "list" = some none)
    (z_tuple : PySem.W.nsIn K mainGlobals "tuple" = some none)
    (pg_Pull : PySem.W.plainGet K C_Pull Str.empty = true)
    (hd_Pull : PySem.W.hasDictIn K C_Pull = true)
    (po_Pull : PySem.W.plainOver K C_Pull = true)
    (sa_Pull : PySem.W.findIn K (.ref C_Pull) "__setattr__" = some (some (.builtin "object.__setattr__")))
    (mk_Pull : PySem.W.makesIn K C_Pull = true)
    (kp_Pull : PySem.W.keepIn K (.ref C_Pull) = true)
    (n_Pull_one : PySem.W.findIn K (.ref C_Pull) "one" = some none)
    (n_Pull_two : PySem.W.findIn K (.ref C_Pull) "two" = some none)
    (n_Pull_strength : PySem.W.findIn K (.ref C_Pull) "strength" = some none)
    (pg_Push : PySem.W.plainGet K C_Push Str.empty = true)
    (hd_Push : PySem.W.hasDictIn K C_Push = true)
    (po_Push : PySem.W.plainOver K C_Push = true)
    (sa_Push : PySem.W.findIn K (.ref C_Push) "__setattr__" = some (some (.builtin "object.__setattr__")))
    (mk_Push : PySem.W.makesIn K C_Push = true)
    (kp_Push : PySem.W.keepIn K (.ref C_Push) = true)
    (n_Push_one : PySem.W.findIn K (.ref C_Push) "one" = some none)
    (n_Push_two : PySem.W.findIn K (.ref C_Push) "two" = some none)
    (n_Push_strength : PySem.W.findIn K (.ref C_Push) "strength" = some none)
    : ∃ fd : FuncData, (∀ (s : Shared) (v : Value), BindsTo s fd ⟨[v], []⟩ [("script", v)]) ∧ ∀ base : Heap, K.In base → base.Ns mainGlobals mg → FnOk l.prog w K mg base CX0 5 fa fd ["script"] (spLaw K) := by
  have e := hfa.symm.trans (PySem.W.mg_of X G a12)
  cases e
  have B : Bl mg := ⟨PySem.W.mg_none_of X G z_len, PySem.W.mg_none_of X G z_range, PySem.W.mg_none_of X G z_enumerate, PySem.W.mg_none_of X G z_isinstance, PySem.W.mg_none_of X G z_int, PySem.W.mg_none_of X G z_bool, PySem.W.mg_none_of X G z_list, PySem.W.mg_none_of X G z_tuple⟩
  have T : Txt K mg C_Pull C_Push := ⟨PySem.W.mg_of X G g_Pull, PySem.W.mg_of X G g_Push, ⟨pg_Pull, hd_Pull, po_Pull, sa_Pull⟩, mk_Pull, kp_Pull, n_Pull_one, n_Pull_two, n_Pull_strength, ⟨pg_Push, hd_Push, po_Push, sa_Push⟩, mk_Push, kp_Push, n_Push_one, n_Push_two, n_Push_strength⟩
  refine ⟨PySem.W.fnOf "law" "law" (defArgs s_law) (defBody s_law) (defScope s_law) .none kV12 dc12 pm12 an12 cd12 ct12, fun s v => .of_eq rfl, fun base _ _ => ?_⟩
  have h_head := ok_head (P := l.prog) (w := w) (base := base) (fun_mk (st := s_head) l0 c0 k0) (PySem.W.mg_of X G a0) B T 
  have h_follower := ok_follower (P := l.prog) (w := w) (base := base) (fun_mk (st := s_follower) l1 c1 k1) (PySem.W.mg_of X G a1) B T h_head
  have h_round_from := ok_round_from (P := l.prog) (w := w) (base := base) (fun_mk (st := s_round_from) l2 c2 k2) (PySem.W.mg_of X G a2) B T h_follower
  have h_rounds_of := ok_rounds_of (P := l.prog) (w := w) (base := base) (fun_mk (st := s_rounds_of) l3 c3 k3) (PySem.W.mg_of X G a3) B T h_round_from
  have h_sides_of := ok_sides_of (P := l.prog) (w := w) (base := base) (fun_mk (st := s_sides_of) l4 c4 k4) (PySem.W.mg_of X G a4) B T 
  have hf_Tie___init__ := ok_Tie___init__ (P := l.prog) (w := w) (base := base) (fun_mk (st := s_Tie___init__) l5 c5 k5) B T 
  have h_mk_Pull := hf_Tie___init__.mkOf ⟨mk_Pull, r5_Pull, i5, kp_Pull⟩ (PySem.W.mg_of X G g_Pull)
  have h_mk_Push := hf_Tie___init__.mkOf ⟨mk_Push, r5_Push, i5, kp_Push⟩ (PySem.W.mg_of X G g_Push)
  have h_law_cell := ok_law_cell (P := l.prog) (w := w) (base := base) (fun_mk (st := s_law_cell) l6 c6 k6) (PySem.W.mg_of X G a6) B T 
  have h_law_built := ok_law_built (P := l.prog) (w := w) (base := base) (fun_mk (st := s_law_built) l7 c7 k7) (PySem.W.mg_of X G a7) B T h_law_cell
  have h_law_ties := ok_law_ties (P := l.prog) (w := w) (base := base) (fun_mk (st := s_law_ties) l8 c8 k8) (PySem.W.mg_of X G a8) B T h_mk_Push h_mk_Pull
  have h_law_behind := ok_law_behind (P := l.prog) (w := w) (base := base) (fun_mk (st := s_law_behind) l9 c9 k9) (PySem.W.mg_of X G a9) B T 
  have h_law_number := ok_law_number (P := l.prog) (w := w) (base := base) (fun_mk (st := s_law_number) l10 c10 k10) (PySem.W.mg_of X G a10) B T 
  have h_law_where := ok_law_where (P := l.prog) (w := w) (base := base) (fun_mk (st := s_law_where) l11 c11 k11) (PySem.W.mg_of X G a11) B T h_law_behind h_law_number
  exact ok_law (P := l.prog) (w := w) (base := base) (fun_mk (st := s_law) l12 c12 k12) B T h_law_built h_law_ties h_rounds_of h_law_where h_sides_of h_law_number
end Sf
open PySem PySem.W PyProof.Rows
set_option maxRecDepth 100000 in
set_option maxHeartbeats 0 in
theorem PySem.Challenge.cw_spinfloor_k08_whole_rounds_and_sides_holds : PySem.Challenge.rw_spinfloor_k08_whole_rounds_and_sides.Holds := by
  w_on; o_law; k_head; (case hw => w_witness2)
  k_fill
  refine Sf.walk_ofE (l := PySem.Challenge.rw_spinfloor_k08_whole_rounds_and_sides) (n := 63) (k := 5) (sp := Sf.spLaw) rfl (by decide) rfl ⟨rfl, by decide, by decide⟩ (fun w h Y => PySem.W.kIn_of Y) ?F (fun _ _ a ns hl hb hS => ⟨a, ns, rfl, hS, hl, hb, fun _ => rfl⟩)
  case F =>
    intro w mg fa h KX G hmg
    refine' Sf.all_mk KX G hmg ?g_Pull ?g_Push ?a0 ?l0 ?c0 ?k0 ?a1 ?l1 ?c1 ?k1 ?a2 ?l2 ?c2 ?k2 ?a3 ?l3 ?c3 ?k3 ?a4 ?l4 ?c4 ?k4 ?r5_Pull ?r5_Push ?i5 ?l5 ?c5 ?k5 ?a6 ?l6 ?c6 ?k6 ?a7 ?l7 ?c7 ?k7 ?a8 ?l8 ?c8 ?k8 ?a9 ?l9 ?c9 ?k9 ?a10 ?l10 ?c10 ?k10 ?a11 ?l11 ?c11 ?k11 ?a12 ?l12 ?c12 ?k12 ?z_len ?z_range ?z_enumerate ?z_isinstance ?z_int ?z_bool ?z_list ?z_tuple ?pg_Pull ?hd_Pull ?po_Pull ?sa_Pull ?mk_Pull ?kp_Pull ?n_Pull_one ?n_Pull_two ?n_Pull_strength ?pg_Push ?hd_Push ?po_Push ?sa_Push ?mk_Push ?kp_Push ?n_Push_one ?n_Push_two ?n_Push_strength
    (case g_Pull => k_is); (case g_Push => k_is); (case a0 => k_is); (case l0 => k_is); (case c0 => k_is); (case k0 => k_is); (case a1 => k_is); (case l1 => k_is); (case c1 => k_is); (case k1 => k_is); (case a2 => k_is); (case l2 => k_is); (case c2 => k_is); (case k2 => k_is); (case a3 => k_is); (case l3 => k_is); (case c3 => k_is); (case k3 => k_is); (case a4 => k_is); (case l4 => k_is); (case c4 => k_is); (case k4 => k_is); (case r5_Pull => k_is); (case r5_Push => k_is); (case i5 => k_is); (case l5 => k_is); (case c5 => k_is); (case k5 => k_is); (case a6 => k_is); (case l6 => k_is); (case c6 => k_is); (case k6 => k_is); (case a7 => k_is); (case l7 => k_is); (case c7 => k_is); (case k7 => k_is); (case a8 => k_is); (case l8 => k_is); (case c8 => k_is); (case k8 => k_is); (case a9 => k_is); (case l9 => k_is); (case c9 => k_is); (case k9 => k_is); (case a10 => k_is); (case l10 => k_is); (case c10 => k_is); (case k10 => k_is); (case a11 => k_is); (case l11 => k_is); (case c11 => k_is); (case k11 => k_is); (case a12 => k_is); (case l12 => k_is); (case c12 => k_is); (case k12 => k_is); (case z_len => k_is); (case z_range => k_is); (case z_enumerate => k_is); (case z_isinstance => k_is); (case z_int => k_is); (case z_bool => k_is); (case z_list => k_is); (case z_tuple => k_is); (case pg_Pull => k_is); (case hd_Pull => k_is); (case po_Pull => k_is); (case sa_Pull => k_is); (case mk_Pull => k_is); (case kp_Pull => k_is); (case n_Pull_one => k_is); (case n_Pull_two => k_is); (case n_Pull_strength => k_is); (case pg_Push => k_is); (case hd_Push => k_is); (case po_Push => k_is); (case sa_Push => k_is); (case mk_Push => k_is); (case kp_Push => k_is); (case n_Push_one => k_is); (case n_Push_two => k_is); (case n_Push_strength => k_is)

