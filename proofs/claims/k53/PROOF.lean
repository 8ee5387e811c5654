
import PyProof.Rows.All
import Wide.All
import OpenK.AllK
import Wide.FinOn
import HandS.ForMost
import HandS.Wide
import HandS.WideBits
import HandS.IsInst
import HandS.More
import HandS.EndBits
import HandS.SortInts
import KE.SortData
import HandS.TupLe
import HandS.Lambda
import HandS.EndTab
import KE.KNestM
import HandS.Rev
import HandS.RevTup
import HandS.Exc
import HandS.ExcOwn
import HandS.WordsExc
import HandS.ExcInit
import HandS.ExcField
import HandS.ExcIs
import HandS.TryOnly
import HandS.Small
import KE.KExcIs
import HandS.SetFor
import HandS.Defaults
import HandS.CallSlots
import HandS.CallLocal
import HandS.Keys
import HandS.Conv
import PySem.Challenge.RW_spinfloor_k53_what_rests
set_option Elab.async false
set_option linter.all false
set_option pp.deepTerms false
set_option pp.deepTerms.threshold 4
set_option maxRecDepth 100000
set_option maxHeartbeats 2000000
namespace Sf
open PySem PySem.Spec PyProof.Rows L2

/-! ### lists as sets -/
theorem perm_of_nodup {α : Type} [DecidableEq α] {xs ys : List α} (hx : xs.Nodup) (hy : ys.Nodup) (h : ∀ a, a ∈ xs ↔ a ∈ ys) : xs.Perm ys := by
  rw [List.perm_iff_count]
  intro a
  rw [List.Nodup.count hx, List.Nodup.count hy]
  by_cases e : a ∈ xs
  · rw [if_pos e, if_pos ((h a).mp e)]
  · rw [if_neg e, if_neg (fun z => e ((h a).mpr z))]
theorem len_of_nodup {α : Type} [DecidableEq α] {xs ys : List α} (hx : xs.Nodup) (hy : ys.Nodup) (h : ∀ a, a ∈ xs ↔ a ∈ ys) : xs.length = ys.length := (perm_of_nodup hx hy h).length_eq
theorem nodup_sub_len {α : Type} [DecidableEq α] : ∀ {xs ys : List α}, xs.Nodup → (∀ a ∈ xs, a ∈ ys) → xs.length ≤ ys.length
  | [], _, _, _ => Nat.zero_le _
  | x :: xs, ys, hx, h => by
    have hx' := List.nodup_cons.mp hx
    have ih := nodup_sub_len (ys := ys.erase x) hx'.2 fun a ha => by
      have : a ≠ x := fun e => hx'.1 (e ▸ ha)
      exact (List.mem_erase_of_ne this).mpr (h a (List.mem_cons_of_mem _ ha))
    have hm := h x List.mem_cons_self
    have := List.length_erase_of_mem hm
    have hp : 0 < ys.length := List.length_pos_of_mem hm
    rw [List.length_cons]
    omega
/-- as many as there are: all -/
theorem nodup_full {α : Type} [DecidableEq α] {xs ys : List α} (hx : xs.Nodup) (hs : ∀ a ∈ xs, a ∈ ys) (hl : ys.length ≤ xs.length) : ∀ a ∈ ys, a ∈ xs := fun a ha => by
  by_cases e : a ∈ xs
  · exact e
  · have : (a :: xs).Nodup := List.nodup_cons.mpr ⟨e, hx⟩
    have h2 := nodup_sub_len this (fun b hb => by rcases List.mem_cons.mp hb with r | r; exact r ▸ ha; exact hs b r)
    rw [List.length_cons] at h2
    omega
/-! ### the next one in a list that goes round -/

def nxt (r : List Nat) (x : Nat) : Nat := r.getD ((r.idxOf x + 1) % r.length) 0
theorem idx_at {r : List Nat} (h : r.Nodup) {i x : Nat} (e : r[i]? = some x) : r.idxOf x = i := by
  obtain ⟨hi, rfl⟩ := List.getElem?_eq_some_iff.mp e
  exact h.idxOf_getElem i hi
theorem nxt_at {r : List Nat} (h : r.Nodup) {i x y : Nat} (e : r[i]? = some x) (e2 : r[(i + 1) % r.length]? = some y) : nxt r x = y := by
  unfold nxt
  rw [idx_at h e, List.getD_eq_getElem?_getD, e2]
  rfl
theorem nxt_mem {r : List Nat} {x : Nat} (h : x ∈ r) : nxt r x ∈ r := by
  unfold nxt
  have hl : 0 < r.length := List.length_pos_of_mem h
  have h2 : (r.idxOf x + 1) % r.length < r.length := Nat.mod_lt _ hl
  rw [List.getD_eq_getElem?_getD, List.getElem?_eq_getElem h2]
  exact List.getElem_mem h2
theorem nxt_inj {r : List Nat} (h : r.Nodup) {x y : Nat} (hx : x ∈ r) (hy : y ∈ r) (e : nxt r x = nxt r y) : x = y := by
  obtain ⟨i, hi, rfl⟩ := List.mem_iff_getElem.mp hx
  obtain ⟨j, hj, rfl⟩ := List.mem_iff_getElem.mp hy
  have hl : 0 < r.length := by omega
  have m1 : (i + 1) % r.length < r.length := Nat.mod_lt _ hl
  have m2 : (j + 1) % r.length < r.length := Nat.mod_lt _ hl
  rw [nxt_at h (List.getElem?_eq_getElem hi) (List.getElem?_eq_getElem m1), nxt_at h (List.getElem?_eq_getElem hj) (List.getElem?_eq_getElem m2)] at e
  have e2 := (List.getElem_inj h).mp e
  have e3 : i = j := by
    by_cases a : i + 1 = r.length <;> by_cases b : j + 1 = r.length
    · omega
    · rw [a, Nat.mod_self, Nat.mod_eq_of_lt (by omega)] at e2; omega
    · rw [b, Nat.mod_self, Nat.mod_eq_of_lt (by omega)] at e2; omega
    · rw [Nat.mod_eq_of_lt (by omega), Nat.mod_eq_of_lt (by omega)] at e2; omega
  subst e3
  rfl
/-- x put in behind the k-th -/
def putAt (r : List Nat) (k x : Nat) : List Nat := r.take k ++ [x] ++ r.drop k
theorem putAt_len (r : List Nat) (k x : Nat) : (putAt r k x).length = r.length + 1 := by
  unfold putAt
  simp
  omega
theorem putAt_get (r : List Nat) (k x i : Nat) (hk : k ≤ r.length) : (putAt r k x)[i]? = if i < k then r[i]? else if i = k then some x else r[i - 1]? := by
  unfold putAt
  by_cases h : i < k
  · rw [if_pos h, List.append_assoc, List.getElem?_append_left (by simp; omega), List.getElem?_take, if_pos h]
  · rw [if_neg h, List.append_assoc, List.getElem?_append_right (by simp; omega)]
    have e : (r.take k).length = k := by simp; omega
    rw [e]
    by_cases h2 : i = k
    · rw [if_pos h2, h2, Nat.sub_self]; rfl
    · rw [if_neg h2]
      obtain ⟨j, hj⟩ : ∃ j, i - k = j + 1 := ⟨i - k - 1, by omega⟩
      rw [hj]
      show (r.drop k)[j]? = r[i - 1]?
      rw [List.getElem?_drop]
      congr 1
      omega
theorem putAt_perm (r : List Nat) (k x : Nat) : (putAt r k x).Perm (x :: r) := by
  unfold putAt
  rw [List.append_assoc]
  refine (List.perm_append_comm_assoc _ _ _).trans ?_
  rw [List.take_append_drop]
  exact List.Perm.refl _
theorem putAt_mem {r : List Nat} {k x y : Nat} : y ∈ putAt r k x ↔ y = x ∨ y ∈ r := by
  rw [(putAt_perm r k x).mem_iff, List.mem_cons]
theorem putAt_nodup {r : List Nat} {k x : Nat} (h : r.Nodup) (hx : x ∉ r) : (putAt r k x).Nodup := by
  rw [(putAt_perm r k x).nodup_iff]
  exact List.nodup_cons.mpr ⟨hx, h⟩
/-- behind x stands the new one, behind it what stood behind x -/
theorem nxt_put {r : List Nat} (h : r.Nodup) {x y : Nat} (hx : x ∈ r) (hy : y ∉ r) :
    nxt (putAt r (r.idxOf x + 1) y) x = y ∧ nxt (putAt r (r.idxOf x + 1) y) y = nxt r x ∧ ∀ z ∈ r, z ≠ x → nxt (putAt r (r.idxOf x + 1) y) z = nxt r z := by
  obtain ⟨i, hi, rfl⟩ := List.mem_iff_getElem.mp hx
  have ei : r.idxOf r[i] = i := h.idxOf_getElem i hi
  rw [ei]
  have hn := putAt_nodup (k := i + 1) h hy
  have hl := putAt_len r (i + 1) y
  have g := fun j => putAt_get r (i + 1) y j (by omega)
  have hl0 : 0 < r.length := by omega
  refine ⟨?_, ?_, fun z hz hne => ?_⟩
  · refine nxt_at (i := i) hn ?_ ?_
    · rw [g, if_pos (by omega), List.getElem?_eq_getElem hi]
    · rw [hl, Nat.mod_eq_of_lt (by omega), g, if_neg (by omega), if_pos rfl]
  · have m1 : (i + 1) % r.length < r.length := Nat.mod_lt _ hl0
    rw [nxt_at h (List.getElem?_eq_getElem hi) (List.getElem?_eq_getElem m1)]
    refine nxt_at (i := i + 1) hn ?_ ?_
    · rw [g, if_neg (by omega), if_pos rfl]
    · rw [hl, g]
      by_cases e : i + 1 = r.length
      · have e1 : (i + 1 + 1) % (r.length + 1) = 0 := by rw [e, Nat.mod_self]
        have e2 : (i + 1) % r.length = 0 := by rw [e, Nat.mod_self]
        rw [e1, if_pos (by omega)]
        simp only [e2]
        exact List.getElem?_eq_getElem hl0
      · have e1 : (i + 1 + 1) % (r.length + 1) = i + 2 := Nat.mod_eq_of_lt (by omega)
        have e2 : (i + 1) % r.length = i + 1 := Nat.mod_eq_of_lt (by omega)
        rw [e1, if_neg (by omega), if_neg (by omega)]
        simp only [e2]
        exact List.getElem?_eq_getElem (by omega)
  · obtain ⟨j, hj, rfl⟩ := List.mem_iff_getElem.mp hz
    have hij : j ≠ i := fun e => hne (by subst e; rfl)
    have m1 : (j + 1) % r.length < r.length := Nat.mod_lt _ hl0
    rw [nxt_at h (List.getElem?_eq_getElem hj) (List.getElem?_eq_getElem m1)]
    by_cases hlt : j < i
    · have e2 : (j + 1) % r.length = j + 1 := Nat.mod_eq_of_lt (by omega)
      refine nxt_at (i := j) hn ?_ ?_
      · rw [g, if_pos (by omega), List.getElem?_eq_getElem hj]
      · rw [hl, Nat.mod_eq_of_lt (by omega), g, if_pos (by omega)]
        simp only [e2]
        exact List.getElem?_eq_getElem (by omega)
    · refine nxt_at (i := j + 1) hn ?_ ?_
      · rw [g, if_neg (by omega), if_neg (by omega)]
        exact List.getElem?_eq_getElem (by omega)
      · rw [hl, g]
        by_cases e : j + 1 = r.length
        · have e1 : (j + 1 + 1) % (r.length + 1) = 0 := by rw [e, Nat.mod_self]
          have e2 : (j + 1) % r.length = 0 := by rw [e, Nat.mod_self]
          rw [e1, if_pos (by omega)]
          simp only [e2]
          exact List.getElem?_eq_getElem hl0
        · have e1 : (j + 1 + 1) % (r.length + 1) = j + 2 := Nat.mod_eq_of_lt (by omega)
          have e2 : (j + 1) % r.length = j + 1 := Nat.mod_eq_of_lt (by omega)
          rw [e1, if_neg (by omega), if_neg (by omega)]
          simp only [e2]
          exact List.getElem?_eq_getElem (by omega)

/-! ### going round by f -/
def Path (f : Nat → Nat) : Nat → List Nat → Nat → Prop
  | x, [], y => f x = y
  | x, z :: l, y => f x = z ∧ Path f z l y
theorem Path.app {f : Nat → Nat} : ∀ {x y z : Nat} {l1 l2 : List Nat}, Path f x (l1 ++ y :: l2) z ↔ Path f x l1 y ∧ Path f y l2 z
  | x, y, z, [], l2 => Iff.rfl
  | x, y, z, a :: l1, l2 => by
    show (f x = a ∧ Path f a (l1 ++ y :: l2) z) ↔ (f x = a ∧ Path f a l1 y) ∧ Path f y l2 z
    rw [Path.app, and_assoc]
theorem Path.other {f g : Nat → Nat} : ∀ {x x' y : Nat} {l : List Nat}, Path f x l y → g x' = f x → (∀ z ∈ l, g z = f z) → Path g x' l y
  | x, x', y, [], h, e, _ => e.trans h
  | x, x', y, a :: l, h, e, hl => ⟨e.trans h.1, Path.other h.2 (hl a List.mem_cons_self) fun z hz => hl z (List.mem_cons_of_mem _ hz)⟩
/-- the rings of f: every dart below m in just one -/
structure Rings (f : Nat → Nat) (m : Nat) (R : List (List Nat)) : Prop where
  all : R.flatten.Perm (List.range m)
  ok : ∀ r ∈ R, ∃ x l, r = x :: l ∧ Path f x l x
theorem Rings.nd {f : Nat → Nat} {m : Nat} {R : List (List Nat)} (h : Rings f m R) : R.flatten.Nodup := h.all.nodup_iff.mpr List.nodup_range
theorem Rings.mem {f : Nat → Nat} {m : Nat} {R : List (List Nat)} (h : Rings f m R) {d : Nat} : d ∈ R.flatten ↔ d < m := by rw [h.all.mem_iff, List.mem_range]
theorem Rings.congr {f g : Nat → Nat} {m : Nat} {R : List (List Nat)} (h : Rings f m R) (e : ∀ d, d < m → g d = f d) : Rings g m R := by
  refine ⟨h.all, fun r hr => ?_⟩
  obtain ⟨x, l, rfl, p⟩ := h.ok r hr
  have hm : ∀ z ∈ x :: l, g z = f z := fun z hz => e z (h.mem.mp (List.mem_flatten.mpr ⟨_, hr, hz⟩))
  exact ⟨x, l, rfl, p.other (hm x List.mem_cons_self) fun z hz => hm z (List.mem_cons_of_mem _ hz)⟩
/-- the ring of x, begun at x -/
theorem Rings.at {f : Nat → Nat} {m : Nat} {R : List (List Nat)} (h : Rings f m R) {x : Nat} (hx : x < m) :
    ∃ A r B l, R = A ++ r :: B ∧ (x :: l).Perm r ∧ Path f x l x := by
  obtain ⟨r, hr, hxr⟩ := List.mem_flatten.mp (h.mem.mpr hx)
  obtain ⟨A, B, e⟩ := List.append_of_mem hr
  obtain ⟨y, l, rfl, p⟩ := h.ok r hr
  rcases List.mem_cons.mp hxr with rfl | hl
  · exact ⟨A, _, B, l, e, List.Perm.refl _, p⟩
  · obtain ⟨u, v, rfl⟩ := List.append_of_mem hl
    obtain ⟨p1, p2⟩ := Path.app.mp p
    refine ⟨A, _, B, v ++ y :: u, e, ?_, Path.app.mpr ⟨p2, p1⟩⟩
    show (x :: v ++ y :: u).Perm (y :: u ++ x :: v)
    exact List.perm_append_comm
theorem range_two (m : Nat) : (List.range (m + 2)).Perm (m :: (m + 1) :: List.range m) := by
  rw [List.range_succ, List.range_succ, List.append_assoc]
  refine List.perm_append_comm.trans ?_
  exact List.Perm.refl _
/-- a leaf: the new dart out goes behind left, back behind it -/
theorem Rings.leaf {f g : Nat → Nat} {m left out back : Nat} {R : List (List Nat)} (h : Rings f m R) (hl : left < m) (ho : (out = m ∧ back = m + 1) ∨ (out = m + 1 ∧ back = m))
    (g1 : g left = out) (g2 : g out = back) (g3 : g back = f left) (g4 : ∀ z, z < m → z ≠ left → g z = f z) : ∃ R', Rings g (m + 2) R' ∧ R'.length = R.length := by
  obtain ⟨A, r, B, l, e, hp, p⟩ := h.at hl
  have hn := h.nd
  have hm : ∀ z ∈ R.flatten, z < m := fun z hz => h.mem.mp hz
  rw [e] at hn hm
  have hs : r.Sublist (A ++ r :: B).flatten := by
    rw [List.flatten_append, List.flatten_cons]
    exact ((List.sublist_append_left r B.flatten)).trans (List.sublist_append_right _ _)
  have hnr : (left :: l).Nodup := (hp.nodup_iff).mpr (hn.sublist hs)
  have hml : ∀ z ∈ l, z < m ∧ z ≠ left := fun z hz => ⟨hm z (hs.subset (hp.mem_iff.mp (List.mem_cons_of_mem _ hz))), fun q => (List.nodup_cons.mp hnr).1 (q ▸ hz)⟩
  refine ⟨A ++ (left :: out :: back :: l) :: B, ⟨?_, ?_⟩, by rw [e]; simp⟩
  · have q1 : (A ++ (left :: out :: back :: l) :: B).flatten.Perm (out :: back :: (A ++ r :: B).flatten) := by
      rw [List.flatten_append, List.flatten_append, List.flatten_cons, List.flatten_cons]
      have q2 : (left :: out :: back :: l).Perm (out :: back :: r) := by
        refine (List.Perm.swap _ _ _).trans (List.Perm.cons _ ((List.Perm.swap _ _ _).trans (List.Perm.cons _ hp)))
      refine (List.Perm.append_left _ (List.Perm.append_right _ q2)).trans ?_
      show (A.flatten ++ ([out, back] ++ (r ++ B.flatten))).Perm ([out, back] ++ (A.flatten ++ (r ++ B.flatten)))
      exact List.perm_append_comm_assoc _ _ _
    rw [← e] at q1
    refine q1.trans (((h.all.cons _).cons _).trans ?_)
    refine List.Perm.trans ?_ (range_two m).symm
    rcases ho with ⟨rfl, rfl⟩ | ⟨rfl, rfl⟩
    · exact List.Perm.refl _
    · exact List.Perm.swap _ _ _
  · intro r' hr'
    have hold : ∀ s ∈ A ++ B, ∃ x l, s = x :: l ∧ Path g x l x := fun s hsm => by
      have hsR : s ∈ R := by rw [e]; rcases List.mem_append.mp hsm with a | a; exact List.mem_append_left _ a; exact List.mem_append_right _ (List.mem_cons_of_mem _ a)
      obtain ⟨x, l', rfl, p'⟩ := h.ok s hsR
      have nl : left ∉ x :: l' := fun hin => by
        have hlr : left ∈ r := hp.mem_iff.mp List.mem_cons_self
        rw [List.flatten_append, List.flatten_cons] at hn
        rcases List.mem_append.mp hsm with a | a
        · exact (List.nodup_append.mp hn).2.2 left (List.mem_flatten.mpr ⟨_, a, hin⟩) left (List.mem_append_left _ hlr) rfl
        · exact (List.nodup_append.mp (List.nodup_append.mp hn).2.1).2.2 left hlr left (List.mem_flatten.mpr ⟨_, a, hin⟩) rfl
      have hz : ∀ z ∈ x :: l', g z = f z := fun z hz => g4 z (h.mem.mp (List.mem_flatten.mpr ⟨_, hsR, hz⟩)) fun q => nl (q ▸ hz)
      exact ⟨x, l', rfl, p'.other (hz x List.mem_cons_self) fun z q => hz z (List.mem_cons_of_mem _ q)⟩
    rcases List.mem_append.mp hr' with a | a
    · exact hold r' (List.mem_append_left _ a)
    · rcases List.mem_cons.mp a with rfl | a
      · exact ⟨left, _, rfl, g1, g2, p.other g3 fun z hz => g4 z (hml z hz).1 (hml z hz).2⟩
      · exact hold r' (List.mem_append_right _ a)
/-- a chord: the ring falls in two -/
theorem Rings.chord {f g : Nat → Nat} {m left right out back : Nat} {R : List (List Nat)} {r0 : List Nat} (h : Rings f m R) (hl : left < m) (hne : left ≠ right) (hp0 : Path f left r0 left) (hn0 : (left :: r0).Nodup) (hr0 : right ∈ r0) (ho : (out = m ∧ back = m + 1) ∨ (out = m + 1 ∧ back = m))
    (g1 : g left = out) (g2 : g out = f right) (g3 : g right = back) (g4 : g back = f left) (g5 : ∀ z, z < m → z ≠ left → z ≠ right → g z = f z) : ∃ R', Rings g (m + 2) R' ∧ R'.length = R.length + 1 := by
  obtain ⟨A, r, B, l, e, hp, p⟩ := h.at hl
  have hn := h.nd
  have hm : ∀ z ∈ R.flatten, z < m := fun z hz => h.mem.mp hz
  rw [e] at hn hm
  have hs : r.Sublist (A ++ r :: B).flatten := by
    rw [List.flatten_append, List.flatten_cons]
    exact ((List.sublist_append_left r B.flatten)).trans (List.sublist_append_right _ _)
  have hnr : (left :: l).Nodup := (hp.nodup_iff).mpr (hn.sublist hs)
  -- the same row
  have same : ∀ {x : Nat} {l1 l2 : List Nat}, Path f x l1 left → Path f x l2 left → left ∉ l1 → left ∉ l2 → l1 = l2 := by
    intro x l1
    induction l1 generalizing x with
    | nil =>
      intro l2 a b _ nb
      cases l2 with
      | nil => rfl
      | cons z t => exact absurd (show left ∈ z :: t by rw [← b.1, show f x = left from a]; exact List.mem_cons_self) nb
    | cons z t ih =>
      intro l2 a b na nb
      cases l2 with
      | nil => exact absurd (show left ∈ z :: t by rw [← a.1, show f x = left from b]; exact List.mem_cons_self) na
      | cons z2 t2 =>
        have e1 : z = z2 := a.1.symm.trans b.1
        subst e1
        rw [ih a.2 b.2 (fun q => na (List.mem_cons_of_mem _ q)) fun q => nb (List.mem_cons_of_mem _ q)]
  have el : r0 = l := same hp0 p (List.nodup_cons.mp hn0).1 (List.nodup_cons.mp hnr).1
  subst el
  have hml : ∀ z ∈ r0, z < m ∧ z ≠ left := fun z hz => ⟨hm z (hs.subset (hp.mem_iff.mp (List.mem_cons_of_mem _ hz))), fun q => (List.nodup_cons.mp hnr).1 (q ▸ hz)⟩
  obtain ⟨u, v, rfl⟩ := List.append_of_mem hr0
  obtain ⟨p1, p2⟩ := Path.app.mp p
  have hnr2 := (List.nodup_cons.mp hnr).2
  have nu : ∀ z ∈ u, z ≠ right := fun z hz q => (List.nodup_append.mp hnr2).2.2 z hz right List.mem_cons_self q
  have nv : ∀ z ∈ v, z ≠ right := fun z hz q => (List.nodup_cons.mp (List.nodup_append.mp hnr2).2.1).1 (q ▸ hz)
  refine ⟨A ++ (left :: out :: v) :: (right :: back :: u) :: B, ⟨?_, ?_⟩, by rw [e]; simp; omega⟩
  · have q1 : (A ++ (left :: out :: v) :: (right :: back :: u) :: B).flatten.Perm (out :: back :: (A ++ r :: B).flatten) := by
      rw [List.flatten_append, List.flatten_append, List.flatten_cons, List.flatten_cons, List.flatten_cons, ← List.append_assoc (left :: out :: v)]
      have q2 : ((left :: out :: v) ++ (right :: back :: u)).Perm (out :: back :: r) := by
        refine List.Perm.trans ?_ ((hp.cons back).cons out)
        rw [List.perm_iff_count]
        intro a
        simp only [List.count_append, List.count_cons]
        omega
      refine (List.Perm.append_left _ (List.Perm.append_right _ q2)).trans ?_
      show (A.flatten ++ ([out, back] ++ (r ++ B.flatten))).Perm ([out, back] ++ (A.flatten ++ (r ++ B.flatten)))
      exact List.perm_append_comm_assoc _ _ _
    rw [← e] at q1
    refine q1.trans (((h.all.cons _).cons _).trans ?_)
    refine List.Perm.trans ?_ (range_two m).symm
    rcases ho with ⟨rfl, rfl⟩ | ⟨rfl, rfl⟩
    · exact List.Perm.refl _
    · exact List.Perm.swap _ _ _
  · intro r' hr'
    have hold : ∀ s ∈ A ++ B, ∃ x l, s = x :: l ∧ Path g x l x := fun s hsm => by
      have hsR : s ∈ R := by rw [e]; rcases List.mem_append.mp hsm with a | a; exact List.mem_append_left _ a; exact List.mem_append_right _ (List.mem_cons_of_mem _ a)
      obtain ⟨x, l', rfl, p'⟩ := h.ok s hsR
      have nl : ∀ z ∈ r, z ∉ x :: l' := fun z hlr hin => by
        rw [List.flatten_append, List.flatten_cons] at hn
        rcases List.mem_append.mp hsm with a | a
        · exact (List.nodup_append.mp hn).2.2 z (List.mem_flatten.mpr ⟨_, a, hin⟩) z (List.mem_append_left _ hlr) rfl
        · exact (List.nodup_append.mp (List.nodup_append.mp hn).2.1).2.2 z hlr z (List.mem_flatten.mpr ⟨_, a, hin⟩) rfl
      have nl1 := nl left (hp.mem_iff.mp List.mem_cons_self)
      have nl2 := nl right (hp.mem_iff.mp (List.mem_cons_of_mem _ hr0))
      have hz : ∀ z ∈ x :: l', g z = f z := fun z hz => g5 z (h.mem.mp (List.mem_flatten.mpr ⟨_, hsR, hz⟩)) (fun q => nl1 (q ▸ hz)) fun q => nl2 (q ▸ hz)
      exact ⟨x, l', rfl, p'.other (hz x List.mem_cons_self) fun z q => hz z (List.mem_cons_of_mem _ q)⟩
    rcases List.mem_append.mp hr' with a | a
    · exact hold r' (List.mem_append_left _ a)
    · rcases List.mem_cons.mp a with rfl | a
      · exact ⟨left, _, rfl, g1, p2.other g2 fun z hz => g5 z (hml z (by simp [hz])).1 (hml z (by simp [hz])).2 (nv z hz)⟩
      · rcases List.mem_cons.mp a with rfl | a
        · exact ⟨right, _, rfl, g3, p1.other g4 fun z hz => g5 z (hml z (by simp [hz])).1 (hml z (by simp [hz])).2 (nu z hz)⟩
        · exact hold r' (List.mem_append_right _ a)
/-! ### as many rings, however they are told -/
def lmin : List Nat → Nat
  | [] => 0
  | [x] => x
  | x :: y :: r => min x (lmin (y :: r))
theorem lmin_mem : ∀ {r : List Nat}, r ≠ [] → lmin r ∈ r
  | [], h => absurd rfl h
  | [x], _ => List.mem_cons_self
  | x :: y :: r, _ => by
    have ih := lmin_mem (r := y :: r) (by simp)
    unfold lmin
    rcases Nat.le_total x (lmin (y :: r)) with h | h
    · rw [Nat.min_eq_left h]; exact List.mem_cons_self
    · rw [Nat.min_eq_right h]; exact List.mem_cons_of_mem _ ih
theorem lmin_le : ∀ {r : List Nat} {x : Nat}, x ∈ r → lmin r ≤ x
  | [x], y, h => by
    have e : y = x := by simpa using h
    rw [e]
    exact Nat.le_refl _
  | x :: y :: r, z, h => by
    unfold lmin
    rcases List.mem_cons.mp h with rfl | h
    · exact Nat.min_le_left _ _
    · exact Nat.le_trans (Nat.min_le_right _ _) (lmin_le h)
def iter (f : Nat → Nat) : Nat → Nat → Nat
  | 0, x => x
  | k + 1, x => iter f k (f x)
def Reach (f : Nat → Nat) (x y : Nat) : Prop := ∃ k, iter f k x = y
theorem Path.reach {f : Nat → Nat} : ∀ {x y : Nat} {l : List Nat}, Path f x l y → ∀ z ∈ l ++ [y], Reach f x z
  | x, y, [], h, z, hz => ⟨1, by rw [show z = y by simpa using hz]; exact h⟩
  | x, y, a :: l, h, z, hz => by
    rcases List.mem_cons.mp hz with rfl | hz
    · exact ⟨1, h.1⟩
    · obtain ⟨k, e⟩ := Path.reach h.2 z hz
      refine ⟨k + 1, ?_⟩
      show iter f k (f x) = z
      rw [h.1]
      exact e
theorem Path.step {f : Nat → Nat} : ∀ {x y : Nat} {l : List Nat}, Path f x l y → ∀ z ∈ x :: l, f z ∈ l ++ [y]
  | x, y, [], h, z, hz => by rw [show z = x by simpa using hz, show f x = y from h]; simp
  | x, y, a :: l, h, z, hz => by
    rcases List.mem_cons.mp hz with rfl | hz
    · rw [h.1]; simp
    · exact List.mem_cons_of_mem _ (Path.step h.2 z hz)
theorem Path.ring {f : Nat → Nat} {x : Nat} {l : List Nat} (h : Path f x l x) {z w : Nat} (hz : z ∈ x :: l) : w ∈ x :: l ↔ Reach f z w := by
  have cl : ∀ z ∈ x :: l, f z ∈ x :: l := fun z hz => by
    have := h.step z hz
    simp at this ⊢
    exact this.symm
  constructor
  · intro hw
    -- from z to x, from x to w
    have toX : Reach f z x := by
      rcases List.mem_cons.mp hz with rfl | hz
      · exact ⟨0, rfl⟩
      · obtain ⟨u, v, rfl⟩ := List.append_of_mem hz
        exact (Path.app.mp h).2.reach x (by simp)
    have toW : Reach f x w := by
      rcases List.mem_cons.mp hw with rfl | hw
      · exact ⟨0, rfl⟩
      · exact h.reach w (by simp [hw])
    obtain ⟨a, ea⟩ := toX
    obtain ⟨b, eb⟩ := toW
    have it : ∀ a z, iter f b (iter f a z) = iter f (a + b) z := by
      intro a
      induction a with
      | zero => intro z; rw [Nat.zero_add]; rfl
      | succ a ih => intro z; rw [Nat.add_right_comm]; exact ih (f z)
    exact ⟨a + b, by rw [← it, ea, eb]⟩
  · rintro ⟨k, e⟩
    subst e
    induction k generalizing z with
    | zero => exact hz
    | succ k ih => exact ih (cl z hz)
theorem Rings.leaders {f : Nat → Nat} {m : Nat} {R : List (List Nat)} (h : Rings f m R) : (R.map lmin).Nodup ∧ ∀ a, a ∈ R.map lmin ↔ a < m ∧ ∀ y, Reach f a y → a ≤ y := by
  constructor
  · have hn := h.nd
    have hne : ∀ r ∈ R, r ≠ [] := fun r hr => by obtain ⟨x, l, rfl, _⟩ := h.ok r hr; simp
    clear h
    induction R with
    | nil => exact List.nodup_nil
    | cons r R ih =>
      rw [List.flatten_cons] at hn
      obtain ⟨n1, n2, n3⟩ := List.nodup_append.mp hn
      refine List.nodup_cons.mpr ⟨fun hin => ?_, ih n2 fun s hs => hne s (List.mem_cons_of_mem _ hs)⟩
      obtain ⟨s, hs, es⟩ := List.mem_map.mp hin
      have h1 := lmin_mem (hne r List.mem_cons_self)
      have h2 := lmin_mem (hne s (List.mem_cons_of_mem _ hs))
      exact n3 _ h1 _ (List.mem_flatten.mpr ⟨s, hs, h2⟩) es.symm
  · intro a
    constructor
    · intro ha
      obtain ⟨r, hr, rfl⟩ := List.mem_map.mp ha
      obtain ⟨x, l, e, p⟩ := h.ok r hr
      have hm := lmin_mem (r := r) (by rw [e]; simp)
      refine ⟨h.mem.mp (List.mem_flatten.mpr ⟨r, hr, hm⟩), fun y hy => lmin_le ?_⟩
      rw [e] at hm ⊢
      rw [e] at hy
      exact (p.ring hm).mpr hy
    · rintro ⟨ha, hl⟩
      obtain ⟨r, hr, har⟩ := List.mem_flatten.mp (h.mem.mpr ha)
      obtain ⟨x, l, e, p⟩ := h.ok r hr
      refine List.mem_map.mpr ⟨r, hr, ?_⟩
      have hm := lmin_mem (r := r) (by rw [e]; simp)
      have h1 := lmin_le har
      have h2 := hl (lmin r) (by rw [e] at hm har ⊢; exact (p.ring har).mp hm)
      omega
theorem Rings.count {f : Nat → Nat} {m : Nat} {R S : List (List Nat)} (h : Rings f m R) (k : Rings f m S) : R.length = S.length := by
  have a := h.leaders
  have b := k.leaders
  have := len_of_nodup a.1 b.1 fun x => (a.2 x).trans (b.2 x).symm
  simpa using this

/-! ### webs: the ends of the ties, the turns of the places -/
abbrev EdgL := List (Nat × Nat)
abbrev Turns := List (List Nat)
def en (E : EdgL) (i : Nat) : Nat × Nat := E.getD i (0, 0)
def row (T : Turns) (p : Nat) : List Nat := T.getD p []
def hd (E : EdgL) (d : Nat) : Nat := if d % 2 = 0 then (en E (d / 2)).2 else (en E (d / 2)).1
def tl (E : EdgL) (d : Nat) : Nat := if d % 2 = 0 then (en E (d / 2)).1 else (en E (d / 2)).2
/-- the dart of tie j that leaves p -/
def outOf (E : EdgL) (p j : Nat) : Nat := 2 * j + if (en E j).1 = p then 0 else 1
def fol (E : EdgL) (T : Turns) (d : Nat) : Nat := outOf E (hd E d) (nxt (row T (hd E d)) (d / 2))
structure Ok (E : EdgL) (T : Turns) : Prop where
  ends : ∀ i, i < E.length → (en E i).1 ≠ (en E i).2 ∧ (en E i).1 < T.length ∧ (en E i).2 < T.length
  nd : ∀ p, p < T.length → (row T p).Nodup
  mem : ∀ p, p < T.length → ∀ i, i ∈ row T p ↔ i < E.length ∧ ((en E i).1 = p ∨ (en E i).2 = p)
section
variable {E : EdgL} {T : Turns}
theorem Ok.hd_lt (h : Ok E T) {d : Nat} (hd' : d < 2 * E.length) : hd E d < T.length := by
  have := h.ends (d / 2) (by omega)
  unfold hd
  split <;> omega
theorem Ok.hd_mem (h : Ok E T) {d : Nat} (hd' : d < 2 * E.length) : d / 2 ∈ row T (hd E d) := by
  refine (h.mem _ (h.hd_lt hd') _).mpr ⟨by omega, ?_⟩
  unfold hd
  split
  · exact .inr rfl
  · exact .inl rfl
theorem outOf_half (E : EdgL) (p j : Nat) : outOf E p j / 2 = j := by unfold outOf; split <;> omega
theorem outOf_tl {E : EdgL} {p j : Nat} (h : (en E j).1 = p ∨ (en E j).2 = p) : tl E (outOf E p j) = p := by
  unfold tl
  rw [outOf_half]
  unfold outOf
  by_cases e : (en E j).1 = p
  · rw [if_pos e, if_pos (by omega)]; exact e
  · rw [if_neg e, if_neg (by omega)]
    rcases h with h | h
    · exact absurd h e
    · exact h
theorem Ok.nxt_mem' (h : Ok E T) {d : Nat} (hd' : d < 2 * E.length) : nxt (row T (hd E d)) (d / 2) < E.length ∧ ((en E (nxt (row T (hd E d)) (d / 2))).1 = hd E d ∨ (en E (nxt (row T (hd E d)) (d / 2))).2 = hd E d) :=
  (h.mem _ (h.hd_lt hd') _).mp (nxt_mem (h.hd_mem hd'))
theorem Ok.fol_lt (h : Ok E T) {d : Nat} (hd' : d < 2 * E.length) : fol E T d < 2 * E.length := by
  have := (h.nxt_mem' hd').1
  unfold fol outOf
  split <;> omega
theorem Ok.fol_tl (h : Ok E T) {d : Nat} (hd' : d < 2 * E.length) : tl E (fol E T d) = hd E d := outOf_tl (h.nxt_mem' hd').2
theorem dart_eq {E : EdgL} {d e : Nat} (hne : (en E (d / 2)).1 ≠ (en E (d / 2)).2) (h1 : d / 2 = e / 2) (h2 : hd E d = hd E e) : d = e := by
  unfold hd at h2
  rw [← h1] at h2
  by_cases a : d % 2 = 0 <;> by_cases b : e % 2 = 0
  · omega
  · rw [if_pos a, if_neg b] at h2; exact absurd h2.symm hne
  · rw [if_neg a, if_pos b] at h2; exact absurd h2 hne
  · omega
theorem Ok.fol_inj (h : Ok E T) {d e : Nat} (h1 : d < 2 * E.length) (h2 : e < 2 * E.length) (q : fol E T d = fol E T e) : d = e := by
  have t1 := h.fol_tl h1
  have t2 := h.fol_tl h2
  rw [q, t2] at t1
  have q2 : fol E T d / 2 = fol E T e / 2 := by rw [q]
  unfold fol at q2
  rw [outOf_half, outOf_half, t1] at q2
  have m1 := h.hd_mem h1
  have m2 := h.hd_mem h2
  rw [t1] at m2
  have := nxt_inj (h.nd _ (h.hd_lt h1)) m1 m2 q2
  exact dart_eq (h.ends (d / 2) (by omega)).1 this t1.symm
end
/-- in one piece -/
def Whole (E : EdgL) (many : Nat) : Prop := ∀ S : Nat → Bool, (∀ i, i < E.length → S (en E i).1 = S (en E i).2) → ∀ p q, p < many → q < many → S p = S q
/-- a flat web -/
structure Flat (E : EdgL) (T : Turns) : Prop where
  ok : Ok E T
  whole : Whole E T.length
  euler : ∃ R, Rings (fol E T) (2 * E.length) R ∧ T.length + R.length = E.length + 2
theorem en_push (E : EdgL) (x : Nat × Nat) (i : Nat) : en (E ++ [x]) i = if i = E.length then x else en E i := by
  unfold en
  rw [List.getD_eq_getElem?_getD, List.getD_eq_getElem?_getD]
  by_cases h : i = E.length
  · subst h
    rw [if_pos rfl, List.getElem?_append_right (Nat.le_refl _)]
    simp
  · rw [if_neg h]
    by_cases h2 : i < E.length
    · rw [List.getElem?_append_left h2]
    · rw [List.getElem?_eq_none (by simp; omega), List.getElem?_eq_none (by omega)]
theorem row_set (T : Turns) {p : Nat} (r : List Nat) (hp : p < T.length) (q : Nat) : row (T.set p r) q = if q = p then r else row T q := by
  unfold row
  rw [List.getD_eq_getElem?_getD, List.getD_eq_getElem?_getD]
  by_cases h : q = p
  · subst h
    rw [if_pos rfl, List.getElem?_set_self hp]
    rfl
  · rw [if_neg h, List.getElem?_set_ne (Ne.symm h)]
theorem row_push (T : Turns) (r : List Nat) (q : Nat) : row (T ++ [r]) q = if q = T.length then r else row T q := by
  unfold row
  rw [List.getD_eq_getElem?_getD, List.getD_eq_getElem?_getD]
  by_cases h : q = T.length
  · subst h
    rw [if_pos rfl, List.getElem?_append_right (Nat.le_refl _)]
    simp
  · rw [if_neg h]
    by_cases h2 : q < T.length
    · rw [List.getElem?_append_left h2]
    · rw [List.getElem?_eq_none (by simp; omega), List.getElem?_eq_none (by omega)]
theorem nxt_one (x : Nat) : nxt [x] x = x := by simp [nxt, Nat.mod_one]
/-- behind tie x in p's list -/
def putBehind (T : Turns) (p x y : Nat) : Turns := T.set p (putAt (row T p) ((row T p).idxOf x + 1) y)
theorem putBehind_len (T : Turns) (p x y : Nat) : (putBehind T p x y).length = T.length := by unfold putBehind; simp
theorem putBehind_row (T : Turns) {p : Nat} (x y : Nat) (hp : p < T.length) (q : Nat) : row (putBehind T p x y) q = if q = p then putAt (row T p) ((row T p).idxOf x + 1) y else row T q := row_set T _ hp q
/-- the first web: two places and a tie -/
theorem flat0 : Flat [(0, 1)] [[0], [0]] := by
  refine ⟨⟨?_, ?_, ?_⟩, ?_, [[0, 1]], ⟨by decide, ?_⟩, rfl⟩
  · intro i hi
    have : i = 0 := by simpa using hi
    subst this
    decide
  · intro p hp
    have : p = 0 ∨ p = 1 := by simp at hp; omega
    rcases this with rfl | rfl <;> decide
  · intro p hp i
    have : p = 0 ∨ p = 1 := by simp at hp; omega
    rcases this with rfl | rfl
    · show i ∈ [0] ↔ _
      constructor
      · intro h
        have : i = 0 := by simpa using h
        subst this
        exact ⟨by decide, .inl rfl⟩
      · rintro ⟨h, _⟩
        have : i = 0 := by simpa using h
        subst this
        decide
    · show i ∈ [0] ↔ _
      constructor
      · intro h
        have : i = 0 := by simpa using h
        subst this
        exact ⟨by decide, .inr rfl⟩
      · rintro ⟨h, _⟩
        have : i = 0 := by simpa using h
        subst this
        decide
  · intro S hS p q hp hq
    have h := hS 0 (by decide)
    have h' : S 0 = S 1 := h
    have a : p = 0 ∨ p = 1 := by simp at hp; omega
    have b : q = 0 ∨ q = 1 := by simp at hq; omega
    rcases a with rfl | rfl <;> rcases b with rfl | rfl
    · rfl
    · exact h'
    · exact h'.symm
    · rfl
  · intro r hr
    have : r = [0, 1] := by simpa using hr
    subst this
    exact ⟨0, [1], rfl, by decide, by show fol [(0, 1)] [[0], [0]] 1 = 0; decide⟩
section
variable {E : EdgL} {T : Turns}
theorem hd_old {x : Nat × Nat} {d : Nat} (h : d < 2 * E.length) : hd (E ++ [x]) d = hd E d := by
  have e : en (E ++ [x]) (d / 2) = en E (d / 2) := by rw [en_push, if_neg (by omega)]
  unfold hd
  rw [e]
theorem outOf_old {x : Nat × Nat} {p j : Nat} (h : j < E.length) : outOf (E ++ [x]) p j = outOf E p j := by
  have e : en (E ++ [x]) j = en E j := by rw [en_push, if_neg (by omega)]
  unfold outOf
  rw [e]
/-- the new tie's dart that leaves its end a (the other one b) -/
def newD (E : EdgL) (flip : Bool) : Nat := 2 * E.length + if flip = true then 1 else 0
def newE (flip : Bool) (a b : Nat) : Nat × Nat := if flip = true then (b, a) else (a, b)
theorem newE_or (flip : Bool) (a b p : Nat) : ((newE flip a b).1 = p ∨ (newE flip a b).2 = p) ↔ (p = a ∨ p = b) := by
  unfold newE
  cases flip <;> simp <;> omega
theorem out_new {flip : Bool} {a b : Nat} (hab : a ≠ b) : outOf (E ++ [newE flip a b]) a E.length = newD E flip ∧ outOf (E ++ [newE flip a b]) b E.length = newD E (!flip) := by
  unfold outOf newD
  rw [en_push, if_pos rfl]
  unfold newE
  cases flip <;> simp [hab, Ne.symm hab]
theorem hd_new {flip : Bool} {a b : Nat} : hd (E ++ [newE flip a b]) (newD E flip) = b ∧ hd (E ++ [newE flip a b]) (newD E (!flip)) = a := by
  have h1 : (2 * E.length + 1) / 2 = E.length := by omega
  have h2 : (2 * E.length) / 2 = E.length := by omega
  have h3 : (2 * E.length + 1) % 2 = 1 := by omega
  have h4 : (2 * E.length) % 2 = 0 := by omega
  unfold hd newD
  cases flip <;> simp [h1, h2, h3, h4, en_push, newE]
theorem newD_half (flip : Bool) : newD E flip / 2 = E.length := by unfold newD; split <;> omega
theorem newD_or (flip : Bool) : (newD E flip = 2 * E.length ∧ newD E (!flip) = 2 * E.length + 1) ∨ (newD E flip = 2 * E.length + 1 ∧ newD E (!flip) = 2 * E.length) := by
  unfold newD
  cases flip <;> simp
/-- a leaf at the corner behind left -/
theorem Flat.leaf (h : Flat E T) {left : Nat} (hl : left < 2 * E.length) (flip : Bool) :
    Flat (E ++ [newE flip (hd E left) T.length]) (putBehind T (hd E left) (left / 2) E.length ++ [[E.length]]) := by
  obtain ⟨ok, wh, R, hR, hE⟩ := h
  have hp := ok.hd_lt hl
  have hin := ok.hd_mem hl
  have hout : E.length ∉ row T (hd E left) := fun z => by have := ((ok.mem _ hp _).mp z).1; omega
  have hab : hd E left ≠ T.length := by omega
  have len2 : (putBehind T (hd E left) (left / 2) E.length ++ [[E.length]]).length = T.length + 1 := by simp [putBehind_len]
  have rows : ∀ q, row (putBehind T (hd E left) (left / 2) E.length ++ [[E.length]]) q = if q = T.length then [E.length] else if q = hd E left then putAt (row T (hd E left)) ((row T (hd E left)).idxOf (left / 2) + 1) E.length else row T q := fun q => by
    rw [row_push, putBehind_len, putBehind_row T _ _ hp]
  obtain ⟨n1, n2, n3⟩ := nxt_put (ok.nd _ hp) hin hout
  have nok : Ok (E ++ [newE flip (hd E left) T.length]) (putBehind T (hd E left) (left / 2) E.length ++ [[E.length]]) := by
    refine ⟨fun i hi => ?_, fun p hp' => ?_, fun p hp' i => ?_⟩
    · rw [len2, en_push]
      rw [List.length_append, List.length_singleton] at hi
      by_cases e : i = E.length
      · rw [if_pos e]
        unfold newE
        cases flip <;> simp <;> omega
      · rw [if_neg e]
        have := ok.ends i (by omega)
        omega
    · rw [rows]
      split
      · exact List.nodup_cons.mpr ⟨by simp, List.nodup_nil⟩
      · split
        · exact putAt_nodup (ok.nd _ hp) hout
        · exact ok.nd p (by rw [len2] at hp'; omega)
    · rw [rows, List.length_append, List.length_singleton, en_push]
      rw [len2] at hp'
      by_cases e : i = E.length
      · subst e
        rw [if_pos rfl, newE_or]
        by_cases e2 : p = T.length
        · rw [if_pos e2]; simp [e2]
        · rw [if_neg e2]
          by_cases e3 : p = hd E left
          · rw [if_pos e3, putAt_mem]; simp [e3]
          · rw [if_neg e3]
            constructor
            · intro z; have := ((ok.mem p (by omega) _).mp z).1; omega
            · rintro ⟨_, z | z⟩ <;> omega
      · rw [if_neg e]
        by_cases e2 : p = T.length
        · rw [if_pos e2]
          constructor
          · intro z; exact absurd (by simpa using z) e
          · rintro ⟨z1, z2⟩
            have := ok.ends i (by omega)
            omega
        · rw [if_neg e2]
          by_cases e3 : p = hd E left
          · rw [if_pos e3, putAt_mem, e3, ok.mem _ hp]
            constructor
            · rintro (z | ⟨z1, z2⟩)
              · exact absurd z e
              · exact ⟨by omega, z2⟩
            · rintro ⟨z1, z2⟩; exact .inr ⟨by omega, z2⟩
          · rw [if_neg e3, ok.mem p (by omega)]
            constructor
            · rintro ⟨z1, z2⟩; exact ⟨by omega, z2⟩
            · rintro ⟨z1, z2⟩; exact ⟨by omega, z2⟩
  refine ⟨nok, ?_, ?_⟩
  · intro S hS
    rw [len2]
    have hS' : ∀ i, i < E.length → S (en E i).1 = S (en E i).2 := fun i hi => by
      have := hS i (by simp; omega)
      rw [en_push, if_neg (by omega)] at this
      exact this
    have hnew : S (hd E left) = S T.length := by
      have := hS E.length (by simp)
      rw [en_push, if_pos rfl] at this
      unfold newE at this
      cases flip
      · exact this
      · exact this.symm
    have base := wh S hS'
    have all : ∀ p, p < T.length + 1 → S p = S (hd E left) := fun p hp' => by
      by_cases e : p = T.length
      · rw [e, hnew]
      · exact base p _ (by omega) hp
    intro p q hp' hq
    rw [all p hp', all q hq]
  · have f4 : ∀ z, z < 2 * E.length → z ≠ left → fol (E ++ [newE flip (hd E left) T.length]) (putBehind T (hd E left) (left / 2) E.length ++ [[E.length]]) z = fol E T z := fun z hz hne => by
      unfold fol
      rw [hd_old hz, rows, if_neg (by have := ok.hd_lt hz; omega)]
      by_cases e : hd E z = hd E left
      · rw [if_pos e]
        have hz2 : z / 2 ≠ left / 2 := fun q => hne (dart_eq (ok.ends _ (by omega)).1 q e)
        have hzm := ok.hd_mem hz
        rw [e] at hzm
        rw [n3 _ hzm hz2, e, outOf_old]
        have := (ok.nxt_mem' hz).1
        rw [e] at this
        exact this
      · rw [if_neg e, outOf_old (ok.nxt_mem' hz).1]
    have f1 : fol (E ++ [newE flip (hd E left) T.length]) (putBehind T (hd E left) (left / 2) E.length ++ [[E.length]]) left = newD E flip := by
      unfold fol
      rw [hd_old hl, rows, if_neg hab, if_pos rfl, n1, (out_new hab).1]
    have f2 : fol (E ++ [newE flip (hd E left) T.length]) (putBehind T (hd E left) (left / 2) E.length ++ [[E.length]]) (newD E flip) = newD E (!flip) := by
      unfold fol
      rw [hd_new.1, rows, if_pos rfl, newD_half, nxt_one, (out_new hab).2]
    have f3 : fol (E ++ [newE flip (hd E left) T.length]) (putBehind T (hd E left) (left / 2) E.length ++ [[E.length]]) (newD E (!flip)) = fol E T left := by
      unfold fol
      rw [hd_new.2, rows, if_neg hab, if_pos rfl, newD_half, n2, outOf_old (ok.nxt_mem' hl).1]
    obtain ⟨R', hR', hl'⟩ := hR.leaf hl (newD_or flip) f1 f2 f3 f4
    refine ⟨R', ?_, ?_⟩
    · have : 2 * (E ++ [newE flip (hd E left) T.length]).length = 2 * E.length + 2 := by simp; omega
      rw [this]
      exact hR'
    · rw [len2, List.length_append, List.length_singleton]; omega
/-- a chord between the corners behind left and right, darts of one ring -/
theorem Flat.chord (h : Flat E T) {left right : Nat} {l : List Nat} (hl : left < 2 * E.length) (hr : right < 2 * E.length) (hab : hd E left ≠ hd E right) (hp0 : Path (fol E T) left l left) (hn0 : (left :: l).Nodup) (hin0 : right ∈ l) (flip : Bool) :
    Flat (E ++ [newE flip (hd E left) (hd E right)]) (putBehind (putBehind T (hd E left) (left / 2) E.length) (hd E right) (right / 2) E.length) := by
  obtain ⟨ok, wh, R, hR, hE⟩ := h
  have hp := ok.hd_lt hl
  have hq := ok.hd_lt hr
  have hinp := ok.hd_mem hl
  have hinq := ok.hd_mem hr
  have hne : left ≠ right := fun e => hab (by rw [e])
  have outp : E.length ∉ row T (hd E left) := fun z => by have := ((ok.mem _ hp _).mp z).1; omega
  have outq : E.length ∉ row T (hd E right) := fun z => by have := ((ok.mem _ hq _).mp z).1; omega
  have len2 : (putBehind (putBehind T (hd E left) (left / 2) E.length) (hd E right) (right / 2) E.length).length = T.length := by rw [putBehind_len, putBehind_len]
  have rows : ∀ z, row (putBehind (putBehind T (hd E left) (left / 2) E.length) (hd E right) (right / 2) E.length) z = if z = hd E right then putAt (row T (hd E right)) ((row T (hd E right)).idxOf (right / 2) + 1) E.length else if z = hd E left then putAt (row T (hd E left)) ((row T (hd E left)).idxOf (left / 2) + 1) E.length else row T z := fun z => by
    rw [putBehind_row _ _ _ (by rw [putBehind_len]; exact hq), putBehind_row _ _ _ hp (hd E right), if_neg (Ne.symm hab), putBehind_row _ _ _ hp z]
  obtain ⟨n1, n2, n3⟩ := nxt_put (ok.nd _ hp) hinp outp
  obtain ⟨m1, m2, m3⟩ := nxt_put (ok.nd _ hq) hinq outq
  have nok : Ok (E ++ [newE flip (hd E left) (hd E right)]) (putBehind (putBehind T (hd E left) (left / 2) E.length) (hd E right) (right / 2) E.length) := by
    refine ⟨fun i hi => ?_, fun p hp' => ?_, fun p hp' i => ?_⟩
    · rw [len2, en_push]
      rw [List.length_append, List.length_singleton] at hi
      by_cases e : i = E.length
      · rw [if_pos e]
        unfold newE
        cases flip <;> simp <;> omega
      · rw [if_neg e]
        exact ok.ends i (by omega)
    · rw [rows]
      rw [len2] at hp'
      split
      · exact putAt_nodup (ok.nd _ hq) outq
      · split
        · exact putAt_nodup (ok.nd _ hp) outp
        · exact ok.nd p hp'
    · rw [rows, List.length_append, List.length_singleton, en_push]
      rw [len2] at hp'
      by_cases e : i = E.length
      · subst e
        rw [if_pos rfl, newE_or]
        by_cases e2 : p = hd E right
        · rw [if_pos e2, putAt_mem]; simp [e2]
        · rw [if_neg e2]
          by_cases e3 : p = hd E left
          · rw [if_pos e3, putAt_mem]; simp [e3]
          · rw [if_neg e3]
            constructor
            · intro z; have := ((ok.mem p hp' _).mp z).1; omega
            · rintro ⟨_, z | z⟩ <;> omega
      · rw [if_neg e]
        have fin : i ∈ row T p ↔ i < E.length + 1 ∧ ((en E i).1 = p ∨ (en E i).2 = p) := by
          rw [ok.mem p hp']
          constructor
          · rintro ⟨z1, z2⟩; exact ⟨by omega, z2⟩
          · rintro ⟨z1, z2⟩; exact ⟨by omega, z2⟩
        by_cases e2 : p = hd E right
        · rw [if_pos e2, putAt_mem, ← e2, ← fin]
          constructor
          · rintro (z | z)
            · exact absurd z e
            · exact z
          · exact .inr
        · rw [if_neg e2]
          by_cases e3 : p = hd E left
          · rw [if_pos e3, putAt_mem, ← e3, ← fin]
            constructor
            · rintro (z | z)
              · exact absurd z e
              · exact z
            · exact .inr
          · rw [if_neg e3, fin]
  refine ⟨nok, ?_, ?_⟩
  · intro S hS
    rw [len2]
    exact wh S fun i hi => by
      have := hS i (by simp; omega)
      rw [en_push, if_neg (by omega)] at this
      exact this
  · have f5 : ∀ z, z < 2 * E.length → z ≠ left → z ≠ right → fol (E ++ [newE flip (hd E left) (hd E right)]) (putBehind (putBehind T (hd E left) (left / 2) E.length) (hd E right) (right / 2) E.length) z = fol E T z := fun z hz hne1 hne2 => by
      unfold fol
      rw [hd_old hz, rows]
      by_cases e : hd E z = hd E right
      · rw [if_pos e]
        have hz2 : z / 2 ≠ right / 2 := fun q => hne2 (dart_eq (ok.ends _ (by omega)).1 q e)
        have hzm := ok.hd_mem hz
        rw [e] at hzm
        rw [m3 _ hzm hz2, e, outOf_old]
        have := (ok.nxt_mem' hz).1
        rw [e] at this
        exact this
      · rw [if_neg e]
        by_cases e2 : hd E z = hd E left
        · rw [if_pos e2]
          have hz2 : z / 2 ≠ left / 2 := fun q => hne1 (dart_eq (ok.ends _ (by omega)).1 q e2)
          have hzm := ok.hd_mem hz
          rw [e2] at hzm
          rw [n3 _ hzm hz2, e2, outOf_old]
          have := (ok.nxt_mem' hz).1
          rw [e2] at this
          exact this
        · rw [if_neg e2, outOf_old (ok.nxt_mem' hz).1]
    have f1 : fol (E ++ [newE flip (hd E left) (hd E right)]) (putBehind (putBehind T (hd E left) (left / 2) E.length) (hd E right) (right / 2) E.length) left = newD E flip := by
      unfold fol
      rw [hd_old hl, rows, if_neg hab, if_pos rfl, n1, (out_new hab).1]
    have f2 : fol (E ++ [newE flip (hd E left) (hd E right)]) (putBehind (putBehind T (hd E left) (left / 2) E.length) (hd E right) (right / 2) E.length) (newD E flip) = fol E T right := by
      unfold fol
      rw [hd_new.1, rows, if_pos rfl, newD_half, m2, outOf_old (ok.nxt_mem' hr).1]
    have f3 : fol (E ++ [newE flip (hd E left) (hd E right)]) (putBehind (putBehind T (hd E left) (left / 2) E.length) (hd E right) (right / 2) E.length) right = newD E (!flip) := by
      unfold fol
      rw [hd_old hr, rows, if_pos rfl, m1, (out_new hab).2]
    have f4 : fol (E ++ [newE flip (hd E left) (hd E right)]) (putBehind (putBehind T (hd E left) (left / 2) E.length) (hd E right) (right / 2) E.length) (newD E (!flip)) = fol E T left := by
      unfold fol
      rw [hd_new.2, rows, if_neg hab, if_pos rfl, newD_half, n2, outOf_old (ok.nxt_mem' hl).1]
    obtain ⟨R', hR', hl'⟩ := hR.chord hl hne hp0 hn0 hin0 (newD_or flip) f1 f2 f3 f4 f5
    refine ⟨R', ?_, ?_⟩
    · have : 2 * (E ++ [newE flip (hd E left) (hd E right)]).length = 2 * E.length + 2 := by simp; omega
      rw [this]
      exact hR'
    · rw [len2, List.length_append, List.length_singleton]; omega
end

/-! ### rings as they are told by the growing -/
def Cyc (f : Nat → Nat) (r : List Nat) : Prop := ∃ x l, r = x :: l ∧ Path f x l x
theorem cyc_rot {f : Nat → Nat} {u v : List Nat} (h : Cyc f (u ++ v)) : Cyc f (v ++ u) := by
  obtain ⟨x, l, e, p⟩ := h
  cases u with
  | nil => exact ⟨x, l, by rw [List.append_nil]; exact e, p⟩
  | cons a u =>
    cases v with
    | nil => exact ⟨x, l, by rw [List.append_nil] at e; exact e, p⟩
    | cons b v =>
      rw [List.cons_append] at e
      injection e with e1 e2
      subst e1 e2
      obtain ⟨p1, p2⟩ := Path.app.mp p
      exact ⟨b, v ++ a :: u, rfl, Path.app.mpr ⟨p2, p1⟩⟩
theorem cyc_head {f : Nat → Nat} {x : Nat} {l : List Nat} (h : Cyc f (x :: l)) : Path f x l x := by
  obtain ⟨y, l', e, p⟩ := h
  injection e with e1 e2
  subst e1 e2
  exact p
theorem Cyc.at {f : Nat → Nat} {x : Nat} {u v : List Nat} (h : Cyc f (u ++ x :: v)) : Path f x (v ++ u) x := cyc_head (cyc_rot h)
theorem Cyc.leaf {f g : Nat → Nat} {u v : List Nat} {left out back : Nat} (h : Cyc f (u ++ left :: v)) (g1 : g left = out) (g2 : g out = back) (g3 : g back = f left) (g4 : ∀ z ∈ v ++ u, g z = f z) : Cyc g (u ++ left :: out :: back :: v) := by
  have p := h.at
  have : Cyc g ((left :: out :: back :: v) ++ u) := ⟨left, out :: back :: (v ++ u), rfl, g1, g2, p.other g3 g4⟩
  exact cyc_rot this
theorem Cyc.chord {f g : Nat → Nat} {u m v : List Nat} {left right out back : Nat} (h : Cyc f (u ++ left :: (m ++ right :: v))) (g1 : g left = out) (g2 : g out = f right) (g3 : g right = back) (g4 : g back = f left) (g5 : ∀ z, (z ∈ m ∨ z ∈ v ++ u) → g z = f z) : Cyc g (u ++ left :: out :: v) ∧ Cyc g (m ++ [right, back]) := by
  have p := h.at
  rw [List.append_assoc, List.cons_append] at p
  obtain ⟨p1, p2⟩ := Path.app.mp p
  have a : Cyc g ((left :: out :: v) ++ u) := ⟨left, out :: (v ++ u), rfl, g1, p2.other g2 fun z hz => g5 z (.inr hz)⟩
  have b : Cyc g ([right, back] ++ m) := ⟨right, back :: m, rfl, g3, p1.other g4 fun z hz => g5 z (.inl hz)⟩
  exact ⟨cyc_rot a, cyc_rot b⟩
theorem set_split {α : Type} {R : List α} {w : Nat} {r : α} (h : R[w]? = some r) : ∃ A B, R = A ++ r :: B ∧ ∀ r', R.set w r' = A ++ r' :: B := by
  induction R generalizing w with
  | nil => simp at h
  | cons s R ih =>
    cases w with
    | zero =>
      rw [List.getElem?_cons_zero] at h
      injection h with h
      exact ⟨[], R, by rw [h]; rfl, fun r' => rfl⟩
    | succ w =>
      rw [List.getElem?_cons_succ] at h
      obtain ⟨A, B, e1, e2⟩ := ih h
      exact ⟨s :: A, B, by rw [e1]; rfl, fun r' => by rw [List.set_cons_succ, e2]; rfl⟩
theorem two_perm {m out back : Nat} (ho : (out = m ∧ back = m + 1) ∨ (out = m + 1 ∧ back = m)) : (out :: back :: List.range m).Perm (List.range (m + 2)) := by
  refine List.Perm.trans ?_ (range_two m).symm
  rcases ho with ⟨rfl, rfl⟩ | ⟨rfl, rfl⟩
  · exact List.Perm.refl _
  · exact List.Perm.swap _ _ _
theorem Rings.leafB {f g : Nat → Nat} {m w left out back : Nat} {R : List (List Nat)} {u v : List Nat} (h : Rings f m R) (hw : R[w]? = some (u ++ left :: v)) (ho : (out = m ∧ back = m + 1) ∨ (out = m + 1 ∧ back = m))
    (g1 : g left = out) (g2 : g out = back) (g3 : g back = f left) (g4 : ∀ z, z < m → z ≠ left → g z = f z) : Rings g (m + 2) (R.set w (u ++ left :: out :: back :: v)) := by
  obtain ⟨A, B, e, es⟩ := set_split hw
  have hn := h.nd
  rw [es]
  have hmem : ∀ r ∈ R, ∀ z ∈ r, z < m := fun r hr z hz => h.mem.mp (List.mem_flatten.mpr ⟨r, hr, hz⟩)
  have hrR : u ++ left :: v ∈ R := by rw [e]; simp
  rw [e, List.flatten_append, List.flatten_cons] at hn
  have hn2 := (List.nodup_append.mp hn).2.1
  have hnr := (List.nodup_append.mp hn2).1
  refine ⟨?_, fun r' hr' => ?_⟩
  · refine List.Perm.trans ?_ (two_perm ho)
    refine List.Perm.trans ?_ ((h.all.cons back).cons out)
    rw [e, List.perm_iff_count]
    intro a
    simp only [List.flatten_append, List.flatten_cons, List.count_append, List.count_cons]
    omega
  · have hold : ∀ s ∈ A ++ B, ∃ x l, s = x :: l ∧ Path g x l x := fun s hsm => by
      have hsR : s ∈ R := by rw [e]; rcases List.mem_append.mp hsm with a | a; exact List.mem_append_left _ a; exact List.mem_append_right _ (List.mem_cons_of_mem _ a)
      obtain ⟨x, l', rfl, p'⟩ := h.ok s hsR
      have nl : left ∉ x :: l' := fun hin => by
        rcases List.mem_append.mp hsm with a | a
        · exact (List.nodup_append.mp hn).2.2 left (List.mem_flatten.mpr ⟨_, a, hin⟩) left (List.mem_append_left _ (by simp)) rfl
        · exact (List.nodup_append.mp hn2).2.2 left (by simp) left (List.mem_flatten.mpr ⟨_, a, hin⟩) rfl
      have hz : ∀ z ∈ x :: l', g z = f z := fun z hz => g4 z (hmem _ hsR z hz) fun q => nl (q ▸ hz)
      exact ⟨x, l', rfl, p'.other (hz x List.mem_cons_self) fun z q => hz z (List.mem_cons_of_mem _ q)⟩
    rcases List.mem_append.mp hr' with a | a
    · exact hold r' (List.mem_append_left _ a)
    · rcases List.mem_cons.mp a with rfl | a
      · refine Cyc.leaf (h.ok _ hrR) g1 g2 g3 fun z hz => g4 z (hmem _ hrR z (by simp at hz ⊢; rcases hz with a | a <;> simp [a])) fun q => ?_
        subst q
        rcases List.mem_append.mp hz with a | a
        · exact (List.nodup_cons.mp (List.nodup_append.mp hnr).2.1).1 a
        · exact (List.nodup_append.mp hnr).2.2 z a z List.mem_cons_self rfl
      · exact hold r' (List.mem_append_right _ a)
theorem Rings.chordB {f g : Nat → Nat} {m w left right out back : Nat} {R : List (List Nat)} {u n v : List Nat} (h : Rings f m R) (hw : R[w]? = some (u ++ left :: (n ++ right :: v))) (ho : (out = m ∧ back = m + 1) ∨ (out = m + 1 ∧ back = m))
    (g1 : g left = out) (g2 : g out = f right) (g3 : g right = back) (g4 : g back = f left) (g5 : ∀ z, z < m → z ≠ left → z ≠ right → g z = f z) : Rings g (m + 2) (R.set w (u ++ left :: out :: v) ++ [n ++ [right, back]]) := by
  obtain ⟨A, B, e, es⟩ := set_split hw
  have hn := h.nd
  rw [es]
  have hmem : ∀ r ∈ R, ∀ z ∈ r, z < m := fun r hr z hz => h.mem.mp (List.mem_flatten.mpr ⟨r, hr, hz⟩)
  have hrR : u ++ left :: (n ++ right :: v) ∈ R := by rw [e]; simp
  rw [e, List.flatten_append, List.flatten_cons] at hn
  have hn2 := (List.nodup_append.mp hn).2.1
  have hnr := (List.nodup_append.mp hn2).1
  have hcy := Cyc.chord (h.ok _ hrR) g1 g2 g3 g4 fun z hz => by
    have hzr : z ∈ u ++ left :: (n ++ right :: v) := by simp at hz ⊢; rcases hz with a | a | a <;> simp [a]
    refine g5 z (hmem _ hrR z hzr) (fun q => ?_) fun q => ?_
    · subst q
      rw [List.nodup_append] at hnr
      obtain ⟨_, k1, k2⟩ := hnr
      rcases hz with a | a
      · exact (List.nodup_cons.mp k1).1 (by simp [a])
      · rcases List.mem_append.mp a with a | a
        · exact (List.nodup_cons.mp k1).1 (by simp [a])
        · exact k2 z a z List.mem_cons_self rfl
    · subst q
      rw [List.nodup_append] at hnr
      obtain ⟨_, k1, k2⟩ := hnr
      have k3 := (List.nodup_cons.mp k1).2
      rw [List.nodup_append] at k3
      obtain ⟨_, k4, k5⟩ := k3
      rcases hz with a | a
      · exact k5 z a z List.mem_cons_self rfl
      · rcases List.mem_append.mp a with a | a
        · exact (List.nodup_cons.mp k4).1 a
        · exact k2 z a z (by simp) rfl
  refine ⟨?_, fun r' hr' => ?_⟩
  · refine List.Perm.trans ?_ (two_perm ho)
    refine List.Perm.trans ?_ ((h.all.cons back).cons out)
    rw [e, List.perm_iff_count]
    intro a
    simp only [List.flatten_append, List.flatten_cons, List.count_append, List.count_cons, List.flatten_nil, List.count_nil]
    omega
  · have hold : ∀ s ∈ A ++ B, ∃ x l, s = x :: l ∧ Path g x l x := fun s hsm => by
      have hsR : s ∈ R := by rw [e]; rcases List.mem_append.mp hsm with a | a; exact List.mem_append_left _ a; exact List.mem_append_right _ (List.mem_cons_of_mem _ a)
      obtain ⟨x, l', rfl, p'⟩ := h.ok s hsR
      have nl : ∀ y, y ∈ u ++ left :: (n ++ right :: v) → y ∉ x :: l' := fun y hy hin => by
        rcases List.mem_append.mp hsm with a | a
        · exact (List.nodup_append.mp hn).2.2 y (List.mem_flatten.mpr ⟨_, a, hin⟩) y (List.mem_append_left _ hy) rfl
        · exact (List.nodup_append.mp hn2).2.2 y hy y (List.mem_flatten.mpr ⟨_, a, hin⟩) rfl
      have hz : ∀ z ∈ x :: l', g z = f z := fun z hz => g5 z (hmem _ hsR z hz) (fun q => nl left (by simp) (q ▸ hz)) fun q => nl right (by simp) (q ▸ hz)
      exact ⟨x, l', rfl, p'.other (hz x List.mem_cons_self) fun z q => hz z (List.mem_cons_of_mem _ q)⟩
    rcases List.mem_append.mp hr' with a | a
    · rcases List.mem_append.mp a with a | a
      · exact hold r' (List.mem_append_left _ a)
      · rcases List.mem_cons.mp a with rfl | a
        · exact hcy.1
        · exact hold r' (List.mem_append_right _ a)
    · rw [List.mem_singleton.mp a]
      exact hcy.2
section
variable {E : EdgL} {T : Turns}
theorem leaf_fol (ok : Ok E T) {left : Nat} (hl : left < 2 * E.length) (flip : Bool) :
    let g := fol (E ++ [newE flip (hd E left) T.length]) (putBehind T (hd E left) (left / 2) E.length ++ [[E.length]])
    g left = newD E flip ∧ g (newD E flip) = newD E (!flip) ∧ g (newD E (!flip)) = fol E T left ∧ ∀ z, z < 2 * E.length → z ≠ left → g z = fol E T z := by
  have hp := ok.hd_lt hl
  have hin := ok.hd_mem hl
  have hout : E.length ∉ row T (hd E left) := fun z => by have := ((ok.mem _ hp _).mp z).1; omega
  have hab : hd E left ≠ T.length := by omega
  have rows : ∀ q, row (putBehind T (hd E left) (left / 2) E.length ++ [[E.length]]) q = if q = T.length then [E.length] else if q = hd E left then putAt (row T (hd E left)) ((row T (hd E left)).idxOf (left / 2) + 1) E.length else row T q := fun q => by
    rw [row_push, putBehind_len, putBehind_row T _ _ hp]
  obtain ⟨n1, n2, n3⟩ := nxt_put (ok.nd _ hp) hin hout
  refine ⟨?_, ?_, ?_, fun z hz hne => ?_⟩
  · unfold fol
    rw [hd_old hl, rows, if_neg hab, if_pos rfl, n1, (out_new hab).1]
  · unfold fol
    rw [hd_new.1, rows, if_pos rfl, newD_half, nxt_one, (out_new hab).2]
  · unfold fol
    rw [hd_new.2, rows, if_neg hab, if_pos rfl, newD_half, n2, outOf_old (ok.nxt_mem' hl).1]
  · unfold fol
    rw [hd_old hz, rows, if_neg (by have := ok.hd_lt hz; omega)]
    by_cases e : hd E z = hd E left
    · rw [if_pos e]
      have hz2 : z / 2 ≠ left / 2 := fun q => hne (dart_eq (ok.ends _ (by omega)).1 q e)
      have hzm := ok.hd_mem hz
      rw [e] at hzm
      rw [n3 _ hzm hz2, e, outOf_old]
      have := (ok.nxt_mem' hz).1
      rw [e] at this
      exact this
    · rw [if_neg e, outOf_old (ok.nxt_mem' hz).1]
theorem chord_fol (ok : Ok E T) {left right : Nat} (hl : left < 2 * E.length) (hr : right < 2 * E.length) (hab : hd E left ≠ hd E right) (flip : Bool) :
    let g := fol (E ++ [newE flip (hd E left) (hd E right)]) (putBehind (putBehind T (hd E left) (left / 2) E.length) (hd E right) (right / 2) E.length)
    g left = newD E flip ∧ g (newD E flip) = fol E T right ∧ g right = newD E (!flip) ∧ g (newD E (!flip)) = fol E T left ∧ ∀ z, z < 2 * E.length → z ≠ left → z ≠ right → g z = fol E T z := by
  have hp := ok.hd_lt hl
  have hq := ok.hd_lt hr
  have hinp := ok.hd_mem hl
  have hinq := ok.hd_mem hr
  have outp : E.length ∉ row T (hd E left) := fun z => by have := ((ok.mem _ hp _).mp z).1; omega
  have outq : E.length ∉ row T (hd E right) := fun z => by have := ((ok.mem _ hq _).mp z).1; omega
  have rows : ∀ z, row (putBehind (putBehind T (hd E left) (left / 2) E.length) (hd E right) (right / 2) E.length) z = if z = hd E right then putAt (row T (hd E right)) ((row T (hd E right)).idxOf (right / 2) + 1) E.length else if z = hd E left then putAt (row T (hd E left)) ((row T (hd E left)).idxOf (left / 2) + 1) E.length else row T z := fun z => by
    rw [putBehind_row _ _ _ (by rw [putBehind_len]; exact hq), putBehind_row _ _ _ hp (hd E right), if_neg (Ne.symm hab), putBehind_row _ _ _ hp z]
  obtain ⟨n1, n2, n3⟩ := nxt_put (ok.nd _ hp) hinp outp
  obtain ⟨m1, m2, m3⟩ := nxt_put (ok.nd _ hq) hinq outq
  refine ⟨?_, ?_, ?_, ?_, fun z hz hne1 hne2 => ?_⟩
  · unfold fol
    rw [hd_old hl, rows, if_neg hab, if_pos rfl, n1, (out_new hab).1]
  · unfold fol
    rw [hd_new.1, rows, if_pos rfl, newD_half, m2, outOf_old (ok.nxt_mem' hr).1]
  · unfold fol
    rw [hd_old hr, rows, if_pos rfl, m1, (out_new hab).2]
  · unfold fol
    rw [hd_new.2, rows, if_neg hab, if_pos rfl, newD_half, n2, outOf_old (ok.nxt_mem' hl).1]
  · unfold fol
    rw [hd_old hz, rows]
    by_cases e : hd E z = hd E right
    · rw [if_pos e]
      have hz2 : z / 2 ≠ right / 2 := fun q => hne2 (dart_eq (ok.ends _ (by omega)).1 q e)
      have hzm := ok.hd_mem hz
      rw [e] at hzm
      rw [m3 _ hzm hz2, e, outOf_old]
      have := (ok.nxt_mem' hz).1
      rw [e] at this
      exact this
    · rw [if_neg e]
      by_cases e2 : hd E z = hd E left
      · rw [if_pos e2]
        have hz2 : z / 2 ≠ left / 2 := fun q => hne1 (dart_eq (ok.ends _ (by omega)).1 q e2)
        have hzm := ok.hd_mem hz
        rw [e2] at hzm
        rw [n3 _ hzm hz2, e2, outOf_old]
        have := (ok.nxt_mem' hz).1
        rw [e2] at this
        exact this
      · rw [if_neg e2, outOf_old (ok.nxt_mem' hz).1]
end
/-- a flat web with its rings told -/
structure GB (E : EdgL) (T : Turns) (R : List (List Nat)) : Prop where
  flat : Flat E T
  rings : Rings (fol E T) (2 * E.length) R
theorem GB.rlen {E : EdgL} {T : Turns} {R : List (List Nat)} (h : GB E T R) : T.length + R.length = E.length + 2 := by
  obtain ⟨S, hS, hl⟩ := h.flat.euler
  rw [h.rings.count hS]
  exact hl
theorem GB.lt {E : EdgL} {T : Turns} {R : List (List Nat)} (h : GB E T R) {w d : Nat} {r : List Nat} (hw : R[w]? = some r) (hd' : d ∈ r) : d < 2 * E.length := h.rings.mem.mp (List.mem_flatten.mpr ⟨r, List.mem_of_getElem? hw, hd'⟩)
theorem GB.leaf {E : EdgL} {T : Turns} {R : List (List Nat)} (h : GB E T R) {w left : Nat} {u v : List Nat} (hw : R[w]? = some (u ++ left :: v)) (flip : Bool) :
    GB (E ++ [newE flip (hd E left) T.length]) (putBehind T (hd E left) (left / 2) E.length ++ [[E.length]]) (R.set w (u ++ left :: newD E flip :: newD E (!flip) :: v)) := by
  have hl := h.lt hw (show left ∈ u ++ left :: v by simp)
  obtain ⟨f1, f2, f3, f4⟩ := leaf_fol h.flat.ok hl flip
  refine ⟨h.flat.leaf hl flip, ?_⟩
  have : 2 * (E ++ [newE flip (hd E left) T.length]).length = 2 * E.length + 2 := by simp; omega
  rw [this]
  exact h.rings.leafB hw (newD_or flip) f1 f2 f3 f4
theorem GB.chord {E : EdgL} {T : Turns} {R : List (List Nat)} (h : GB E T R) {w left right : Nat} {u n v : List Nat} (hw : R[w]? = some (u ++ left :: (n ++ right :: v))) (hab : hd E left ≠ hd E right) (flip : Bool) :
    GB (E ++ [newE flip (hd E left) (hd E right)]) (putBehind (putBehind T (hd E left) (left / 2) E.length) (hd E right) (right / 2) E.length) (R.set w (u ++ left :: newD E flip :: v) ++ [n ++ [right, newD E (!flip)]]) := by
  have hl := h.lt hw (show left ∈ u ++ left :: (n ++ right :: v) by simp)
  have hr := h.lt hw (show right ∈ u ++ left :: (n ++ right :: v) by simp)
  obtain ⟨f1, f2, f3, f4, f5⟩ := chord_fol h.flat.ok hl hr hab flip
  have hcy : Cyc (fol E T) (u ++ left :: (n ++ right :: v)) := h.rings.ok _ (List.mem_of_getElem? hw)
  have hnd : ((u ++ left :: (n ++ right :: v))).Nodup := h.rings.nd.sublist (List.sublist_flatten_of_mem (List.mem_of_getElem? hw))
  have hnd2 : (left :: ((n ++ right :: v) ++ u)).Nodup := (List.perm_append_comm (l₁ := u) (l₂ := left :: (n ++ right :: v))).nodup_iff.mp hnd
  refine ⟨h.flat.chord hl hr hab hcy.at hnd2 (by simp) flip, ?_⟩
  have : 2 * (E ++ [newE flip (hd E left) (hd E right)]).length = 2 * E.length + 2 := by simp; omega
  rw [this]
  exact h.rings.chordB hw (newD_or flip) f1 f2 f3 f4 f5
theorem gb0 : GB [(0, 1)] [[0], [0]] [[0, 1]] := by
  refine ⟨flat0, ⟨by decide, fun r hr => ?_⟩⟩
  rw [List.mem_singleton.mp hr]
  exact ⟨0, [1], rfl, by decide, (by show fol [(0, 1)] [[0], [0]] 1 = 0; decide)⟩
theorem put_push {T : Turns} {p x y : Nat} {r : List Nat} (hp : p < T.length) : putBehind (T ++ [r]) p x y = putBehind T p x y ++ [r] := by
  unfold putBehind
  rw [row_push, if_neg (by omega), List.set_append_left _ _ hp]
theorem put_comm {T : Turns} {p q x x' y : Nat} (hne : p ≠ q) : putBehind (putBehind T q x' y) p x y = putBehind (putBehind T p x y) q x' y := by
  unfold putBehind
  have row_ne : ∀ {i j : Nat} {s : List Nat}, i ≠ j → row (T.set j s) i = row T i := fun {i j s} h => by
    unfold row
    rw [List.getD_eq_getElem?_getD, List.getElem?_set_ne (Ne.symm h), ← List.getD_eq_getElem?_getD]
  rw [row_ne hne, row_ne (Ne.symm hne), List.set_comm _ _ (Ne.symm hne)]

/-! ### numbered anew -/
def pm (π : List Nat) (i : Nat) : Nat := π.getD i 0
section
variable {π : List Nat} {m : Nat}
theorem pm_at (h : π.Perm (List.range m)) {i : Nat} (hi : i < m) : π[i]? = some (pm π i) := by
  have hl : π.length = m := by rw [h.length_eq, List.length_range]
  unfold pm
  rw [List.getD_eq_getElem?_getD, List.getElem?_eq_getElem (by omega)]
  rfl
theorem pm_lt (h : π.Perm (List.range m)) {i : Nat} (hi : i < m) : pm π i < m := by
  have := List.mem_of_getElem? (pm_at h hi)
  rw [h.mem_iff, List.mem_range] at this
  exact this
theorem pm_inj (h : π.Perm (List.range m)) {i j : Nat} (hi : i < m) (hj : j < m) (e : pm π i = pm π j) : i = j := by
  have hl : π.length = m := by rw [h.length_eq, List.length_range]
  have hn : π.Nodup := h.nodup_iff.mpr List.nodup_range
  have a := pm_at h hi
  have b := pm_at h hj
  rw [List.getElem?_eq_getElem (by omega)] at a b
  have e2 : π[i]'(by omega) = π[j]'(by omega) := by rw [Option.some.inj a, Option.some.inj b, e]
  exact (List.getElem_inj hn).mp e2
theorem pm_surj (h : π.Perm (List.range m)) {x : Nat} (hx : x < m) : ∃ i, i < m ∧ pm π i = x := by
  have hm : x ∈ π := h.mem_iff.mpr (List.mem_range.mpr hx)
  obtain ⟨i, hi, e⟩ := List.mem_iff_getElem.mp hm
  have hl : π.length = m := by rw [h.length_eq, List.length_range]
  refine ⟨i, by omega, ?_⟩
  have := pm_at h (i := i) (by omega)
  rw [List.getElem?_eq_getElem hi] at this
  rw [← Option.some.inj this, e]
end
def rot (c : Nat) (r : List Nat) : List Nat := r.drop c ++ r.take c
theorem rot_perm (c : Nat) (r : List Nat) : (rot c r).Perm r := by
  unfold rot
  refine List.perm_append_comm.trans ?_
  rw [List.take_append_drop]
theorem nxt_split {a b : List Nat} {x y : Nat} (h : (a ++ x :: y :: b).Nodup) : nxt (a ++ x :: y :: b) x = y := by
  refine nxt_at (i := a.length) h ?_ ?_
  · rw [List.getElem?_append_right (Nat.le_refl _), Nat.sub_self]; rfl
  · rw [Nat.mod_eq_of_lt (by simp), List.getElem?_append_right (by omega), show a.length + 1 - a.length = 1 by omega]; rfl
theorem nxt_end {a : List Nat} {x y : Nat} (h : (y :: (a ++ [x])).Nodup) : nxt (y :: (a ++ [x])) x = y := by
  refine nxt_at (i := a.length + 1) h ?_ ?_
  · show (a ++ [x])[a.length]? = some x
    rw [List.getElem?_append_right (Nat.le_refl _), Nat.sub_self]; rfl
  · have : (a.length + 1 + 1) % (y :: (a ++ [x])).length = 0 := by
      rw [show (y :: (a ++ [x])).length = a.length + 1 + 1 by simp, Nat.mod_self]
    rw [this]
    rfl
theorem nxt_rot1 {x : Nat} {r : List Nat} (h : (x :: r).Nodup) {z : Nat} (hz : z ∈ x :: r) : nxt (r ++ [x]) z = nxt (x :: r) z := by
  have h2 : (r ++ [x]).Nodup := (List.perm_append_comm (l₁ := r) (l₂ := [x])).nodup_iff.mpr h
  rcases List.mem_cons.mp hz with rfl | hz
  · cases r with
    | nil => rfl
    | cons y t =>
      have e : nxt (z :: y :: t) z = y := nxt_split (a := []) (b := t) h
      rw [e]
      exact nxt_end h2
  · obtain ⟨u, v, rfl⟩ := List.append_of_mem hz
    cases v with
    | nil =>
      rw [nxt_end h]
      have h3 : (u ++ z :: x :: []).Nodup := by
        have e : u ++ [z] ++ [x] = u ++ z :: x :: [] := by simp
        rw [← e]; exact h2
      have e : u ++ [z] ++ [x] = u ++ z :: x :: [] := by simp
      rw [e]
      exact nxt_split h3
    | cons y t =>
      have e1 : (x :: (u ++ z :: y :: t)) = (x :: u) ++ z :: y :: t := rfl
      have e2 : (u ++ z :: y :: t) ++ [x] = u ++ z :: y :: (t ++ [x]) := by simp
      rw [e1] at h
      rw [e2] at h2
      rw [e1, e2, nxt_split h, nxt_split h2]
theorem nxt_rot {z : Nat} : ∀ (c : Nat) {r : List Nat}, r.Nodup → z ∈ r → nxt (rot c r) z = nxt r z
  | 0, r, _, _ => by unfold rot; simp
  | c + 1, [], _, hz => by simp at hz
  | c + 1, x :: r, h, hz => by
    have h2 : (r ++ [x]).Nodup := (List.perm_append_comm (l₁ := r) (l₂ := [x])).nodup_iff.mpr h
    have hz2 : z ∈ r ++ [x] := (List.perm_append_comm (l₁ := r) (l₂ := [x])).mem_iff.mpr hz
    rw [← nxt_rot1 h hz]
    by_cases hc : c ≤ r.length
    · rw [← nxt_rot c h2 hz2]
      congr 1
      unfold rot
      rw [List.drop_succ_cons, List.take_succ_cons, List.drop_append_of_le_length hc, List.take_append_of_le_length hc]
      simp
    · unfold rot
      rw [List.drop_of_length_le (by simp; omega), List.take_of_length_le (by simp; omega), List.nil_append, nxt_rot1 h hz]
theorem nxt_map {f : Nat → Nat} {r : List Nat} {x : Nat} (hr : r.Nodup) (hi : ∀ a ∈ r, ∀ b ∈ r, f a = f b → a = b) (hx : x ∈ r) : nxt (r.map f) (f x) = f (nxt r x) := by
  obtain ⟨i, hi', rfl⟩ := List.mem_iff_getElem.mp hx
  have hl : 0 < r.length := by omega
  have m1 : (i + 1) % r.length < r.length := Nat.mod_lt _ hl
  rw [nxt_at hr (List.getElem?_eq_getElem hi') (List.getElem?_eq_getElem m1)]
  have hn : (r.map f).Nodup := by
    rw [List.Nodup, List.pairwise_map]
    refine List.Pairwise.imp_of_mem ?_ hr
    intro a b ha hb hne e
    exact hne (hi a ha b hb e)
  refine nxt_at (i := i) hn ?_ ?_
  · rw [List.getElem?_map, List.getElem?_eq_getElem hi']; rfl
  · rw [List.length_map, List.getElem?_map, List.getElem?_eq_getElem m1]; rfl
theorem Path.map {f g φ : Nat → Nat} : ∀ {x y : Nat} {l : List Nat}, Path f x l y → (∀ z ∈ x :: l, g (φ z) = φ (f z)) → Path g (φ x) (l.map φ) (φ y)
  | x, y, [], h, e => by
    show g (φ x) = φ y
    rw [e x List.mem_cons_self, show f x = y from h]
  | x, y, a :: l, h, e => by
    refine ⟨?_, Path.map h.2 fun z hz => e z (List.mem_cons_of_mem _ hz)⟩
    rw [e x List.mem_cons_self, h.1]
/-- the dart d in the new numbers -/
def dm (τ : List Nat) (d : Nat) : Nat := 2 * pm τ (d / 2) + d % 2
theorem dm_perm {τ : List Nat} {n : Nat} (h : τ.Perm (List.range n)) : ((List.range (2 * n)).map (dm τ)).Perm (List.range (2 * n)) := by
  have lt : ∀ d, d < 2 * n → dm τ d < 2 * n := fun d hd => by
    have := pm_lt h (i := d / 2) (by omega)
    unfold dm
    omega
  have inj : ∀ d e, d < 2 * n → e < 2 * n → dm τ d = dm τ e → d = e := fun d e hd he q => by
    unfold dm at q
    have := pm_inj h (i := d / 2) (j := e / 2) (by omega) (by omega) (by omega)
    omega
  have hn : ((List.range (2 * n)).map (dm τ)).Nodup := by
    rw [List.Nodup, List.pairwise_map]
    refine List.Pairwise.imp_of_mem ?_ List.nodup_range
    intro a b ha hb hne e
    exact hne (inj a b (List.mem_range.mp ha) (List.mem_range.mp hb) e)
  refine perm_of_nodup hn List.nodup_range fun a => ?_
  have hs : ∀ a ∈ (List.range (2 * n)).map (dm τ), a ∈ List.range (2 * n) := fun a ha => by
    obtain ⟨d, hd, rfl⟩ := List.mem_map.mp ha
    exact List.mem_range.mpr (lt d (List.mem_range.mp hd))
  exact ⟨hs a, nodup_full hn hs (by simp) a⟩
structure Renum (E : EdgL) (T : Turns) (σ τ : List Nat) (E' : EdgL) (T' : Turns) : Prop where
  ps : σ.Perm (List.range T.length)
  pt : τ.Perm (List.range E.length)
  le : E'.length = E.length
  lt : T'.length = T.length
  ends : ∀ k, k < E.length → en E' (pm τ k) = (pm σ (en E k).1, pm σ (en E k).2)
  rows : ∀ p, p < T.length → ∃ c, row T' (pm σ p) = rot c ((row T p).map (pm τ))
section
variable {E E' : EdgL} {T T' : Turns} {σ τ : List Nat}
theorem Renum.hd (h : Renum E T σ τ E' T') {d : Nat} (hd' : d < 2 * E.length) : hd E' (dm τ d) = pm σ (Sf.hd E d) := by
  have e1 : dm τ d / 2 = pm τ (d / 2) := by unfold dm; omega
  have e2 : dm τ d % 2 = d % 2 := by unfold dm; omega
  unfold Sf.hd
  rw [e1, e2, h.ends _ (by omega)]
  split <;> rfl
theorem Renum.fol (h : Renum E T σ τ E' T') (ok : Ok E T) {d : Nat} (hd' : d < 2 * E.length) : fol E' T' (dm τ d) = dm τ (Sf.fol E T d) := by
  have hp := ok.hd_lt hd'
  have hm := ok.hd_mem hd'
  obtain ⟨hj, hor⟩ := ok.nxt_mem' hd'
  have inj : ∀ a ∈ row T (Sf.hd E d), ∀ b ∈ row T (Sf.hd E d), pm τ a = pm τ b → a = b := fun a ha b hb e => pm_inj h.pt ((ok.mem _ hp a).mp ha).1 ((ok.mem _ hp b).mp hb).1 e
  have hn2 : ((row T (Sf.hd E d)).map (pm τ)).Nodup := by
    rw [List.Nodup, List.pairwise_map]
    refine List.Pairwise.imp_of_mem ?_ (ok.nd _ hp)
    intro a b ha hb hne e
    exact hne (inj a ha b hb e)
  obtain ⟨c, hc⟩ := h.rows _ hp
  have e1 : dm τ d / 2 = pm τ (d / 2) := by unfold dm; omega
  unfold Sf.fol
  rw [h.hd hd', e1, hc, nxt_rot c hn2 (List.mem_map.mpr ⟨_, hm, rfl⟩), nxt_map (ok.nd _ hp) inj hm]
  generalize nxt (row T (Sf.hd E d)) (d / 2) = j at hj hor
  have hends := ok.ends j hj
  unfold outOf dm
  rw [h.ends j hj]
  by_cases e : (en E j).1 = Sf.hd E d
  · rw [if_pos e, if_pos (by rw [e])]
    have : (2 * j + 0) / 2 = j := by omega
    rw [this]
    omega
  · rw [if_neg e, if_neg (fun q => e (pm_inj h.ps (by omega) hp q))]
    have : (2 * j + 1) / 2 = j := by omega
    rw [this]
    omega
theorem Renum.flat (h : Renum E T σ τ E' T') (F : Flat E T) : Flat E' T' := by
  obtain ⟨ok, wh, R, hR, hE⟩ := F
  have rowsP : ∀ p, p < T.length → (row T' (pm σ p)).Perm ((row T p).map (pm τ)) := fun p hp => by
    obtain ⟨c, hc⟩ := h.rows p hp
    rw [hc]
    exact rot_perm _ _
  refine ⟨⟨fun i hi => ?_, fun p hp => ?_, fun p hp i => ?_⟩, ?_, ?_⟩
  · rw [h.le] at hi
    obtain ⟨k, hk, rfl⟩ := pm_surj h.pt hi
    rw [h.ends k hk, h.lt]
    obtain ⟨a, b, c⟩ := ok.ends k hk
    exact ⟨fun q => a (pm_inj h.ps b c q), pm_lt h.ps b, pm_lt h.ps c⟩
  · rw [h.lt] at hp
    obtain ⟨q, hq, rfl⟩ := pm_surj h.ps hp
    rw [(rowsP q hq).nodup_iff, List.Nodup, List.pairwise_map]
    refine List.Pairwise.imp_of_mem ?_ (ok.nd q hq)
    intro a b ha hb hne e
    exact hne (pm_inj h.pt ((ok.mem q hq a).mp ha).1 ((ok.mem q hq b).mp hb).1 e)
  · rw [h.lt] at hp
    obtain ⟨q, hq, rfl⟩ := pm_surj h.ps hp
    rw [(rowsP q hq).mem_iff, List.mem_map, h.le]
    constructor
    · rintro ⟨k, hk, rfl⟩
      obtain ⟨k1, k2⟩ := (ok.mem q hq k).mp hk
      refine ⟨pm_lt h.pt k1, ?_⟩
      rw [h.ends k k1]
      rcases k2 with z | z
      · exact .inl (by rw [z])
      · exact .inr (by rw [z])
    · rintro ⟨hi, ho⟩
      obtain ⟨k, hk, rfl⟩ := pm_surj h.pt hi
      refine ⟨k, (ok.mem q hq k).mpr ⟨hk, ?_⟩, rfl⟩
      rw [h.ends k hk] at ho
      have := ok.ends k hk
      rcases ho with z | z
      · exact .inl (pm_inj h.ps (by omega) hq z)
      · exact .inr (pm_inj h.ps (by omega) hq z)
  · intro S hS
    rw [h.lt]
    have base := wh (fun p => S (pm σ p)) fun i hi => by
      have := hS (pm τ i) (by rw [h.le]; exact pm_lt h.pt hi)
      rw [h.ends i hi] at this
      exact this
    intro p q hp hq
    obtain ⟨p', hp', rfl⟩ := pm_surj h.ps hp
    obtain ⟨q', hq', rfl⟩ := pm_surj h.ps hq
    exact base p' q' hp' hq'
  · refine ⟨R.map (List.map (dm τ)), ⟨?_, ?_⟩, ?_⟩
    · rw [h.le, ← List.map_flatten]
      exact (hR.all.map _).trans (dm_perm h.pt)
    · intro r hr
      obtain ⟨s, hs, rfl⟩ := List.mem_map.mp hr
      obtain ⟨x, l, rfl, p⟩ := hR.ok s hs
      refine ⟨dm τ x, l.map (dm τ), rfl, p.map fun z hz => ?_⟩
      exact h.fol ok (hR.mem.mp (List.mem_flatten.mpr ⟨_, hs, hz⟩))
    · rw [h.lt, h.le, List.length_map]
      exact hE
end
theorem Path.get {f : Nat → Nat} : ∀ {x y : Nat} {l : List Nat}, Path f x l y → ∀ i, i ≤ l.length → f ((x :: l).getD i 0) = (l ++ [y]).getD i 0
  | x, y, [], h, i, hi => by
    have : i = 0 := by simpa using hi
    subst this
    exact h
  | x, y, a :: l, h, 0, _ => h.1
  | x, y, a :: l, h, i + 1, hi => Path.get h.2 i (by simpa using hi)

/-! ### the rings in the order of their least darts -/
structure Canon (f : Nat → Nat) (m : Nat) (R : List (List Nat)) : Prop where
  rings : Rings f m R
  least : ∀ r ∈ R, ∃ x l, r = x :: l ∧ ∀ z ∈ l, x < z
  order : R.Pairwise fun r s => r.headD 0 < s.headD 0
structure Pre (f : Nat → Nat) (m i : Nat) (R : List (List Nat)) : Prop where
  ok : ∀ r ∈ R, ∃ x l, r = x :: l ∧ Path f x l x ∧ (∀ z ∈ l, x < z) ∧ x < i
  nd : R.flatten.Nodup
  lt : ∀ d ∈ R.flatten, d < m
  cov : ∀ d, d < i → d ∈ R.flatten
  order : R.Pairwise fun r s => r.headD 0 < s.headD 0
section
variable {f : Nat → Nat} {m i : Nat} {R : List (List Nat)}
theorem Pre.zero : Pre f m 0 [] := ⟨fun r h => by simp at h, List.nodup_nil, fun d h => by simp at h, fun d h => absurd h (by omega), List.Pairwise.nil⟩
theorem Pre.skip (h : Pre f m i R) (hi : i ∈ R.flatten) : Pre f m (i + 1) R :=
  ⟨fun r hr => by obtain ⟨x, l, a, b, c, d⟩ := h.ok r hr; exact ⟨x, l, a, b, c, by omega⟩, h.nd, h.lt, fun d hd => by
    by_cases e : d = i
    · rw [e]; exact hi
    · exact h.cov d (by omega), h.order⟩
theorem Pre.add (h : Pre f m i R) (ni : i ∉ R.flatten) {l : List Nat} (p : Path f i l i) (hn : (i :: l).Nodup) (hlt : ∀ z ∈ i :: l, z < m) : Pre f m (i + 1) (R ++ [i :: l]) ∧ ∀ z ∈ i :: l, z ∉ R.flatten := by
  have dis : ∀ z ∈ i :: l, z ∉ R.flatten := fun z hz hin => by
    obtain ⟨r, hr, hzr⟩ := List.mem_flatten.mp hin
    obtain ⟨x, l', rfl, p', _, _⟩ := h.ok r hr
    have h1 : Reach f z i := (p.ring hz).mp List.mem_cons_self
    exact ni (List.mem_flatten.mpr ⟨_, hr, (p'.ring hzr).mpr h1⟩)
  have big : ∀ z ∈ l, i < z := fun z hz => by
    have h1 : z ≠ i := fun e => (List.nodup_cons.mp hn).1 (e ▸ hz)
    have h2 : ¬ z < i := fun e => dis z (List.mem_cons_of_mem _ hz) (h.cov z e)
    omega
  refine ⟨⟨fun r hr => ?_, ?_, fun d hd => ?_, fun d hd => ?_, ?_⟩, dis⟩
  · rcases List.mem_append.mp hr with a | a
    · obtain ⟨x, l', a, b, c, d⟩ := h.ok r a; exact ⟨x, l', a, b, c, by omega⟩
    · have : r = i :: l := by simpa using a
      exact ⟨i, l, this, p, big, by omega⟩
  · rw [List.flatten_append, List.flatten_singleton]
    exact List.nodup_append.mpr ⟨h.nd, hn, fun a ha b hb e => dis b hb (e ▸ ha)⟩
  · rw [List.flatten_append, List.flatten_singleton] at hd
    rcases List.mem_append.mp hd with a | a
    · exact h.lt d a
    · exact hlt d a
  · rw [List.flatten_append, List.flatten_singleton]
    by_cases e : d = i
    · rw [e]; exact List.mem_append_right _ List.mem_cons_self
    · exact List.mem_append_left _ (h.cov d (by omega))
  · refine List.pairwise_append.mpr ⟨h.order, List.pairwise_singleton _ _, fun r hr s hs => ?_⟩
    have : s = i :: l := by simpa using hs
    subst this
    obtain ⟨x, l', rfl, _, _, hx⟩ := h.ok r hr
    exact hx
theorem Pre.done (h : Pre f m m R) : Canon f m R := by
  refine ⟨⟨perm_of_nodup h.nd List.nodup_range fun a => ?_, fun r hr => ?_⟩, fun r hr => ?_, h.order⟩
  · rw [List.mem_range]
    exact ⟨h.lt a, h.cov a⟩
  · obtain ⟨x, l, a, b, _, _⟩ := h.ok r hr; exact ⟨x, l, a, b⟩
  · obtain ⟨x, l, a, _, c, _⟩ := h.ok r hr; exact ⟨x, l, a, c⟩
end
/-- the ring that d is in -/
def sideOf (R : List (List Nat)) (d : Nat) : Nat := R.findIdx fun r => r.contains d
theorem sideOf_at : ∀ {R : List (List Nat)} {i d : Nat} {r : List Nat}, R.flatten.Nodup → R[i]? = some r → d ∈ r → sideOf R d = i
  | [], i, d, r, _, h, _ => by simp at h
  | s :: R, 0, d, r, _, h, hd => by
    have e : s = r := by simpa using h
    subst e
    unfold sideOf
    rw [List.findIdx_cons]
    simp [hd]
  | s :: R, i + 1, d, r, hn, h, hd => by
    rw [List.flatten_cons] at hn
    obtain ⟨_, n2, n3⟩ := List.nodup_append.mp hn
    have h' : R[i]? = some r := by simpa using h
    have hns : d ∉ s := fun z => n3 d z d (List.mem_flatten.mpr ⟨r, List.mem_of_getElem? h', hd⟩) rfl
    have ih := sideOf_at n2 h' hd
    unfold sideOf at ih ⊢
    have e : s.contains d = false := by simpa using hns
    rw [List.findIdx_cons, e]
    show List.findIdx (fun r => r.contains d) R + 1 = i + 1
    rw [ih]
theorem flatten_ge : ∀ {R : List (List Nat)}, (∀ r ∈ R, 1 ≤ r.length) → R.length ≤ R.flatten.length
  | [], _ => Nat.le_refl _
  | r :: R, h => by
    have h1 := h r List.mem_cons_self
    have h2 := flatten_ge fun s hs => h s (List.mem_cons_of_mem _ hs)
    rw [List.flatten_cons, List.length_append, List.length_cons]
    omega

/-! ### defs by name -/
structure Has (P : Program) (w : World) (K : PySem.W.Frag) (mg : Str → Option Value) (base : Heap) (CX : CXT) (k : Nat) (x : Str) (ps : List Str) (sp : Sp) : Prop where
  ex : ∃ f fd, FnOk P w K mg base CX k f fd ps sp ∧ mg x = some (.ref f) ∧ PySem.W.keepIn K (.ref f) = true ∧ Binds K fd ps []
section
variable {P : Program} {w : World} {K : PySem.W.Frag} {mg : Str → Option Value} {base : Heap} {x qual : Str} {ps N : List Str} {sp : Sp} {k : Nat}
theorem Has.mk' {st : Stmt} {f : Addr} {fd : FuncData} (F : Fun K x qual st f fd) (gf : mg x = some (.ref f)) (b : Binds K fd ps []) (S : FnScope N ps (defScope st)) (len : ∀ vs H Q E, sp vs H Q E → vs.length = ps.length)
    (hbody : ∀ (cdv : Value) (A : Around) (outer : List Env) (s : Shared) (H : Hp) (vs : List V) (Q : VK) (E : XK), Room k (A.deeper (envOfC qual (defScope st) s.heap.objs.size f cdv)) → sp vs H Q E →
      ∃ t, PSs (cxOf CX0 P w K mg base N qual (defScope st) f cdv A outer s H E).nox (defBody st) t ∧ t { nx := fun _ H' => Q .non H', rt := Q } (start N vs) H) : Has P w K mg base CX0 (k + 1) x ps sp :=
  ⟨f, fd, F.ok S len hbody, gf, F.kp, b⟩
end
section
variable {X : Cx} {k : Nat} {ps : List Str} {sp : Sp} {x : Str} {p pos : Pos} {e : Expr} {es : List Expr} {t : TA}
theorem pe_fn (h : Has X.prog X.w X.K X.mg X.base CX0 k x ps sp) (hr : Room k X.A) (hg : Gl X x) (ha : PA X (e :: es) t) (hdb : (x == ("__debug__" : Str)) = false := by decide) (he : starEach (e :: es) X.env = (false, eval e X.env) :: starEach es X.env := by rfl) (hpl : (backTo pos (starEach es X.env)).any (·.1) = false := by rfl) :
    PE X (.Call (.Name x p) (e :: es) [] pos) (tCall sp [] E0 t) := by
  obtain ⟨f, fd, F, gf, kp, b⟩ := h.ex
  exact pe_call F hr hg gf kp b .nil pass0 ha hdb he hpl
theorem pe_fn0 (h : Has X.prog X.w X.K X.mg X.base CX0 k x ps sp) (hr : Room k X.A) (hg : Gl X x) (hdb : (x == ("__debug__" : Str)) = false := by decide) :
    PE X (.Call (.Name x p) [] [] pos) (tCall sp [] E0 tNil) := by
  obtain ⟨f, fd, F, gf, kp, b⟩ := h.ex
  exact pe_call0 F hr hg gf kp b .nil pass0 hdb
end
/-! ### lists whose object is known to the sign; the sum of two -/
def LsE (K : PySem.W.Frag) (H : Hp) (a : Addr) (xs : List V) : Prop :=
  Rd H a (.lst xs) ∨ ∃ (its : List Value) (n : Nat), K.lookup a = some { cls := .type "list", data := .seq its.toArray n } ∧ Vals xs its ∧ xs.length ≤ sizeLine
theorem LsE.sq {K : PySem.W.Frag} {H : Hp} {a : Addr} {xs : List V} (h : LsE K H a xs) : SqL K H a xs := by
  rcases h with h | ⟨its, n, h1, h2, h3⟩
  · exact .inl h
  · exact .inr ⟨_, its.toArray, n, h1, rfl, rfl, rfl, by rw [List.size_toArray, ← h2.length]; exact h3, by simpa using h2⟩
theorem LsE.of {K : PySem.W.Frag} {H : Hp} {a : Addr} {xs : List V} (h : H a = some (.lst xs)) : LsE K H a xs := .inl (.inl h)
theorem LsE.same {K : PySem.W.Frag} {H H' : Hp} {a : Addr} {xs : List V} (e : Same H H') (h : LsE K H a xs) : LsE K H' a xs := by
  rcases h with (h | ⟨o, h⟩) | h
  · exact .inl (.inl (e _ _ h))
  · exact .inl (.inr ⟨o, e _ _ h⟩)
  · exact .inr h
section
variable {X : Cx}
theorem LsE.obj {pins : List (Addr × Obj)} {σ : L2.St} {H : Hp} {s : Shared} {a : Addr} {xs : List V} (I : Inv X pins σ H s) (h : LsE X.K H a xs) :
    ∃ (its : List Value) (n : Nat), Vals xs its ∧ s.heap.get? a = some { cls := .type "list", data := .seq its.toArray n } := by
  rcases h with h | ⟨its, n, h1, h2, _⟩
  · obtain ⟨_, its, n, r, e⟩ := h.ok I.hok
    exact ⟨its, n, r, e⟩
  · exact ⟨its, n, h2, I.kIn a _ h1⟩
def rCatE (K : PySem.W.Frag) : R2 := fun x y H Q => ∃ l b xs zs, x = .ref l ∧ y = .ref b ∧ LsE K H l xs ∧ LsE K H b zs ∧ xs.length + zs.length ≤ sizeLine ∧ ∀ p, H p = none → Q (.ref p) (upd H p (.lst (xs ++ zs)))
theorem op_catE : OpR X (binaryOp .Add) (rCatE X.K) := by
  intro pins s σ H x y v u Q I rx ry h
  obtain ⟨l, b, xs, zs, rfl, rfl, hl, hb, hz, q⟩ := h
  cases rx
  cases ry
  obtain ⟨ix, n, rl, el⟩ := hl.obj I
  obtain ⟨iz, m, rb, eb⟩ := hb.obj I
  refine PySem.P.add_list el eb ?_ (by simp only [List.size_toArray, ← rl.length, ← rb.length]; exact hz)
  have join : ix.toArray ++ iz.toArray = (ix ++ iz).toArray := by simp
  rw [join]
  exact ⟨.ref s.heap.objs.size, _, I.lnew (t' := s.toks) (rl.append rb) (by simpa using hz), rfl, q _ I.fresh⟩
end
/-! ### tests -/
theorem ifd {c A B : Prop} [Decidable c] (h1 : c → A) (h2 : ¬ c → B) : if decide c = true then A else B := by
  by_cases h : c
  · simp only [h, decide_true, if_true]; exact h1 h
  · simp only [h, decide_false, Bool.false_eq_true, if_false]; exact h2 h
theorem ifnd {c A B : Prop} [Decidable c] (h1 : ¬ c → A) (h2 : c → B) : if (!decide c) = true then A else B := by
  by_cases h : c
  · simp only [h, decide_true, Bool.not_true, Bool.false_eq_true, if_false]; exact h2 h
  · simp only [h, decide_false, Bool.not_false, if_true]; exact h1 h
theorem ifb {b : Bool} {A B : Prop} (h1 : b = true → A) (h2 : b = false → B) : if b = true then A else B := by
  cases b with
  | true => exact h1 rfl
  | false => exact h2 rfl
theorem ifT {b : Bool} {A B : Prop} (hb : b = true) (h : A) : if b = true then A else B := by rw [if_pos hb]; exact h
theorem ifF {b : Bool} {A B : Prop} (hb : b = false) (h : B) : if b = true then A else B := by rw [hb]; exact h
theorem int_eq {i j : Int} : (V.int i = V.int j) = (i = j) := by simp
theorem same_upd {H : Hp} {p : Addr} {o : HO} (h : H p = none) : Same H (upd H p o) := fun b x e => by
  rw [upd_ne (ne_of_none e h)]
  exact e
/-- a place that is free -/
def New (H : Hp) (p : Addr) : Prop := H p = none
theorem w_new {H : Hp} {R : Addr → Prop} (h : ∀ p, New H p → R p) : ∀ p, H p = none → R p := h
theorem ne_new {H : Hp} {a b : Addr} {o : HO} (h : H a = some o) (n : New H b) : a ≠ b := ne_of_none h n
/-- one more object over what was tracked at H -/
theorem _root_.L2.Same.new {H H' : Hp} {p : Addr} {o : HO} (e : Same H H') (h : New H' p) : Same H (upd H' p o) := e.trans (same_upd h)
theorem _root_.L2.Same.get {H H' : Hp} {p : Addr} {o : HO} (e : Same H H') (h : H p = some o) : H' p = some o := e p o h
theorem New.of {H H' : Hp} {p : Addr} (n : New H' p) (e : Same H H') : New H p := e.free n
/-- an object that H does not track is changed -/
theorem _root_.L2.Same.mut {H H' : Hp} {p : Addr} {o : HO} (e : Same H H') (h : New H p) : Same H (upd H' p o) := fun b x hb => by
  rw [upd_ne (ne_of_none hb h)]
  exact e b x hb
/-! ### isinstance of ints and bools -/
theorem kb_ii : kitB "int" "int" = some true := by decide +kernel
theorem kb_ib : kitB "int" "bool" = some false := by decide +kernel
theorem kb_bb : kitB "bool" "bool" = some true := by decide +kernel
theorem kb_bi : kitB "bool" "int" = some true := by decide +kernel
theorem kb_ll : kitB "list" "list" = some true := by decide +kernel
theorem kb_tt : kitB "tuple" "tuple" = some true := by decide +kernel
theorem kb_ni : kitB "NoneType" "int" = some false := by decide +kernel
theorem kb_nb : kitB "NoneType" "bool" = some false := by decide +kernel
theorem kb_tl : kitB "tuple" "list" = some false := by decide +kernel
theorem kb_lt : kitB "list" "tuple" = some false := by decide +kernel
/-! ### the law's end, the script's list known to the sign, its bits told -/
theorem walk_ofE {l : PySem.W.OpenLaw} {n k : Nat} {q : Program} {loose : List Str} {XP : (Str → Option Value) → Heap → Prop} {YP : World → Heap → Prop} {d : DefRec} {K : Params → PySem.W.Frag} {sp : PySem.W.Frag → Sp}
    (hn : l.most = some n) (hn2 : n ≤ sizeLine) (hdf : d.params.defaults = []) (hr : Room k callerA) (hY : ∀ (w : World) (h : Heap), YP w h → (K w.params).In h)
    (F : ∀ (w : World) (mg : Str → Option Value) (fa : Addr) (h : Heap), (K w.params).In h → h.Ns mainGlobals mg → mg d.name = some (.ref fa) →
      ∃ fd : FuncData, (∀ (s : Shared) (u : Value), BindsTo s fd ⟨[u], []⟩ [("script", u)]) ∧ ∀ base : Heap, (K w.params).In base → base.Ns mainGlobals mg → FnOk l.prog w (K w.params) mg base CX0 k fa fd ["script"] (sp (K w.params)))
    (hsp : ∀ (K : PySem.W.Frag) (H : Hp) (a : Addr) (ns : List Int), ns.length ≤ n → (∀ z ∈ ns, Builtin.Int.intBits z ≤ 1048576) → LsE K H a (ns.map V.int) → sp K [.ref a] H (fun v _ => v = .bl true) fun _ _ _ => False) :
    PySem.W.WalkO q loose XP YP l.row.toRowW d [] (fun f vs => PySem.call f vs) := by
  refine Att.attach_callB hn hdf fun w s₀ s₁ mg mb fa o pm cd doc a vs ns G Y ho hd hcd hmg hobj hints hlen hbits hg => ?_
  obtain ⟨fd, hb, hF⟩ := F w mg fa _ (hY w _ Y) G.T.g hmg
  refine law_call (hY w _ Y) G.T.g G.T.b G.T.builtins G.T.nolimit hg hobj hints (Nat.le_trans hlen hn2) hr hF hb (fun H _ hS => hsp _ H a ns hlen hbits ?_) fun _ _ _ h => h
  rcases hS with h | ⟨ob, its, m, hk, h1, h2, h3, h4, h5⟩
  · exact .inl h
  · have e := (hY w _ Y) a ob hk
    rw [hobj] at e
    cases e
    cases h3
    exact .inr ⟨vs, _, hk, by simpa using h5, by rw [List.length_map]; exact Nat.le_trans hlen hn2⟩
/-! ### bounds of operators -/
theorem cdivw_small {i j : Int} (h : 0 < j) (h2 : j < 2 ^ 200) : CDivW i j := wide_div (b := 200) h (by omega) (by decide) (by decide)
theorem nab_lt {i : Int} {a : Nat} (h1 : -(2 ^ a) < i) (h2 : i < 2 ^ a) : i.natAbs < 2 ^ a := by
  have e : ((2 ^ a : Nat) : Int) = (2 : Int) ^ a := by simp
  omega
theorem cmulx_small {i j : Int} (h1 : -(2 ^ 200) < i) (h2 : i < 2 ^ 200) (h3 : -(2 ^ 200) < j) (h4 : j < 2 ^ 200) : CMulX i j := mulx_ok (nab_lt h1 h2) (nab_lt h3 h4) (by decide)
theorem cshl_one {j : Int} (h : 0 ≤ j) (h2 : j ≤ 100000) : CShl 1 j := by
  have e : ((j.toNat : Nat) : Int) = j := Int.toNat_of_nonneg h
  rw [← e]
  exact shl_ok (n := 1) (by decide) (by omega)
theorem cshl_small {i j : Int} (h0 : -(2 ^ 200) < i) (h1 : i < 2 ^ 200) (h : 0 ≤ j) (h2 : j ≤ 100000) : CShl i j := by
  have e : ((j.toNat : Nat) : Int) = j := Int.toNat_of_nonneg h
  rw [← e]
  exact shl_ok (n := 200) (nab_lt h0 h1) (by omega)
theorem szle {α : Type} {xs : List α} (h : Nat.ble xs.length 1000 = true) : xs.length ≤ sizeLine := Nat.le_trans (Nat.le_of_ble_eq_true h) (by decide)
theorem szlt {α : Type} {xs : List α} (h : xs.length < 1000000) : xs.length < sizeLine := Nat.lt_of_lt_of_le h (by decide)
theorem atI_get {α : Type} {xs : List α} {i : Int} {j : Nat} (e : i = j) (h : j < xs.length) : atI xs i = some xs[j] := by
  subst e
  exact atI_nat (List.getElem?_eq_getElem h)
theorem atI_map {α β : Type} {f : α → β} {xs : List α} {i : Int} {j : Nat} (e : i = j) (h : j < xs.length) : atI (xs.map f) i = some (f xs[j]) := by
  subst e
  exact atI_nat (by rw [List.getElem?_map, List.getElem?_eq_getElem h]; rfl)
/-! ### the readings, one at a time -/
section
variable {σ : L2.St} {H : Hp} {Q : VK} {QT : Bool → Hp → Prop} {QA : List V → Hp → Prop} {D : Ends} {v x y z : V} {ta tb tc te tv : TE} {t u c : TT} {ts us : TS} {tl tr : TA} {r : R2} {g : TG} {gs : TGs} {i j : Nat} {m n : Int} {K : PySem.W.Frag} {a p q C dx : Addr} {f : Str} {xs ys : List V} {fs : List (Str × V)}
theorem w_seq (h : ts { D with nx := us D } σ H) : tSeq ts us D σ H := h
theorem w_next (h : D.nx σ H) : tNext D σ H := h
theorem w_var (h : ∃ v, σ[i]? = some (some v) ∧ Q v H) : tVar i σ H Q := h
theorem w_c (h : Q v H) : tC v σ H Q := h
theorem w_op (h : ta σ H fun x H1 => tb σ H1 fun y H2 => r x y H2 Q) : tOp r ta tb σ H Q := h
theorem w_un {r : V → Hp → VK → Prop} (h : ta σ H fun x H1 => r x H1 Q) : tUn r ta σ H Q := h
theorem w_rI0 {g : Int → Int → V} (h : Q (g m n) H) : rI0 g (.int m) (.int n) H Q := ⟨m, n, rfl, rfl, h⟩
theorem w_mod (h0 : 0 < n) (h : Q (.int (m % n)) H) : rI (fun _ j => 0 < j) (fun i j => .int (i % j)) (.int m) (.int n) H Q := ⟨m, n, rfl, rfl, h0, h⟩
theorem w_div (h0 : 0 < n) (h1 : n < 2 ^ 200) (h : Q (.int (m / n)) H) : rI CDivW (fun i j => .int (i / j)) (.int m) (.int n) H Q := ⟨m, n, rfl, rfl, cdivw_small h0 h1, h⟩
theorem w_shr (h0 : 0 ≤ n) (h : Q (.int (m / 2 ^ n.toNat)) H) : rI (fun _ j => 0 ≤ j) (fun i j => .int (i / 2 ^ j.toNat)) (.int m) (.int n) H Q := ⟨m, n, rfl, rfl, h0, h⟩
theorem w_mul (h1 : -(2 ^ 200) < m) (h2 : m < 2 ^ 200) (h3 : -(2 ^ 200) < n) (h4 : n < 2 ^ 200) (h : Q (.int (m * n)) H) : rI CMulX (fun i j => .int (i * j)) (.int m) (.int n) H Q := ⟨m, n, rfl, rfl, cmulx_small h1 h2 h3 h4, h⟩
theorem w_shl1 (h1 : 0 ≤ n) (h2 : n ≤ 100000) (h : Q (.int (1 * 2 ^ n.toNat)) H) : rI CShl (fun i j => .int (i * 2 ^ j.toNat)) (.int 1) (.int n) H Q := ⟨1, n, rfl, rfl, cshl_one h1 h2, h⟩
theorem w_shl (h1 : -(2 ^ 200) < m) (h2 : m < 2 ^ 200) (h3 : 0 ≤ n) (h4 : n ≤ 100000) (h : Q (.int (m * 2 ^ n.toNat)) H) : rI CShl (fun i j => .int (i * 2 ^ j.toNat)) (.int m) (.int n) H Q := ⟨m, n, rfl, rfl, cshl_small h1 h2 h3 h4, h⟩
theorem w_pow (h0 : CPow m n) (h : Q (.int (m ^ n.toNat)) H) : rI CPow (fun i j => .int (i ^ j.toNat)) (.int m) (.int n) H Q := ⟨m, n, rfl, rfl, h0, h⟩
theorem w_rU {g : Int → V} (h : Q (g m) H) : rU g (.int m) H Q := ⟨m, rfl, h⟩
theorem dec_ii : decide (V.int m = V.int n) = decide (m = n) := by
  by_cases h : m = n
  · rw [h]; simp
  · simp [h]
theorem dec_bb {a b : Bool} : decide (V.bl a = V.bl b) = decide (a = b) := by cases a <;> cases b <;> decide
theorem dec_ss {a b : Str} : decide (V.str a = V.str b) = decide (a = b) := by
  by_cases h : a = b
  · rw [h]; simp
  · simp [h]
theorem w_eqI (h : Q (.bl (decide (m = n))) H) : rEq (.int m) (.int n) H Q := ⟨rfl, by rw [dec_ii]; exact h⟩
theorem w_eqB {a b : Bool} (h : Q (.bl (decide (a = b))) H) : rEq (.bl a) (.bl b) H Q := ⟨rfl, by rw [dec_bb]; exact h⟩
theorem w_eqS {a b : Str} (h : Q (.bl (decide (a = b))) H) : rEq (.str a) (.str b) H Q := ⟨rfl, by rw [dec_ss]; exact h⟩
theorem w_eqNI (h : Q (.bl false) H) : rEq .non (.int n) H Q := ⟨rfl, by rw [decide_eq_false (by simp)]; exact h⟩
theorem w_eqIN (h : Q (.bl false) H) : rEq (.int n) .non H Q := ⟨rfl, by rw [decide_eq_false (by simp)]; exact h⟩
theorem w_neI (h : Q (.bl (!decide (m = n))) H) : rNe (.int m) (.int n) H Q := ⟨rfl, by rw [dec_ii]; exact h⟩
theorem w_neB {a b : Bool} (h : Q (.bl (!decide (a = b))) H) : rNe (.bl a) (.bl b) H Q := ⟨rfl, by rw [dec_bb]; exact h⟩
theorem w_neS {a b : Str} (h : Q (.bl (!decide (a = b))) H) : rNe (.str a) (.str b) H Q := ⟨rfl, by rw [dec_ss]; exact h⟩
theorem w_ixL (hs : SqL K H p xs) (ha : atI xs m = some v) (h : Q v H) : rIxL K (.ref p) (.int m) H Q := ⟨p, xs, m, v, rfl, rfl, hs, ha, h⟩
theorem w_ixT (hs : SqT K H p xs) (ha : atI xs m = some v) (h : Q v H) : rIxT K (.ref p) (.int m) H Q := ⟨p, xs, m, v, rfl, rfl, hs, ha, h⟩
theorem w_ixl (hs : SqL K H p xs) (ha : atI xs m = some v) (h : Q v H) : rIx K (.ref p) (.int m) H Q := .inl ⟨p, xs, m, v, rfl, rfl, hs, ha, h⟩
theorem w_ixt (hs : SqT K H p xs) (ha : atI xs m = some v) (h : Q v H) : rIx K (.ref p) (.int m) H Q := .inr (.inl ⟨p, xs, m, v, rfl, rfl, hs, ha, h⟩)
theorem w_catE (h1 : LsE K H p xs) (h2 : LsE K H q ys) (hz : xs.length + ys.length ≤ sizeLine) (h : ∀ p, H p = none → Q (.ref p) (upd H p (.lst (xs ++ ys)))) : rCatE K (.ref p) (.ref q) H Q := ⟨p, q, xs, ys, rfl, rfl, h1, h2, hz, h⟩
theorem w_rep (h1 : H p = some (.lst xs)) (h2 : -(2 ^ 63) ≤ n) (h3 : n < 2 ^ 63) (h4 : xs.length * n.toNat ≤ sizeLine) (h : ∀ p, H p = none → Q (.ref p) (upd H p (.lst (List.replicate n.toNat xs).flatten))) : rRep (.ref p) (.int n) H Q := ⟨p, n, xs, rfl, rfl, h1, h2, h3, h4, h⟩
theorem w_test (h : te σ H fun x H' => ∃ k, x = .bl k ∧ QT k H') : tTest te σ H QT := h
theorem w_tB (h : te σ H fun x H' => ∃ k, x = .bl k ∧ QT k H') : tB te σ H QT := h
theorem w_bl {b : Bool} {R : Bool → Prop} (h : R b) : ∃ k, V.bl b = .bl k ∧ R k := ⟨b, rfl, h⟩
theorem w_and (h : t σ H fun c H1 => if c = true then u σ H1 QT else QT false H1) : tAnd t u σ H QT := h
theorem w_or (h : t σ H fun c H1 => if c = true then QT true H1 else u σ H1 QT) : tOr t u σ H QT := h
theorem w_not (h : t σ H fun c H1 => QT (!c) H1) : tNot t σ H QT := h
theorem w_andV (h : ta σ H fun x H1 => ∃ c, x = .bl c ∧ if c = true then tb σ H1 Q else Q (.bl false) H1) : tAndV ta tb σ H Q := h
theorem w_orV (h : ta σ H fun x H1 => ∃ c, x = .bl c ∧ if c = true then Q (.bl true) H1 else tb σ H1 Q) : tOrV ta tb σ H Q := h
theorem w_notV (h : ta σ H fun x H1 => ∃ c, x = .bl c ∧ Q (.bl (!c)) H1) : tNotV ta σ H Q := h
theorem w_ifE (h : t σ H fun c H1 => if c = true then ta σ H1 Q else tb σ H1 Q) : tIf t ta tb σ H Q := h
theorem w_asg (h : te σ H fun x H1 => g x σ H1 D.nx) : tAsg te g D σ H := h
theorem w_gn {R : L2.St → Hp → Prop} (h : R (σ.set i (some v)) H) : gName i v σ H R := h
theorem w_gt {R : L2.St → Hp → Prop} {k : Nat} (hs : SqT K H p xs) (hl : xs.length = k) (h : gs xs σ H R) : gTup K k gs (.ref p) σ H R := ⟨p, xs, rfl, hs, hl, h⟩
theorem w_gc {R : L2.St → Hp → Prop} (h : g v σ H fun σ' H' => gs xs σ' H' R) : gCons g gs (v :: xs) σ H R := ⟨v, xs, rfl, h⟩
theorem w_g0 {R : L2.St → Hp → Prop} (h : R σ H) : gNil [] σ H R := ⟨rfl, h⟩
theorem w_gs {R : L2.St → Hp → Prop} {tt : TSet} (h : ta σ H fun o H1 => tb σ H1 fun i H2 => tt o i v H2 fun H3 => R σ H3) : gSub ta tb tt v σ H R := h
theorem w_setL {R : Hp → Prop} (hp : H p = some (.lst xs)) (hj : ixN xs.length m = some j) (h : R (upd H p (.lst (xs.set j v)))) : rSetL (.ref p) (.int m) v H R := ⟨p, xs, m, j, rfl, rfl, hp, hj, h⟩
theorem w_drop (h : te σ H fun _ H1 => D.nx σ H1) : tDrop te D σ H := h
theorem w_ret (h : te σ H D.rt) : tRet te D σ H := h
theorem w_retN (h : D.rt .non H) : tRetN D σ H := h
theorem w_if (h : t σ H fun b H1 => if b = true then ts D σ H1 else us D σ H1) : tIfS t ts us D σ H := h
theorem w_break (h : D.bk σ H) : tBreak D σ H := h
theorem w_cont (h : D.ct σ H) : tCont D σ H := h
theorem w_aug {ti : TIp} (h : ∃ x, σ[i]? = some (some x) ∧ te σ H fun y H1 => ti x y H1 fun z H2 => D.nx (σ.set i (some z)) H2) : tAug i te ti D σ H := h
theorem w_ip {f : Int → Int → Int} (h : Q (.int (f m n)) H) : ipI f (.int m) (.int n) H Q := ⟨m, n, rfl, rfl, h⟩
theorem w_par (h : tl σ H fun vs H1 => ∃ v w, vs = [v, w] ∧ D.nx ((σ.set i (some v)).set j (some w)) H1) : tPar i j tl D σ H := h
theorem w_par2 {R : V → V → Prop} (h : R v x) : ∃ a b, [v, x] = [a, b] ∧ R a b := ⟨v, x, rfl, h⟩
theorem w_nil (h : QA [] H) : tNil σ H QA := h
theorem w_cons (h : ta σ H fun x H1 => tl σ H1 fun xs H2 => QA (x :: xs) H2) : tCons ta tl σ H QA := h
theorem w_call {sp : Sp} {E : XK} (h : tl σ H fun vs H1 => sp vs H1 Q E) : tCall sp [] E tl σ H Q := by
  unfold tCall
  simp only [List.append_nil]
  exact h
theorem w_cb {r : List V → Hp → VK → Prop} (h : tl σ H fun vs H1 => r vs H1 Q) : tCB r tl σ H Q := h
theorem w_tup (h : tl σ H fun xs H1 => xs.length ≤ sizeLine ∧ ∀ p, H1 p = none → Q (.ref p) (upd H1 p (.tup xs))) : tTup tl σ H Q := h
theorem w_lst (h : tl σ H fun xs H1 => xs.length ≤ sizeLine ∧ ∀ p, H1 p = none → Q (.ref p) (upd H1 p (.lst xs))) : tLst tl σ H Q := h
theorem w_sl {r : V → Option Int → Option Int → Hp → VK → Prop} {to tu : TO} (h : te σ H fun x H1 => to σ H1 fun l H2 => tu σ H2 fun u H3 => r x l u H3 Q) : tSl r te to tu σ H Q := h
theorem w_np {R : Option Int → Hp → Prop} (h : R none H) : tNoPart σ H R := h
theorem w_part {R : Option Int → Hp → Prop} (h : te σ H fun x H1 => ∃ i, x = .int i ∧ R (some i) H1) : tPart te σ H R := h
theorem w_partI {R : Int → Prop} (h : R m) : ∃ i, V.int m = .int i ∧ R i := ⟨m, rfl, h⟩
theorem w_slL {lo hi : Option Int} (hs : SqL K H p xs) (h : ∀ q, H q = none → Q (.ref q) (upd H q (.lst (cutV xs lo hi)))) : rSlL K (.ref p) lo hi H Q := ⟨p, xs, rfl, hs, h⟩
theorem w_bm {T : String} {r : V → List V → Hp → VK → Prop} (h : ta σ H fun x H1 => tyV K T x H1 ∧ tl σ H1 fun xs H2 => r x xs H2 Q) : tBM K T r ta tl σ H Q := h
theorem w_bm0 {T : String} {r : V → List V → Hp → VK → Prop} (h : ta σ H fun x H1 => tyV K T x H1 ∧ r x [] H1 Q) : tBM0 K T r ta σ H Q := h
theorem w_tyl {R : Prop} (hs : SqL K H p xs) (h : R) : tyV K "list" (.ref p) H ∧ R := ⟨.inl ⟨rfl, xs, hs⟩, h⟩
theorem w_app (hp : H p = some (.lst xs)) (hl : xs.length < sizeLine) (h : Q .non (upd H p (.lst (xs ++ [v])))) : rAppend (.ref p) [v] H Q := ⟨p, xs, v, rfl, rfl, hp, hl, h⟩
theorem w_rev (hp : H p = some (.lst xs)) (h : Q .non (upd H p (.lst xs.reverse))) : rReverse (.ref p) [] H Q := ⟨p, xs, rfl, rfl, hp, h⟩
theorem w_len {R : List V → Prop} (hs : SqL K H p xs) (h : R xs) : ∃ p' ys, [V.ref p] = [.ref p'] ∧ (SqL K H p' ys ∨ SqT K H p' ys) ∧ R ys := ⟨p, xs, rfl, .inl hs, h⟩
theorem w_lenT {R : List V → Prop} (hs : SqT K H p xs) (h : R xs) : ∃ p' ys, [V.ref p] = [.ref p'] ∧ (SqL K H p' ys ∨ SqT K H p' ys) ∧ R ys := ⟨p, xs, rfl, .inr hs, h⟩
theorem w_isi {s : String} {b : Bool} (hk : kitB "int" s = some b) (h : Q (.bl b) H) : rIsi K [.int m, .ty s] H Q := ⟨_, _, _, _, b, rfl, .ty _, .base (.int _), kit_ty hk, h⟩
theorem w_isb {k : Bool} {s : String} {b : Bool} (hk : kitB "bool" s = some b) (h : Q (.bl b) H) : rIsi K [.bl k, .ty s] H Q := ⟨_, _, _, _, b, rfl, .ty _, .base (.bl _), kit_ty hk, h⟩
theorem w_isn {s : String} {b : Bool} (hk : kitB "NoneType" s = some b) (h : Q (.bl b) H) : rIsi K [.non, .ty s] H Q := ⟨_, _, _, _, b, rfl, .ty _, .base .non, kit_ty hk, h⟩
theorem w_isl {s : String} {b : Bool} (hp : H p = some (.lst xs)) (hk : kitB "list" s = some b) (h : Q (.bl b) H) : rIsi K [.ref p, .ty s] H Q := ⟨_, _, _, _, b, rfl, .ty _, .base (.lst hp), kit_ty hk, h⟩
theorem w_ist {s : String} {b : Bool} (hp : H p = some (.tup xs)) (hk : kitB "tuple" s = some b) (h : Q (.bl b) H) : rIsi K [.ref p, .ty s] H Q := ⟨_, _, _, _, b, rfl, .ty _, .base (.tup hp), kit_ty hk, h⟩
theorem w_2i {R : Int → Int → Prop} (h : R m n) : ∃ i j, [V.int m, V.int n] = [.int i, .int j] ∧ R i j := ⟨m, n, rfl, h⟩
theorem w_1i {R : Int → Prop} (h : R m) : ∃ i, [V.int m] = [.int i] ∧ R i := ⟨m, rfl, h⟩
theorem w_int1 {R : Int → Prop} {S : Prop} (h : R m) : (∃ i, [V.int m] = [.int i] ∧ R i) ∨ S := .inl ⟨m, rfl, h⟩
theorem w_intb {b : Bool} {R : Bool → Prop} {S : Prop} (h : R b) : S ∨ ∃ k, [V.bl b] = [.bl k] ∧ R k := .inr ⟨b, rfl, h⟩
theorem w_isN {R : Prop} (h : R) : V.non = .non ∧ R := ⟨rfl, h⟩
theorem w_fld {v : V} {R : V → Prop} (hp : H p = some (.ins C dx fs)) (hc : Cls K C) (hn : NoAttr K C f) (hl : fs.lookup f = some v) (h : R v) : ∃ a C' dx' fs' v', V.ref p = .ref a ∧ H a = some (.ins C' dx' fs') ∧ Cls K C' ∧ NoAttr K C' f ∧ fs'.lookup f = some v' ∧ R v' := ⟨p, C, dx, fs, v, rfl, hp, hc, hn, hl, h⟩
theorem w_fl (h : ta σ H fun x H1 => ∃ a C dx fs v, x = .ref a ∧ H1 a = some (.ins C dx fs) ∧ Cls K C ∧ NoAttr K C f ∧ fs.lookup f = some v ∧ Q v H1) : tFld K ta f σ H Q := h
theorem w_for {wi : TI} {tu : TS} (h : wi σ H fun J H1 => ∃ W : Nat → Nat → L2.St → Hp → Prop, (∃ m, W 0 m σ H1) ∧ ∀ i m σ H, W i m σ H →
  (J.stop i H ∧ D.nx σ H) ∨ (J.go i H ∧ ∃ N : L2.St → Hp → Prop, (∀ σ' H', N σ' H' → ∃ m', m' < m ∧ W (i + 1) m' σ' H') ∧ ∀ x H', J.yld i H x H' → g x σ H' fun σ2 H2 => tu { D with nx := N, ct := N, bk := D.nx } σ2 H2)) : tFor wi g tu D σ H := h
theorem w_iL {R : It → Hp → Prop} (h : te σ H fun x H1 => ∃ a, x = .ref a ∧ (∃ xs, SqL K H1 a xs) ∧ R (Itl K a) H1) : iList K te σ H R := h
theorem w_iLq {R : Addr → Prop} (hs : SqL K H p xs) (h : R p) : ∃ a, V.ref p = .ref a ∧ (∃ xs, SqL K H a xs) ∧ R a := ⟨p, rfl, ⟨xs, hs⟩, h⟩
theorem w_iTu {R : It → Hp → Prop} (h : te σ H fun x H1 => ∃ a, x = .ref a ∧ (∃ xs, SqT K H1 a xs) ∧ R (Itt K a) H1) : iTup K te σ H R := h
theorem w_iTq {R : Addr → Prop} (hs : SqT K H p xs) (h : R p) : ∃ a, V.ref p = .ref a ∧ (∃ xs, SqT K H a xs) ∧ R a := ⟨p, rfl, ⟨xs, hs⟩, h⟩
theorem w_r1 {R : It → Hp → Prop} (h : tl σ H fun vs H1 => ∃ j : Int, vs = [.int j] ∧ -(2 ^ 62) ≤ j ∧ j < 2 ^ 62 ∧ R (Itr 0 j.toNat) H1) : iRng1 tl σ H R := h
theorem w_r1q {R : Int → Prop} (h1 : -(2 ^ 62) ≤ m) (h2 : m < 2 ^ 62) (h : R m) : ∃ j : Int, [V.int m] = [.int j] ∧ -(2 ^ 62) ≤ j ∧ j < 2 ^ 62 ∧ R j := ⟨m, rfl, h1, h2, h⟩
theorem w_r2 {R : It → Hp → Prop} (h : tl σ H fun vs H1 => ∃ i j : Int, vs = [.int i, .int j] ∧ (-(2 ^ 62) ≤ i ∧ i < 2 ^ 62 ∧ -(2 ^ 62) ≤ j ∧ j < 2 ^ 62) ∧ R (Itr i (j - i).toNat) H1) : iRng2 tl σ H R := h
theorem w_r2q {R : Int → Int → Prop} (h1 : -(2 ^ 62) ≤ m) (h2 : m < 2 ^ 62) (h3 : -(2 ^ 62) ≤ n) (h4 : n < 2 ^ 62) (h : R m n) : ∃ i j : Int, [V.int m, V.int n] = [.int i, .int j] ∧ (-(2 ^ 62) ≤ i ∧ i < 2 ^ 62 ∧ -(2 ^ 62) ≤ j ∧ j < 2 ^ 62) ∧ R i j := ⟨m, n, rfl, ⟨h1, h2, h3, h4⟩, h⟩
theorem w_len1 {R : Prop} (hl : Nat.ble xs.length 1000 = true) (h : R) : xs.length ≤ sizeLine ∧ R := ⟨szle hl, h⟩
end
theorem same_read {K : PySem.W.Frag} {H H' : Hp} {a : Addr} {xs : List V} (e : Same H H') (h : SqT K H a xs) : SqT K H' a xs := by
  rcases h with (h | ⟨o, h⟩) | h
  · exact .inl (.inl (e _ _ h))
  · exact .inl (.inr ⟨o, e _ _ h⟩)
  · exact .inr h
theorem w_iT {A B : Prop} (h : A) : if true = true then A else B := by rw [if_pos rfl]; exact h
theorem w_iF {A B : Prop} (h : B) : if false = true then A else B := by rw [if_neg Bool.false_ne_true]; exact h
theorem w_iNT {A B : Prop} (h : B) : if (!true) = true then A else B := by rw [Bool.not_true, if_neg Bool.false_ne_true]; exact h
theorem w_iNF {A B : Prop} (h : A) : if (!false) = true then A else B := by rw [Bool.not_false, if_pos rfl]; exact h
theorem w_iNN {A B : Prop} {b : Bool} (h : if b = true then A else B) : if (!!b) = true then A else B := by rw [Bool.not_not]; exact h

/-! ### data -/
mutual
theorem dpSame {K : PySem.W.Frag} {H H' : Hp} (e : Same H H') : ∀ (d : PyData) (v : V), Dp K H v d → Dp K H' v d
  | .none, _, h => by cases h; exact .non
  | .bool _, _, h => by cases h; exact .bl _
  | .int _, _, h => by cases h; exact .int _
  | .str _, _, h => by cases h; exact .str _
  | .list ds, _, h => by
    cases h with
    | lst hs ha => exact .lst (e.seq hs) (dpSameAll e ds _ ha)
  | .tuple ds, _, h => by
    cases h with
    | tup hs ha => exact .tup (same_read e hs) (dpSameAll e ds _ ha)
  | .dict _, _, h => by cases h
theorem dpSameAll {K : PySem.W.Frag} {H H' : Hp} (e : Same H H') : ∀ (ds : List PyData) (xs : List V), DpAll K H xs ds → DpAll K H' xs ds
  | [], _, h => by cases h; exact .nil
  | d :: ds, _, h => by
    cases h with
    | cons h1 h2 => exact .cons (dpSame e d _ h1) (dpSameAll e ds _ h2)
end
section
variable {K : PySem.W.Frag} {H H' : Hp} {xs ys : List V} {ds es : List PyData} {v : V} {d : PyData} {a : Addr}
theorem _root_.L2.Dp.same (e : Same H H') (h : Dp K H v d) : Dp K H' v d := dpSame e d v h
theorem _root_.L2.DpAll.same (e : Same H H') (h : DpAll K H xs ds) : DpAll K H' xs ds := dpSameAll e ds xs h
theorem dpaLen : ∀ {xs : List V} {ds : List PyData}, DpAll K H xs ds → xs.length = ds.length
  | _, _, .nil => rfl
  | _, _, .cons _ t => by rw [List.length_cons, List.length_cons, dpaLen t]
theorem dpaGet : ∀ {xs : List V} {ds : List PyData} {i : Nat} {d : PyData}, DpAll K H xs ds → ds[i]? = some d → ∃ v, xs[i]? = some v ∧ Dp K H v d
  | _, _, _, _, .nil, e => by simp at e
  | _, _, 0, _, .cons h _, e => by simp at e; subst e; exact ⟨_, rfl, h⟩
  | _, _, i + 1, _, .cons _ t, e => by
    obtain ⟨v, h1, h2⟩ := dpaGet (i := i) t (by simpa using e)
    exact ⟨v, by simpa using h1, h2⟩
theorem dpaApp : ∀ {xs ys : List V} {ds es : List PyData}, DpAll K H xs ds → DpAll K H ys es → DpAll K H (xs ++ ys) (ds ++ es)
  | _, _, _, _, .nil, h => h
  | _, _, _, _, .cons h t, s => .cons h (dpaApp t s)
theorem dpInts : ∀ ns : List Int, DpAll K H (ns.map V.int) (ns.map PyData.int)
  | [] => .nil
  | n :: r => .cons (.int n) (dpInts r)
theorem dpAll_ints : ∀ {ns : List Int} {xs : List V}, DpAll K H xs (ns.map PyData.int) → xs = ns.map V.int
  | [], _, h => by cases h; rfl
  | n :: r, _, h => by
    cases h with
    | cons h t => cases h; rw [dpAll_ints t]; rfl
theorem dpInt {i : Int} (h : Dp K H v (.int i)) : v = .int i := by cases h; rfl
theorem dpTup (h : Dp K H v (.tuple ds)) : ∃ a xs, v = .ref a ∧ SqT K H a xs ∧ DpAll K H xs ds := by cases h with | tup h1 h2 => exact ⟨_, _, rfl, h1, h2⟩
theorem dpLst (h : Dp K H v (.list ds)) : ∃ a xs, v = .ref a ∧ SqL K H a xs ∧ DpAll K H xs ds := by cases h with | lst h1 h2 => exact ⟨_, _, rfl, h1, h2⟩
theorem dpLstA (h : Dp K H (.ref a) (.list ds)) : ∃ xs, SqL K H a xs ∧ DpAll K H xs ds := by cases h with | lst h1 h2 => exact ⟨_, h1, h2⟩
theorem dpTupA (h : Dp K H (.ref a) (.tuple ds)) : ∃ xs, SqT K H a xs ∧ DpAll K H xs ds := by cases h with | tup h1 h2 => exact ⟨_, h1, h2⟩
end
/-- data that == serves: no dicts, no deeper than n -/
def Good (n : Nat) (d : PyData) : Prop := d.canLay0 = true ∧ d.depth ≤ n
theorem goodInt {n : Nat} {i : Int} : Good n (.int i) := ⟨rfl, Nat.zero_le _⟩
theorem goodBool {n : Nat} {b : Bool} : Good n (.bool b) := ⟨rfl, Nat.zero_le _⟩
theorem goodNone {n : Nat} : Good n .none := ⟨rfl, Nat.zero_le _⟩
theorem goodAll {n : Nat} : ∀ {ds : List PyData}, (∀ d ∈ ds, Good n d) → PyData.canLayAll0 ds = true ∧ PyData.depthAll ds ≤ n
  | [], _ => ⟨rfl, Nat.zero_le _⟩
  | d :: ds, h => by
    obtain ⟨h1, h2⟩ := h d List.mem_cons_self
    obtain ⟨h3, h4⟩ := goodAll fun e he => h e (List.mem_cons_of_mem _ he)
    exact ⟨by simp [PyData.canLayAll0, h1, h3], by simp only [PyData.depthAll]; omega⟩
theorem goodLst {n : Nat} {ds : List PyData} (h : ∀ d ∈ ds, Good n d) : Good (n + 1) (.list ds) := ⟨(goodAll h).1, Nat.succ_le_succ (goodAll h).2⟩
theorem goodTup {n : Nat} {ds : List PyData} (h : ∀ d ∈ ds, Good n d) : Good (n + 1) (.tuple ds) := ⟨(goodAll h).1, Nat.succ_le_succ (goodAll h).2⟩
theorem goodMap {α : Type} {n : Nat} {f : α → PyData} {xs : List α} (h : ∀ x, Good n (f x)) : ∀ d ∈ xs.map f, Good n d := by
  intro d hd
  obtain ⟨x, _, rfl⟩ := List.mem_map.mp hd
  exact h x
theorem Good.mono {n m : Nat} {d : PyData} (h : Good n d) (e : n ≤ m) : Good m d := ⟨h.1, Nat.le_trans h.2 e⟩
theorem Good.shaped {n : Nat} {d : PyData} (h : Good n d) (e : n ≤ 64) : SeqAt.shaped d = true := by
  unfold SeqAt.shaped
  rw [h.1, decide_eq_true (Nat.le_trans h.2 e)]
  rfl
theorem Good.eqv {n : Nat} {d : PyData} (h : Good n d) : PyData.eqv d d = true := SeqAt.eqv_refl d h.1
section
variable {K : PySem.W.Frag} {H : Hp} {x y : V} {d : PyData} {Q : VK} {n : Nat}
/-- two things of the same data are equal -/
theorem w_eqD (h1 : Dp K H x d) (h2 : Dp K H y d) (g : Good n d) (hn : n ≤ 64) (h : Q (.bl true) H) : rEqD K x y H Q := ⟨d, d, h1, h2, g.shaped hn, g.shaped hn, by rw [g.eqv]; exact h⟩
theorem w_neD (h1 : Dp K H x d) (h2 : Dp K H y d) (g : Good n d) (hn : n ≤ 64) (h : Q (.bl false) H) : rNeD K x y H Q := ⟨d, d, h1, h2, g.shaped hn, g.shaped hn, by rw [g.eqv]; exact h⟩
end
/-! ### xs[i] op= e -/
def rGetL (K : PySem.W.Frag) : V → V → Hp → VK → Prop := fun x y H Q => ∃ (p : Addr) (xs : List V) (j : Nat) (v : V), x = .ref p ∧ y = .int j ∧ SqL K H p xs ∧ xs[j]? = some v ∧ Q v H
theorem get_list {X : Cx} : PGet X (rGetL X.K) := by
  intro pins s σ H o i ov iv Q I ro ri h
  obtain ⟨p, xs, j, v, rfl, rfl, hq, he, q⟩ := h
  cases ro
  obtain ⟨t, rfl⟩ := ri
  obtain ⟨its, r, pl, hz⟩ := I.list hq
  obtain ⟨u, eu, ru⟩ := r.get he
  have hj : j < xs.length := (List.getElem?_eq_some_iff.mp he).1
  have hn := line63
  exact wpAny_getItem_list pl.isList (Int.natCast_nonneg j) (by omega) (by simpa using eu) ⟨v, H, I, ru, q⟩
theorem ps_augL {X : Cx} {o i e : Expr} {to ti te : TE} {tip : TIp} {op : Operator} {tpos pos : Pos} (ho : PE X o to) (hi : PE X i ti) (he : PE X e te) (hp : PIp X op tip)
    (ha : ∀ ov iv new, augStore i ov iv new = (do holding [new, ov, iv] (setItem ov iv new); release [new, ov, iv] []; pure .next) := by intros; rfl) : PS X (.AugAssign (.Subscript o i tpos) op e pos) (tAugS to ti te (rGetL X.K) tip rSetL) :=
  ps_augS ho hi get_list he hp set_list ha
section
variable {σ : L2.St} {H : Hp} {Q : VK} {D : Ends} {K : PySem.W.Frag} {p : Addr} {xs : List V} {v : V} {j : Nat}
theorem w_augS {to ti te : TE} {tget : V → V → Hp → VK → Prop} {tip : TIp} {tset : TSet} (h : to σ H fun o H1 => ti σ H1 fun i H2 => tget o i H2 fun x H3 => te σ H3 fun y H4 => tip x y H4 fun z H5 => tset o i z H5 fun H6 => D.nx σ H6) : tAugS to ti te tget tip tset D σ H := h
theorem w_getL (hs : SqL K H p xs) (he : xs[j]? = some v) (h : Q v H) : rGetL K (.ref p) (.int (j : Int)) H Q := ⟨p, xs, j, v, rfl, rfl, hs, he, h⟩
theorem ixN_nat {n j : Nat} (h : j < n) : ixN n (j : Int) = some j := by
  unfold ixN
  rw [if_pos (Int.natCast_nonneg j), if_pos (by omega)]
  simp
end
/-! ### range from nought -/
theorem for_r0 {m : Int} {n : Nat} {g : TG} {tb : TS} {D : Ends} {σ : L2.St} {H : Hp} (hm : m = n) (Pv : Nat → L2.St → Hp → Prop) (h0 : Pv 0 σ H)
    (hs : ∀ i σ H, i < n → Pv i σ H → g (.int (i : Nat)) σ H fun σ2 H2 => tb { D with nx := Pv (i + 1), ct := Pv (i + 1), bk := D.nx } σ2 H2) (hd : ∀ σ H, Pv n σ H → D.nx σ H) :
    ∃ W : Nat → Nat → L2.St → Hp → Prop, (∃ m, W 0 m σ H) ∧ ∀ i k σ H, W i k σ H →
      ((Itr 0 m.toNat).stop i H ∧ D.nx σ H) ∨ ((Itr 0 m.toNat).go i H ∧ ∃ N : L2.St → Hp → Prop, (∀ σ' H', N σ' H' → ∃ m', m' < k ∧ W (i + 1) m' σ' H') ∧ ∀ x H', (Itr 0 m.toNat).yld i H x H' → g x σ H' fun σ2 H2 => tb { D with nx := N, ct := N, bk := D.nx } σ2 H2) := by
  subst hm
  rw [Int.toNat_natCast]
  exact for_range (lo := 0) Pv h0 (fun i σ H hi hp => by rw [Int.zero_add]; exact hs i σ H hi hp) hd
/-! ### bits of numbers from nought on -/
theorem shr_nat (m k : Nat) : (m : Int) / 2 ^ (Int.toNat (k : Int)) = ((m >>> k : Nat) : Int) := by
  rw [Int.toNat_natCast, Nat.shiftRight_eq_div_pow]
  simp
theorem shl_nat (m k : Nat) : (m : Int) * 2 ^ (Int.toNat (k : Int)) = ((m <<< k : Nat) : Int) := by
  rw [Int.toNat_natCast, Nat.shiftLeft_eq]
  simp
theorem shl_one (k : Nat) : (1 : Int) * 2 ^ (Int.toNat (k : Int)) = ((2 ^ k : Nat) : Int) := by
  rw [Int.toNat_natCast, Int.one_mul]
  simp
theorem xor_nat (m n : Nat) : Builtin.bitXor (m : Int) (n : Int) = ((m ^^^ n : Nat) : Int) := by
  have h := Bits.bitXor_pp (x := (m : Int)) (y := (n : Int)) (Int.natCast_nonneg m) (Int.natCast_nonneg n)
  rw [Int.toNat_natCast, Int.toNat_natCast] at h
  exact h
theorem or_nat (m n : Nat) : Builtin.bitOr (m : Int) (n : Int) = ((m ||| n : Nat) : Int) := by
  have h := Bits.bitOr_pp (x := (m : Int)) (y := (n : Int)) (Int.natCast_nonneg m) (Int.natCast_nonneg n)
  rw [Int.toNat_natCast, Int.toNat_natCast] at h
  exact h
theorem and_one (m : Int) (h : 0 ≤ m) : Builtin.bitAnd m 1 = m % 2 := by
  have e := Bits.bitAnd_mask (x := m) 1 h
  simpa using e
theorem bit_nat (m k : Nat) : Builtin.bitAnd ((m : Int) / 2 ^ (Int.toNat (k : Int))) 1 = (((m.testBit k).toNat : Nat) : Int) := by
  rw [shr_nat, and_one _ (Int.natCast_nonneg _), Nat.testBit_eq_decide_div_mod_eq, Nat.shiftRight_eq_div_pow]
  have h : m / 2 ^ k % 2 < 2 := Nat.mod_lt _ (by decide)
  generalize m / 2 ^ k = z at h
  have e : z % 2 = 0 ∨ z % 2 = 1 := by omega
  rcases e with e | e
  · rw [e]; simp; omega
  · rw [e]; simp; omega
theorem bit_dec (m k : Nat) : decide (Builtin.bitAnd ((m : Int) / 2 ^ (Int.toNat (k : Int))) 1 = 1) = m.testBit k := by
  rw [bit_nat]
  cases m.testBit k <;> simp
/-! ### tables by number -/
theorem map_set {α : Type} {f : Nat → α} {m j : Nat} {y : α} : ((List.range m).map f).set j y = (List.range m).map fun r => if r = j then y else f r := by
  apply List.ext_getElem
  · simp
  · intro i h1 h2
    simp only [List.length_set, List.length_map, List.length_range] at h1
    simp only [List.getElem_set, List.getElem_map, List.getElem_range]
    by_cases e : j = i
    · subst e; simp
    · rw [if_neg e, if_neg (Ne.symm e)]
theorem map_at {α : Type} {f : Nat → α} {m j : Nat} (h : j < m) : ((List.range m).map f)[j]? = some (f j) := by
  rw [List.getElem?_map, List.getElem?_range h]
  rfl
theorem map_len {α : Type} {f : Nat → α} {m : Nat} : ((List.range m).map f).length = m := by simp
theorem map_setI {f : Nat → Int} {m j : Nat} {y : Int} : ((List.range m).map fun r => V.int (f r)).set j (V.int y) = (List.range m).map fun r => V.int (if r = j then y else f r) := by
  rw [map_set]
  congr 1
  funext r
  split <;> rfl
/-! ### comprehensions, slices -/
section
variable {σ σ' : L2.St} {H : Hp} {Q : VK} {QT : Bool → Hp → Prop}
theorem w_lc {wi : TI} {g : TG} {tt : TT} {te : TE} {vs : List Nat} (h : wi σ H fun J H1 => ∀ D, New H1 D → ∃ W : Nat → Nat → Hp → Prop, (∃ m, W 0 m (upd H1 D (.lst []))) ∧ ∀ i m H, W i m H →
  (J.stop i H ∧ Q (.ref D) H) ∨ (J.go i H ∧ ∃ Nx : Hp → Prop, (∀ H', Nx H' → ∃ m', m' < m ∧ W (i + 1) m' H') ∧ ∀ x H', J.yld i H x H' → g x (wipe σ vs) H' fun σ2 H2 => wipe σ2 vs = wipe σ vs ∧ tt σ2 H2 fun b H3 =>
    if b = true then te σ2 H3 fun y H4 => ∃ acc, H4 D = some (.lst acc) ∧ acc.length < sizeLine ∧ Nx (upd H4 D (.lst (acc ++ [y]))) else Nx H3)) : tLc wi g tt te vs σ H Q := h
theorem w_wipe {vs : List Nat} {R : Prop} (e : wipe σ vs = wipe σ' vs) (h : R) : wipe σ vs = wipe σ' vs ∧ R := ⟨e, h⟩
theorem w_yes (h : QT true H) : tYes σ H QT := h
theorem cutV_nat (xs : List V) (a b : Nat) : cutV xs (some (a : Int)) (some (b : Int)) = (xs.drop a).take (b - a) := by
  unfold cutV
  rw [HT.sIx_nat, HT.sIx_nat]
  apply List.ext_getElem?
  intro i
  simp only [List.getElem?_take, List.getElem?_drop]
  by_cases ha : a ≤ xs.length
  · rw [Nat.min_eq_left ha]
    by_cases h : i < b - a
    · by_cases h2 : i < min b xs.length - a
      · rw [if_pos h, if_pos h2]
      · rw [if_pos h, if_neg h2, List.getElem?_eq_none (by omega)]
    · rw [if_neg h, if_neg (by omega)]
  · rw [if_neg (by omega)]
    split
    · rw [List.getElem?_eq_none (by omega)]
    · rfl
theorem cutV_from (xs : List V) (a : Nat) : cutV xs (some (a : Int)) none = xs.drop a := by
  unfold cutV
  rw [HT.sIx_nat, HT.sIx_none]
  by_cases h : a ≤ xs.length
  · rw [Nat.min_eq_left h]
    exact List.take_of_length_le (by simp)
  · rw [Nat.min_eq_right (by omega), List.drop_of_length_le (Nat.le_refl _), List.drop_of_length_le (by omega), List.take_nil]
theorem cutV_to (xs : List V) (b : Nat) : cutV xs none (some (b : Int)) = xs.take b := by
  unfold cutV
  rw [HT.sIx_nat, HT.sIx_none, List.drop_zero, Nat.sub_zero]
  by_cases h : b ≤ xs.length
  · rw [Nat.min_eq_left h]
  · rw [Nat.min_eq_right (by omega), List.take_of_length_le (Nat.le_refl _), List.take_of_length_le (by omega)]
end
theorem w_list {K : PySem.W.Frag} {H : Hp} {p : Addr} {xs : List V} {R : List V → Prop} (hs : SqL K H p xs) (h : R xs) : ∃ p' ys, [V.ref p] = [.ref p'] ∧ (SqL K H p' ys ∨ SqT K H p' ys) ∧ R ys := ⟨p, xs, rfl, .inl hs, h⟩
/-! ### a heap without one place -/
def wo (H : Hp) (D : Addr) : Hp := fun b => if b = D then none else H b
section
variable {K : PySem.W.Frag} {H H' H2 : Hp} {D p : Addr} {o : HO} {xs : List V} {ds : List PyData} {v : V} {d : PyData}
theorem wo_same : Same (wo H D) H := fun b o h => by
  unfold wo at h
  split at h
  · cases h
  · exact h
theorem wo_new : New (wo H D) D := if_pos rfl
theorem wo_get (h : H p = some o) (n : p ≠ D) : wo H D p = some o := (if_neg n).trans h
theorem wo_eq : wo (upd H D o) D = wo H D := by
  funext b
  unfold wo
  split
  · rfl
  · rw [upd_ne (by assumption)]
theorem wo_mono (e : Same H H') : Same (wo H D) (wo H' D) := fun b o h => by
  unfold wo at h ⊢
  split at h
  · cases h
  · rw [if_neg (by assumption)]; exact e b o h
theorem same_wo (e : Same H H') (n : New H D) : Same H (wo H' D) := fun b o h => wo_get (e b o h) (ne_new h n)
theorem dpaPush (h : DpAll K (wo H D) xs ds) (e : Same H H2) (hv : Dp K (wo H2 D) v d) : DpAll K (wo (upd H2 D o) D) (xs ++ [v]) (ds ++ [d]) := by
  rw [wo_eq]
  exact dpaApp (h.same (wo_mono e)) (.cons hv .nil)
theorem dpaPushI (h : DpAll K (wo H D) xs ds) {i : Int} : DpAll K (wo (upd H D o) D) (xs ++ [.int i]) (ds ++ [.int i]) := dpaPush h (Same.refl _) (.int i)
end
/-! ### while -/
theorem w_wt {W : Nat → L2.St → Hp → Prop} {tb : TS} {D : Ends} {σ : L2.St} {H : Hp} {m : Nat} (h : tb { D with nx := fun σ' H' => ∃ m', m' < m ∧ W m' σ' H', ct := fun σ' H' => ∃ m', m' < m ∧ W m' σ' H', bk := D.nx } σ H) :
    ∃ N : L2.St → Hp → Prop, (∀ σ' H', N σ' H' → ∃ m', m' < m ∧ W m' σ' H') ∧ tb { D with nx := N, ct := N, bk := D.nx } σ H := ⟨_, fun _ _ h => h, h⟩
theorem and_nat (m n : Nat) : Builtin.bitAnd (m : Int) (n : Int) = ((m &&& n : Nat) : Int) := rfl
/-! ### two ways to read -/
theorem _root_.L2.PE.or {X : Cx} {e : Expr} {t t' : TE} (h : PE X e t) (h' : PE X e t') : PE X e (fun σ H Q => t σ H Q ∨ t' σ H Q) := ⟨fun pins s σ H Q I q => by
  rcases q with q | q
  · exact h.run pins s σ H Q I q
  · exact h'.run pins s σ H Q I q⟩
/-- the same, for an item of a comprehension -/
def tOrE (t t' : TE) : TE := fun σ H Q => t σ H Q ∨ t' σ H Q
theorem _root_.L2.PE.orD {X : Cx} {e : Expr} {t t' : TE} (h : PE X e t) (h' : PE X e t') : PE X e (tOrE t t') := PE.or h h'
theorem w_orE {t t' : TE} {σ : L2.St} {H : Hp} {Q : VK} (h : t σ H Q ∨ t' σ H Q) : tOrE t t' σ H Q := h
/-! ### classes by name -/
structure HasMk (P : Program) (w : World) (K : PySem.W.Frag) (mg : Str → Option Value) (base : Heap) (CX : CXT) (k : Nat) (x : Str) (C : Addr) (ps : List Str) (sp : Sp) : Prop where
  ex : ∃ f fd, FnOk P w K mg base CX k f fd ps sp ∧ Mk K C f ∧ mg x = some (.ref C) ∧ Binds K fd ps []
structure HasMeth (P : Program) (w : World) (K : PySem.W.Frag) (mg : Str → Option Value) (base : Heap) (CX : CXT) (k : Nat) (C : Addr) (m : Str) (ps : List Str) (sp : Sp) : Prop where
  ex : ∃ f fd, FnOk P w K mg base CX k f fd ps sp ∧ Cls K C ∧ Meth K C m f ∧ Binds K fd ps []
/-- a method's body, proved once for whatever class holds it -/
structure HasFn (P : Program) (w : World) (K : PySem.W.Frag) (mg : Str → Option Value) (base : Heap) (CX : CXT) (k : Nat) (f : Addr) (ps : List Str) (sp : Sp) : Prop where
  ex : ∃ fd, FnOk P w K mg base CX k f fd ps sp ∧ Binds K fd ps []
section
variable {P : Program} {w : World} {K : PySem.W.Frag} {mg : Str → Option Value} {base : Heap} {x qual : Str} {ps N : List Str} {sp : Sp} {k : Nat}
theorem HasFn.mk' {st : Stmt} {f : Addr} {fd : FuncData} (F : Fun K x qual st f fd) (b : Binds K fd ps []) (S : FnScope N ps (defScope st)) (len : ∀ vs H Q E, sp vs H Q E → vs.length = ps.length)
    (hbody : ∀ (cdv : Value) (A : Around) (outer : List Env) (s : Shared) (H : Hp) (vs : List V) (Q : VK) (E : XK), Room k (A.deeper (envOfC qual (defScope st) s.heap.objs.size f cdv)) → sp vs H Q E →
      ∃ t, PSs (cxOf CX0 P w K mg base N qual (defScope st) f cdv A outer s H E).nox (defBody st) t ∧ t { nx := fun _ H' => Q .non H', rt := Q } (start N vs) H) : HasFn P w K mg base CX0 (k + 1) f ps sp :=
  ⟨fd, F.ok S len hbody, b⟩
theorem HasFn.mkOf {CX : CXT} {f C : Addr} (h : HasFn P w K mg base CX k f ps sp) (M : Mk K C f) (g : mg x = some (.ref C)) : HasMk P w K mg base CX k x C ps sp := by
  obtain ⟨fd, F, b⟩ := h.ex
  exact ⟨f, fd, F, M, g, b⟩
theorem HasFn.meth {CX : CXT} {f C : Addr} {m : Str} (h : HasFn P w K mg base CX k f ps sp) (c : Cls K C) (M : Meth K C m f) : HasMeth P w K mg base CX k C m ps sp := by
  obtain ⟨fd, F, b⟩ := h.ex
  exact ⟨f, fd, F, c, M, b⟩
end
section
variable {X : Cx} {k : Nat} {ps : List Str} {sp : Sp} {x m : Str} {p pos apos : Pos} {e o : Expr} {es : List Expr} {t : TA} {ta : TE} {C : Addr}
theorem pe_mk (h : HasMk X.prog X.w X.K X.mg X.base CX0 k x C ps sp) (hr : Room (k + 1) X.A) (hg : Gl X x) (ha : PA X (e :: es) t) (hdb : (x == ("__debug__" : Str)) = false := by decide) (he : starEach (e :: es) X.env = (false, eval e X.env) :: starEach es X.env := by rfl) (hpl : (backTo pos (starEach es X.env)).any (·.1) = false := by rfl) :
    PE X (.Call (.Name x p) (e :: es) [] pos) (tMake C sp [] E0 t) := by
  obtain ⟨f, fd, F, M, g, b⟩ := h.ex
  exact pe_make M F hr hg g b .nil pass0 ha hdb he hpl
theorem pe_mt {pl : Sem Bool} (h : HasMeth X.prog X.w X.K X.mg X.base CX0 k C m ps sp) (he : PE X o ta) (hr : Room k X.A) (ha : PA X (e :: es) t)
    (hst : starEach (e :: es) X.env = (false, eval e X.env) :: starEach es X.env := by rfl) (hpl : (backTo pos (starEach es X.env)).any (·.1) = false := by rfl)
    (ht : eval (.Call (.Attribute o m apos) (e :: es) [] pos) X.env = (do
      let v ← eval o X.env
      standAt apos.atName
      let (f, first) ← holding [v] (getMethod v m pl)
      callWith pos f first (backTo pos (starEach (e :: es) X.env)) (backToKw pos (keywordEach [] X.env))) := by rfl) :
    PE X (.Call (.Attribute o m apos) (e :: es) [] pos) (tMeth C m sp [] E0 ta t) := by
  obtain ⟨f, fd, F, c, M, b⟩ := h.ex
  exact pe_meth he c M F hr b .nil pass0 ha hst hpl ht
theorem pe_mt0 {pl : Sem Bool} (h : HasMeth X.prog X.w X.K X.mg X.base CX0 k C m ps sp) (he : PE X o ta) (hr : Room k X.A)
    (ht : eval (.Call (.Attribute o m apos) [] [] pos) X.env = (do
      let v ← eval o X.env
      standAt apos.atName
      let (f, first) ← holding [v] (getMethod v m pl)
      callWith pos f first (backTo pos (starEach [] X.env)) (backToKw pos (keywordEach [] X.env))) := by rfl) :
    PE X (.Call (.Attribute o m apos) [] [] pos) (tMeth C m sp [] E0 ta tNil) := by
  obtain ⟨f, fd, F, c, M, b⟩ := h.ex
  exact pe_meth0 he c M F hr b .nil pass0 ht
end
section
variable {σ : L2.St} {H : Hp} {Q : VK} {D : Ends} {K : PySem.W.Frag} {ta tv : TE} {tl : TA} {sp : Sp} {E : XK} {C p dx : Addr} {fs : List (Str × V)} {f m : Str} {v : V}
theorem w_make (h : tl σ H fun vs H1 => ∀ x dx, New H1 x → New H1 dx → dx ≠ x → sp (.ref x :: vs) (upd (upd H1 dx (.own x)) x (.ins C dx [])) (fun v H2 => v = .non ∧ Q (.ref x) H2) E) : tMake C sp [] E tl σ H Q := by
  unfold tMake
  simp only [List.append_nil]
  exact h
theorem w_meth (h : ta σ H fun x H1 => ∃ a dx fs, x = .ref a ∧ H1 a = some (.ins C dx fs) ∧ fs.lookup m = none ∧ tl σ H1 fun vs H2 => sp (x :: vs) H2 Q E) : tMeth C m sp [] E ta tl σ H Q := by
  unfold tMeth
  simp only [List.append_nil]
  exact h
theorem w_methq {R : Prop} (hp : H p = some (.ins C dx fs)) (hl : fs.lookup m = none) (h : R) : ∃ a dx fs, V.ref p = .ref a ∧ H a = some (.ins C dx fs) ∧ fs.lookup m = none ∧ R := ⟨p, dx, fs, rfl, hp, hl, h⟩
theorem w_sf (h : tv σ H fun y H1 => ta σ H1 fun x H2 => ∃ a C dx fs, x = .ref a ∧ H2 a = some (.ins C dx fs) ∧ Cls K C ∧ NoAttr K C f ∧ fs.length < 1000 ∧ D.nx σ (upd H2 a (.ins C dx (putF f y fs)))) : sFld K ta tv f D σ H := h
theorem w_sfq {R : Addr → Addr → Addr → List (Str × V) → Prop} (hp : H p = some (.ins C dx fs)) (hc : Cls K C) (hn : NoAttr K C f) (hl : fs.length < 1000) (h : R p C dx fs) : ∃ a C' dx' fs', V.ref p = .ref a ∧ H a = some (.ins C' dx' fs') ∧ Cls K C' ∧ NoAttr K C' f ∧ fs'.length < 1000 ∧ R a C' dx' fs' := ⟨p, C, dx, fs, rfl, hp, hc, hn, hl, h⟩
end
/-! ### isinstance of an object -/
structure IsoK (K : PySem.W.Frag) (C : Addr) : Prop where
  cl : Cls K C
  oc : PySem.W.findIn K (.ref C) "__class__" = some (some (.builtin "object.__class__"))
  og : PySem.W.specialIn K (.builtin "object.__class__") "__get__" = some (some (.builtin "getset_descriptor.__get__"))
  ot : PySem.W.takesIn K (.builtin "object.__class__") = some true
  om : PySem.W.mroIn K C (.type "object") = some true
theorem w_iso {K : PySem.W.Frag} {H : Hp} {Q : VK} {p C D dx : Addr} {fs : List (Str × V)} {b : Bool} (hp : H p = some (.ins C dx fs)) (I : IsoK K C) (hk : PySem.W.kitOne K (.ref C) (.ref D) = some b) (h : Q (.bl b) H) : rIsi K [.ref p, .ref D] H Q :=
  ⟨_, _, _, _, b, rfl, .own D, .base (.ins hp I.cl I.oc I.og I.ot I.om), hk, h⟩
theorem w_isoN {K : PySem.W.Frag} {H : Hp} {Q : VK} {D : Addr} {b : Bool} (hk : PySem.W.kitOne K (.type "NoneType") (.ref D) = some b) (h : Q (.bl b) H) : rIsi K [.non, .ref D] H Q :=
  ⟨_, _, _, _, b, rfl, .own D, .base .non, hk, h⟩
theorem kit_own {K : PySem.W.Frag} {C D : Addr} {b : Bool} (h1 : PySem.W.isClsIn K D = true) (h2 : PySem.W.typeIn K (.ref D) = some (.type "type")) (h3 : PySem.W.subIn K (.ref C) (.ref D) = some b) (h4 : PySem.W.subIn K (.ref C) (.ref C) = some true) : PySem.W.kitOne K (.ref C) (.ref D) = some b := by
  unfold PySem.W.kitOne
  by_cases e : C = D
  · subst e
    rw [h4] at h3
    cases h3
    rw [if_pos (by simp)]
  · have hn : ¬ ((Value.ref C == Value.ref D) = true) := by
      intro z
      rw [beq_iff_eq] at z
      cases z
      exact e rfl
    rw [if_neg hn]
    unfold PySem.W.kitCls
    have h5 : (PySem.W.clsIn K D).isSome = true := h1
    show (if ((PySem.W.clsIn K D).isSome && PySem.W.typeIn K (.ref D) == some (.type "type")) = true then PySem.W.subIn K (.ref C) (.ref D) else none) = some b
    rw [h5, h2, if_pos (by simp)]
    exact h3
/-! ### range by steps -/
theorem w_r3 {σ : L2.St} {H : Hp} {ta : TA} {R : It → Hp → Prop} (h : ta σ H fun vs H1 => ∃ (i j c : Int) (n : Nat), vs = [.int i, .int j, .int c] ∧ RgC i j c n ∧ R (Itc i c n) H1) : iRng3 ta σ H R := h
theorem w_r3q {i j c : Int} {n : Nat} {R : Int → Int → Nat → Prop} (hc : RgC i j c n) (h : R i c n) : ∃ (i' j' c' : Int) (n' : Nat), [V.int i, V.int j, V.int c] = [.int i', .int j', .int c'] ∧ RgC i' j' c' n' ∧ R i' c' n' := ⟨i, j, c, n, rfl, hc, h⟩
/-! ### ways joined behind a statement -/
def tCutX (t u : TS) : TS := fun D σ H => ∃ M : L2.St → Hp → Prop, t { D with nx := M } σ H ∧ ∀ σ' H', M σ' H' → u D σ' H'
theorem pss_cutX {X : Cx} {st : Stmt} {more : List Stmt} {t u : TS} (h1 : PS X st t) (h2 : PSs X more u) : PSs X (st :: more) (tCutX t u) := ⟨fun pins s σ H D I h => by
  obtain ⟨M, hm, hu⟩ := h
  refine wpAny_execs_cons (thn (h1.run pins s σ H { D with nx := M } I hm) fun f s1 q => ?_)
  cases f with
  | next => obtain ⟨σ1, H1, I1, q1⟩ := q; exact h2.run pins s1 σ1 H1 D I1 (hu σ1 H1 q1)
  | ret v => exact q
  | brk => exact q
  | cont => exact q⟩
theorem w_cut {t u : TS} {D : Ends} {σ : L2.St} {H : Hp} (M : L2.St → Hp → Prop) (h : t { D with nx := M } σ H) (k : ∀ σ' H', M σ' H' → u D σ' H') : tCutX t u D σ H := ⟨M, h, k⟩
/-! ### dicts with number keys; heaps that grow -/
theorem _root_.L2.Same.add {G H : Hp} {q : Addr} {o : HO} (e : Same G H) (h : H q = some o) : Same (upd G q o) H := fun b u hb => by
  by_cases e2 : b = q
  · subst e2
    rw [upd_same] at hb
    rw [h]
    exact hb
  · rw [upd_ne e2] at hb
    exact e b u hb
theorem New.upd {G : Hp} {p q : Addr} {o : HO} (n : New G p) (h : p ≠ q) : New (upd G q o) p := (upd_ne h).trans n
theorem putK_len {kvs : List (Key × V)} {k : Key} {v : V} : (putK kvs k v).length ≤ kvs.length + 1 := by
  unfold putK
  split <;> simp
theorem w_put {σ : L2.St} {H : Hp} {D : Ends} {td ty tv : TE} (h : tv σ H fun v H1 => td σ H1 fun x H2 => ty σ H2 fun y H3 => ∃ a H4, x = .ref a ∧ DPut H3 a y v H4 ∧ D.nx σ H4) : sDPut td ty tv D σ H := h
theorem w_putI {H : Hp} {a : Addr} {kvs : List (Key × V)} {i : Int} {v : V} {R : Hp → Prop} (e : H a = some (.dK kvs)) (hl : kvs.length < sizeLine) (h : R (upd H a (.dK (putK kvs (.inl i) v)))) : ∃ a' H4, V.ref a = .ref a' ∧ DPut H a' (.int i) v H4 ∧ R H4 := ⟨a, _, rfl, DPut.k (k := .inl i) e hl, h⟩
theorem w_getI {H : Hp} {a : Addr} {kvs : List (Key × V)} {i : Int} {v : V} {R : V → Prop} (e : H a = some (.dK kvs)) (hv : valV kvs (.inl i) = some v) (h : R v) : ∃ a' v', V.ref a = .ref a' ∧ DGet H a' (.int i) (some v') ∧ R v' := ⟨a, v, rfl, by rw [← hv]; exact DGet.k (k := .inl i) e, h⟩
theorem w_inI {H : Hp} {a : Addr} {kvs : List (Key × V)} {i : Int} {R : Option V → Prop} (e : H a = some (.dK kvs)) (h : R (valV kvs (.inl i))) : ∃ a' o, V.ref a = .ref a' ∧ DGet H a' (.int i) o ∧ R o := ⟨a, _, rfl, DGet.k (k := .inl i) e, h⟩
theorem w_din {σ : L2.St} {H : Hp} {Q : VK} {td ty : TE} (h : ty σ H fun y H1 => td σ H1 fun x H2 => ∃ a o, x = .ref a ∧ DGet H2 a y o ∧ Q (.bl o.isSome) H2) : tDIn ty td σ H Q := h
theorem w_dni {σ : L2.St} {H : Hp} {Q : VK} {td ty : TE} (h : ty σ H fun y H1 => td σ H1 fun x H2 => ∃ a o, x = .ref a ∧ DGet H2 a y o ∧ Q (.bl (!o.isSome)) H2) : tDNotIn ty td σ H Q := h
theorem w_dg {σ : L2.St} {H : Hp} {Q : VK} {td ty : TE} (h : td σ H fun x H1 => ty σ H1 fun y H2 => ∃ a v, x = .ref a ∧ DGet H2 a y (some v) ∧ Q v H2) : tDGet td ty σ H Q := h
theorem w_dn {σ : L2.St} {H : Hp} {Q : VK} (h : ∀ p, New H p → Q (.ref p) (upd H p (.dK []))) : tDNewK σ H Q := h
/-- a dict with number keys: what it holds -/
def Holds (kvs : List (Key × V)) (S : List Nat) (g : Nat → V) : Prop := kvs.length ≤ S.length ∧ ∀ d : Nat, valV kvs (.inl (d : Int)) = if d ∈ S then some (g d) else none
theorem Holds.nil {g : Nat → V} : Holds [] [] g := ⟨Nat.le_refl _, fun d => by simp [valV]⟩
theorem Holds.put {kvs : List (Key × V)} {S : List Nat} {g : Nat → V} (h : Holds kvs S g) (x : Nat) : Holds (putK kvs (.inl (x : Int)) (g x)) (S ++ [x]) g := by
  refine ⟨by have := putK_len (kvs := kvs) (k := .inl (x : Int)) (v := g x); have := h.1; simp; omega, fun d => ?_⟩
  rw [valV_put, h.2]
  by_cases e : d = x
  · subst e; simp
  · have : ¬ ((.inl (d : Int) : Key) = .inl (x : Int)) := fun z => e (by have := Sum.inl.inj z; omega)
    rw [if_neg this]
    simp [e]
theorem lc_r0 {m : Int} {n : Nat} {g : TG} {tt : TT} {te : TE} {vs : List Nat} {σ : L2.St} {H1 : Hp} {D : Addr} {Qd : Hp → Prop} (hm : m = n) (Pv : Nat → Hp → Prop) (h0 : Pv 0 (upd H1 D (.lst [])))
    (hs : ∀ i H, i < n → Pv i H → g (.int (i : Nat)) (wipe σ vs) H fun σ2 H2 => wipe σ2 vs = wipe σ vs ∧ tt σ2 H2 fun b H3 =>
      if b = true then te σ2 H3 fun y H4 => ∃ acc, H4 D = some (.lst acc) ∧ acc.length < sizeLine ∧ Pv (i + 1) (upd H4 D (.lst (acc ++ [y]))) else Pv (i + 1) H3) (hd : ∀ H, Pv n H → Qd H) :
    ∃ W : Nat → Nat → Hp → Prop, (∃ m, W 0 m (upd H1 D (.lst []))) ∧ ∀ i k H, W i k H →
      ((Itr 0 m.toNat).stop i H ∧ Qd H) ∨ ((Itr 0 m.toNat).go i H ∧ ∃ Nx : Hp → Prop, (∀ H', Nx H' → ∃ m', m' < k ∧ W (i + 1) m' H') ∧ ∀ x H', (Itr 0 m.toNat).yld i H x H' → g x (wipe σ vs) H' fun σ2 H2 => wipe σ2 vs = wipe σ vs ∧ tt σ2 H2 fun b H3 =>
        if b = true then te σ2 H3 fun y H4 => ∃ acc, H4 D = some (.lst acc) ∧ acc.length < sizeLine ∧ Nx (upd H4 D (.lst (acc ++ [y]))) else Nx H3) := by
  subst hm
  rw [Int.toNat_natCast]
  exact lc_range (lo := 0) Pv h0 (fun i H hi hp => by rw [Int.zero_add]; exact hs i H hi hp) hd
theorem w_acc {H : Hp} {D : Addr} {acc : List V} {R : List V → Prop} (h1 : H D = some (.lst acc)) (h2 : acc.length < sizeLine) (h : R acc) : ∃ acc', H D = some (.lst acc') ∧ acc'.length < sizeLine ∧ R acc' := ⟨acc, h1, h2, h⟩
/-! ### enumerate -/
theorem for_enumX {K : PySem.W.Frag} {a : Addr} {xs : List V} {g : TG} {tb : TS} {D : Ends} {σ : L2.St} {H : Hp} (Pv : Nat → L2.St → Hp → Prop) (h0 : Pv 0 σ H) (hl : ∀ i σ H, i ≤ xs.length → Pv i σ H → SqL K H a xs)
    (hs : ∀ i x σ H p, xs[i]? = some x → Pv i σ H → New H p → g (.ref p) σ (upd H p (.tup [.int (i : Nat), x])) fun σ2 H2 => tb { D with nx := Pv (i + 1), ct := Pv (i + 1), bk := D.nx } σ2 H2) (hd : ∀ σ H, Pv xs.length σ H → D.nx σ H) :
    ∃ W : Nat → Nat → L2.St → Hp → Prop, (∃ m, W 0 m σ H) ∧ ∀ i m σ H, W i m σ H →
      ((Ite K a).stop i H ∧ D.nx σ H) ∨ ((Ite K a).go i H ∧ ∃ N : L2.St → Hp → Prop, (∀ σ' H', N σ' H' → ∃ m', m' < m ∧ W (i + 1) m' σ' H') ∧ ∀ x H', (Ite K a).yld i H x H' → g x σ H' fun σ2 H2 => tb { D with nx := N, ct := N, bk := D.nx } σ2 H2) := by
  refine ⟨fun i m σ H => i + m = xs.length ∧ Pv i σ H, ⟨xs.length, by omega, h0⟩, fun i m σ H hW => ?_⟩
  obtain ⟨e, p⟩ := hW
  have q := hl i σ H (by omega) p
  cases m with
  | zero =>
    have e2 : i = xs.length := by omega
    subst e2
    exact .inl ⟨⟨xs, q, Nat.le_refl _⟩, hd σ H p⟩
  | succ m =>
    have hi : i < xs.length := by omega
    refine .inr ⟨⟨xs, xs[i], q, List.getElem?_eq_getElem hi⟩, Pv (i + 1), fun σ' H' h => ⟨m, by omega, by omega, h⟩, fun x H' hy => ?_⟩
    obtain ⟨T, y, rfl, nT, rfl, hx⟩ := hy
    exact hs i y σ H T (hx xs q) p nT
theorem w_enum {σ : L2.St} {H : Hp} {K : PySem.W.Frag} {ta : TA} {R : It → Hp → Prop} (h : ta σ H fun vs H1 => ∃ a xs, vs = [.ref a] ∧ SqL K H1 a xs ∧ R (Ite K a) H1) : iEnum K ta σ H R := h
theorem w_enq {H : Hp} {K : PySem.W.Frag} {p : Addr} {xs : List V} {R : Addr → Prop} (hs : SqL K H p xs) (h : R p) : ∃ a xs, [V.ref p] = [.ref a] ∧ SqL K H a xs ∧ R a := ⟨p, xs, rfl, hs, h⟩

/-! ### rules that name the written part -/
section
variable {X : Cx}
theorem ix_listK (K : PySem.W.Frag) (hK : X.K = K := by rfl) : IxR X (rIxL K) := by subst hK; exact ix_list
theorem ix_tupK (K : PySem.W.Frag) (hK : X.K = K := by rfl) : IxR X (rIxT K) := by subst hK; exact ix_tup
theorem ix_seqK (K : PySem.W.Frag) (hK : X.K = K := by rfl) : IxR X (rIx K) := by subst hK; exact ix_seq
theorem sl_listK (K : PySem.W.Frag) (hK : X.K = K := by rfl) : SlR X (rSlL K) := by subst hK; exact sl_list
def rLenK (K : PySem.W.Frag) : List V → Hp → VK → Prop := fun xs H Q => ∃ p ys, xs = [.ref p] ∧ (SqL K H p ys ∨ SqT K H p ys) ∧ Q (.int ys.length) H
theorem call_lenK (K : PySem.W.Frag) (hK : X.K = K := by rfl) : CallR X (.builtin "len") (rLenK K) := by subst hK; exact call_len_seq
def rListK (K : PySem.W.Frag) : List V → Hp → VK → Prop := fun xs H Q => ∃ p ys, xs = [.ref p] ∧ (SqL K H p ys ∨ SqT K H p ys) ∧ ∀ l, H l = none → Q (.ref l) (upd H l (.lst ys))
theorem call_listK (K : PySem.W.Frag) (hK : X.K = K := by rfl) : CallR X (.type "list") (rListK K) := by subst hK; exact call_list_of
theorem call_isiK' (K : PySem.W.Frag) (hK : X.K = K := by rfl) : CallR X (.builtin "isinstance") (rIsi K) := by subst hK; exact call_isi
theorem cr_sumK (K : PySem.W.Frag) (hc : X.calm = true) (hK : X.K = K := by rfl) : CallR X (.builtin "sum") (rSum K) := by subst hK; exact cr_sum hc
theorem cr_maxK (K : PySem.W.Frag) (hc : X.calm = true) (hK : X.K = K := by rfl) : CallR X (.builtin "max") (rMax K) := by subst hK; exact cr_max hc
theorem cr_minK (K : PySem.W.Frag) (hc : X.calm = true) (hK : X.K = K := by rfl) : CallR X (.builtin "min") (rMin K) := by subst hK; exact cr_min hc
theorem cr_allK (K : PySem.W.Frag) (hc : X.calm = true) (hK : X.K = K := by rfl) : CallR X (.builtin "all") (rAll K) := by subst hK; exact cr_all hc
theorem cr_anyK (K : PySem.W.Frag) (hc : X.calm = true) (hK : X.K = K := by rfl) : CallR X (.builtin "any") (rAny K) := by subst hK; exact cr_any hc
theorem cr_sortedIK (K : PySem.W.Frag) (hK : X.K = K := by rfl) : CallR X (.builtin "sorted") (rSortedI K) := by subst hK; exact cr_sortedI
theorem op_eqDK (K : PySem.W.Frag) (hu : X.A.units + 64 < cLine) (hK : X.K = K := by rfl) : OpR X (compareOp .Eq) (rEqD K) := by subst hK; exact op_eqD hu
theorem op_neDK (K : PySem.W.Frag) (hu : X.A.units + 64 < cLine) (hK : X.K = K := by rfl) : OpR X (compareOp .NotEq) (rNeD K) := by subst hK; exact op_neD hu
theorem op_inK (K : PySem.W.Frag) (hK : X.K = K := by rfl) : OpR X (compareOp .In) (rIn K false) := by subst hK; exact op_in_seq
theorem op_notInK (K : PySem.W.Frag) (hK : X.K = K := by rfl) : OpR X (compareOp .NotIn) (rIn K true) := by subst hK; exact op_notIn_seq
theorem mt_indexK (K : PySem.W.Frag) (hK : X.K = K := by rfl) : MtR X "list.index" (rIndex K) := by subst hK; exact mt_index
theorem w_lenK {K : PySem.W.Frag} {H : Hp} {Q : VK} {p : Addr} {xs : List V} (hs : SqL K H p xs) (h : Q (.int xs.length) H) : rLenK K [.ref p] H Q := ⟨p, xs, rfl, .inl hs, h⟩
theorem w_lenTK {K : PySem.W.Frag} {H : Hp} {Q : VK} {p : Addr} {xs : List V} (hs : SqT K H p xs) (h : Q (.int xs.length) H) : rLenK K [.ref p] H Q := ⟨p, xs, rfl, .inr hs, h⟩
theorem w_listK {K : PySem.W.Frag} {H : Hp} {Q : VK} {p : Addr} {xs : List V} (hs : SqL K H p xs) (h : ∀ l, New H l → Q (.ref l) (upd H l (.lst xs))) : rListK K [.ref p] H Q := ⟨p, xs, rfl, .inl hs, h⟩
end
section
variable {X : Cx} {e o : Expr} {f name : Str} {pos apos cpos : Pos} {ta to : TE} {t : TA} {es : List Expr}
theorem pe_fldK (K : PySem.W.Frag) (he : PE X e ta) (hb : attributeBase e f X.env (eval e X.env) = eval e X.env) (hK : X.K = K := by rfl) : PE X (.Attribute e f pos) (tFld K ta f) := by subst hK; exact pe_fld he hb
theorem pe_bmK (K : PySem.W.Frag) {T : String} {r : V → List V → Hp → VK → Prop} (h : PE X (.Call (.Attribute o name apos) es [] cpos) (tBM X.K T r to t)) (hK : X.K = K := by rfl) : PE X (.Call (.Attribute o name apos) es [] cpos) (tBM K T r to t) := by subst hK; exact h
theorem pe_bm0K (K : PySem.W.Frag) {T : String} {r : V → List V → Hp → VK → Prop} (h : PE X (.Call (.Attribute o name apos) es [] cpos) (tBM0 X.K T r to)) (hK : X.K = K := by rfl) : PE X (.Call (.Attribute o name apos) es [] cpos) (tBM0 K T r to) := by subst hK; exact h
theorem pi_listK (K : PySem.W.Frag) {tg l : Expr} {tl : TE} (hl : PE X l tl) (hK : X.K = K := by rfl) : PI X tg l (iList K tl) := by subst hK; exact pi_list hl
theorem pi_tupK (K : PySem.W.Frag) {tg l : Expr} {tl : TE} (hl : PE X l tl) (hK : X.K = K := by rfl) : PI X tg l (iTup K tl) := by subst hK; exact pi_tup hl
theorem pg_tupK (K : PySem.W.Frag) {es : List Expr} {k n : Nat} {t : TGs} (hc : X.calm = true) (h : PGs X es t) (hn : (assignEach es X.env).length = n := by rfl) (hst : (assignEach es X.env).findIdx? (·.1) = none := by rfl) (hK : X.K = K := by rfl) : PG X (.Tuple es k pos) (gTup K n t) := by subst hK; exact pg_tup hc h hn hst
end
/-! ### list.insert -/
theorem w_ins {H : Hp} {p : Addr} {xs : List V} {m : Int} {v : V} {R : Addr → List V → Int → V → Prop} (hp : H p = some (.lst xs)) (hl : xs.length < sizeLine) (h0 : 0 ≤ m) (h1 : m < 2 ^ 63) (h : R p xs m v) :
    ∃ (l : Addr) (ys : List V) (i : Int) (y : V), V.ref p = .ref l ∧ [V.int m, v] = [.int i, y] ∧ H l = some (.lst ys) ∧ ys.length < sizeLine ∧ 0 ≤ i ∧ i < 2 ^ 63 ∧ R l ys i y := ⟨p, xs, m, v, rfl, rfl, hp, hl, h0, h1, h⟩


/-! ### exceptions -/
theorem Has.mkX {P : Program} {w : World} {K : PySem.W.Frag} {mg : Str → Option Value} {base : Heap} {x qual : Str} {ps N : List Str} {sp : Sp} {k : Nat} {f : Addr} {fd : FuncData} {st : Stmt} (F : Fun K x qual st f fd) (gf : mg x = some (.ref f)) (b : Binds K fd ps []) (S : FnScope N ps (defScope st)) (len : ∀ vs H Q E, sp vs H Q E → vs.length = ps.length)
    (hbody : ∀ (cdv : Value) (A : Around) (outer : List Env) (s : Shared) (H : Hp) (vs : List V) (Q : VK) (E : XK), Room k (A.deeper (envOfC qual (defScope st) s.heap.objs.size f cdv)) → sp vs H Q E →
      ∃ t, PSs (cxOf (L2.CX P w) P w K mg base N qual (defScope st) f cdv A outer s H E) (defBody st) t ∧ t { nx := fun _ H' => Q .non H', rt := Q } (start N vs) H) : Has P w K mg base (L2.CX P w) (k + 1) x ps sp :=
  ⟨f, fd, F.okX S len hbody, gf, F.kp, b⟩
theorem pe_fnS {X : Cx} {W : WX} {k : Nat} {ps : List Str} {sp : Sp} {x : Str} {p pos : Pos} {e : Expr} {es : List Expr} {t : TA} (tk : Takes X W) (h : Has X.prog X.w X.K X.mg X.base (L2.CX X.prog X.w) k x ps sp) (hr : Room k X.A) (hg : Gl X x) (ha : PA X (e :: es) t) (hdb : (x == ("__debug__" : Str)) = false := by decide)
    (he : starEach (e :: es) X.env = (false, eval e X.env) :: starEach es X.env := by rfl) (hpl : (backTo pos (starEach es X.env)).any (·.1) = false := by rfl) :
    PE X (.Call (.Name x p) (e :: es) [] pos) (tCallS sp (WE W) t) := by
  obtain ⟨f, fd, F, gf, kp, b⟩ := h.ex
  exact pe_callS F hr hg gf kp b (fun σ => passAt tk σ) ha hdb he hpl
theorem pe_fnL {X : Cx} {k : Nat} {ps : List Str} {sp : Sp} {x : Str} {p pos : Pos} {e : Expr} {es : List Expr} {t : TA} (h : Has X.prog X.w X.K X.mg X.base (L2.CX X.prog X.w) k x ps sp) (hr : Room k X.A) (hg : Gl X x) (ha : PA X (e :: es) t) (hdb : (x == ("__debug__" : Str)) = false := by decide)
    (he : starEach (e :: es) X.env = (false, eval e X.env) :: starEach es X.env := by rfl) (hpl : (backTo pos (starEach es X.env)).any (·.1) = false := by rfl) :
    PE X (.Call (.Name x p) (e :: es) [] pos) (tCall sp [] E0 t) := by
  obtain ⟨f, fd, F, gf, kp, b⟩ := h.ex
  exact pe_call F hr hg gf kp b .nil passL ha hdb he hpl
theorem w_callS {σ : L2.St} {H : Hp} {Q : VK} {tl : TA} {sp : Sp} {E : L2.St → XK} (h : tl σ H fun vs H1 => sp vs H1 Q (E σ)) : tCallS sp E tl σ H Q := h
/-- facts of an exception class of the program's own -/
structure ExF (K : PySem.W.Frag) (C : Addr) : Prop where
  kp : PySem.W.keepIn K (.ref C) = true
  be : PySem.W.subIn K (.ref C) (.type "BaseException") = some true
  ty : PySem.W.typeIn K (.ref C) = some (.type "type")
  cl : PySem.W.isClsIn K C = true
  hd : PySem.W.hasDictIn K C = true
  ga : PySem.W.findIn K (.ref C) "__getattribute__" = some (some (.builtin "BaseException.__getattribute__"))
  gg : PySem.W.findIn K (.ref C) "__getattr__" = some none
  oc : PySem.W.findIn K (.ref C) "__class__" = some (some (.builtin "object.__class__"))
  om : PySem.W.mroIn K C (.type "object") = some true
  sv : PySem.W.subIn K (.ref C) (.type "ValueError") = some true
  ss : PySem.W.subIn K (.ref C) (.ref C) = some true
  og : PySem.W.specialIn K (.builtin "object.__class__") "__get__" = some (some (.builtin "getset_descriptor.__get__"))
  ot : PySem.W.takesIn K (.builtin "object.__class__") = some true
theorem ExF.exm {K : PySem.W.Frag} {C D : Addr} {b : Bool} (F : ExF K D) (h : PySem.W.subIn K (.ref C) (.ref D) = some b) : PySem.W.exmOne K (.ref C) (.ref D) = some b := PySem.W.exm_ref F.be F.hd F.ty h
theorem ExF.kit {K : PySem.W.Frag} {C D : Addr} {b : Bool} (F : ExF K C) (G : ExF K D) (h : PySem.W.subIn K (.ref C) (.ref D) = some b) : PySem.W.kitOne K (.ref C) (.ref D) = some b := kit_own G.cl G.ty h F.ss
theorem ExF.kitV {K : PySem.W.Frag} {C : Addr} (F : ExF K C) : PySem.W.kitOne K (.ref C) (.type "ValueError") = some true := by
  unfold PySem.W.kitOne
  rw [if_neg (by intro z; rw [beq_iff_eq] at z; cases z)]
  show (if PySem.W.kitMeta "ValueError" = true then PySem.W.subIn K (.ref C) (.type "ValueError") else none) = some true
  rw [if_pos (by decide +kernel), F.sv]
theorem ExF.xf {K : PySem.W.Frag} {C : Addr} (F : ExF K C) : XfC K C := ⟨F.ga, F.gg, F.be, F.hd⟩
/-- isinstance(e, c), e the exception that the suite holds, with its dict or without -/
def rIsX (K : PySem.W.Frag) (a : Addr) (cls : Value) (d : Option Addr) : List V → Hp → VK → Prop := fun xs H Q => ∃ (D : Addr) (c : V) (cv : Value) (b : Bool), cls = .ref D ∧ ExF K D ∧ (d = none ∨ ∃ dd fs, d = some dd ∧ H dd = some (.xd fs)) ∧ xs = [.ref a, c] ∧ (∀ u, RelV c u → u = cv) ∧ PySem.W.kitOne K (.ref D) cv = some b ∧ Q (.bl b) H
theorem call_isX {X : Cx} {a : Addr} {cls : Value} {d : Option Addr} {oe : Obj} {pn : List (Addr × Obj)} (K : PySem.W.Frag) (hz : Zc cls d oe) (hf : ∃ vs, oe.data = .fields vs) (hK : X.K = K := by rfl) : CallR (X.suite a ((a, oe) :: pn)) (.builtin "isinstance") (rIsX K a cls d) := by
  subst hK
  intro pins s σ H xs us Q I r h
  obtain ⟨D, c, cv, b, rfl, F, hd, rfl, hcv, e, q⟩ := h
  obtain _ | ⟨rx, rr⟩ := r
  obtain _ | ⟨rt, rr⟩ := rr
  cases rr
  cases rx
  have ec := hcv _ rt
  subst ec
  have hget := (I.pin (a, oe) (List.mem_append.mpr (.inl List.mem_cons_self))).1
  obtain ⟨vs, hv⟩ := hf
  have hcl : (PySem.W.clsIn X.K D).isSome = true := F.cl
  have J : ∃ od, PySem.W.InstAt s.heap a oe D od := by
    rcases hd with rfl | ⟨dd, fs, rfl, hdd⟩
    · exact ⟨none, hget, hz.1, by unfold PySem.W.notCls; rw [hv] <;> rfl, by rw [hz.2]; trivial⟩
    · obtain ⟨mA, hns, _⟩ : ObjOk X.prog X.w H s.heap dd (.xd fs) := I.hok dd _ hdd
      obtain ⟨od, ho, _⟩ := lookIn_ns hns
      exact ⟨some od, hget, hz.1, by unfold PySem.W.notCls; rw [hv] <;> rfl, by rw [hz.2]; exact ho⟩
  obtain ⟨od, J⟩ := J
  exact PySem.W.kia_one (PySem.W.kitx_exc hcl F.ga F.gg F.be F.oc F.og F.ot F.om) I.kIn J e (fun z => nomatch z) fun tk => ⟨.bl b, H, I.kept (t' := tk) fun _ _ z => z, rfl, q⟩
theorem w_isX {K : PySem.W.Frag} {H : Hp} {Q : VK} {a D E : Addr} {d : Option Addr} {b : Bool} (F : ExF K D) (G : ExF K E) (hs : PySem.W.subIn K (.ref D) (.ref E) = some b) (hd : d = none ∨ ∃ dd fs, d = some dd ∧ H dd = some (.xd fs)) (h : Q (.bl b) H) : rIsX K a (.ref D) d [.ref a, .ref E] H Q :=
  ⟨D, .ref E, .ref E, b, rfl, F, hd, rfl, fun _ r => r, F.kit G hs, h⟩
theorem w_isXV {K : PySem.W.Frag} {H : Hp} {Q : VK} {a D : Addr} {d : Option Addr} (F : ExF K D) (hd : d = none ∨ ∃ dd fs, d = some dd ∧ H dd = some (.xd fs)) (h : Q (.bl true) H) : rIsX K a (.ref D) d [.ref a, .ty "ValueError"] H Q :=
  ⟨D, .ty "ValueError", .type "ValueError", true, rfl, F, hd, rfl, fun _ r => r, F.kitV, h⟩
/-- an exception class whose __init__ is a def -/
structure HasXM (P : Program) (w : World) (K : PySem.W.Frag) (mg : Str → Option Value) (base : Heap) (k : Nat) (x : Str) (C : Addr) (ps : List Str) (sp : Sp) : Prop where
  oex : OexC K C
  ex : ∃ f fd, FnOk P w K mg base CX0 k f fd ps sp ∧ PySem.W.findIn K (.ref C) "__init__" = some (some (.ref f)) ∧ PySem.W.typeIn K (.ref f) = some (.type "function") ∧ mg x = some (.ref C) ∧ Binds K fd ps []
theorem pmk_xm {X : Cx} {x : Str} {C : Addr} {k : Nat} {ps : List Str} {sp : Sp} {e : Expr} {es : List Expr} {ta : TA} {p pos : Pos} (h : HasXM X.prog X.w X.K X.mg X.base k x C ps sp) (hr : Room (k + 1) X.A) (hg : Gl X x) (ha : PA X (e :: es) ta)
    (hdb : (x == ("__debug__" : Str)) = false := by decide) (he : starEach (e :: es) X.env = (false, eval e X.env) :: starEach es X.env := by rfl) (hpl : (backTo pos (starEach es X.env)).any (·.1) = false := by rfl) :
    PMk X (.Call (.Name x p) (e :: es) [] pos) (tMkO C sp [] ta) := by
  obtain ⟨f, fd, F, iC, tI, hm, b⟩ := h.ex
  exact pmk_oex h.oex iC tI F hr b .nil pass0 hg hm ha hdb he hpl
/-- the promise of an __init__ that keeps its argument as the field f -/
def spKeep (K : PySem.W.Frag) (C : Addr) : Sp := fun vs H Q _ => ∃ (a : Addr) (v : V), vs = [.ref a, v] ∧ OexC K C ∧ PySem.W.findIn K (.ref C) "at" = some none ∧ H a = some (exo a C none) ∧ ∀ d, H d = none → d ≠ a → Q .non (upd (upd H d (exd d [("at", v)])) a (exo a C (some d)))
/-- the raise of such an exception: its dict is new -/
theorem w_raiseK {K : PySem.W.Frag} {H : Hp} {C : Addr} {v : V} {Q : XK} (T : OexC K C) (n : PySem.W.findIn K (.ref C) "at" = some none) (h : ∀ d, New H d → Q (.ref C) (some d) (upd H d (.xd [("at", v)]))) :
    [v].length ≤ 1000 ∧ ∀ a, H a = none → spKeep K C (.ref a :: ([v] ++ [])) (upd H a (exo a C none)) (fun u H2 => u = .non ∧ ∃ (d : Addr) (fs : List (Str × V)), H2 a = some (exo a C (some d)) ∧ H2 d = some (exd d fs) ∧ H d = none ∧ Q (.ref C) (some d) (upd (del H2 a) d (.xd fs))) (fun _ _ _ => False) := by
  refine ⟨by show 1 ≤ 1000; decide, fun a na => ⟨a, v, rfl, T, n, upd_same, fun d nd hda => ⟨rfl, d, _, upd_same, by rw [upd_ne hda, upd_same], ?_, ?_⟩⟩⟩
  · rw [upd_ne hda] at nd
    exact nd
  · have nd' : H d = none := by rw [upd_ne hda] at nd; exact nd
    have e : upd (del (upd (upd (upd H a (exo a C none)) d (exd d [("at", v)])) a (exo a C (some d))) a) d (.xd [("at", v)]) = upd H d (.xd [("at", v)]) := by
      funext b
      by_cases hb : b = d
      · subst hb; rw [upd_same, upd_same]
      · rw [upd_ne hb, upd_ne hb]
        by_cases ha : b = a
        · subst ha; rw [del_same, na]
        · rw [del_ne ha, upd_ne ha, upd_ne hb, upd_ne ha]
    rw [e]
    exact h d nd'
theorem w_ost {K : PySem.W.Frag} {σ : L2.St} {H : Hp} {D : Ends} {to te : TE} {f : Str} (h : te σ H fun y H1 => to σ H1 fun x H2 => ∃ a C : Addr, x = .ref a ∧ OexC K C ∧ PySem.W.findIn K (.ref C) f = some none ∧
  ((H2 a = some (exo a C none) ∧ ∀ dx, H2 dx = none → dx ≠ a → D.nx σ (upd (upd H2 dx (exd dx [(f, y)])) a (exo a C (some dx)))) ∨
    ∃ (dx : Addr) (fs : List (Str × V)), H2 a = some (exo a C (some dx)) ∧ H2 dx = some (exd dx fs) ∧ fs.length ≤ 900 ∧ D.nx σ (upd H2 dx (exd dx ((f, y) :: fs))))) : tOst K f to te D σ H := h
theorem w_xf {σ : L2.St} {H : Hp} {Q : VK} {a C : Addr} {cls : Value} {d : Option Addr} {f : Str} {te : TE} (h : te σ H fun x H1 => x = .ref a ∧ cls = .ref C ∧ ∃ (dd : Addr) (fs : List (Str × V)) (v : V), d = some dd ∧ H1 dd = some (.xd fs) ∧ fs.lookup f = some v ∧ Q v H1) : tXf a cls d C f te σ H Q := h
theorem w_mko {σ : L2.St} {H : Hp} {C : Addr} {sp : Sp} {ta : TA} {Q : XK} (h : ta σ H fun vs H1 => vs.length ≤ 1000 ∧ ∀ a, H1 a = none → sp (.ref a :: (vs ++ [])) (upd H1 a (exo a C none))
  (fun v H2 => v = .non ∧ ∃ (d : Addr) (fs : List (Str × V)), H2 a = some (exo a C (some d)) ∧ H2 d = some (exd d fs) ∧ H1 d = none ∧ Q (.ref C) (some d) (upd (del H2 a) d (.xd fs))) (fun _ _ _ => False)) : tMkO C sp [] ta σ H Q := h

/-! ### list(reversed(xs)) -/
section
open PySem PySem.Spec PyProof.Rows RT
variable {prog : Program} {w : World} {A : Around} {s : Shared}
theorem list_init_rev {it l S : Addr} {items : Array Value} {R : Result → Shared → Prop} (hh : A.handled = none) (hit : s.heap.IsRevIter it l ((items.size : Int) - 1)) (hl : s.heap.IsList l items) (hne : l ≠ it) (hSi : S ≠ it) (hSl : S ≠ l)
    (hn : items.size ≤ sizeLine) (hS : s.heap.get? S = some { cls := .type "list", data := .seq #[] })
    (hR : ∀ h' tk acc c', (∀ b o, b ≠ S → b ≠ it → s.heap.get? b = some o → h'.get? b = some o) → h'.get? S = some { cls := .type "list", dict := none, data := .seq acc c', slots := #[] } → ItemsOf (fun i v => items[items.size - 1 - i]? = some v) acc items.size →
      R (.ok (.ret .none)) { s with heap := h', toks := tk }) :
    wpAny (model prog w) A.in1 (Builtin.«list.__init__» ⟨[.ref S, .ref it], []⟩)
      (fun fin s' => match fin with | .done f => R (.ok f) s' | .again c' => c'.quiet = true ∧ codeAny (model prog w) A c' R s') (fun e s' => R (.error e) s') s := by
  show wpAny _ _ (do let old ← Builtin.List.listItems (.ref S); Builtin.List.listUpdate (.ref S) (fun _ => #[]); letGo old.toList.reverse; Builtin.List.listExtendWith (.ref S) (.ref it) .none) _ _ s
  refine wpAny_bind ?_
  unfold Builtin.List.listItems
  refine wpAny_bind (wpAny_seqItems hS rfl (wpAny_pure ?_))
  show wpAny _ _ (updateSeq S (fun _ => #[]) >>= fun _ => letGo (#[] : Array Value).toList.reverse >>= fun _ => Builtin.List.listExtendWith (.ref S) (.ref it) .none) _ _ s
  refine wpAny_bind (wpAny_updateSeq hS rfl ?_)
  have hS2 := Heap.get?_update_self (Obj.mapSeq (fun _ => (#[] : Array Value))) hS rfl
  have oth : ∀ b o, b ≠ S → s.heap.get? b = some o → (s.heap.update S (Obj.mapSeq (fun _ => (#[] : Array Value)))).get? b = some o := fun b o hb e => (Heap.get?_update_other _ _ (Ne.symm hb)).trans e
  refine wpAny_bind (wpAny_letGo ?_)
  have hit2 : (s.heap.update S (Obj.mapSeq (fun _ => (#[] : Array Value)))).IsRevIter it l ((items.size : Int) - 1) := hit.at fun o e => oth it o (Ne.symm hSi) e
  have hl2 : (s.heap.update S (Obj.mapSeq (fun _ => (#[] : Array Value)))).IsList l items := by
    obtain ⟨o, e, r⟩ := hl
    exact ⟨o, oth l o (Ne.symm hSl) e, r⟩
  generalize s.heap.update S (Obj.mapSeq (fun _ => (#[] : Array Value))) = h2 at hS2 oth hit2 hl2 ⊢
  have W := (Walks.listRev (prog := prog) (w := w) (A := A.in1) hh it l hne items).toS
  have hSf : S ∉ [it, l] := by simp only [List.mem_cons, List.not_mem_nil, or_false, not_or]; exact ⟨hSi, hSl⟩
  have hT : ({ s with heap := h2 } : Shared).TypeIs (.ref it) "list_reverseiterator" := Heap.IsRevIter.typeIs (s := { s with heap := h2 }) hit2
  have h1 : Builtin.List.listSameRef (.ref S) (.ref it) = false := by simp [Builtin.List.listSameRef, hSi]
  unfold Builtin.List.listExtendWith
  refine wpAny_bind (wpAny_typeOf hT ?_)
  rw [if_neg (by rw [h1]; decide)]
  refine wpAny_bind (wpAny_pyIter_revIter (s := { s with heap := h2 }) hit2 ?_)
  refine wpAny_bind (wpAny_holding ?_)
  unfold Builtin.List.listLengthHint
  refine wpAny_bind (wpAny_specialOf hT nolen_lri ?_)
  show wpAny _ A.in1 (specialOf (Value.ref it) (Str.ofString "__length_hint__") >>= _) _ _ _
  refine wpAny_bind (wpAny_specialOf hT hint_lri ?_)
  generalize hid : ("list_reverseiterator.__length_hint__" : String) = id0
  wp_delta
  rw [show splitId id0 = some ("list_reverseiterator", "__length_hint__") from by subst hid; decide +kernel]
  subst hid
  refine wpAny_bind (wpAny_isInstance (b := true) hT (by rw [isSubtype_type]; kernel_rfl) ?_)
  refine wpAny_pure ?_
  rw [if_neg (by decide)]
  have e0 : ((items.size : Nat) : Int) - 1 - ((0 : Nat) : Int) = (items.size : Int) - 1 := by omega
  refine wpAny_pure ⟨plainId_quiet F.plain_extend_loop _, codeAny_extend_loopS W hn _ hSf _ items.size 0 _ _ _ rfl (Nat.zero_le _) ⟨Nat.zero_le _, by rw [e0]; exact hit2, hl2⟩ hS2 (ItemsOf.nil _) fun s' acc' c' hm hS' hacc => ?_⟩
  rw [Moved.eq_with hm]
  refine hR s'.heap s'.toks acc' c' (fun b o hb hb2 e => ?_) hS' hacc
  refine hm.heap b o (fun hmem => ?_) (oth b o hb e)
  rcases List.mem_cons.mp hmem with e' | hmem
  · exact hb e'
  · exact hb2 (List.mem_singleton.mp hmem)
theorem call_list_rev {it l : Addr} {items : Array Value} {Q : Value → Shared → Prop} {E : Value → Shared → Prop} (hh : A.handled = none) (hit : s.heap.IsRevIter it l ((items.size : Int) - 1)) (hl : s.heap.IsList l items) (hne : l ≠ it) (hn : items.size ≤ sizeLine)
    (hQ : ∀ h' tk acc c', (∀ b o, b ≠ it → s.heap.get? b = some o → h'.get? b = some o) → h'.get? s.heap.objs.size = some { cls := .type "list", dict := none, data := .seq acc c', slots := #[] } → ItemsOf (fun i v => items[items.size - 1 - i]? = some v) acc items.size →
      Q (.ref s.heap.objs.size) { s with heap := h', toks := tk }) : wpAny (model prog w) A (call (.type "list") [.ref it]) Q E s := by
  obtain ⟨oi, hoi, _⟩ := id hit
  obtain ⟨ol, hol, _⟩ := id hl
  have hSi : s.heap.objs.size ≠ it := Nat.ne_of_gt (Heap.lt_size hoi)
  have hSl : s.heap.objs.size ≠ l := Nat.ne_of_gt (Heap.lt_size hol)
  refine callType_codes (Q₁ := fun obj s₁ => obj = .ref s.heap.objs.size ∧ s₁ = { s with heap := s.heap.push { cls := .type "list", data := .seq #[] } }) PySem.F.called_list (PySem.F.typeCall_list_1 _) PySem.F.entry_list_init
    (code_list_new _ ⟨rfl, rfl⟩) fun obj s₁ h₁ => ?_
  obtain ⟨rfl, rfl⟩ := h₁
  have hS : (s.heap.push { cls := .type "list", data := .seq #[] }).get? s.heap.objs.size = some { cls := .type "list", data := .seq #[] } := Heap.get?_push_size _ rfl
  refine ⟨⟨_, hS, rfl⟩, PySem.F.args_list_init_2 _ _, list_init_rev (A := A.in1) (s := { s with heap := s.heap.push { cls := .type "list", data := .seq #[] } }) hh (hit.at fun o e => Heap.get?_push_of_some _ e) (hl.push _) hne hSi hSl hn hS fun h' tk acc c' hk hS' hacc => ?_⟩
  exact ⟨rfl, hQ h' tk acc c' (fun b o hb e => hk b o (Nat.ne_of_lt (Heap.lt_size e)) hb (Heap.get?_push_of_some _ e)) hS' hacc⟩
end
section
open PySem PySem.Spec PyProof.Rows RT
variable {X : Cx}
def tListRev (K : PySem.W.Frag) (te : TE) : TE := fun σ H Q => te σ H fun v H1 => ∃ (a : Addr) (xs : List V), v = .ref a ∧ SqL K H1 a xs ∧ ∀ q, H1 q = none → Q (.ref q) (upd H1 q (.lst xs.reverse))
theorem pe_listRev {e : Expr} {te : TE} {p p2 pos pos2 : Pos} (K : PySem.W.Frag) (hc : X.calm = true) (hg : Gl X "list") (hm : X.mg "list" = none) (hg2 : Gl X "reversed") (hm2 : X.mg "reversed" = none) (he : PE X e te)
    (hK : X.K = K := by rfl)
    (hs : starEach [e] X.env = (false, eval e X.env) :: starEach [] X.env := by rfl)
    (hs2 : starEach [.Call (.Name "reversed" p2) [e] [] pos2] X.env = (false, eval (.Call (.Name "reversed" p2) [e] [] pos2) X.env) :: starEach [] X.env := by rfl) :
    PE X (.Call (.Name "list" p) [.Call (.Name "reversed" p2) [e] [] pos2] [] pos) (tListRev K te) := by
  subst hK
  refine ⟨fun pins s σ H Q I h => ?_⟩
  refine Call_ (ld_blt I hg hm PyProof.Rows.boot_list (PyProof.Rows.callWith_type1 (args_cons (Call_ (ld_blt I hg2 hm2 PyProof.Rows.boot_reversed (PyProof.Rows.callWith_type1 (args_cons (thn (he.run pins s σ H _ I h) fun u s1 ⟨v, H1, I1, r1, q1⟩ => args_nil ?_) hs) hs rfl))) hs2) hs2 rfl))
  obtain ⟨a, xs, ev, hq, q⟩ := q1
  subst ev
  obtain rfl : u = Value.ref a := r1
  obtain ⟨its, rv, p', hz⟩ := I1.list hq
  refine call_reversed_list p'.isList (args_nil ?_)
  have hl := p'.isList
  obtain ⟨ol, hol, _⟩ := id hl
  have hne : a ≠ s1.heap.objs.size := Nat.ne_of_lt (Heap.lt_size hol)
  have hn : its.toArray.size ≤ sizeLine := by rw [List.size_toArray, ← rv.length]; exact hz
  have hsz : (s1.heap.push (revObj a ((its.toArray.size : Int) - 1))).objs.size = s1.heap.objs.size + 1 := size_push' _ _
  refine call_list_rev (s := { s1 with heap := s1.heap.push (revObj a ((its.toArray.size : Int) - 1)) }) (I1.ok.hd hc) ⟨_, Heap.get?_push_size _ rfl, rfl, rfl⟩ (hl.push _) hne hn fun h' tk acc c' hk hS' hi => ?_
  have hS2 : h'.get? (s1.heap.objs.size + 1) = some { cls := .type "list", dict := none, data := .seq acc c', slots := #[] } := by rw [← hsz]; exact hS'
  have keep : ∀ b u, s1.heap.get? b = some u → h'.get? b = some u := fun b u e => hk b u (Nat.ne_of_lt (Heap.lt_size e)) (Heap.get?_push_of_some _ e)
  refine ⟨.ref (s1.heap.objs.size + 1), upd H1 (s1.heap.objs.size + 1) (.lst xs.reverse), I1.laid (t' := tk) keep (Nat.le_succ _) (show ObjOk X.prog X.w _ _ _ (.lst xs.reverse) from ⟨by rw [List.length_reverse]; exact hz, acc.toList, c', vals_rev rv hi, by rw [Array.toArray_toList]; exact hS2⟩), ?_, q _ (I1.hok.fresh (Nat.le_succ _))⟩
  show Value.ref _ = Value.ref _
  exact congrArg Value.ref hsz
theorem w_lrev {K : PySem.W.Frag} {te : TE} {σ : L2.St} {H : Hp} {Q : VK} (h : te σ H fun v H1 => ∃ (a : Addr) (xs : List V), v = .ref a ∧ SqL K H1 a xs ∧ ∀ q, H1 q = none → Q (.ref q) (upd H1 q (.lst xs.reverse))) : tListRev K te σ H Q := h
end

/-! ### steps of the reading -/
local macro_rules | `(tactic| walk_at "len") => `(tactic| (intro vs H Q E h; first | (obtain ⟨e, _⟩ := h; subst e; rfl) | (obtain ⟨_, e, _⟩ := h; subst e; rfl) | (obtain ⟨_, _, e, _⟩ := h; subst e; rfl) | (obtain ⟨_, _, _, e, _⟩ := h; subst e; rfl) | (obtain ⟨_, _, _, _, e, _⟩ := h; subst e; rfl) | (obtain ⟨_, _, _, _, _, e, _⟩ := h; subst e; rfl) | (obtain ⟨_, _, _, _, _, _, e, _⟩ := h; subst e; rfl) | (obtain ⟨_, _, _, _, _, _, _, e, _⟩ := h; subst e; rfl) | (obtain ⟨_, _, _, _, _, _, _, _, e, _⟩ := h; subst e; rfl) | (obtain ⟨_, _, _, _, _, _, _, _, _, e, _⟩ := h; subst e; rfl) | (obtain ⟨_, _, _, _, _, _, _, _, _, _, e, _⟩ := h; subst e; rfl) | (obtain ⟨_, _, _, _, _, _, _, _, _, _, _, e, _⟩ := h; subst e; rfl) | (obtain ⟨_, _, _, _, _, _, _, _, _, _, _, _, e, _⟩ := h; subst e; rfl) | (obtain ⟨_, _, _, _, _, _, _, _, _, _, _, _, _, e, _⟩ := h; subst e; rfl)))
/-- p ≠ q -/
local macro_rules | `(tactic| walk_at "ne1") => `(tactic| (refine ne_new (H := ?H) (o := ?o) ?a ?b; (case b => assumption); (case a => walk_at "hp")))
local macro_rules | `(tactic| walk_at "ne") => `(tactic| first
  | assumption | (apply Ne.symm; assumption) | walk_at "ne1" | (apply Ne.symm; walk_at "ne1") | fail)
/-- H p = some o -/
local macro_rules | `(tactic| walk_at "hp") => `(tactic| first
  | assumption
  | exact upd_same
  | (refine (upd_ne ?n).trans ?h; (case n => walk_at "ne"); (case h => walk_at "hp"))
  | (refine Same.get (H := ?H) ?s ?h; (case s => assumption); (case h => assumption)) | fail)
local macro_rules | `(tactic| walk_at "sq") => `(tactic| first
  | assumption
  | exact SqL.of (by walk_at "hp") | exact SqT.of (by walk_at "hp")
  | (refine Same.seq (H := ?H) ?s ?h; (case h => assumption); (case s => walk_at "same"))
  | (refine same_read (H := ?H) ?s ?h; (case h => assumption); (case s => walk_at "same")) | fail)
/-- a later new object was free ahead -/
local macro_rules | `(tactic| walk_at "fr") => `(tactic| first | assumption | (refine New.of (H' := ?H) ?n ?s; (case n => assumption); (case s => walk_at "same")) | fail)
/-- what was tracked stays -/
local macro_rules | `(tactic| walk_at "same") => `(tactic| first | assumption | exact Same.refl _ | (refine Same.new ?_ (by assumption); walk_at "same") | (refine Same.mut ?s ?n; (case n => walk_at "fr"); (case s => walk_at "same")) | (refine Same.trans (H1 := ?H1) ?a ?b; (case b => assumption); (case a => walk_at "same")) | fail)
local macro_rules | `(tactic| walk_at "side") => `(tactic| first | decide | omega | (with_reducible assumption) | fail)
local macro_rules | `(tactic| walk_at "at") => `(tactic| first | rfl | assumption | exact atI_nat (by assumption) | fail)
local macro_rules | `(tactic| walk_at "ll") => `(tactic| first | omega | (simp only [List.length_append, List.length_cons, List.length_nil, List.length_map, List.length_range, List.length_set, List.length_replicate]; omega) | (simp only [List.length_append, List.length_cons, List.length_nil, List.length_map, List.length_range, List.length_set, List.length_replicate] at *; omega) | (simp; done) | (simp; omega) | fail)
local macro_rules | `(tactic| walk_at "ix") => `(tactic| first | assumption | (refine ixN_nat ?_; walk_at "ll") | rfl | fail)
local macro_rules | `(tactic| walk_at "szlt") => `(tactic| first | assumption | (refine szlt ?_; walk_at "ll") | fail)
local macro_rules | `(tactic| walk_at "szk") => `(tactic| first | assumption | (refine szlt ?_; omega) | fail)
/-- one step -/
local macro_rules | `(tactic| walk_at "st") => `(tactic| first
  | with_reducible refine w_iT ?_
  | with_reducible refine w_iF ?_
  | with_reducible refine w_iNT ?_
  | with_reducible refine w_iNF ?_
  | with_reducible refine w_iNN ?_
  | with_reducible refine w_seq ?_
  | with_reducible refine w_asg ?_
  | with_reducible refine w_gn ?_
  | with_reducible refine w_c ?_
  | with_reducible refine w_op ?_
  | with_reducible refine w_ret ?_
  | with_reducible refine w_if ?_
  | with_reducible refine w_test ?_
  | with_reducible refine w_rI0 ?_
  | with_reducible refine w_cons ?_
  | with_reducible refine w_nil ?_
  | with_reducible refine w_call ?_
  | with_reducible refine w_cb ?_
  | with_reducible refine w_drop ?_
  | with_reducible refine w_next ?_
  | with_reducible refine w_eqI ?_
  | with_reducible refine w_neI ?_
  | ((with_reducible refine w_var ?_); refine ⟨_, rfl, ?_⟩)
  | ((with_reducible refine w_aug ?_); refine ⟨_, rfl, ?_⟩)
  | with_reducible refine w_eqB ?_
  | with_reducible refine w_neB ?_
  | with_reducible refine w_tB ?_
  | with_reducible refine w_bl ?_
  | with_reducible refine w_and ?_
  | with_reducible refine w_or ?_
  | with_reducible refine w_not ?_
  | with_reducible refine w_andV ?_
  | with_reducible refine w_orV ?_
  | with_reducible refine w_notV ?_
  | with_reducible refine w_ifE ?_
  | with_reducible refine w_un ?_
  | with_reducible refine w_rU ?_
  | with_reducible refine w_ip ?_
  | with_reducible refine w_gc ?_
  | with_reducible refine w_g0 ?_
  | with_reducible refine w_gs ?_
  | with_reducible refine w_tup ?_
  | with_reducible refine w_lst ?_
  | with_reducible refine w_sl ?_
  | with_reducible refine w_np ?_
  | with_reducible refine w_part ?_
  | with_reducible refine w_partI ?_
  | with_reducible refine w_bm ?_
  | with_reducible refine w_bm0 ?_
  | with_reducible refine w_for ?_
  | with_reducible refine w_lc ?_
  | with_reducible refine w_yes ?_
  | with_reducible refine w_make ?_
  | with_reducible refine w_meth ?_
  | with_reducible refine w_sf ?_
  | with_reducible refine w_r3 ?_
  | with_reducible refine w_din ?_
  | with_reducible refine w_dni ?_
  | with_reducible refine w_dg ?_
  | with_reducible refine w_put ?_
  | with_reducible refine w_dn ?_
  | with_reducible refine w_enum ?_
  | with_reducible refine w_iL ?_
  | with_reducible refine w_iTu ?_
  | with_reducible refine w_r1 ?_
  | with_reducible refine w_r2 ?_
  | with_reducible refine w_int1 ?_
  | with_reducible refine w_intb ?_
  | with_reducible refine w_fl ?_
  | with_reducible refine w_retN ?_
  | with_reducible refine w_break ?_
  | with_reducible refine w_cont ?_
  | with_reducible refine w_par ?_
  | with_reducible refine w_par2 ?_
  | with_reducible refine w_eqS ?_
  | with_reducible refine w_neS ?_
  | with_reducible refine w_eqNI ?_
  | with_reducible refine w_eqIN ?_
  | with_reducible refine w_callS ?_
  | with_reducible refine w_ost ?_
  | with_reducible refine w_xf ?_
  | with_reducible refine w_mko ?_
  | ((with_reducible refine w_mod ?s0 ?_); (case s0 => walk_at "side"))
  | ((with_reducible refine w_div ?s0 ?s1 ?_); (case s0 => walk_at "side"); (case s1 => walk_at "side"))
  | ((with_reducible refine w_shr ?s0 ?_); (case s0 => walk_at "side"))
  | ((with_reducible refine w_shl1 ?s0 ?s1 ?_); (case s0 => walk_at "side"); (case s1 => walk_at "side"))
  | ((with_reducible refine w_mul ?s0 ?s1 ?s2 ?s3 ?_); (case s0 => walk_at "side"); (case s1 => walk_at "side"); (case s2 => walk_at "side"); (case s3 => walk_at "side"))
  | ((with_reducible refine w_shl ?s0 ?s1 ?s2 ?s3 ?_); (case s0 => walk_at "side"); (case s1 => walk_at "side"); (case s2 => walk_at "side"); (case s3 => walk_at "side"))
  | ((with_reducible refine w_r1q ?s0 ?s1 ?_); (case s0 => walk_at "side"); (case s1 => walk_at "side"))
  | ((with_reducible refine w_r2q ?s0 ?s1 ?s2 ?s3 ?_); (case s0 => walk_at "side"); (case s1 => walk_at "side"); (case s2 => walk_at "side"); (case s3 => walk_at "side"))
  | ((with_reducible refine w_ixL (xs := ?xs) (v := ?v) ?s0 ?s1 ?_); (case s0 => walk_at "sq"); (case s1 => walk_at "at"))
  | ((with_reducible refine w_ixT (xs := ?xs) (v := ?v) ?s0 ?s1 ?_); (case s0 => walk_at "sq"); (case s1 => walk_at "at"))
  | ((with_reducible refine w_ixl (xs := ?xs) (v := ?v) ?s0 ?s1 ?_); (case s0 => walk_at "sq"); (case s1 => walk_at "at"))
  | ((with_reducible refine w_ixt (xs := ?xs) (v := ?v) ?s0 ?s1 ?_); (case s0 => walk_at "sq"); (case s1 => walk_at "at"))
  | ((with_reducible refine w_lenK (xs := ?xs) ?s0 ?_); (case s0 => walk_at "sq"))
  | ((with_reducible refine w_lenTK (xs := ?xs) ?s0 ?_); (case s0 => walk_at "sq"))
  | ((with_reducible refine w_listK (xs := ?xs) ?s0 ?_); (case s0 => walk_at "sq"))
  | ((with_reducible refine w_len (xs := ?xs) ?s0 ?_); (case s0 => walk_at "sq"))
  | ((with_reducible refine w_lenT (xs := ?xs) ?s0 ?_); (case s0 => walk_at "sq"))
  | ((with_reducible refine w_iLq (xs := ?xs) ?s0 ?_); (case s0 => walk_at "sq"))
  | ((with_reducible refine w_iTq (xs := ?xs) ?s0 ?_); (case s0 => walk_at "sq"))
  | ((with_reducible refine w_tyl (xs := ?xs) ?s0 ?_); (case s0 => walk_at "sq"))
  | ((with_reducible refine w_slL (xs := ?xs) ?s0 ?_); (case s0 => walk_at "sq"))
  | ((with_reducible refine w_gt (xs := ?xs) ?s0 ?s1 ?_); (case s0 => walk_at "sq"); (case s1 => rfl))
  | ((with_reducible refine w_setL (xs := ?xs) (j := ?j) ?s0 ?s1 ?_); (case s0 => walk_at "hp"); (case s1 => walk_at "ix"))
  | ((with_reducible refine w_app (xs := ?xs) ?s0 ?s1 ?_); (case s0 => walk_at "hp"); (case s1 => walk_at "szlt"))
  | ((with_reducible refine w_rev (xs := ?xs) ?s0 ?_); (case s0 => walk_at "hp"))
  | with_reducible refine w_isi kb_ii ?_
  | with_reducible refine w_isi kb_ib ?_
  | with_reducible refine w_isb kb_bb ?_
  | with_reducible refine w_isb kb_bi ?_
  | with_reducible refine w_isn kb_ni ?_
  | with_reducible refine w_isn kb_nb ?_
  | ((with_reducible refine w_isl (xs := ?xs) ?s0 kb_ll ?_); (case s0 => walk_at "hp"))
  | ((with_reducible refine w_isl (xs := ?xs) ?s0 kb_lt ?_); (case s0 => walk_at "hp"))
  | ((with_reducible refine w_ist (xs := ?xs) ?s0 kb_tt ?_); (case s0 => walk_at "hp"))
  | ((with_reducible refine w_ist (xs := ?xs) ?s0 kb_tl ?_); (case s0 => walk_at "hp"))
  | with_reducible refine w_len1 rfl ?_
  | with_reducible refine w_isN ?_
  | with_reducible refine w_2i ?_
  | with_reducible refine w_1i ?_
  | with_reducible refine w_augS ?_
  | ((with_reducible refine w_getL (xs := ?xs) (v := ?v) ?s0 ?s1 ?_); (case s0 => walk_at "sq"); (case s1 => assumption))
  | ((with_reducible refine w_wipe ?s0 ?_); (case s0 => rfl))
  | ((with_reducible refine w_inI (kvs := ?kvs) ?s0 ?_); (case s0 => walk_at "hp"))
  | ((with_reducible refine w_putI (kvs := ?kvs) ?s0 ?s1 ?_); (case s0 => walk_at "hp"); (case s1 => walk_at "szk"))
  | ((with_reducible refine w_ins (xs := ?xs) ?s0 ?s1 ?s2 ?s3 ?_); (case s0 => walk_at "hp"); (case s1 => walk_at "szlt"); (case s2 => walk_at "side"); (case s3 => walk_at "side"))
  | ((with_reducible refine w_pow ?s0 ?_); (case s0 => exact ⟨by decide, by decide, by decide⟩))
  | ((with_reducible refine ifd (fun h => ?c) (fun _ => ?_)); (case c => exfalso; omega))
  | ((with_reducible refine ifd (fun _ => ?_) (fun h => ?c)); (case c => exfalso; omega))
  | ((with_reducible refine ifnd (fun h => ?c) (fun _ => ?_)); (case c => exfalso; omega))
  | ((with_reducible refine ifnd (fun _ => ?_) (fun h => ?c)); (case c => exfalso; omega))
  | fail)
local macro_rules | `(tactic| walk_at "sts") => `(tactic| repeat (walk_at "st"))

def topS (i : Nat) : Stmt := PySem.Challenge.pw_spinfloor_k53_what_rests.main.body.getD i (.Pass ⟨0, 0, 0, 0⟩)
abbrev s_Pull_wish : Stmt := inClass (topS 25) 0
theorem sc_Pull_wish : FnScope ["self"] ["self"] (defScope s_Pull_wish) := ⟨rfl, rfl, rfl, by decide +kernel, rfl, by decide +kernel, by decide +kernel⟩
abbrev s_Push_wish : Stmt := inClass (topS 26) 0
theorem sc_Push_wish : FnScope ["self"] ["self"] (defScope s_Push_wish) := ⟨rfl, rfl, rfl, by decide +kernel, rfl, by decide +kernel, by decide +kernel⟩
abbrev s_Tie_unpleased : Stmt := inClass (topS 24) 3
theorem sc_Tie_unpleased : FnScope ["self", "laying", "down"] ["self", "laying"] (defScope s_Tie_unpleased) := ⟨rfl, rfl, rfl, by decide +kernel, rfl, by decide +kernel, by decide +kernel⟩
abbrev s_Tie_price : Stmt := inClass (topS 24) 4
theorem sc_Tie_price : FnScope ["self", "laying"] ["self", "laying"] (defScope s_Tie_price) := ⟨rfl, rfl, rfl, by decide +kernel, rfl, by decide +kernel, by decide +kernel⟩
abbrev s_worth : Stmt := topS 11
theorem sc_worth : FnScope ["web", "laying", "found", "tie"] ["web", "laying"] (defScope s_worth) := ⟨rfl, rfl, rfl, by decide +kernel, rfl, by decide +kernel, by decide +kernel⟩
abbrev s_worths_told : Stmt := topS 14
theorem sc_worths_told : FnScope ["web", "laying"] ["web"] (defScope s_worths_told) := ⟨rfl, rfl, rfl, by decide +kernel, rfl, by decide +kernel, by decide +kernel⟩
abbrev s_steps_from : Stmt := topS 15
theorem sc_steps_from : FnScope ["web", "laying", "place"] ["web", "laying"] (defScope s_steps_from) := ⟨rfl, rfl, rfl, by decide +kernel, rfl, by decide +kernel, by decide +kernel⟩
abbrev s_least_at : Stmt := topS 16
theorem sc_least_at : FnScope ["waiting", "heights", "best", "k"] ["waiting", "heights"] (defScope s_least_at) := ⟨rfl, rfl, rfl, by decide +kernel, rfl, by decide +kernel, by decide +kernel⟩
abbrev s_way_back : Stmt := topS 17
theorem sc_way_back : FnScope ["came", "goal", "way"] ["came", "goal"] (defScope s_way_back) := ⟨rfl, rfl, rfl, by decide +kernel, rfl, by decide +kernel, by decide +kernel⟩
abbrev s_climb : Stmt := topS 18
theorem sc_climb : FnScope ["web", "start", "goal", "heights", "came", "waiting", "height", "laying", "other"] ["web", "start", "goal"] (defScope s_climb) := ⟨rfl, rfl, rfl, by decide +kernel, rfl, by decide +kernel, by decide +kernel⟩
abbrev s_spread : Stmt := topS 19
theorem sc_spread : FnScope ["web", "start", "let", "seen", "waiting", "laying", "other"] ["web", "start", "let"] (defScope s_spread) := ⟨rfl, rfl, rfl, by decide +kernel, rfl, by decide +kernel, by decide +kernel⟩
abbrev s_shore : Stmt := topS 20
theorem sc_shore : FnScope ["web", "start", "height", "heights"] ["web", "start", "height"] (defScope s_shore) := ⟨rfl, rfl, rfl, by decide +kernel, rfl, by decide +kernel, by decide +kernel⟩
abbrev s_falls : Stmt := topS 21
theorem sc_falls : FnScope ["web", "start", "heights"] ["web", "start"] (defScope s_falls) := ⟨rfl, rfl, rfl, by decide +kernel, rfl, by decide +kernel, by decide +kernel⟩
abbrev s_resting : Stmt := topS 22
theorem sc_resting : FnScope ["web", "heights", "found", "laying", "other"] ["web"] (defScope s_resting) := ⟨rfl, rfl, rfl, by decide +kernel, rfl, by decide +kernel, by decide +kernel⟩
abbrev s_Tie___init__ : Stmt := inClass (topS 24) 0
theorem sc_Tie___init__ : FnScope ["self", "one", "two", "strength"] ["self", "one", "two", "strength"] (defScope s_Tie___init__) := ⟨rfl, rfl, rfl, by decide +kernel, rfl, by decide +kernel, by decide +kernel⟩
abbrev s_head : Stmt := topS 28
theorem sc_head : FnScope ["ties", "dart"] ["ties", "dart"] (defScope s_head) := ⟨rfl, rfl, rfl, by decide +kernel, rfl, by decide +kernel, by decide +kernel⟩
abbrev s_follower : Stmt := topS 29
theorem sc_follower : FnScope ["ties", "turns", "dart", "place", "row", "number"] ["ties", "turns", "dart"] (defScope s_follower) := ⟨rfl, rfl, rfl, by decide +kernel, rfl, by decide +kernel, by decide +kernel⟩
abbrev s_round_from : Stmt := topS 30
theorem sc_round_from : FnScope ["ties", "turns", "first", "row", "dart"] ["ties", "turns", "first"] (defScope s_round_from) := ⟨rfl, rfl, rfl, by decide +kernel, rfl, by decide +kernel, by decide +kernel⟩
abbrev s_rounds_of : Stmt := topS 31
theorem sc_rounds_of : FnScope ["ties", "turns", "rounds", "seen", "dart", "row", "each"] ["ties", "turns"] (defScope s_rounds_of) := ⟨rfl, rfl, rfl, by decide +kernel, rfl, by decide +kernel, by decide +kernel⟩
abbrev s_sides_of : Stmt := topS 32
theorem sc_sides_of : FnScope ["ties", "rounds", "where", "number", "row", "dart", "i"] ["ties", "rounds"] (defScope s_sides_of) := ⟨rfl, rfl, rfl, by decide +kernel, rfl, by decide +kernel, by decide +kernel⟩
abbrev s_ends_are_places : Stmt := topS 34
theorem sc_ends_are_places : FnScope ["many", "ties", "tie"] ["many", "ties"] (defScope s_ends_are_places) := ⟨rfl, rfl, rfl, by decide +kernel, rfl, by decide +kernel, by decide +kernel⟩
abbrev s_turns_are_right : Stmt := topS 35
theorem sc_turns_are_right : FnScope ["many", "ties", "turns", "place", "own", "i"] ["many", "ties", "turns"] (defScope s_turns_are_right) := ⟨rfl, rfl, rfl, by decide +kernel, rfl, by decide +kernel, by decide +kernel⟩
abbrev s_hangs_together : Stmt := topS 36
theorem sc_hangs_together : FnScope ["many", "ties", "reached", "grew", "tie", "place"] ["many", "ties"] (defScope s_hangs_together) := ⟨rfl, rfl, rfl, by decide +kernel, rfl, by decide +kernel, by decide +kernel⟩
abbrev s_Web___init__ : Stmt := inClass (topS 37) 0
theorem sc_Web___init__ : FnScope ["self", "many", "ties", "turns", "rounds", "row"] ["self", "many", "ties", "turns"] (defScope s_Web___init__) := ⟨rfl, rfl, rfl, by decide +kernel, rfl, by decide +kernel, by decide +kernel⟩
abbrev s_law_cell : Stmt := topS 39
theorem sc_law_cell : FnScope ["script", "k"] ["script", "k"] (defScope s_law_cell) := ⟨rfl, rfl, rfl, by decide +kernel, rfl, by decide +kernel, by decide +kernel⟩
abbrev s_law_head : Stmt := topS 40
theorem sc_law_head : FnScope ["ends", "dart"] ["ends", "dart"] (defScope s_law_head) := ⟨rfl, rfl, rfl, by decide +kernel, rfl, by decide +kernel, by decide +kernel⟩
abbrev s_law_put : Stmt := topS 41
theorem sc_law_put : FnScope ["turns", "place", "behind", "fresh", "row"] ["turns", "place", "behind", "fresh"] (defScope s_law_put) := ⟨rfl, rfl, rfl, by decide +kernel, rfl, by decide +kernel, by decide +kernel⟩
abbrev s_law_step : Stmt := topS 42
theorem sc_law_step : FnScope ["cell", "ends", "turns", "rings", "places", "mixed", "which", "rest", "ring", "a", "b", "one", "two", "fresh", "out", "back"] ["cell", "ends", "turns", "rings", "places"] (defScope s_law_step) := ⟨rfl, rfl, rfl, by decide +kernel, rfl, by decide +kernel, by decide +kernel⟩
abbrev s_law_grown : Stmt := topS 43
theorem sc_law_grown : FnScope ["cells", "places", "ends", "turns", "rings", "cell"] ["cells", "places"] (defScope s_law_grown) := ⟨rfl, rfl, rfl, by decide +kernel, rfl, by decide +kernel, by decide +kernel⟩
abbrev s_law_order : Stmt := topS 44
theorem sc_law_order : FnScope ["cell", "many", "order", "mixed", "k"] ["cell", "many"] (defScope s_law_order) := ⟨rfl, rfl, rfl, by decide +kernel, rfl, by decide +kernel, by decide +kernel⟩
abbrev s_law_renumbered : Stmt := topS 45
theorem sc_law_renumbered : FnScope ["grown", "cell", "places", "ties", "ends", "k", "turns", "p", "row", "cut", "rings", "ring", "dart"] ["grown", "cell"] (defScope s_law_renumbered) := ⟨rfl, rfl, rfl, by decide +kernel, rfl, by decide +kernel, by decide +kernel⟩
abbrev s_law_kinds : Stmt := topS 46
theorem sc_law_kinds : FnScope ["script", "many", "limits", "limit", "k", "totals", "total"] ["script", "many", "limits"] (defScope s_law_kinds) := ⟨rfl, rfl, rfl, by decide +kernel, rfl, by decide +kernel, by decide +kernel⟩
abbrev s_law_web : Stmt := topS 47
theorem sc_law_web : FnScope ["grown", "kinds", "ties", "k", "end", "row"] ["grown", "kinds"] (defScope s_law_web) := ⟨rfl, rfl, rfl, by decide +kernel, rfl, by decide +kernel, by decide +kernel⟩
abbrev s_law_worth : Stmt := topS 48
theorem sc_law_worth : FnScope ["ends", "kinds", "laying", "found", "k", "unlike"] ["ends", "kinds", "laying"] (defScope s_law_worth) := ⟨rfl, rfl, rfl, by decide +kernel, rfl, by decide +kernel, by decide +kernel⟩
abbrev s_law_costs : Stmt := topS 49
theorem sc_law_costs : FnScope ["grown", "kinds", "laying"] ["grown", "kinds"] (defScope s_law_costs) := ⟨rfl, rfl, rfl, by decide +kernel, rfl, by decide +kernel, by decide +kernel⟩
abbrev s_law_number : Stmt := topS 50
theorem sc_law_number : FnScope ["found"] ["found"] (defScope s_law_number) := ⟨rfl, rfl, rfl, by decide +kernel, rfl, by decide +kernel, by decide +kernel⟩
abbrev s_law_listed : Stmt := topS 51
theorem sc_law_listed : FnScope ["found", "due", "k"] ["found", "due"] (defScope s_law_listed) := ⟨rfl, rfl, rfl, by decide +kernel, rfl, by decide +kernel, by decide +kernel⟩
abbrev s_law_asked : Stmt := topS 52
theorem sc_law_asked : FnScope ["web", "which", "start", "goal"] ["web", "which", "start", "goal"] (defScope s_law_asked) := ⟨rfl, rfl, rfl, by decide +kernel, rfl, by decide +kernel, by decide +kernel⟩
abbrev s_law_too_wide : Stmt := topS 53
theorem sc_law_too_wide : FnScope ["web", "which", "start", "goal", "found", "e"] ["web", "which", "start", "goal"] (defScope s_law_too_wide) := ⟨rfl, rfl, rfl, by decide +kernel, rfl, by decide +kernel, by decide +kernel⟩
abbrev s_law_row_of_places : Stmt := topS 54
theorem sc_law_row_of_places : FnScope ["many", "cell", "ties", "k", "turns"] ["many", "cell"] (defScope s_law_row_of_places) := ⟨rfl, rfl, rfl, by decide +kernel, rfl, by decide +kernel, by decide +kernel⟩
abbrev s_law_short_row : Stmt := topS 55
theorem sc_law_short_row : FnScope ["places", "cell", "many", "web", "start", "most", "still", "goal", "ends", "kinds", "tie", "row"] ["places", "cell"] (defScope s_law_short_row) := ⟨rfl, rfl, rfl, by decide +kernel, rfl, by decide +kernel, by decide +kernel⟩
abbrev s_law : Stmt := topS 56
theorem sc_law : FnScope ["script", "cell", "wide", "which", "grown", "kinds", "costs", "due", "laying", "lower", "p"] ["script"] (defScope s_law) := ⟨rfl, rfl, rfl, by decide +kernel, rfl, by decide +kernel, by decide +kernel⟩
structure Bl (mg : Str → Option Value) : Prop where
  range : mg "range" = none
  len : mg "len" = none
  list : mg "list" = none
  reversed : mg "reversed" = none
  max : mg "max" = none
  sorted : mg "sorted" = none
  other : mg "other" = none
  laying : mg "laying" = none
  all : mg "all" = none
  enumerate : mg "enumerate" = none
  isinstance : mg "isinstance" = none
  int : mg "int" = none
  bool : mg "bool" = none
  ValueError : mg "ValueError" = none
  min : mg "min" = none
  sum : mg "sum" = none
structure Txt (K : PySem.W.Frag) (mg : Str → Option Value) (C_Pull C_Push C_Web C_TooWide C_FloorError C_TooMany C_TooRough : Addr) : Prop where
  g_Pull : mg "Pull" = some (.ref C_Pull)
  g_Push : mg "Push" = some (.ref C_Push)
  g_Web : mg "Web" = some (.ref C_Web)
  g_TooWide : mg "TooWide" = some (.ref C_TooWide)
  g_FloorError : mg "FloorError" = some (.ref C_FloorError)
  g_TooMany : mg "TooMany" = some (.ref C_TooMany)
  g_TooRough : mg "TooRough" = some (.ref C_TooRough)
  cl_Pull : Cls K C_Pull
  mk_Pull : PySem.W.makesIn K C_Pull = true
  kp_Pull : PySem.W.keepIn K (.ref C_Pull) = true
  n_Pull_one : NoAttr K C_Pull "one"
  n_Pull_two : NoAttr K C_Pull "two"
  n_Pull_strength : NoAttr K C_Pull "strength"
  cl_Push : Cls K C_Push
  mk_Push : PySem.W.makesIn K C_Push = true
  kp_Push : PySem.W.keepIn K (.ref C_Push) = true
  n_Push_one : NoAttr K C_Push "one"
  n_Push_two : NoAttr K C_Push "two"
  n_Push_strength : NoAttr K C_Push "strength"
  cl_Web : Cls K C_Web
  mk_Web : PySem.W.makesIn K C_Web = true
  kp_Web : PySem.W.keepIn K (.ref C_Web) = true
  n_Web_many : NoAttr K C_Web "many"
  n_Web_ties : NoAttr K C_Web "ties"
  n_Web_turns : NoAttr K C_Web "turns"
  n_Web_rounds : NoAttr K C_Web "rounds"
  n_Web_sides : NoAttr K C_Web "sides"
  k_MOST_PLACES : ∃ t, mg "MOST_PLACES" = some (.int 10 t)
  og : PySem.W.specialIn K (.builtin "object.__class__") "__get__" = some (some (.builtin "getset_descriptor.__get__"))
  ot : PySem.W.takesIn K (.builtin "object.__class__") = some true
  kp_TooWide : PySem.W.keepIn K (.ref C_TooWide) = true
  be_TooWide : PySem.W.subIn K (.ref C_TooWide) (.type "BaseException") = some true
  ty_TooWide : PySem.W.typeIn K (.ref C_TooWide) = some (.type "type")
  cl_TooWide : PySem.W.isClsIn K C_TooWide = true
  hd_TooWide : PySem.W.hasDictIn K C_TooWide = true
  ga_TooWide : PySem.W.findIn K (.ref C_TooWide) "__getattribute__" = some (some (.builtin "BaseException.__getattribute__"))
  gg_TooWide : PySem.W.findIn K (.ref C_TooWide) "__getattr__" = some none
  oc_TooWide : PySem.W.findIn K (.ref C_TooWide) "__class__" = some (some (.builtin "object.__class__"))
  om_TooWide : PySem.W.mroIn K C_TooWide (.type "object") = some true
  sv_TooWide : PySem.W.subIn K (.ref C_TooWide) (.type "ValueError") = some true
  sb_TooWide_TooWide : PySem.W.subIn K (.ref C_TooWide) (.ref C_TooWide) = some true
  kp_FloorError : PySem.W.keepIn K (.ref C_FloorError) = true
  be_FloorError : PySem.W.subIn K (.ref C_FloorError) (.type "BaseException") = some true
  ty_FloorError : PySem.W.typeIn K (.ref C_FloorError) = some (.type "type")
  cl_FloorError : PySem.W.isClsIn K C_FloorError = true
  hd_FloorError : PySem.W.hasDictIn K C_FloorError = true
  ga_FloorError : PySem.W.findIn K (.ref C_FloorError) "__getattribute__" = some (some (.builtin "BaseException.__getattribute__"))
  gg_FloorError : PySem.W.findIn K (.ref C_FloorError) "__getattr__" = some none
  oc_FloorError : PySem.W.findIn K (.ref C_FloorError) "__class__" = some (some (.builtin "object.__class__"))
  om_FloorError : PySem.W.mroIn K C_FloorError (.type "object") = some true
  sv_FloorError : PySem.W.subIn K (.ref C_FloorError) (.type "ValueError") = some true
  sb_FloorError_FloorError : PySem.W.subIn K (.ref C_FloorError) (.ref C_FloorError) = some true
  kp_TooMany : PySem.W.keepIn K (.ref C_TooMany) = true
  be_TooMany : PySem.W.subIn K (.ref C_TooMany) (.type "BaseException") = some true
  ty_TooMany : PySem.W.typeIn K (.ref C_TooMany) = some (.type "type")
  cl_TooMany : PySem.W.isClsIn K C_TooMany = true
  hd_TooMany : PySem.W.hasDictIn K C_TooMany = true
  ga_TooMany : PySem.W.findIn K (.ref C_TooMany) "__getattribute__" = some (some (.builtin "BaseException.__getattribute__"))
  gg_TooMany : PySem.W.findIn K (.ref C_TooMany) "__getattr__" = some none
  oc_TooMany : PySem.W.findIn K (.ref C_TooMany) "__class__" = some (some (.builtin "object.__class__"))
  om_TooMany : PySem.W.mroIn K C_TooMany (.type "object") = some true
  sv_TooMany : PySem.W.subIn K (.ref C_TooMany) (.type "ValueError") = some true
  sb_TooMany_TooMany : PySem.W.subIn K (.ref C_TooMany) (.ref C_TooMany) = some true
  kp_TooRough : PySem.W.keepIn K (.ref C_TooRough) = true
  be_TooRough : PySem.W.subIn K (.ref C_TooRough) (.type "BaseException") = some true
  ty_TooRough : PySem.W.typeIn K (.ref C_TooRough) = some (.type "type")
  cl_TooRough : PySem.W.isClsIn K C_TooRough = true
  hd_TooRough : PySem.W.hasDictIn K C_TooRough = true
  ga_TooRough : PySem.W.findIn K (.ref C_TooRough) "__getattribute__" = some (some (.builtin "BaseException.__getattribute__"))
  gg_TooRough : PySem.W.findIn K (.ref C_TooRough) "__getattr__" = some none
  oc_TooRough : PySem.W.findIn K (.ref C_TooRough) "__class__" = some (some (.builtin "object.__class__"))
  om_TooRough : PySem.W.mroIn K C_TooRough (.type "object") = some true
  sv_TooRough : PySem.W.subIn K (.ref C_TooRough) (.type "ValueError") = some true
  sb_TooRough_TooRough : PySem.W.subIn K (.ref C_TooRough) (.ref C_TooRough) = some true
  xn_TooWide : PySem.W.excIn K C_TooWide [.type "ValueError", .type "Exception", .type "BaseException", .type "object"] "ValueError.__new__" = true
  sb_TooWide_FloorError : PySem.W.subIn K (.ref C_TooWide) (.ref C_FloorError) = some true
  sb_TooWide_TooMany : PySem.W.subIn K (.ref C_TooWide) (.ref C_TooMany) = some false
  sb_TooWide_TooRough : PySem.W.subIn K (.ref C_TooWide) (.ref C_TooRough) = some false
theorem Txt.xf_TooWide {K : PySem.W.Frag} {mg : Str → Option Value} {C_Pull C_Push C_Web C_TooWide C_FloorError C_TooMany C_TooRough : Addr} (T : Txt K mg C_Pull C_Push C_Web C_TooWide C_FloorError C_TooMany C_TooRough) : ExF K C_TooWide := ⟨T.kp_TooWide, T.be_TooWide, T.ty_TooWide, T.cl_TooWide, T.hd_TooWide, T.ga_TooWide, T.gg_TooWide, T.oc_TooWide, T.om_TooWide, T.sv_TooWide, T.sb_TooWide_TooWide, T.og, T.ot⟩
theorem Txt.xf_FloorError {K : PySem.W.Frag} {mg : Str → Option Value} {C_Pull C_Push C_Web C_TooWide C_FloorError C_TooMany C_TooRough : Addr} (T : Txt K mg C_Pull C_Push C_Web C_TooWide C_FloorError C_TooMany C_TooRough) : ExF K C_FloorError := ⟨T.kp_FloorError, T.be_FloorError, T.ty_FloorError, T.cl_FloorError, T.hd_FloorError, T.ga_FloorError, T.gg_FloorError, T.oc_FloorError, T.om_FloorError, T.sv_FloorError, T.sb_FloorError_FloorError, T.og, T.ot⟩
theorem Txt.xf_TooMany {K : PySem.W.Frag} {mg : Str → Option Value} {C_Pull C_Push C_Web C_TooWide C_FloorError C_TooMany C_TooRough : Addr} (T : Txt K mg C_Pull C_Push C_Web C_TooWide C_FloorError C_TooMany C_TooRough) : ExF K C_TooMany := ⟨T.kp_TooMany, T.be_TooMany, T.ty_TooMany, T.cl_TooMany, T.hd_TooMany, T.ga_TooMany, T.gg_TooMany, T.oc_TooMany, T.om_TooMany, T.sv_TooMany, T.sb_TooMany_TooMany, T.og, T.ot⟩
theorem Txt.xf_TooRough {K : PySem.W.Frag} {mg : Str → Option Value} {C_Pull C_Push C_Web C_TooWide C_FloorError C_TooMany C_TooRough : Addr} (T : Txt K mg C_Pull C_Push C_Web C_TooWide C_FloorError C_TooMany C_TooRough) : ExF K C_TooRough := ⟨T.kp_TooRough, T.be_TooRough, T.ty_TooRough, T.cl_TooRough, T.hd_TooRough, T.ga_TooRough, T.gg_TooRough, T.oc_TooRough, T.om_TooRough, T.sv_TooRough, T.sb_TooRough_TooRough, T.og, T.ot⟩
/-! ### ties -/
structure Ti where
  push : Bool
  one : Nat
  two : Nat
  s : Nat
def tf (a b s : Int) : List (Str × V) := [("one", .int a), ("two", .int b), ("strength", .int s)]
theorem tf_one (a b s : Int) : (tf a b s).lookup ("one" : Str) = some (.int a) := by rfl
theorem tf_two (a b s : Int) : (tf a b s).lookup ("two" : Str) = some (.int b) := by rfl
theorem tf_str (a b s : Int) : (tf a b s).lookup ("strength" : Str) = some (.int s) := by rfl
theorem tf_eq (a b s : Int) : putF "strength" (.int s) (putF "two" (.int b) (putF "one" (.int a) [])) = tf a b s := by rfl
def clsOf (CP CQ : Addr) (push : Bool) : Addr := if push = true then CQ else CP
def TieAt (CP CQ : Addr) (H : Hp) (p : Addr) (t : Ti) : Prop := ∃ dx, H p = some (.ins (clsOf CP CQ t.push) dx (tf t.one t.two t.s))
theorem TieAt.same {CP CQ : Addr} {H H' : Hp} {p : Addr} {t : Ti} (h : TieAt CP CQ H p t) (e : Same H H') : TieAt CP CQ H' p t := by
  obtain ⟨dx, h⟩ := h
  exact ⟨dx, e _ _ h⟩
/-- a list of ties: where each stands -/
def TiesIn (CP CQ : Addr) (H : Hp) (ps : List Addr) (ts : List Ti) : Prop := ps.length = ts.length ∧ ∀ (i : Nat) (p : Addr) (t : Ti), ps[i]? = some p → ts[i]? = some t → TieAt CP CQ H p t
def TiesAt (K : PySem.W.Frag) (CP CQ : Addr) (H : Hp) (a : Addr) (ts : List Ti) : Prop := ∃ ps : List Addr, SqL K H a (ps.map V.ref) ∧ TiesIn CP CQ H ps ts
theorem TiesIn.same {CP CQ : Addr} {H H' : Hp} {ps : List Addr} {ts : List Ti} (h : TiesIn CP CQ H ps ts) (e : Same H H') : TiesIn CP CQ H' ps ts := ⟨h.1, fun i p t a b => (h.2 i p t a b).same e⟩
theorem TiesAt.same {K : PySem.W.Frag} {CP CQ : Addr} {H H' : Hp} {a : Addr} {ts : List Ti} (h : TiesAt K CP CQ H a ts) (e : Same H H') : TiesAt K CP CQ H' a ts := by
  obtain ⟨ps, h1, h2⟩ := h
  exact ⟨ps, e.seq h1, h2.same e⟩
theorem TiesIn.nil {CP CQ : Addr} {H : Hp} : TiesIn CP CQ H [] [] := ⟨rfl, fun i p t a _ => by simp at a⟩
theorem TieAt.ins {CP CQ : Addr} {H : Hp} {p D : Addr} {t : Ti} {xs ys : List V} (h : TieAt CP CQ H p t) (hD : H D = some (.lst xs)) : TieAt CP CQ (upd H D (.lst ys)) p t := by
  obtain ⟨dx, h⟩ := h
  exact ⟨dx, by rw [upd_ne (ne_of h hD (by intro z; cases z))]; exact h⟩
theorem TiesIn.lst {CP CQ : Addr} {H : Hp} {D : Addr} {ps : List Addr} {ts : List Ti} {xs ys : List V} (h : TiesIn CP CQ H ps ts) (hD : H D = some (.lst xs)) : TiesIn CP CQ (upd H D (.lst ys)) ps ts :=
  ⟨h.1, fun i p t a b => (h.2 i p t a b).ins hD⟩
theorem TiesIn.push {CP CQ : Addr} {H : Hp} {p : Addr} {t : Ti} {ps : List Addr} {ts : List Ti} (h : TiesIn CP CQ H ps ts) (hp : TieAt CP CQ H p t) : TiesIn CP CQ H (ps ++ [p]) (ts ++ [t]) := by
  refine ⟨by simp [h.1], fun i p' t' a b => ?_⟩
  have hl := h.1
  by_cases e : i < ps.length
  · rw [List.getElem?_append_left e] at a
    rw [List.getElem?_append_left (by omega)] at b
    exact h.2 i p' t' a b
  · have e2 : i = ps.length := by
      have := (List.getElem?_eq_some_iff.mp a).1
      simp at this
      omega
    subst e2
    rw [List.getElem?_append_right (Nat.le_refl _), Nat.sub_self] at a
    rw [List.getElem?_append_right (by omega), hl, Nat.sub_self] at b
    simp at a b
    subst a b
    exact hp
theorem TiesIn.get {CP CQ : Addr} {H : Hp} {ps : List Addr} {ts : List Ti} (h : TiesIn CP CQ H ps ts) {i : Nat} {t : Ti} (e : ts[i]? = some t) : ∃ p, (ps.map V.ref)[i]? = some (.ref p) ∧ TieAt CP CQ H p t := by
  have hi : i < ps.length := by have := (List.getElem?_eq_some_iff.mp e).1; rw [h.1]; exact this
  exact ⟨ps[i], by rw [List.getElem?_map, List.getElem?_eq_getElem hi]; rfl, h.2 i _ _ (List.getElem?_eq_getElem hi) e⟩
theorem made_same {H : Hp} {x dx C : Addr} {fs : List (Str × V)} (h1 : New H x) (h2 : New H dx) (h3 : dx ≠ x) : Same H (upd (upd H dx (.own x)) x (.ins C dx fs)) :=
  ((Same.refl H).new h2).new (show upd H dx (.own x) x = none by rw [upd_ne (Ne.symm h3)]; exact h1)
section
variable {P : Program} {w : World} {K : PySem.W.Frag} {mg : Str → Option Value} {base : Heap} {C_Pull C_Push C_Web C_TooWide C_FloorError C_TooMany C_TooRough : Addr}
structure TieCls (K : PySem.W.Frag) (CP CQ : Addr) : Prop where
  cp : Cls K CP
  cq : Cls K CQ
  p1 : NoAttr K CP "one"
  p2 : NoAttr K CP "two"
  p3 : NoAttr K CP "strength"
  q1 : NoAttr K CQ "one"
  q2 : NoAttr K CQ "two"
  q3 : NoAttr K CQ "strength"
theorem TieCls.cl (T : TieCls K C_Pull C_Push) (push : Bool) : Cls K (clsOf C_Pull C_Push push) := by cases push; exact T.cp; exact T.cq
theorem TieCls.n1 (T : TieCls K C_Pull C_Push) (push : Bool) : NoAttr K (clsOf C_Pull C_Push push) "one" := by cases push; exact T.p1; exact T.q1
theorem TieCls.n2 (T : TieCls K C_Pull C_Push) (push : Bool) : NoAttr K (clsOf C_Pull C_Push push) "two" := by cases push; exact T.p2; exact T.q2
theorem TieCls.n3 (T : TieCls K C_Pull C_Push) (push : Bool) : NoAttr K (clsOf C_Pull C_Push push) "strength" := by cases push; exact T.p3; exact T.q3
theorem Txt.tie {C_Pull C_Push C_Web C_TooWide C_FloorError C_TooMany C_TooRough : Addr} (T : Txt K mg C_Pull C_Push C_Web C_TooWide C_FloorError C_TooMany C_TooRough) : TieCls K C_Pull C_Push := ⟨T.cl_Pull, T.cl_Push, T.n_Pull_one, T.n_Pull_two, T.n_Pull_strength, T.n_Push_one, T.n_Push_two, T.n_Push_strength⟩
theorem w_t1 {H : Hp} {p : Addr} {t : Ti} {R : V → Prop} (T : TieCls K C_Pull C_Push) (hp : TieAt C_Pull C_Push H p t) (h : R (.int (t.one : Nat))) : ∃ a C' dx' fs' v', V.ref p = .ref a ∧ H a = some (.ins C' dx' fs') ∧ Cls K C' ∧ NoAttr K C' "one" ∧ fs'.lookup ("one" : Str) = some v' ∧ R v' := by
  obtain ⟨dx, e⟩ := hp
  exact ⟨p, _, dx, _, _, rfl, e, T.cl _, T.n1 _, tf_one _ _ _, h⟩
theorem w_t2 {H : Hp} {p : Addr} {t : Ti} {R : V → Prop} (T : TieCls K C_Pull C_Push) (hp : TieAt C_Pull C_Push H p t) (h : R (.int (t.two : Nat))) : ∃ a C' dx' fs' v', V.ref p = .ref a ∧ H a = some (.ins C' dx' fs') ∧ Cls K C' ∧ NoAttr K C' "two" ∧ fs'.lookup ("two" : Str) = some v' ∧ R v' := by
  obtain ⟨dx, e⟩ := hp
  exact ⟨p, _, dx, _, _, rfl, e, T.cl _, T.n2 _, tf_two _ _ _, h⟩
theorem w_t3 {H : Hp} {p : Addr} {t : Ti} {R : V → Prop} (T : TieCls K C_Pull C_Push) (hp : TieAt C_Pull C_Push H p t) (h : R (.int (t.s : Nat))) : ∃ a C' dx' fs' v', V.ref p = .ref a ∧ H a = some (.ins C' dx' fs') ∧ Cls K C' ∧ NoAttr K C' "strength" ∧ fs'.lookup ("strength" : Str) = some v' ∧ R v' := by
  obtain ⟨dx, e⟩ := hp
  exact ⟨p, _, dx, _, _, rfl, e, T.cl _, T.n3 _, tf_str _ _ _, h⟩
def spTInit (CP CQ : Addr) : Sp := fun vs H Q _ => ∃ (p dx : Addr) (t : Ti), vs = [.ref p, .int t.one, .int t.two, .int t.s] ∧ H p = some (.ins (clsOf CP CQ t.push) dx []) ∧ t.one ≠ t.two ∧ Q .non (upd H p (.ins (clsOf CP CQ t.push) dx (tf t.one t.two t.s)))
theorem ok_Tie___init__ {f : Addr} {fd : FuncData} (F : Fun K "__init__" "Tie.__init__" s_Tie___init__ f fd) (B : Bl mg) {C_Pull C_Push C_Web C_TooWide C_FloorError C_TooMany C_TooRough : Addr} (T : Txt K mg C_Pull C_Push C_Web C_TooWide C_FloorError C_TooMany C_TooRough) : HasFn P w K mg base CX0 1 f ["self", "one", "two", "strength"] (spTInit C_Pull C_Push) := by
  refine HasFn.mk' F (F.binds (ps := ["self", "one", "two", "strength"]) fun _ _ _ _ _ _ us hl => match us, hl with | [_, _, _, _], _ => rfl) sc_Tie___init__ (by walk_at "len") (fun cdv A outer s H vs Q E hr h => ?_)
  obtain ⟨p, dx, t, rfl, hp, hne, q⟩ := h
  refine ⟨_, (pss_cons (ps_if (PW.pt (pw_or (pt_cmpR op_eq (pv 1) (pv 2) (nomark _)) (pw_or (pt_cmpR op_lt (pv 1) pe_int (nomark _)) (pw_or (pt_cmpR op_lt (pv 2) pe_int (nomark _)) (pw_or1 (pt_cmpR op_lt (pv 3) pe_int (nomark _))))))) (pss_one ps_never) pss_nil)
 (pss_cons (ps_fld (pv 0) (pv 1) rfl)
 (pss_cons (ps_fld (pv 0) (pv 2) rfl)
 (pss_one (ps_fld (pv 0) (pv 3) rfl))))), ?_⟩
  walk_at "sts"
  refine w_sfq hp (T.tie.cl _) (T.tie.n1 _) (by show 0 < 1000; decide) ?_
  walk_at "sts"
  refine w_sfq upd_same (T.tie.cl _) (T.tie.n2 _) (by show 1 < 1000; decide) ?_
  walk_at "sts"
  refine w_sfq upd_same (T.tie.cl _) (T.tie.n3 _) (by show 2 < 1000; decide) ?_
  walk_at "sts"
  rw [tf_eq, upd_upd, upd_upd]
  exact q
end

/-! ### data of webs -/
def dRow (r : List Nat) : PyData := .list (r.map fun x : Nat => .int (x : Int))
def dRows (T : List (List Nat)) : PyData := .list (T.map dRow)
def iv (r : List Nat) : List V := r.map fun x : Nat => V.int (x : Int)
theorem iv_len (r : List Nat) : (iv r).length = r.length := by unfold iv; simp
theorem iv_at {r : List Nat} {i : Nat} (h : i < r.length) : (iv r)[i]? = some (.int ((r.getD i 0 : Nat) : Int)) := by
  unfold iv
  rw [List.getElem?_map, List.getD_eq_getElem?_getD, List.getElem?_eq_getElem h]
  rfl
theorem iv_app (r s : List Nat) : iv (r ++ s) = iv r ++ iv s := by unfold iv; simp
theorem take_snoc {l : List Nat} {i : Nat} (h : i < l.length) : l.take (i + 1) = l.take i ++ [l.getD i 0] := by
  rw [List.take_add_one, List.getElem?_eq_getElem h, List.getD_eq_getElem?_getD, List.getElem?_eq_getElem h]
  rfl
theorem iv_flat (r : List Nat) : (iv r).all flatV = true := by
  rw [List.all_eq_true]
  intro v hv
  obtain ⟨x, _, rfl⟩ := List.mem_map.mp hv
  rfl
theorem dpRowA {K : PySem.W.Frag} {H : Hp} {a : Addr} {r : List Nat} (h : Dp K H (.ref a) (dRow r)) : SqL K H a (iv r) := by
  obtain ⟨xs, h1, h2⟩ := dpLstA h
  have e := dpAll_ints (ns := r.map fun x : Nat => (x : Int)) (by rw [List.map_map]; exact h2)
  rw [List.map_map] at e
  have e2 : xs = iv r := e
  rw [← e2]
  exact h1
theorem dpRow {K : PySem.W.Frag} {H : Hp} {a : Addr} {r : List Nat} (h : SqL K H a (iv r)) : Dp K H (.ref a) (dRow r) := by
  have := dpInts (K := K) (H := H) (r.map fun x : Nat => (x : Int))
  rw [List.map_map, List.map_map] at this
  exact .lst h this
theorem goodRow (r : List Nat) : Good 1 (dRow r) := goodLst (goodMap fun _ => goodInt)
theorem goodRows (T : List (List Nat)) : Good 2 (dRows T) := goodLst (goodMap fun r => goodRow r)
theorem w_idx {K : PySem.W.Frag} {H : Hp} {Q : VK} {p : Addr} {r : List Nat} {x : Nat} (hs : SqL K H p (iv r)) (hx : x ∈ r) (h : Q (.int ((r.idxOf x : Nat) : Int)) H) : rIndex K (.ref p) [.int (x : Int)] H Q := by
  have hl : r.idxOf x < r.length := List.idxOf_lt_length_of_mem hx
  refine ⟨p, iv r, .int (x : Int), r.idxOf x, .int ((r.getD (r.idxOf x) 0 : Nat) : Int), rfl, rfl, hs, rfl, iv_flat r, iv_at hl, ?_, ?_, h⟩
  · have : r.getD (r.idxOf x) 0 = x := by
      rw [List.getD_eq_getElem?_getD, List.getElem?_eq_getElem hl]
      exact List.getElem_idxOf hl
    rw [this]
    simp [eqV]
  · intro m z' hm hz
    have hml : m < r.length := by omega
    rw [iv_at hml] at hz
    cases hz
    have hne : r.getD m 0 ≠ x := by
      rw [List.getD_eq_getElem?_getD, List.getElem?_eq_getElem hml]
      have := List.not_of_lt_findIdx (xs := r) (p := (· == x)) hm
      simpa using this
    show (((r.getD m 0 : Nat) : Int) == (x : Int)) = false
    rw [beq_eq_false_iff_ne]
    omega
theorem iv_map (r : List Nat) : iv r = (r.map fun x : Nat => (x : Int)).map V.int := by unfold iv; rw [List.map_map]; rfl

theorem dpRowsAt {K : PySem.W.Frag} {H : Hp} {xs : List V} {T : List (List Nat)} (h : DpAll K H xs (T.map dRow)) {i : Nat} (hi : i < T.length) : ∃ q, xs[i]? = some (.ref q) ∧ SqL K H q (iv (row T i)) := by
  obtain ⟨v, h1, h2⟩ := dpaGet (i := i) (d := dRow (row T i)) h (by
    rw [List.getElem?_map, row, List.getD_eq_getElem?_getD, List.getElem?_eq_getElem hi]
    rfl)
  obtain ⟨q, xs', rfl, _, _⟩ := dpLst h2
  exact ⟨q, h1, dpRowA h2⟩
def endsOf (ts : List Ti) : EdgL := ts.map fun t => (t.one, t.two)
theorem endsOf_len (ts : List Ti) : (endsOf ts).length = ts.length := by unfold endsOf; simp
def ti (ts : List Ti) (i : Nat) : Ti := ts.getD i ⟨false, 0, 0, 0⟩
theorem ti_at {ts : List Ti} {i : Nat} (h : i < ts.length) : ts[i]? = some (ti ts i) := by
  unfold ti
  rw [List.getD_eq_getElem?_getD, List.getElem?_eq_getElem h]
  rfl
theorem en_ti {ts : List Ti} {i : Nat} (h : i < ts.length) : en (endsOf ts) i = ((ti ts i).one, (ti ts i).two) := by
  unfold en endsOf
  rw [List.getD_eq_getElem?_getD, List.getElem?_map, ti_at h]
  rfl
section
variable {P : Program} {w : World} {K : PySem.W.Frag} {mg : Str → Option Value} {base : Heap} {C_Pull C_Push C_Web C_TooWide C_FloorError C_TooMany C_TooRough : Addr}
def spHead (K : PySem.W.Frag) (CP CQ : Addr) : Sp := fun vs H Q _ => ∃ (a : Addr) (d : Nat) (ts : List Ti), vs = [.ref a, .int d] ∧ TiesAt K CP CQ H a ts ∧ d < 2 * ts.length ∧ Q (.int (hd (endsOf ts) d : Nat)) H
theorem ok_head {f : Addr} {fd : FuncData} (F : Fun K "head" "head" s_head f fd) (gf : mg "head" = some (.ref f)) (B : Bl mg) {C_Pull C_Push C_Web C_TooWide C_FloorError C_TooMany C_TooRough : Addr} (T : Txt K mg C_Pull C_Push C_Web C_TooWide C_FloorError C_TooMany C_TooRough) : Has P w K mg base CX0 1 "head" ["ties", "dart"] (spHead K C_Pull C_Push) := by
  refine Has.mk' F gf (F.binds (ps := ["ties", "dart"]) fun _ _ _ _ _ _ us hl => match us, hl with | [_, _], _ => rfl) sc_head (by walk_at "len") (fun cdv A outer s H vs Q E hr h => ?_)
  obtain ⟨a, d, ts, rfl, ⟨ps, hS, hT⟩, hd', q⟩ := h
  obtain ⟨p, h1, h2⟩ := hT.get (ti_at (ts := ts) (i := d / 2) (by omega))
  unfold hd at q
  rw [en_ti (by omega)] at q
  refine ⟨_, (pss_cons (ps_if (pt_cmpR op_eq (pe_op op_mod (pv 1) pe_int) pe_int (nomark _)) (pss_one (ps_ret (pe_fldK K (pe_ix (ix_listK K) (pv 0) (pe_op op_fdivW (pv 1) pe_int) (fun _ _ => rfl)) rfl))) pss_nil)
 (pss_one (ps_ret (pe_fldK K (pe_ix (ix_listK K) (pv 0) (pe_op op_fdivW (pv 1) pe_int) (fun _ _ => rfl)) rfl)))), ?_⟩
  walk_at "sts"
  refine ifd (fun h => ?_) (fun h => ?_)
  · rw [if_pos (by omega)] at q
    walk_at "sts"
    refine w_t2 T.tie h2 ?_
    walk_at "sts"
    exact q
  · rw [if_neg (by omega)] at q
    walk_at "sts"
    refine w_t1 T.tie h2 ?_
    walk_at "sts"
    exact q
def spFol (K : PySem.W.Frag) (CP CQ : Addr) : Sp := fun vs H Q _ => ∃ (a b : Addr) (d : Nat) (ts : List Ti) (T : Turns), vs = [.ref a, .ref b, .int d] ∧ TiesAt K CP CQ H a ts ∧ Dp K H (.ref b) (dRows T) ∧ Ok (endsOf ts) T ∧ d < 2 * ts.length ∧ ts.length ≤ 1000 ∧ Q (.int (fol (endsOf ts) T d : Nat)) H
theorem ok_follower {f : Addr} {fd : FuncData} (F : Fun K "follower" "follower" s_follower f fd) (gf : mg "follower" = some (.ref f)) (B : Bl mg) {C_Pull C_Push C_Web C_TooWide C_FloorError C_TooMany C_TooRough : Addr} (T : Txt K mg C_Pull C_Push C_Web C_TooWide C_FloorError C_TooMany C_TooRough) (h_head : Has P w K mg base CX0 1 "head" ["ties", "dart"] (spHead K C_Pull C_Push)) : Has P w K mg base CX0 2 "follower" ["ties", "turns", "dart"] (spFol K C_Pull C_Push) := by
  refine Has.mk' F gf (F.binds (ps := ["ties", "turns", "dart"]) fun _ _ _ _ _ _ us hl => match us, hl with | [_, _, _], _ => rfl) sc_follower (by walk_at "len") (fun cdv A outer s H vs Q E hr h => ?_)
  obtain ⟨a, b, d, ts, Tu, rfl, hTi, hTu, ok, hd', hsz, q⟩ := h
  have hd2 : d < 2 * (endsOf ts).length := by rw [endsOf_len]; exact hd'
  obtain ⟨ps, hS, hT⟩ := id hTi
  obtain ⟨xs, hx, hX⟩ := dpLstA hTu
  obtain ⟨rq, hr1, hr2⟩ := dpRowsAt hX (ok.hd_lt hd2)
  have hm := ok.hd_mem hd2
  obtain ⟨hj, hjo⟩ := ok.nxt_mem' hd2
  rw [endsOf_len] at hj
  obtain ⟨p, h1, h2⟩ := hT.get (ti_at hj)
  unfold fol outOf at q
  rw [en_ti hj] at q
  have hl0 : 0 < (row Tu (hd (endsOf ts) d)).length := List.length_pos_of_mem hm
  have hn : atI (iv (row Tu (hd (endsOf ts) d))) ((((row Tu (hd (endsOf ts) d)).idxOf (d / 2) : Nat) : Int) + 1) = atI (iv (row Tu (hd (endsOf ts) d))) ((((row Tu (hd (endsOf ts) d)).idxOf (d / 2) : Nat) : Int) + 1) := rfl
  have hix : atI (iv (row Tu (hd (endsOf ts) d))) (((((row Tu (hd (endsOf ts) d)).idxOf (d / 2) : Nat) : Int) + 1) % ((iv (row Tu (hd (endsOf ts) d))).length : Int)) = some (.int ((nxt (row Tu (hd (endsOf ts) d)) (d / 2) : Nat) : Int)) := by
    rw [iv_len, show ((((row Tu (hd (endsOf ts) d)).idxOf (d / 2) : Nat) : Int) + 1) % ((row Tu (hd (endsOf ts) d)).length : Int) = (((row Tu (hd (endsOf ts) d)).idxOf (d / 2) + 1) % (row Tu (hd (endsOf ts) d)).length : Nat) by rw [Int.natCast_emod, Int.natCast_add]; rfl]
    exact atI_nat (iv_at (Nat.mod_lt _ hl0))
  have hpos : 0 < ((iv (row Tu (hd (endsOf ts) d))).length : Int) := by rw [iv_len]; omega
  refine ⟨_, (pss_cons (ps_set (i := 3) sc_follower.nd rfl (.inl rfl) (pe_fn h_head (hr.mono (by decide)) (by rfl) (pa_cons (pv 0) (pa_cons (pv 2) pa_nil))))
 (pss_cons (ps_set (i := 4) sc_follower.nd rfl (.inl rfl) (pe_ix (ix_listK K) (pv 1) (pv 3) (fun _ _ => rfl)))
 (pss_cons (ps_set (i := 5) sc_follower.nd rfl (.inl rfl) (pe_ix (ix_listK K) (pv 4) (pe_op op_mod (pe_op op_add (pe_bmK K (pe_bm PySem.F.plainAttrs_list PySem.F.slot_list_index PySem.F.type_list_index (mt_indexK K) (pv 4) (pa_cons (pe_op op_fdivW (pv 2) pe_int) pa_nil))) pe_int) (pe_callB (call_lenK K) (by rfl) B.len (by decide +kernel) (pa_cons (pv 4) pa_nil))) (fun _ _ => rfl)))
 (pss_cons (ps_if (pt_cmpR op_eq (pe_fldK K (pe_ix (ix_listK K) (pv 0) (pv 5) (fun _ _ => rfl)) rfl) (pv 3) (nomark _)) (pss_one (ps_ret (pe_op op_mulX pe_int (pv 5)))) pss_nil)
 (pss_one (ps_ret (pe_op op_add (pe_op op_mulX pe_int (pv 5)) pe_int))))))), ?_⟩
  walk_at "sts"
  refine ⟨a, d, ts, rfl, hTi, hd', ?_⟩
  walk_at "sts"
  refine w_idx hr2 hm ?_
  walk_at "sts"
  refine w_t1 T.tie h2 ?_
  walk_at "sts"
  refine ifd (fun h => ?_) (fun h => ?_)
  · rw [if_pos (by omega)] at q
    walk_at "sts"
    exact q
  · rw [if_neg (by omega)] at q
    walk_at "sts"
    exact q
def spRound (K : PySem.W.Frag) (CP CQ : Addr) : Sp := fun vs H Q _ => ∃ (a b : Addr) (x : Nat) (l : List Nat) (ts : List Ti) (T : Turns), vs = [.ref a, .ref b, .int x] ∧ TiesAt K CP CQ H a ts ∧ Dp K H (.ref b) (dRows T) ∧ Ok (endsOf ts) T ∧ ts.length ≤ 1000 ∧
  Path (fol (endsOf ts) T) x l x ∧ (x :: l).Nodup ∧ (∀ z ∈ x :: l, z < 2 * ts.length) ∧ ∀ p H', Same H H' → New H p → H' p = some (.lst (iv (x :: l))) → Q (.ref p) H'
theorem ok_round_from {f : Addr} {fd : FuncData} (F : Fun K "round_from" "round_from" s_round_from f fd) (gf : mg "round_from" = some (.ref f)) (B : Bl mg) {C_Pull C_Push C_Web C_TooWide C_FloorError C_TooMany C_TooRough : Addr} (T : Txt K mg C_Pull C_Push C_Web C_TooWide C_FloorError C_TooMany C_TooRough) (h_follower : Has P w K mg base CX0 2 "follower" ["ties", "turns", "dart"] (spFol K C_Pull C_Push)) : Has P w K mg base CX0 3 "round_from" ["ties", "turns", "first"] (spRound K C_Pull C_Push) := by
  refine Has.mk' F gf (F.binds (ps := ["ties", "turns", "first"]) fun _ _ _ _ _ _ us hl => match us, hl with | [_, _, _], _ => rfl) sc_round_from (by walk_at "len") (fun cdv A outer s H vs Q E hr h => ?_)
  obtain ⟨a, b, x, l, ts, Tu, rfl, hTi, hTu, ok, hsz, hp, hn, hlt, q⟩ := h
  have hll : l.length ≤ 2 * ts.length := by
    have := nodup_sub_len (ys := List.range (2 * ts.length)) hn fun z hz => List.mem_range.mpr (hlt z hz)
    simp at this
    omega
  have nx : ∀ i, i < l.length → l.getD i 0 ≠ x ∧ l.getD i 0 < 2 * ts.length := fun i hi => by
    have e : l.getD i 0 = l[i] := by rw [List.getD_eq_getElem?_getD, List.getElem?_eq_getElem hi]; rfl
    have hm : l[i] ∈ l := List.getElem_mem hi
    rw [e]
    exact ⟨fun q => (List.nodup_cons.mp hn).1 (q ▸ hm), hlt _ (List.mem_cons_of_mem _ hm)⟩
  have gx : ∀ i, (l ++ [x]).getD i 0 = if i < l.length then l.getD i 0 else if i = l.length then x else 0 := fun i => by
    rw [List.getD_eq_getElem?_getD, List.getD_eq_getElem?_getD]
    by_cases h : i < l.length
    · rw [if_pos h, List.getElem?_append_left h]
    · rw [if_neg h]
      by_cases h2 : i = l.length
      · rw [if_pos h2, h2, List.getElem?_append_right (Nat.le_refl _), Nat.sub_self]; rfl
      · rw [if_neg h2, List.getElem?_eq_none (by simp; omega)]; rfl
  refine ⟨_, (pss_cons (ps_set (i := 3) sc_round_from.nd rfl (.inl rfl) (pe_lst (pa_cons (pv 2) pa_nil)))
 (pss_cons (ps_set (i := 4) sc_round_from.nd rfl (.inl rfl) (pe_fn h_follower (hr.mono (by decide)) (by rfl) (pa_cons (pv 0) (pa_cons (pv 1) (pa_cons (pv 2) pa_nil)))))
 (pss_cons (ps_while PassesOwn.never (pt_cmpR op_ne (pv 4) (pv 2) (nomark _)) (pss_cons (ps_expr (pe_bmK K (pe_bm PySem.F.plainAttrs_list PySem.F.slot_list_append PySem.F.type_list_append mt_append (pv 3) (pa_cons (pv 4) pa_nil))))
 (pss_one (ps_set (i := 4) sc_round_from.nd rfl (.inl rfl) (pe_fn h_follower (hr.mono (by decide)) (by rfl) (pa_cons (pv 0) (pa_cons (pv 1) (pa_cons (pv 4) pa_nil))))))))
 (pss_one (ps_ret (pv 3)))))), ?_⟩
  walk_at "sts"
  refine w_new fun p1 n1 => ?_
  walk_at "sts"
  have s1 : Same H (upd H p1 (.lst [.int (x : Int)])) := by walk_at "same"
  refine ⟨a, b, x, ts, Tu, rfl, hTi.same s1, hTu.same s1, ok, hlt x List.mem_cons_self, hsz, ?_⟩
  have g0 := hp.get 0 (Nat.zero_le _)
  rw [show fol (endsOf ts) Tu x = (l ++ [x]).getD 0 0 from g0]
  walk_at "sts"
  refine ⟨fun k σ H' => ∃ i, i + k = l.length ∧ σ = [some (.ref a), some (.ref b), some (.int (x : Int)), some (.ref p1), some (.int (((l ++ [x]).getD i 0 : Nat) : Int))] ∧ Same H H' ∧ H' p1 = some (.lst (iv (x :: l.take i))), ⟨l.length, 0, by omega, rfl, s1, upd_same⟩, ?_⟩
  rintro k σ H' ⟨i, hi, rfl, s2, h1⟩
  walk_at "sts"
  rw [gx]
  by_cases hk : i < l.length
  · rw [if_pos hk]
    obtain ⟨n2, n3⟩ := nx i hk
    refine ifnd (fun _ => ?_) (fun h => absurd h (by omega))
    refine w_wt ?_
    have hsl : (iv (x :: l.take i)).length < sizeLine := szlt (by rw [iv_len]; simp; omega)
    walk_at "sts"
    have s3 : Same H (upd H' p1 (.lst (iv (x :: l.take i) ++ [.int ((l.getD i 0 : Nat) : Int)]))) := by walk_at "same"
    refine ⟨a, b, _, ts, Tu, rfl, hTi.same s3, hTu.same s3, ok, n3, hsz, ?_⟩
    have g1 := hp.get (i + 1) (by omega)
    rw [show fol (endsOf ts) Tu (l.getD i 0) = (l ++ [x]).getD (i + 1) 0 from g1]
    walk_at "sts"
    refine ⟨k - 1, by omega, i + 1, by omega, rfl, s3, ?_⟩
    rw [upd_same]
    rw [take_snoc hk, ← List.cons_append, iv_app]
    rfl
  · have e : i = l.length := by omega
    rw [if_neg hk, if_pos e]
    refine ifnd (fun h => absurd rfl h) (fun _ => ?_)
    walk_at "sts"
    rw [e, List.take_length] at h1
    exact q p1 H' s2 n1 h1
end
section
variable {P : Program} {w : World} {K : PySem.W.Frag} {mg : Str → Option Value} {base : Heap} {C_Pull C_Push C_Web C_TooWide C_FloorError C_TooMany C_TooRough : Addr}
def spRounds (K : PySem.W.Frag) (CP CQ : Addr) : Sp := fun vs H Q _ => ∃ (a b : Addr) (ts : List Ti) (T : Turns) (F : List (List Nat)), vs = [.ref a, .ref b] ∧ TiesAt K CP CQ H a ts ∧ Dp K H (.ref b) (dRows T) ∧ Ok (endsOf ts) T ∧ ts.length ≤ 1000 ∧ Rings (fol (endsOf ts) T) (2 * ts.length) F ∧
  ∀ p H' R, Same H H' → New H p → (∃ xs G, H' p = some (.lst xs) ∧ Same H G ∧ Same G H' ∧ New G p ∧ DpAll K G xs (R.map dRow)) → Canon (fol (endsOf ts) T) (2 * ts.length) R → Q (.ref p) H'
theorem ok_rounds_of {f : Addr} {fd : FuncData} (F : Fun K "rounds_of" "rounds_of" s_rounds_of f fd) (gf : mg "rounds_of" = some (.ref f)) (B : Bl mg) {C_Pull C_Push C_Web C_TooWide C_FloorError C_TooMany C_TooRough : Addr} (T : Txt K mg C_Pull C_Push C_Web C_TooWide C_FloorError C_TooMany C_TooRough) (h_round_from : Has P w K mg base CX0 3 "round_from" ["ties", "turns", "first"] (spRound K C_Pull C_Push)) : Has P w K mg base CX0 4 "rounds_of" ["ties", "turns"] (spRounds K C_Pull C_Push) := by
  refine Has.mk' F gf (F.binds (ps := ["ties", "turns"]) fun _ _ _ _ _ _ us hl => match us, hl with | [_, _], _ => rfl) sc_rounds_of (by walk_at "len") (fun cdv A outer s H vs Q E hr h => ?_)
  obtain ⟨a, b, ts, Tu, F, rfl, hTi, hTu, ok, hsz, hF, q⟩ := h
  obtain ⟨ps, hS, hT⟩ := id hTi
  have hpl : (ps.map V.ref).length = ts.length := by rw [List.length_map]; exact hT.1
  refine ⟨_, (pss_cons (ps_set (i := 2) sc_rounds_of.nd rfl (.inl rfl) (pe_lst pa_nil))
 (pss_cons (ps_set (i := 3) sc_rounds_of.nd rfl (.inl rfl) pe_dnewK)
 (pss_cons (ps_for PassesOwn.never rfl (pi_range1 (by rfl) B.range (pa_cons (pe_op op_mulX pe_int (pe_callB (call_lenK K) (by rfl) B.len (by decide +kernel) (pa_cons (pv 0) pa_nil))) pa_nil)) (pg_name (i := 4) sc_rounds_of.nd rfl (.inl rfl)) (pss_one (ps_if (pt_cmp (pc_dnotin (hu_of hr) (pv 4) (pv 3))) (pss_cons (ps_set (i := 5) sc_rounds_of.nd rfl (.inl rfl) (pe_fn h_round_from (hr.mono (by decide)) (by rfl) (pa_cons (pv 0) (pa_cons (pv 1) (pa_cons (pv 4) pa_nil)))))
 (pss_cons (ps_for PassesOwn.never rfl (pi_listK K (pv 5)) (pg_name (i := 6) sc_rounds_of.nd rfl (.inl rfl)) (pss_one (ps_dput (hu_of hr) (pv 3) (pv 6) pe_bl rfl)))
 (pss_one (ps_expr (pe_bmK K (pe_bm PySem.F.plainAttrs_list PySem.F.slot_list_append PySem.F.type_list_append mt_append (pv 2) (pa_cons (pv 5) pa_nil))))))) pss_nil)))
 (pss_one (ps_ret (pv 2)))))), ?_⟩
  walk_at "sts"
  refine w_new fun p1 n1 => ?_
  walk_at "sts"
  refine w_new fun p2 n2 => ?_
  walk_at "sts"
  have n12 : p1 ≠ p2 := ne_new upd_same n2
  have s0 : Same H (upd (upd H p1 (.lst [])) p2 (.dK [])) := by walk_at "same"
  have hS0 := s0.seq hS
  have m1 : New H p2 := n2.of (by walk_at "same")
  have hE : (endsOf ts).length = ts.length := endsOf_len ts
  walk_at "sts"
  refine for_r0 (n := 2 * ts.length) ?_ (fun i σ H' => ∃ (R : List (List Nat)) (xs : List V) (G : Hp) (kvs : List (Key × V)) (y4 y5 y6 : Option V), σ = [some (.ref a), some (.ref b), some (.ref p1), some (.ref p2), y4, y5, y6] ∧ Pre (fol (endsOf ts) Tu) (2 * ts.length) i R ∧
    H' p1 = some (.lst xs) ∧ H' p2 = some (.dK kvs) ∧ Holds kvs R.flatten (fun _ => .bl true) ∧ Same H G ∧ Same G H' ∧ New G p1 ∧ New G p2 ∧ DpAll K G xs (R.map dRow)) ?_ ?_ ?_
  · rw [hpl]; omega
  · exact ⟨[], [], H, [], _, _, _, rfl, Pre.zero, by walk_at "hp", upd_same, Holds.nil, Same.refl _, s0, n1, m1, .nil⟩
  · rintro i σ H' hi ⟨R, xs, G, kvs, y4, y5, y6, rfl, hP, h1, h2, hK, sG, sG', g1, g2, hD⟩
    have hfl : R.flatten.length ≤ 2 * ts.length := by
      have := nodup_sub_len (ys := List.range (2 * ts.length)) hP.nd fun z hz => List.mem_range.mpr (hP.lt z hz)
      simpa using this
    have hxl : xs.length = R.length := by have := dpaLen hD; simpa using this
    walk_at "sts"
    rw [hK.2]
    by_cases hin : i ∈ R.flatten
    · rw [if_pos hin]
      refine ifF rfl ?_
      walk_at "sts"
      exact ⟨R, xs, G, kvs, _, _, _, rfl, hP.skip hin, h1, h2, hK, sG, sG', g1, g2, hD⟩
    · rw [if_neg hin]
      refine ifT rfl ?_
      walk_at "sts"
      obtain ⟨A, r, B', l, eF, hp, pth⟩ := hF.at hi
      have hrF : r ∈ F := by rw [eF]; simp
      have hnr : (i :: l).Nodup := by
        rw [hp.nodup_iff]
        exact hF.nd.sublist (List.sublist_flatten_of_mem hrF)
      have hlt : ∀ z ∈ i :: l, z < 2 * ts.length := fun z hz => hF.mem.mp (List.mem_flatten.mpr ⟨r, hrF, hp.mem_iff.mp hz⟩)
      have sH : Same H H' := sG.trans sG'
      refine ⟨a, b, i, l, ts, Tu, rfl, hTi.same sH, hTu.same sH, ok, hsz, pth, hnr, hlt, fun p3 H2 s2 n3 h3 => ?_⟩
      obtain ⟨hP2, dis⟩ := hP.add hin pth hnr hlt
      have n3G : New G p3 := n3.of sG'
      have q13 : p1 ≠ p3 := ne_new h1 n3
      have q23 : p2 ≠ p3 := ne_new h2 n3
      have sG2 : Same G (upd G p3 (.lst (iv (i :: l)))) := (Same.refl G).new n3G
      have sG3 : Same (upd G p3 (.lst (iv (i :: l)))) H2 := (sG'.trans s2).add h3
      have g12 : New (upd G p3 (.lst (iv (i :: l)))) p1 := g1.upd q13
      have g22 : New (upd G p3 (.lst (iv (i :: l)))) p2 := g2.upd q23
      have hD2 : DpAll K (upd G p3 (.lst (iv (i :: l)))) (xs ++ [.ref p3]) ((R ++ [i :: l]).map dRow) := by
        rw [List.map_append]
        exact dpaApp (hD.same sG2) (.cons (dpRow (SqL.of upd_same)) .nil)
      have hl2 : (i :: l).length ≤ 2 * ts.length := by
        have := nodup_sub_len (ys := List.range (2 * ts.length)) hnr fun z hz => List.mem_range.mpr (hlt z hz)
        simpa using this
      generalize hGG : upd G p3 (.lst (iv (i :: l))) = G2 at sG2 sG3 g12 g22 hD2
      have gp3 : G2 p3 = some (.lst (iv (i :: l))) := by rw [← hGG]; exact upd_same
      walk_at "sts"
      refine for_list (xs := iv (i :: l)) (fun j σ H3 => ∃ (kvs : List (Key × V)) (y6 : Option V), σ = [some (.ref a), some (.ref b), some (.ref p1), some (.ref p2), some (.int (i : Nat)), some (.ref p3), y6] ∧ H3 p1 = some (.lst xs) ∧ H3 p2 = some (.dK kvs) ∧ Holds kvs (R.flatten ++ (i :: l).take j) (fun _ => .bl true) ∧ Same G2 H3) ?_ ?_ ?_ ?_
      · exact ⟨kvs, _, rfl, s2 _ _ h1, s2 _ _ h2, by simpa using hK, sG3⟩
      · rintro j σ H3 _ ⟨kvs, y6, _, _, _, _, s4⟩
        exact SqL.of (s4 _ _ gp3)
      · rintro j x σ H3 hx ⟨kvs, y6, rfl, h1, h2, hK, s4⟩
        have hj : j < (i :: l).length := by
          have := (List.getElem?_eq_some_iff.mp hx).1
          rwa [iv_len] at this
        rw [iv_at hj] at hx
        cases hx
        have hkl : kvs.length < 1000000 := by
          have := hK.1
          rw [List.length_append, List.length_take] at this
          omega
        walk_at "sts"
        refine ⟨_, _, rfl, by walk_at "hp", upd_same, ?_, by walk_at "same"⟩
        rw [take_snoc hj, ← List.append_assoc]
        exact hK.put _
      · rintro σ H3 ⟨kvs, y6, rfl, h1, h2, hK, s4⟩
        rw [iv_len, List.take_length] at hK
        have hxs : xs.length < 1000000 := by
          have : R.length ≤ R.flatten.length := by
            have hne : ∀ r ∈ R, 1 ≤ r.length := fun r hr => by obtain ⟨x, l', rfl, _⟩ := hP.ok r hr; simp
            exact flatten_ge hne
          omega
        walk_at "sts"
        refine ⟨R ++ [i :: l], _, G2, kvs, _, _, _, rfl, hP2, upd_same, ?_, ?_, sG.trans sG2, by walk_at "same", g12, g22, hD2⟩
        · rw [upd_ne (Ne.symm n12)]; exact h2
        · rw [List.flatten_append, List.flatten_singleton]; exact hK
  · rintro σ H' ⟨R, xs, G, kvs, y4, y5, y6, rfl, hP, h1, h2, hK, sG, sG', g1, g2, hD⟩
    walk_at "sts"
    exact q p1 H' R (sG.trans sG') n1 ⟨xs, G, h1, sG, sG', g1, hD⟩ hP.done
end
/-! ### the rest of a web's making -/
section
variable {P : Program} {w : World} {K : PySem.W.Frag} {mg : Str → Option Value} {base : Heap} {C_Pull C_Push C_Web C_TooWide C_FloorError C_TooMany C_TooRough : Addr}
def spEndsOk (K : PySem.W.Frag) (CP CQ : Addr) : Sp := fun vs H Q _ => ∃ (m : Nat) (a : Addr) (ts : List Ti), vs = [.int m, .ref a] ∧ TiesAt K CP CQ H a ts ∧ (∀ i, i < ts.length → (ti ts i).one < m ∧ (ti ts i).two < m) ∧ Q (.bl true) H
theorem ok_ends_are_places {f : Addr} {fd : FuncData} (F : Fun K "ends_are_places" "ends_are_places" s_ends_are_places f fd) (gf : mg "ends_are_places" = some (.ref f)) (B : Bl mg) {C_Pull C_Push C_Web C_TooWide C_FloorError C_TooMany C_TooRough : Addr} (T : Txt K mg C_Pull C_Push C_Web C_TooWide C_FloorError C_TooMany C_TooRough) : Has P w K mg base CX0 1 "ends_are_places" ["many", "ties"] (spEndsOk K C_Pull C_Push) := by
  refine Has.mk' F gf (F.binds (ps := ["many", "ties"]) fun _ _ _ _ _ _ us hl => match us, hl with | [_, _], _ => rfl) sc_ends_are_places (by walk_at "len") (fun cdv A outer s H vs Q E hr h => ?_)
  obtain ⟨m, a, ts, rfl, ⟨ps, hS, hT⟩, hb, q⟩ := h
  refine ⟨_, (pss_cons (ps_for PassesOwn.never rfl (pi_listK K (pv 1)) (pg_name (i := 2) sc_ends_are_places.nd rfl (.inl rfl)) (pss_one (ps_if (PW.pt (pw_or (pt_cmpR op_ge (pe_fldK K (pv 2) rfl) (pv 0) (nomark _)) (pw_or1 (pt_cmpR op_ge (pe_fldK K (pv 2) rfl) (pv 0) (nomark _))))) (pss_one (ps_ret pe_bl)) pss_nil)))
 (pss_one (ps_ret pe_bl))), ?_⟩
  walk_at "sts"
  refine for_list (xs := ps.map V.ref) (fun i σ H' => ∃ y, σ = [some (.int m), some (.ref a), y] ∧ H' = H) ?_ ?_ ?_ ?_
  · exact ⟨_, rfl, rfl⟩
  · rintro i σ H' _ ⟨y, rfl, rfl⟩
    exact hS
  · rintro i x σ H' hx ⟨y, rfl, rfl⟩
    rw [List.getElem?_map] at hx
    obtain ⟨p, hp, rfl⟩ := Option.map_eq_some_iff.mp hx
    have hi : i < ts.length := by rw [← hT.1]; exact (List.getElem?_eq_some_iff.mp hp).1
    have ht := hT.2 i p _ hp (ti_at hi)
    obtain ⟨b1, b2⟩ := hb i hi
    walk_at "sts"
    refine w_t1 T.tie ht ?_
    walk_at "sts"
    refine w_t2 T.tie ht ?_
    walk_at "sts"
    exact ⟨_, rfl, rfl⟩
  · rintro σ H' ⟨y, rfl, rfl⟩
    walk_at "sts"
    exact q
/-- a list of lists of numbers, each of which may change -/
structure LL (H : Hp) (a : Addr) (qs : List Addr) (T : List (List Nat)) : Prop where
  top : H a = some (.lst (qs.map V.ref))
  len : qs.length = T.length
  nd : qs.Nodup
  row : ∀ (i : Nat) (q : Addr), qs[i]? = some q → H q = some (.lst (iv (row T i)))
  ne : a ∉ qs
theorem LL.same {H H' : Hp} {a : Addr} {qs : List Addr} {T : List (List Nat)} (h : LL H a qs T) (e : Same H H') : LL H' a qs T := ⟨e _ _ h.top, h.len, h.nd, fun i q hq => e _ _ (h.row i q hq), h.ne⟩
theorem LL.get {H : Hp} {a : Addr} {qs : List Addr} {T : List (List Nat)} (h : LL H a qs T) {i : Nat} (hi : i < T.length) : ∃ q, qs[i]? = some q ∧ (qs.map V.ref)[i]? = some (.ref q) ∧ H q = some (.lst (iv (Sf.row T i))) := by
  have hl : i < qs.length := by rw [h.len]; exact hi
  refine ⟨qs[i], List.getElem?_eq_getElem hl, by rw [List.getElem?_map, List.getElem?_eq_getElem hl]; rfl, h.row i _ (List.getElem?_eq_getElem hl)⟩
theorem LL.set {H : Hp} {a q : Addr} {qs : List Addr} {T : List (List Nat)} (h : LL H a qs T) {i : Nat} (hi : i < T.length) (hq : qs[i]? = some q) (r : List Nat) : LL (upd H q (.lst (iv r))) a qs (T.set i r) := by
  have hm : q ∈ qs := List.mem_of_getElem? hq
  have hqa : a ≠ q := fun e => h.ne (by rw [e]; exact hm)
  refine ⟨by rw [upd_ne hqa]; exact h.top, by rw [h.len, List.length_set], h.nd, fun j q' hj => ?_, h.ne⟩
  rw [row_set T r hi]
  by_cases e : j = i
  · subst e
    rw [hq] at hj
    cases hj
    rw [upd_same, if_pos rfl]
  · rw [if_neg e, upd_ne, h.row j q' hj]
    intro z
    subst z
    exact e (nd_ix h.nd hj hq)
theorem LL.push {H : Hp} {a q : Addr} {qs : List Addr} {T : List (List Nat)} (h : LL H a qs T) {r : List Nat} (hq : H q = some (.lst (iv r))) (n1 : q ∉ qs) (n2 : q ≠ a) : LL (upd H a (.lst ((qs ++ [q]).map V.ref))) a (qs ++ [q]) (T ++ [r]) := by
  refine ⟨upd_same, by simp [h.len], ?_, fun i q' hi => ?_, ?_⟩
  · exact List.nodup_append.mpr ⟨h.nd, by simp, fun x hx y hy e => by
      have e2 : y = q := by simpa using hy
      subst e2
      subst e
      exact n1 hx⟩
  · rw [row_push]
    by_cases e : i < qs.length
    · rw [List.getElem?_append_left e] at hi
      rw [if_neg (by rw [← h.len]; omega), upd_ne, h.row i q' hi]
      intro z
      subst z
      exact h.ne (List.mem_of_getElem? hi)
    · have e2 : i = qs.length := by
        have := (List.getElem?_eq_some_iff.mp hi).1
        simp at this
        omega
      subst e2
      rw [List.getElem?_append_right (Nat.le_refl _), Nat.sub_self] at hi
      simp at hi
      subst hi
      rw [if_pos h.len, upd_ne n2, hq]
  · intro z
    rcases List.mem_append.mp z with z | z
    · exact h.ne z
    · have : a = q := by simpa using z
      exact n2 this.symm
theorem LL.dpa {K : PySem.W.Frag} {H : Hp} {a : Addr} {qs : List Addr} {T : List (List Nat)} (h : LL H a qs T) : DpAll K H (qs.map V.ref) (T.map dRow) := by
  have go : ∀ (qs : List Addr) (T : List (List Nat)), qs.length = T.length → (∀ (i : Nat) (q : Addr), qs[i]? = some q → H q = some (.lst (iv (Sf.row T i)))) → DpAll K H (qs.map V.ref) (T.map dRow) := by
    intro qs
    induction qs with
    | nil => intro T hl _; cases T with
      | nil => exact .nil
      | cons _ _ => simp at hl
    | cons q qs ih =>
      intro T hl hr
      cases T with
      | nil => simp at hl
      | cons r T => exact .cons (dpRow (SqL.of (hr 0 q rfl))) (ih T (by simpa using hl) fun i q' hi => hr (i + 1) q' (by simpa using hi))
  exact go qs T h.len h.row
theorem LL.dp {K : PySem.W.Frag} {H : Hp} {a : Addr} {qs : List Addr} {T : List (List Nat)} (h : LL H a qs T) : Dp K H (.ref a) (dRows T) := .lst (SqL.of h.top) h.dpa
/-- the ties at p, below i -/
def atP (E : EdgL) (p i : Nat) : List Nat := (List.range i).filter fun k => (en E k).1 == p || (en E k).2 == p
def ownT (E : EdgL) (m i : Nat) : List (List Nat) := (List.range m).map fun p => atP E p i
theorem ownT_row {E : EdgL} {m i p : Nat} (h : p < m) : row (ownT E m i) p = atP E p i := by
  unfold row ownT
  rw [List.getD_eq_getElem?_getD, map_at h]
  rfl
theorem atP_succ (E : EdgL) (p i : Nat) : atP E p (i + 1) = if (en E i).1 = p ∨ (en E i).2 = p then atP E p i ++ [i] else atP E p i := by
  unfold atP
  rw [List.range_succ, List.filter_append]
  by_cases h : (en E i).1 = p ∨ (en E i).2 = p
  · rw [if_pos h]
    simp [h]
  · rw [if_neg h]
    have : ¬ (en E i).1 = p ∧ ¬ (en E i).2 = p := by omega
    simp [this]
theorem ownT_step {E : EdgL} {m i : Nat} (h1 : (en E i).1 < m) (h2 : (en E i).2 < m) (hne : (en E i).1 ≠ (en E i).2) :
    ((ownT E m i).set (en E i).1 (atP E (en E i).1 i ++ [i])).set (en E i).2 (atP E (en E i).2 i ++ [i]) = ownT E m (i + 1) := by
  unfold ownT
  rw [map_set, map_set]
  refine List.map_congr_left fun p _ => ?_
  rw [atP_succ]
  by_cases a : p = (en E i).2
  · rw [if_pos a, if_pos (.inr a.symm), a]
  · rw [if_neg a]
    by_cases b : p = (en E i).1
    · rw [if_pos b, if_pos (.inl b.symm), b]
    · rw [if_neg b, if_neg (by omega)]
theorem sorted_own {E : EdgL} {T : Turns} (ok : Ok E T) {p : Nat} (hp : p < T.length) {ns : List Int} (h1 : ns.Perm ((row T p).map fun x : Nat => (x : Int))) (h2 : ns.Pairwise (· ≤ ·)) : ns = (atP E p E.length).map fun x : Nat => (x : Int) := by
  have n2 : (atP E p E.length).Nodup := List.Pairwise.filter _ List.nodup_range
  have pm : ((row T p).map fun x : Nat => (x : Int)).Perm ((atP E p E.length).map fun x : Nat => (x : Int)) := by
    refine List.Perm.map _ (perm_of_nodup (ok.nd p hp) n2 fun a => ?_)
    rw [ok.mem p hp]
    unfold atP
    simp
  have s2 : ((atP E p E.length).map fun x : Nat => (x : Int)).Pairwise (· ≤ ·) := by
    rw [List.pairwise_map]
    refine List.Pairwise.imp ?_ (List.Pairwise.filter _ List.pairwise_lt_range)
    intro a b h
    omega
  exact List.Perm.eq_of_pairwise (fun a b _ _ h1 h2 => Int.le_antisymm h1 h2) h2 s2 (h1.trans pm)
end

theorem row_rep (n i : Nat) : row (List.replicate n []) i = [] := by
  unfold row
  rw [List.getD_eq_getElem?_getD, List.getElem?_replicate]
  split <;> rfl
section
variable {P : Program} {w : World} {K : PySem.W.Frag} {mg : Str → Option Value} {base : Heap} {C_Pull C_Push C_Web C_TooWide C_FloorError C_TooMany C_TooRough : Addr}
def spTurnsOk (K : PySem.W.Frag) (CP CQ : Addr) : Sp := fun vs H Q _ => ∃ (a b : Addr) (ts : List Ti) (T : Turns), vs = [.int T.length, .ref a, .ref b] ∧ TiesAt K CP CQ H a ts ∧ Dp K H (.ref b) (dRows T) ∧ Ok (endsOf ts) T ∧ ts.length ≤ 1000 ∧ T.length ≤ 1000 ∧ ∀ H', Same H H' → Q (.bl true) H'
theorem ok_turns_are_right {f : Addr} {fd : FuncData} (F : Fun K "turns_are_right" "turns_are_right" s_turns_are_right f fd) (gf : mg "turns_are_right" = some (.ref f)) (B : Bl mg) {C_Pull C_Push C_Web C_TooWide C_FloorError C_TooMany C_TooRough : Addr} (T : Txt K mg C_Pull C_Push C_Web C_TooWide C_FloorError C_TooMany C_TooRough) : Has P w K mg base CX0 1 "turns_are_right" ["many", "ties", "turns"] (spTurnsOk K C_Pull C_Push) := by
  refine Has.mk' F gf (F.binds (ps := ["many", "ties", "turns"]) fun _ _ _ _ _ _ us hl => match us, hl with | [_, _, _], _ => rfl) sc_turns_are_right (by walk_at "len") (fun cdv A outer s H vs Q E hr h => ?_)
  obtain ⟨a, b, ts, Tu, rfl, hTi, hTu, ok, hsz, hsz2, q⟩ := h
  obtain ⟨ps, hS, hT⟩ := id hTi
  obtain ⟨xs, hx, hX⟩ := dpLstA hTu
  have hxl : xs.length = Tu.length := by have := dpaLen hX; simpa using this
  have hpl : (ps.map V.ref).length = ts.length := by rw [List.length_map]; exact hT.1
  have hE : (endsOf ts).length = ts.length := endsOf_len ts
  refine ⟨_, (pss_cons (ps_if (pt_cmpR op_ne (pe_callB (call_lenK K) (by rfl) B.len (by decide +kernel) (pa_cons (pv 2) pa_nil)) (pv 0) (nomark _)) (pss_one (ps_ret pe_bl)) pss_nil)
 (pss_cons (ps_setLc (i := 4) (own := [("place", 3)]) rfl sc_turns_are_right.nd rfl rfl (sw_true rfl rfl rfl (by decide +kernel)) (pi_range1 (by rfl) B.range (pa_cons (pv 0) pa_nil)) (blkOk_by (own := [("place", 3)]) (N := ["many", "ties", "turns", "place", "own", "i"]) (sc := defScope s_turns_are_right) (by decide +kernel)) (fun _ _ _ _ _ => pg_name (i := 3) sc_turns_are_right.nd rfl (Or.inl rfl)) (fun _ _ _ _ _ => pts_nil) (fun _ _ _ _ _ => (pe_lst pa_nil)))
 (pss_cons (ps_for PassesOwn.never rfl (pi_range1 (by rfl) B.range (pa_cons (pe_callB (call_lenK K) (by rfl) B.len (by decide +kernel) (pa_cons (pv 1) pa_nil)) pa_nil)) (pg_name (i := 5) sc_turns_are_right.nd rfl (.inl rfl)) (pss_cons (ps_expr (pe_bmK K (pe_bm PySem.F.plainAttrs_list PySem.F.slot_list_append PySem.F.type_list_append mt_append (pe_ix (ix_listK K) (pv 4) (pe_fldK K (pe_ix (ix_listK K) (pv 1) (pv 5) (fun _ _ => rfl)) rfl) (fun _ _ => rfl)) (pa_cons (pv 5) pa_nil))))
 (pss_one (ps_expr (pe_bmK K (pe_bm PySem.F.plainAttrs_list PySem.F.slot_list_append PySem.F.type_list_append mt_append (pe_ix (ix_listK K) (pv 4) (pe_fldK K (pe_ix (ix_listK K) (pv 1) (pv 5) (fun _ _ => rfl)) rfl) (fun _ _ => rfl)) (pa_cons (pv 5) pa_nil)))))))
 (pss_cons (ps_for PassesOwn.never rfl (pi_range1 (by rfl) B.range (pa_cons (pv 0) pa_nil)) (pg_name (i := 3) sc_turns_are_right.nd rfl (.inl rfl)) (pss_one (ps_if (pt_cmpR (op_neDK K hr.units) (pe_callB (cr_sortedIK K) (by rfl) B.sorted (by decide +kernel) (pa_cons (pe_ix (ix_listK K) (pv 2) (pv 3) (fun _ _ => rfl)) pa_nil)) (pe_ix (ix_listK K) (pv 4) (pv 3) (fun _ _ => rfl)) (nomark _)) (pss_one (ps_ret pe_bl)) pss_nil)))
 (pss_one (ps_ret pe_bl)))))), ?_⟩
  walk_at "sts"
  intro D nD
  refine lc_r0 (n := Tu.length) rfl (fun i H' => ∃ qs, LL H' D qs (List.replicate i []) ∧ Same H H' ∧ ∀ q ∈ qs, New H q) ?_ ?_ ?_
  · exact ⟨[], ⟨upd_same, rfl, List.nodup_nil, fun i q h => by simp at h, by simp⟩, by walk_at "same", fun q h => by simp at h⟩
  · rintro i H' hi ⟨qs, hL, s1, hN⟩
    walk_at "sts"
    refine w_new fun q nq => ?_
    have hql : qs.length = i := by rw [hL.len]; simp
    have s2 : Same H' (upd H' q (.lst [])) := by walk_at "same"
    have nq1 : q ∉ qs := fun z => by
      obtain ⟨j, hj, e⟩ := List.mem_iff_getElem.mp z
      have := hL.row j q (by rw [List.getElem?_eq_getElem hj, e])
      exact ne_new this nq rfl
    have nq2 : q ≠ D := Ne.symm (ne_new hL.top nq)
    refine ⟨qs.map V.ref, by rw [upd_ne (Ne.symm nq2)]; exact hL.top, by walk_at "szlt", qs ++ [q], ?_, ?_, ?_⟩
    · have := (hL.same s2).push (r := []) (q := q) upd_same nq1 nq2
      rw [List.map_append] at this
      rw [List.replicate_succ']
      exact this
    · exact (s1.trans s2).mut nD
    · intro z hz
      rcases List.mem_append.mp hz with hz | hz
      · exact hN z hz
      · have : z = q := by simpa using hz
        rw [this]; exact nq.of s1
  · rintro H1 ⟨qs, hL, s1, hN⟩
    walk_at "sts"
    have hL0 : LL H1 D qs (ownT (endsOf ts) Tu.length 0) := by
      have e : ownT (endsOf ts) Tu.length 0 = List.replicate Tu.length [] := by
        unfold ownT atP
        apply List.ext_getElem
        · simp
        · intro i h1 h2; simp
      rw [e]; exact hL
    refine for_r0 (n := ts.length) (by rw [hpl]) (fun i σ H' => ∃ (y3 y5 : Option V), σ = [some (.int (Tu.length : Nat)), some (.ref a), some (.ref b), y3, some (.ref D), y5] ∧ LL H' D qs (ownT (endsOf ts) Tu.length i) ∧ Same H H') ?_ ?_ ?_
    · exact ⟨_, _, rfl, hL0, s1⟩
    · rintro i σ H' hi ⟨y3, y5, rfl, hL, s2⟩
      have hS2 := s2.seq hS
      obtain ⟨p, hp1, hp2⟩ := (hT.same s2).get (ti_at hi)
      obtain ⟨e1, e2, e3⟩ := ok.ends i (by omega)
      rw [en_ti hi] at e1 e2 e3
      have hlen : (ownT (endsOf ts) Tu.length i).length = Tu.length := by unfold ownT; simp
      obtain ⟨q1, g1, g1', g1''⟩ := hL.get (i := (ti ts i).one) (by rw [hlen]; exact e2)
      rw [ownT_row e2] at g1''
      have hal : ∀ p, (iv (atP (endsOf ts) p i)).length < sizeLine := fun p => szlt (by
        rw [iv_len]
        have : (atP (endsOf ts) p i).length ≤ i := by
          unfold atP
          refine Nat.le_trans (List.length_filter_le _ _) (by simp)
        omega)
      have hal1 := hal (ti ts i).one
      have hal2 := hal (ti ts i).two
      have htop := SqL.of (K := K) hL.top
      walk_at "sts"
      refine w_t1 T.tie hp2 ?_
      walk_at "sts"
      have s3 := s2.mut (o := .lst (iv (atP (endsOf ts) (ti ts i).one i) ++ [.int (i : Nat)])) (hN q1 (List.mem_of_getElem? g1))
      have hL2 := hL.set (i := (ti ts i).one) (by rw [hlen]; exact e2) g1 (atP (endsOf ts) (ti ts i).one i ++ [i])
      rw [iv_app] at hL2
      have hS3 := s3.seq hS
      have hp3 := (hT.same s3).2 i p _ (by have := hp1; rw [List.getElem?_map] at this; cases h : ps[i]? with
        | none => rw [h] at this; cases this
        | some z => rw [h] at this; cases this; rfl) (ti_at hi)
      obtain ⟨q2, f1, f1', f1''⟩ := hL2.get (i := (ti ts i).two) (by rw [List.length_set, hlen]; exact e3)
      rw [row_set _ _ (by rw [hlen]; exact e2), if_neg (Ne.symm e1), ownT_row e3] at f1''
      have htop2 := SqL.of (K := K) hL2.top
      walk_at "sts"
      refine w_t2 T.tie hp3 ?_
      walk_at "sts"
      refine ⟨_, _, rfl, ?_, ?_⟩
      · have := hL2.set (i := (ti ts i).two) (by rw [List.length_set, hlen]; exact e3) f1 (atP (endsOf ts) (ti ts i).two i ++ [i])
        rw [iv_app] at this
        have st := ownT_step (E := endsOf ts) (m := Tu.length) (i := i) (by rw [en_ti hi]; exact e2) (by rw [en_ti hi]; exact e3) (by rw [en_ti hi]; exact e1)
        rw [en_ti hi] at st
        rw [st] at this
        exact this
      · exact s3.mut (hN q2 (List.mem_of_getElem? f1))
    · rintro σ H' ⟨y3, y5, rfl, hL, s2⟩
      walk_at "sts"
      refine for_r0 (n := Tu.length) rfl (fun i σ H'' => ∃ (y3 y5 : Option V), σ = [some (.int (Tu.length : Nat)), some (.ref a), some (.ref b), y3, some (.ref D), y5] ∧ Same H' H'') ?_ ?_ ?_
      · exact ⟨_, _, rfl, Same.refl _⟩
      · rintro i σ H'' hi ⟨y3, y5, rfl, s3⟩
        obtain ⟨q1, g1, g2⟩ := dpRowsAt hX hi
        rw [iv_map] at g2
        have hx3 := (s2.trans s3).seq hx
        have g3 := (s2.trans s3).seq g2
        walk_at "sts"
        refine ⟨q1, _, rfl, g3, fun ns p hpm hpw np => ?_⟩
        have s4 : Same H'' (upd H'' p (.lst (ns.map V.int))) := (Same.refl H'').new np
        have hL3 := hL.same (s3.trans s4)
        obtain ⟨q2, f1, f1', f1''⟩ := hL3.get (i := i) (by unfold ownT; simp; exact hi)
        have htop := SqL.of (K := K) hL3.top
        rw [ownT_row hi] at f1''
        have eo := sorted_own ok hi hpm hpw
        rw [hE] at eo
        have d1 : Dp K (upd H'' p (.lst (ns.map V.int))) (.ref p) (dRow (atP (endsOf ts) i ts.length)) := dpRow (SqL.of (by rw [upd_same, iv_map, eo]))
        have d2 : Dp K (upd H'' p (.lst (ns.map V.int))) (.ref q2) (dRow (atP (endsOf ts) i ts.length)) := dpRow (SqL.of f1'')
        walk_at "sts"
        refine w_neD d1 d2 (goodRow _) (by decide) ?_
        walk_at "sts"
        exact ⟨_, _, rfl, s3.trans s4⟩
      · rintro σ H'' ⟨y3, y5, rfl, s3⟩
        walk_at "sts"
        exact q _ (s2.trans s3)
/-! ### in one piece -/
/-! ### how many are not there -/
def cntF (S : Nat → Bool) : Nat → Nat
  | 0 => 0
  | m + 1 => cntF S m + if S m = true then 0 else 1
theorem cntF_le {S S' : Nat → Bool} : ∀ m, (∀ p, p < m → S p = true → S' p = true) → cntF S' m ≤ cntF S m
  | 0, _ => Nat.le_refl _
  | m + 1, h => by
    have ih := cntF_le m fun p hp => h p (by omega)
    have := h m (by omega)
    unfold cntF
    cases a : S m <;> cases b : S' m <;> simp_all <;> omega
theorem cntF_lt {S S' : Nat → Bool} : ∀ m, (∀ p, p < m → S p = true → S' p = true) → (∃ p, p < m ∧ S p = false ∧ S' p = true) → cntF S' m < cntF S m
  | 0, _, ⟨p, hp, _⟩ => absurd hp (by omega)
  | m + 1, h, ⟨p, hp, h1, h2⟩ => by
    have hm := h m (by omega)
    unfold cntF
    by_cases e : p = m
    · subst e
      have := cntF_le p fun q hq => h q (by omega)
      rw [h1, h2]
      simp
      omega
    · have := cntF_lt m (fun q hq => h q (by omega)) ⟨p, by omega, h1, h2⟩
      cases a : S m <;> cases b : S' m <;> simp_all <;> omega

def setS (S : Nat → Bool) (a b : Nat) : Nat → Bool := fun p => if p = b then true else if p = a then true else S p
theorem map_setB {f : Nat → Bool} {m j : Nat} {y : Bool} : ((List.range m).map fun r => V.bl (f r)).set j (V.bl y) = (List.range m).map fun r => V.bl (if r = j then y else f r) := by
  rw [map_set]
  congr 1
  funext r
  split <;> rfl
def spWhole (K : PySem.W.Frag) (CP CQ : Addr) : Sp := fun vs H Q _ => ∃ (m : Nat) (a : Addr) (ts : List Ti), vs = [.int m, .ref a] ∧ TiesAt K CP CQ H a ts ∧ (∀ i, i < ts.length → (ti ts i).one < m ∧ (ti ts i).two < m) ∧ Whole (endsOf ts) m ∧ 0 < m ∧ m ≤ 1000 ∧ ∀ H', Same H H' → Q (.bl true) H'
theorem ok_hangs_together {f : Addr} {fd : FuncData} (F : Fun K "hangs_together" "hangs_together" s_hangs_together f fd) (gf : mg "hangs_together" = some (.ref f)) (B : Bl mg) {C_Pull C_Push C_Web C_TooWide C_FloorError C_TooMany C_TooRough : Addr} (T : Txt K mg C_Pull C_Push C_Web C_TooWide C_FloorError C_TooMany C_TooRough) : Has P w K mg base CX0 1 "hangs_together" ["many", "ties"] (spWhole K C_Pull C_Push) := by
  refine Has.mk' F gf (F.binds (ps := ["many", "ties"]) fun _ _ _ _ _ _ us hl => match us, hl with | [_, _], _ => rfl) sc_hangs_together (by walk_at "len") (fun cdv A outer s H vs Q E hr h => ?_)
  obtain ⟨m, a, ts, rfl, hTi, hb, hw, hm, hsz, q⟩ := h
  obtain ⟨ps, hS, hT⟩ := id hTi
  refine ⟨_, (pss_cons (ps_setLc (i := 2) (own := [("place", 5)]) rfl sc_hangs_together.nd rfl rfl (sw_true rfl rfl rfl (by decide +kernel)) (pi_range1 (by rfl) B.range (pa_cons (pv 0) pa_nil)) (blkOk_by (own := [("place", 5)]) (N := ["many", "ties", "reached", "grew", "tie", "place"]) (sc := defScope s_hangs_together) (by decide +kernel)) (fun _ _ _ _ _ => pg_name (i := 5) sc_hangs_together.nd rfl (Or.inl rfl)) (fun _ _ _ _ _ => pts_nil) (fun _ _ _ _ _ => (pe_cmpR op_eq (pv 5) pe_int (nomark _))))
 (pss_cons (ps_set (i := 3) sc_hangs_together.nd rfl (.inl rfl) pe_bl)
 (pss_cons (ps_while PassesOwn.never (pt_val (pv 3)) (pss_cons (ps_set (i := 3) sc_hangs_together.nd rfl (.inl rfl) pe_bl)
 (pss_one (ps_for PassesOwn.never rfl (pi_listK K (pv 1)) (pg_name (i := 4) sc_hangs_together.nd rfl (.inl rfl)) (pss_one (ps_if (pt_cmpR op_ne (pe_ix (ix_listK K) (pv 2) (pe_fldK K (pv 4) rfl) (fun _ _ => rfl)) (pe_ix (ix_listK K) (pv 2) (pe_fldK K (pv 4) rfl) (fun _ _ => rfl)) (nomark _)) (pss_cons (ps_asg pe_bl (pg_sub (pv 2) (pe_fldK K (pv 4) rfl) set_list))
 (pss_cons (ps_asg pe_bl (pg_sub (pv 2) (pe_fldK K (pv 4) rfl) set_list))
 (pss_one (ps_set (i := 3) sc_hangs_together.nd rfl (.inl rfl) pe_bl)))) pss_nil))))))
 (pss_one (ps_ret (pe_callB (cr_allK K rfl) (by rfl) B.all (by decide +kernel) (pa_cons (pv 2) pa_nil))))))), ?_⟩
  walk_at "sts"
  intro D nD
  refine lc_r0 (n := m) rfl (fun i H' => H' D = some (.lst ((List.range i).map fun p => V.bl (p == 0))) ∧ Same H H') ?_ ?_ ?_
  · exact ⟨upd_same, by walk_at "same"⟩
  · rintro i H' hi ⟨h1, s1⟩
    walk_at "sts"
    refine ⟨_, h1, szlt (by simp; omega), ?_, s1.mut nD⟩
    rw [upd_same, List.range_succ, List.map_append]
    congr 3
    simp
    by_cases e : i = 0 <;> simp [e]
  · rintro H1 ⟨h1, s1⟩
    walk_at "sts"
    refine ⟨fun k σ H' => ∃ (S : Nat → Bool) (g : Bool) (y4 y5 : Option V), σ = [some (.int (m : Nat)), some (.ref a), some (.ref D), some (.bl g), y4, y5] ∧ S 0 = true ∧ (g = false → ∀ i, i < ts.length → S (ti ts i).one = S (ti ts i).two) ∧ k = cntF S m + (if g = true then 1 else 0) ∧
      H' D = some (.lst ((List.range m).map fun p => V.bl (S p))) ∧ Same H H', ⟨_, fun p => p == 0, true, _, _, rfl, rfl, by simp, rfl, h1, s1⟩, ?_⟩
    rintro k σ H' ⟨S, g, y4, y5, rfl, h0, hg, rfl, hD, s2⟩
    walk_at "sts"
    refine ifb (fun e => w_wt ?_) (fun e => ?_)
    · subst e
      have hS2 := s2.seq hS
      walk_at "sts"
      refine for_list (xs := ps.map V.ref) (fun i σ H'' => ∃ (S' : Nat → Bool) (g' : Bool) (y4 y5 : Option V), σ = [some (.int (m : Nat)), some (.ref a), some (.ref D), some (.bl g'), y4, y5] ∧ S' 0 = true ∧ (g' = false → S' = S ∧ ∀ j, j < i → S (ti ts j).one = S (ti ts j).two) ∧ (g' = true → cntF S' m < cntF S m) ∧
        H'' D = some (.lst ((List.range m).map fun p => V.bl (S' p))) ∧ Same H H'') ?_ ?_ ?_ ?_
      · exact ⟨S, false, _, _, rfl, h0, fun _ => ⟨rfl, fun j hj => absurd hj (by omega)⟩, by simp, hD, s2⟩
      · rintro i σ H'' _ ⟨S', g', _, _, _, _, _, _, _, s3⟩
        exact s3.seq hS
      · rintro i x σ H'' hx ⟨S', g', y4, y5, rfl, h0', hf, ht, hD', s3⟩
        rw [List.getElem?_map] at hx
        obtain ⟨p, hp, rfl⟩ := Option.map_eq_some_iff.mp hx
        have hi : i < ts.length := by rw [← hT.1]; exact (List.getElem?_eq_some_iff.mp hp).1
        have hti := (hT.same s3).2 i p _ hp (ti_at hi)
        obtain ⟨b1, b2⟩ := hb i hi
        have g1 := map_at (f := fun p => V.bl (S' p)) b1
        have g2 := map_at (f := fun p => V.bl (S' p)) b2
        walk_at "sts"
        refine w_t1 T.tie hti ?_
        walk_at "sts"
        refine w_t2 T.tie hti ?_
        walk_at "sts"
        refine ifnd (fun hne => ?_) (fun he => ?_)
        · walk_at "sts"
          refine w_t1 T.tie hti ?_
          walk_at "sts"
          rw [map_setB]
          have s4 := s3.mut (o := .lst ((List.range m).map fun r => V.bl (if r = (ti ts i).one then true else S' r))) nD
          have hti4 := (hT.same s4).2 i p _ hp (ti_at hi)
          refine w_t2 T.tie hti4 ?_
          walk_at "sts"
          rw [map_setB]
          refine ⟨setS S' (ti ts i).one (ti ts i).two, true, _, _, rfl, ?_, by simp, fun _ => ?_, ?_, ?_⟩
          · unfold setS; split; rfl; split; rfl; exact h0'
          · have l1 : cntF S' m ≤ cntF S m := by
              cases hg' : g' with
              | true => exact Nat.le_of_lt (ht hg')
              | false => rw [(hf hg').1]; exact Nat.le_refl _
            refine Nat.lt_of_lt_of_le (cntF_lt m (fun p _ h => ?_) ?_) l1
            · unfold setS; split; rfl; split; rfl; exact h
            · cases e1 : S' (ti ts i).one with
              | false => exact ⟨_, b1, e1, by unfold setS; split; rfl; rw [if_pos rfl]⟩
              | true =>
                cases e2 : S' (ti ts i).two with
                | false => exact ⟨_, b2, e2, by unfold setS; rw [if_pos rfl]⟩
                | true => exact absurd (e1.trans e2.symm) hne
          · rw [upd_same]; rfl
          · exact s4.mut nD
        · walk_at "sts"
          refine ⟨S', g', _, _, rfl, h0', fun hg' => ⟨(hf hg').1, fun j hj => ?_⟩, ht, hD', s3⟩
          by_cases e : j = i
          · subst e
            rw [(hf hg').1] at he
            exact he
          · exact (hf hg').2 j (by omega)
      · rintro σ H'' ⟨S', g', y4, y5, rfl, h0', hf, ht, hD', s3⟩
        rw [List.length_map, hT.1] at hf
        refine ⟨_, ?_, S', g', _, _, rfl, h0', fun hg' => ?_, rfl, hD', s3⟩
        · cases hg' : g' with
          | true => have := ht hg'; simp; omega
          | false => rw [(hf hg').1]; simp
        · rw [(hf hg').1]
          exact (hf hg').2
    · subst e
      walk_at "sts"
      have hall := hw S fun i hi => by
        rw [endsOf_len] at hi
        rw [en_ti hi]
        exact hg rfl i hi
      refine ⟨D, (List.range m).map S, rfl, SqL.of (by rw [hD, List.map_map]; rfl), ?_⟩
      have e : ((List.range m).map S).all id = true := by
        rw [List.all_map, List.all_eq_true]
        intro p hp
        show S p = true
        rw [hall p 0 (List.mem_range.mp hp) hm]
        exact h0
      rw [e]
      exact q _ s2
end

def sideD (R : List (List Nat)) (i : Nat) : PyData := .tuple ([((sideOf R (2 * i) : Nat) : Int), ((sideOf R (2 * i + 1) : Nat) : Int)].map PyData.int)
def sidesD (R : List (List Nat)) (n : Nat) : List PyData := (List.range n).map (sideD R)
theorem flat_take (R : List (List Nat)) (i : Nat) (r : List Nat) (h : R[i]? = some r) : (R.take (i + 1)).flatten = (R.take i).flatten ++ r := by
  rw [List.take_add_one, h, List.flatten_append]
  simp
theorem Holds.get {kvs : List (Key × V)} {S : List Nat} {g : Nat → V} (h : Holds kvs S g) {d : Nat} (hd : d ∈ S) : valV kvs (.inl (d : Int)) = some (g d) := by rw [h.2, if_pos hd]
theorem same_wo_upd {H : Hp} {p : Addr} {o : HO} : Same (wo H p) (upd H p o) := fun b u h => by
  unfold wo at h
  split at h
  · cases h
  · rw [upd_ne (by assumption)]; exact h
theorem sqWo {K : PySem.W.Frag} {H : Hp} {p a : Addr} {xs : List V} {C dx : Addr} {fs : List (Str × V)} (hp : H p = some (.ins C dx fs)) (h : SqL K H a xs) : SqL K (wo H p) a xs := by
  rcases h with (h | ⟨o, h⟩) | h
  · exact .inl (.inl (wo_get h (ne_of h hp (by intro z; cases z))))
  · exact .inl (.inr ⟨o, wo_get h (ne_of h hp (by intro z; cases z))⟩)
  · exact .inr h
theorem stWo {K : PySem.W.Frag} {H : Hp} {p a : Addr} {xs : List V} {C dx : Addr} {fs : List (Str × V)} (hp : H p = some (.ins C dx fs)) (h : SqT K H a xs) : SqT K (wo H p) a xs := by
  rcases h with (h | ⟨o, h⟩) | h
  · exact .inl (.inl (wo_get h (ne_of h hp (by intro z; cases z))))
  · exact .inl (.inr ⟨o, wo_get h (ne_of h hp (by intro z; cases z))⟩)
  · exact .inr h
mutual
theorem dpWo {K : PySem.W.Frag} {H : Hp} {p C dx : Addr} {fs : List (Str × V)} (hp : H p = some (.ins C dx fs)) : ∀ (d : PyData) (v : V), Dp K H v d → Dp K (wo H p) v d
  | .none, _, h => by cases h; exact .non
  | .bool _, _, h => by cases h; exact .bl _
  | .int _, _, h => by cases h; exact .int _
  | .str _, _, h => by cases h; exact .str _
  | .list ds, _, h => by
    cases h with
    | lst hs ha => exact .lst (sqWo hp hs) (dpWoAll hp ds _ ha)
  | .tuple ds, _, h => by
    cases h with
    | tup hs ha => exact .tup (stWo hp hs) (dpWoAll hp ds _ ha)
  | .dict _, _, h => by cases h
theorem dpWoAll {K : PySem.W.Frag} {H : Hp} {p C dx : Addr} {fs : List (Str × V)} (hp : H p = some (.ins C dx fs)) : ∀ (ds : List PyData) (xs : List V), DpAll K H xs ds → DpAll K (wo H p) xs ds
  | [], _, h => by cases h; exact .nil
  | d :: ds, _, h => by
    cases h with
    | cons h1 h2 => exact .cons (dpWo hp d _ h1) (dpWoAll hp ds _ h2)
end
section
variable {P : Program} {w : World} {K : PySem.W.Frag} {mg : Str → Option Value} {base : Heap} {C_Pull C_Push C_Web C_TooWide C_FloorError C_TooMany C_TooRough : Addr}
def spSides (K : PySem.W.Frag) : Sp := fun vs H Q _ => ∃ (a b : Addr) (xs : List V) (R : List (List Nat)), vs = [.ref a, .ref b] ∧ SqL K H a xs ∧ Dp K H (.ref b) (dRows R) ∧ R.flatten.Perm (List.range (2 * xs.length)) ∧ (∀ r ∈ R, 1 ≤ r.length) ∧ xs.length ≤ 1000 ∧
  ∀ p H' ys G, Same H H' → New H p → H' p = some (.lst ys) → Same H G → Same G H' → New G p → DpAll K G ys (sidesD R xs.length) → Q (.ref p) H'
theorem ok_sides_of {f : Addr} {fd : FuncData} (F : Fun K "sides_of" "sides_of" s_sides_of f fd) (gf : mg "sides_of" = some (.ref f)) (B : Bl mg) {C_Pull C_Push C_Web C_TooWide C_FloorError C_TooMany C_TooRough : Addr} (T : Txt K mg C_Pull C_Push C_Web C_TooWide C_FloorError C_TooMany C_TooRough) : Has P w K mg base CX0 1 "sides_of" ["ties", "rounds"] (spSides K) := by
  refine Has.mk' F gf (F.binds (ps := ["ties", "rounds"]) fun _ _ _ _ _ _ us hl => match us, hl with | [_, _], _ => rfl) sc_sides_of (by walk_at "len") (fun cdv A outer s H vs Q E hr h => ?_)
  obtain ⟨a, b, xs, R, rfl, hS, hR, hpm, hne, hsz, q⟩ := h
  obtain ⟨zs, hz, hZ⟩ := dpLstA hR
  have hzl : zs.length = R.length := by have := dpaLen hZ; simpa using this
  have hnd : R.flatten.Nodup := hpm.nodup_iff.mpr List.nodup_range
  have hfl : R.flatten.length = 2 * xs.length := by rw [hpm.length_eq, List.length_range]
  refine ⟨_, (pss_cons (ps_set (i := 2) sc_sides_of.nd rfl (.inr rfl) pe_dnewK)
 (pss_cons (ps_for PassesOwn.never rfl (pi_enum (by rfl) B.enumerate (pa_cons (pv 1) pa_nil)) (pg_tupK K rfl (pgs_cons (pg_name (i := 3) sc_sides_of.nd rfl (.inl rfl)) (pgs_cons (pg_name (i := 4) sc_sides_of.nd rfl (.inl rfl)) pgs_nil))) (pss_one (ps_for PassesOwn.never rfl (pi_listK K (pv 4)) (pg_name (i := 5) sc_sides_of.nd rfl (.inl rfl)) (pss_one (ps_dput (hu_of hr) (pv 2) (pv 5) (pv 3) rfl)))))
 (pss_one (ps_ret (pe_lc (own := [("i", 6)]) rfl sc_sides_of.nd (pi_range1 (by rfl) B.range (pa_cons (pe_callB (call_lenK K) (by rfl) B.len (by decide +kernel) (pa_cons (pv 0) pa_nil)) pa_nil)) (blkOk_by (own := [("i", 6)]) (N := ["ties", "rounds", "where", "number", "row", "dart", "i"]) (sc := defScope s_sides_of) (by decide +kernel)) (fun _ _ _ _ _ => pg_name (i := 6) sc_sides_of.nd rfl (Or.inl rfl)) (fun _ _ _ _ _ => pts_nil) (fun _ _ _ _ _ => (pe_tup (pa_cons (pe_dget (hu_of hr) (pv 2) (pe_op op_mulX pe_int (pv 6)) (fun _ _ => rfl)) (pa_cons (pe_dget (hu_of hr) (pv 2) (pe_op op_add (pe_op op_mulX pe_int (pv 6)) pe_int) (fun _ _ => rfl)) pa_nil))))))))), ?_⟩
  walk_at "sts"
  refine w_new fun p1 n1 => ?_
  walk_at "sts"
  have s0 : Same H (upd H p1 (.dK [])) := by walk_at "same"
  have hz0 := s0.seq hz
  refine w_enq hz0 ?_
  refine for_enumX (xs := zs) (fun i σ H' => ∃ (kvs : List (Key × V)) (y3 y4 y5 y6 : Option V), σ = [some (.ref a), some (.ref b), some (.ref p1), y3, y4, y5, y6] ∧ H' p1 = some (.dK kvs) ∧ Holds kvs (R.take i).flatten (fun d => .int (sideOf R d : Nat)) ∧ Same H H') ?_ ?_ ?_ ?_
  · exact ⟨[], _, _, _, _, rfl, upd_same, by simpa using Holds.nil, s0⟩
  · rintro i σ H' _ ⟨kvs, y3, y4, y5, y6, _, _, _, s1⟩
    exact s1.seq hz
  · rintro i x σ H' T hx ⟨kvs, y3, y4, y5, y6, rfl, h1, hK, s1⟩ nT
    have hi : i < R.length := by rw [← hzl]; exact (List.getElem?_eq_some_iff.mp hx).1
    obtain ⟨r1, e1, e2⟩ := dpRowsAt hZ hi
    rw [hx] at e1
    cases e1
    have hri : R[i]? = some (row R i) := by
      unfold row
      rw [List.getD_eq_getElem?_getD, List.getElem?_eq_getElem hi]
      rfl
    have hpT : p1 ≠ T := ne_new h1 nT
    have s2 : Same H (upd H' T (.tup [.int (i : Nat), .ref r1])) := s1.trans (same_upd nT)
    have e3 := s2.seq e2
    have hle : (R.take (i + 1)).flatten.length ≤ 2 * xs.length := by
      rw [← hfl]
      have : R.flatten.length = (R.take (i + 1)).flatten.length + (R.drop (i + 1)).flatten.length := by rw [← List.length_append, ← List.flatten_append, List.take_append_drop]
      omega
    rw [flat_take R i _ hri, List.length_append] at hle
    refine w_gt (SqT.of upd_same) rfl ?_
    walk_at "sts"
    refine for_list (xs := iv (row R i)) (fun j σ H'' => ∃ (kvs : List (Key × V)) (y5 y6 : Option V), σ = [some (.ref a), some (.ref b), some (.ref p1), some (.int (i : Nat)), some (.ref r1), y5, y6] ∧ H'' p1 = some (.dK kvs) ∧ Holds kvs ((R.take i).flatten ++ (row R i).take j) (fun d => .int (sideOf R d : Nat)) ∧ Same H H'') ?_ ?_ ?_ ?_
    · exact ⟨kvs, _, _, rfl, by walk_at "hp", by simpa using hK, s2⟩
    · rintro j σ H'' _ ⟨kvs, y5, y6, _, _, _, s3⟩
      exact s3.seq e2
    · rintro j x σ H'' hx ⟨kvs, y5, y6, rfl, h1, hK, s3⟩
      have hj : j < (row R i).length := by
        have := (List.getElem?_eq_some_iff.mp hx).1
        rwa [iv_len] at this
      rw [iv_at hj] at hx
      cases hx
      have hkl : kvs.length < 1000000 := by
        have := hK.1
        rw [List.length_append, List.length_take] at this
        omega
      have hm : (row R i).getD j 0 ∈ row R i := by
        rw [List.getD_eq_getElem?_getD, List.getElem?_eq_getElem hj]
        exact List.getElem_mem hj
      have hside : sideOf R ((row R i).getD j 0) = i := sideOf_at hnd hri hm
      walk_at "sts"
      refine ⟨_, _, _, rfl, upd_same, ?_, s3.mut n1⟩
      rw [take_snoc hj, ← List.append_assoc]
      have := hK.put ((row R i).getD j 0)
      rw [hside] at this
      exact this
    · rintro σ H'' ⟨kvs, y5, y6, rfl, h1, hK, s3⟩
      rw [iv_len, List.take_length, ← flat_take R i _ hri] at hK
      exact ⟨kvs, _, _, _, _, rfl, h1, hK, s3⟩
  · rintro σ H1 ⟨kvs, y3, y4, y5, y6, rfl, h1, hK, s1⟩
    rw [hzl, List.take_length] at hK
    have hS1 := s1.seq hS
    walk_at "sts"
    intro D nD
    have nD0 : New H D := nD.of s1
    refine lc_r0 (n := xs.length) rfl (fun i H' => ∃ ys G, H' D = some (.lst ys) ∧ Same H1 G ∧ Same G H' ∧ New G D ∧ DpAll K G ys (sidesD R i)) ?_ ?_ ?_
    · exact ⟨[], H1, upd_same, Same.refl _, same_upd nD, nD, .nil⟩
    · rintro i H' hi ⟨ys, G, d1, sG, sG', gD, hD⟩
      have hk : H' p1 = some (.dK kvs) := sG' _ _ (sG _ _ h1)
      have hyl : ys.length = i := by have := dpaLen hD; unfold sidesD at this; simpa using this
      have m1 : 2 * i ∈ R.flatten := by rw [hpm.mem_iff, List.mem_range]; omega
      have m2 : 2 * i + 1 ∈ R.flatten := by rw [hpm.mem_iff, List.mem_range]; omega
      have v1 := hK.get m1
      have v2 := hK.get m2
      walk_at "sts"
      refine w_getI (kvs := kvs) hk (v := .int (sideOf R (2 * i) : Nat)) v1 ?_
      walk_at "sts"
      refine w_getI (kvs := kvs) hk (v := .int (sideOf R (2 * i + 1) : Nat)) v2 ?_
      walk_at "sts"
      refine w_new fun t nt => ?_
      have hDt : D ≠ t := ne_new d1 nt
      refine ⟨ys, by walk_at "hp", szlt (by omega), _, upd G t (.tup [.int (sideOf R (2 * i) : Nat), .int (sideOf R (2 * i + 1) : Nat)]), upd_same, sG.trans (same_upd (nt.of sG')), ?_, gD.upd hDt, ?_⟩
      · refine Same.mut ?_ (gD.upd hDt)
        exact (sG'.trans (same_upd nt)).add upd_same
      · unfold sidesD
        rw [List.range_succ, List.map_append]
        exact dpaApp (hD.same (same_upd (nt.of sG'))) (.cons (.tup (SqT.of upd_same) (dpInts [((sideOf R (2 * i) : Nat) : Int), ((sideOf R (2 * i + 1) : Nat) : Int)])) .nil)
    · rintro H2 ⟨ys, G, d1, sG, sG', gD, hD⟩
      exact q D H2 ys G (s1.trans (sG.trans sG')) nD0 d1 (s1.trans sG) sG' gD hD
/-! ### the web -/
structure WebM where
  ts : List Ti
  T : Turns
  R : List (List Nat)
def wf (m : Int) (a b c d : Addr) : List (Str × V) := [("many", .int m), ("ties", .ref a), ("turns", .ref b), ("rounds", .ref c), ("sides", .ref d)]
theorem wf_many (m : Int) (a b c d : Addr) : (wf m a b c d).lookup ("many" : Str) = some (.int m) := by rfl
theorem wf_ties (m : Int) (a b c d : Addr) : (wf m a b c d).lookup ("ties" : Str) = some (.ref a) := by rfl
theorem wf_turns (m : Int) (a b c d : Addr) : (wf m a b c d).lookup ("turns" : Str) = some (.ref b) := by rfl
theorem wf_rounds (m : Int) (a b c d : Addr) : (wf m a b c d).lookup ("rounds" : Str) = some (.ref c) := by rfl
theorem wf_sides (m : Int) (a b c d : Addr) : (wf m a b c d).lookup ("sides" : Str) = some (.ref d) := by rfl
theorem wf_eq (m : Int) (a b c d : Addr) : putF "sides" (.ref d) (putF "rounds" (.ref c) (putF "turns" (.ref b) (putF "ties" (.ref a) (putF "many" (.int m) [])))) = wf m a b c d := by rfl
structure WebAt (K : PySem.W.Frag) (CP CQ CW : Addr) (H : Hp) (p : Addr) (M : WebM) : Prop where
  at_ : ∃ dx a b c d xs, H p = some (.ins CW dx (wf (M.T.length : Nat) a b c d)) ∧ TiesAt K CP CQ H a M.ts ∧ Dp K H (.ref b) (dRows M.T) ∧ Dp K H (.ref c) (dRows M.R) ∧ SqL K H d xs ∧ DpAll K H xs (sidesD M.R M.ts.length)
theorem WebAt.same {K : PySem.W.Frag} {CP CQ CW : Addr} {H H' : Hp} {p : Addr} {M : WebM} (h : WebAt K CP CQ CW H p M) (e : Same H H') : WebAt K CP CQ CW H' p M := by
  obtain ⟨dx, a, b, c, d, xs, h1, h2, h3, h4, h5, h6⟩ := h.at_
  exact ⟨dx, a, b, c, d, xs, e _ _ h1, h2.same e, h3.same e, h4.same e, e.seq h5, h6.same e⟩
/-- the web is as the document says -/
structure WebOk (M : WebM) : Prop where
  flat : Flat (endsOf M.ts) M.T
  canon : Canon (fol (endsOf M.ts) M.T) (2 * M.ts.length) M.R
def spWeb (K : PySem.W.Frag) (CP CQ CW : Addr) : Sp := fun vs H Q _ => ∃ (p dx a b : Addr) (ts : List Ti) (T : Turns), vs = [.ref p, .int T.length, .ref a, .ref b] ∧ H p = some (.ins CW dx []) ∧ TiesAt K CP CQ (wo H p) a ts ∧ Dp K (wo H p) (.ref b) (dRows T) ∧ Flat (endsOf ts) T ∧ 0 < T.length ∧ ts.length ≤ 1000 ∧ T.length ≤ 1000 ∧
  ∀ H' R, Same (wo H p) H' → WebOk ⟨ts, T, R⟩ → WebAt K CP CQ CW H' p ⟨ts, T, R⟩ → Q .non H'
theorem ok_Web___init__ {f : Addr} {fd : FuncData} (F : Fun K "__init__" "Web.__init__" s_Web___init__ f fd) (B : Bl mg) {C_Pull C_Push C_Web C_TooWide C_FloorError C_TooMany C_TooRough : Addr} (T : Txt K mg C_Pull C_Push C_Web C_TooWide C_FloorError C_TooMany C_TooRough) (h_rounds_of : Has P w K mg base CX0 4 "rounds_of" ["ties", "turns"] (spRounds K C_Pull C_Push)) (h_sides_of : Has P w K mg base CX0 1 "sides_of" ["ties", "rounds"] (spSides K)) (h_ends_are_places : Has P w K mg base CX0 1 "ends_are_places" ["many", "ties"] (spEndsOk K C_Pull C_Push)) (h_turns_are_right : Has P w K mg base CX0 1 "turns_are_right" ["many", "ties", "turns"] (spTurnsOk K C_Pull C_Push)) (h_hangs_together : Has P w K mg base CX0 1 "hangs_together" ["many", "ties"] (spWhole K C_Pull C_Push)) : HasFn P w K mg base CX0 5 f ["self", "many", "ties", "turns"] (spWeb K C_Pull C_Push C_Web) := by
  refine HasFn.mk' F (F.binds (ps := ["self", "many", "ties", "turns"]) fun _ _ _ _ _ _ us hl => match us, hl with | [_, _, _, _], _ => rfl) sc_Web___init__ (by walk_at "len") (fun cdv A outer s H vs Q E hr h => ?_)
  obtain ⟨p, dx, a, b, ts, Tu, rfl, hp, hTi, hTu, hF, hm, hsz, hsz2, q⟩ := h
  have ok := hF.ok
  obtain ⟨F, hFr, hEu⟩ := hF.euler
  rw [endsOf_len] at hFr hEu
  have hb : ∀ i, i < ts.length → (ti ts i).one < Tu.length ∧ (ti ts i).two < Tu.length := fun i hi => by
    have := ok.ends i (by rw [endsOf_len]; exact hi)
    rw [en_ti hi] at this
    exact this.2
  have hTi0 := hTi.same wo_same
  have hTu0 := hTu.same wo_same
  refine ⟨_, (pss_cons (ps_if (pt_not (pt_val (pe_fn h_ends_are_places (hr.mono (by decide)) (by rfl) (pa_cons (pv 1) (pa_cons (pv 2) pa_nil))))) (pss_one ps_never) pss_nil)
 (pss_cons (ps_if (pt_not (pt_val (pe_fn h_turns_are_right (hr.mono (by decide)) (by rfl) (pa_cons (pv 1) (pa_cons (pv 2) (pa_cons (pv 3) pa_nil)))))) (pss_one ps_never) pss_nil)
 (pss_cons (ps_if (pt_not (pt_val (pe_fn h_hangs_together (hr.mono (by decide)) (by rfl) (pa_cons (pv 1) (pa_cons (pv 2) pa_nil))))) (pss_one ps_never) pss_nil)
 (pss_cons (ps_set (i := 4) sc_Web___init__.nd rfl (.inl rfl) (pe_fn h_rounds_of (hr.mono (by decide)) (by rfl) (pa_cons (pv 2) (pa_cons (pv 3) pa_nil))))
 (pss_cons (ps_if (pt_cmpR op_ne (pe_op op_add (pe_op op_sub (pv 1) (pe_callB (call_lenK K) (by rfl) B.len (by decide +kernel) (pa_cons (pv 2) pa_nil))) (pe_callB (call_lenK K) (by rfl) B.len (by decide +kernel) (pa_cons (pv 4) pa_nil))) pe_int (nomark _)) (pss_one ps_never) pss_nil)
 (pss_cons (ps_fld (pv 0) (pv 1) rfl)
 (pss_cons (ps_fld (pv 0) (pe_callTy (call_listK K) (by rfl) B.list (by decide +kernel) (pa_cons (pv 2) pa_nil)) rfl)
 (pss_cons (ps_fld (pv 0) (pe_lc (own := [("row", 5)]) rfl sc_Web___init__.nd (pi_listK K (pv 3)) (blkOk_by (own := [("row", 5)]) (N := ["self", "many", "ties", "turns", "rounds", "row"]) (sc := defScope s_Web___init__) (by decide +kernel)) (fun _ _ _ _ _ => pg_name (i := 5) sc_Web___init__.nd rfl (Or.inl rfl)) (fun _ _ _ _ _ => pts_nil) (fun _ _ _ _ _ => (pe_callTy (call_listK K) (by rfl) B.list (by decide +kernel) (pa_cons (pv 5) pa_nil)))) rfl)
 (pss_cons (ps_fld (pv 0) (pv 4) rfl)
 (pss_one (ps_fld (pv 0) (pe_fn h_sides_of (hr.mono (by decide)) (by rfl) (pa_cons (pv 2) (pa_cons (pv 4) pa_nil))) rfl))))))))))), ?_⟩
  walk_at "sts"
  refine ⟨_, a, ts, rfl, hTi0, hb, ?_⟩
  walk_at "sts"
  refine ⟨a, b, ts, Tu, rfl, hTi0, hTu0, ok, hsz, hsz2, fun H1 s1 => ?_⟩
  walk_at "sts"
  refine ⟨_, a, ts, rfl, hTi0.same s1, hb, hF.whole, hm, hsz2, fun H2 s2 => ?_⟩
  walk_at "sts"
  have s12 := s1.trans s2
  refine ⟨a, b, ts, Tu, F, rfl, hTi0.same s12, hTu0.same s12, ok, hsz, hFr, fun p3 H3 R s3 n3 hR hC => ?_⟩
  obtain ⟨xs, G, r1, rG, rG', rN, rD⟩ := hR
  have s13 := s12.trans s3
  have hcount : R.length = F.length := hC.rings.count hFr
  have hxl : xs.length = R.length := by have := dpaLen rD; simpa using this
  have hp3 : H3 p = some (.ins C_Web dx []) := s13 _ _ hp
  have w3 : Same (wo H p) (wo H3 p) := wo_mono s13
  have dR : Dp K (wo H3 p) (.ref p3) (dRows R) := dpWo hp3 _ _ (.lst (SqL.of r1) (rD.same rG'))
  have hS3 := hTi.same w3
  obtain ⟨ps, hps, hin⟩ := id hS3
  have hpl : (ps.map V.ref).length = ts.length := by rw [List.length_map]; exact hin.1
  have hps3 := (wo_same (H := H3) (D := p)).seq hps
  have hr3 : SqL K H3 p3 xs := SqL.of r1
  walk_at "sts"
  refine w_sfq hp3 T.cl_Web T.n_Web_many (by show 0 < 1000; decide) ?_
  have e4 : Same (wo H3 p) (upd H3 p (.ins C_Web dx (putF "many" (.int (Tu.length : Nat)) []))) := same_wo_upd
  have hps4 := e4.seq hps
  walk_at "sts"
  refine w_new fun t1 nt1 => ?_
  have ht1 : t1 ≠ p := Ne.symm (ne_new upd_same nt1)
  have w5 : Same (wo H3 p) (wo (upd (upd H3 p (.ins C_Web dx (putF "many" (.int (Tu.length : Nat)) []))) t1 (.lst (ps.map V.ref))) p) := same_wo (e4.trans (same_upd nt1)) wo_new
  have l5 : wo (upd (upd H3 p (.ins C_Web dx (putF "many" (.int (Tu.length : Nat)) []))) t1 (.lst (ps.map V.ref))) p t1 = some (.lst (ps.map V.ref)) := wo_get upd_same ht1
  have p5 : upd (upd H3 p (.ins C_Web dx (putF "many" (.int (Tu.length : Nat)) []))) t1 (.lst (ps.map V.ref)) p = some (.ins C_Web dx (putF "many" (.int (Tu.length : Nat)) [])) := by rw [upd_ne (Ne.symm ht1), upd_same]
  generalize upd (upd H3 p (.ins C_Web dx (putF "many" (.int (Tu.length : Nat)) []))) t1 (.lst (ps.map V.ref)) = H5 at w5 l5 p5 ⊢
  walk_at "sts"
  refine w_sfq p5 T.cl_Web T.n_Web_ties (by show 1 < 1000; decide) ?_
  have e6 : Same (wo H5 p) (upd H5 p (.ins C_Web dx (putF "ties" (.ref t1) (putF "many" (.int (Tu.length : Nat)) [])))) := same_wo_upd
  have p6 : upd H5 p (.ins C_Web dx (putF "ties" (.ref t1) (putF "many" (.int (Tu.length : Nat)) []))) p = some (.ins C_Web dx (putF "ties" (.ref t1) (putF "many" (.int (Tu.length : Nat)) []))) := upd_same
  generalize upd H5 p (.ins C_Web dx (putF "ties" (.ref t1) (putF "many" (.int (Tu.length : Nat)) []))) = H6 at e6 p6 ⊢
  have hTu6 := (hTu.same (w3.trans w5)).same e6
  obtain ⟨zs, hz, hZ⟩ := dpLstA hTu6
  have hzl : zs.length = Tu.length := by have := dpaLen hZ; simpa using this
  walk_at "sts"
  intro D nD
  refine lc_list (xs := zs) (fun i H' => ∃ ys G, H' D = some (.lst ys) ∧ Same H6 G ∧ Same G H' ∧ New G D ∧ DpAll K G ys ((Tu.take i).map dRow)) ?_ ?_ ?_ ?_
  · exact ⟨[], H6, upd_same, Same.refl _, same_upd nD, nD, .nil⟩
  · rintro i H' _ ⟨ys, G, _, g1, g2, _, _⟩
    exact (g1.trans g2).seq hz
  · rintro i x H' hx ⟨ys, G, y1, g1, g2, g3, hD⟩
    have hi : i < Tu.length := by rw [← hzl]; exact (List.getElem?_eq_some_iff.mp hx).1
    obtain ⟨q1, e1, e2⟩ := dpRowsAt hZ hi
    rw [hx] at e1
    cases e1
    have e3 := (g1.trans g2).seq e2
    have hyl : ys.length = i := by have := dpaLen hD; simp at this; omega
    walk_at "sts"
    refine w_new fun t nt => ?_
    have hDt : D ≠ t := ne_new y1 nt
    refine ⟨ys, by walk_at "hp", szlt (by omega), _, upd G t (.lst (iv (row Tu i))), upd_same, g1.trans (same_upd (nt.of g2)), ?_, g3.upd hDt, ?_⟩
    · refine Same.mut ?_ (g3.upd hDt)
      exact (g2.trans (same_upd nt)).add upd_same
    · have et : Tu.take (i + 1) = Tu.take i ++ [row Tu i] := by
        rw [List.take_add_one, List.getElem?_eq_getElem hi]
        unfold row
        rw [List.getD_eq_getElem?_getD, List.getElem?_eq_getElem hi]
        rfl
      rw [et, List.map_append]
      exact dpaApp (hD.same (same_upd (nt.of g2))) (.cons (dpRow (SqL.of upd_same)) .nil)
  · rintro H7 ⟨ys, G, y1, g1, g2, g3, hD⟩
    rw [hzl, List.take_length] at hD
    have e67 := g1.trans g2
    have p7 : H7 p = some (.ins C_Web dx (putF "ties" (.ref t1) (putF "many" (.int (Tu.length : Nat)) []))) := e67 _ _ p6
    have w7 : Same (wo H5 p) (wo H7 p) := same_wo (e6.trans e67) wo_new
    have dT : Dp K (wo H7 p) (.ref D) (dRows Tu) := dpWo p7 _ _ (.lst (SqL.of y1) (hD.same g2))
    walk_at "sts"
    refine w_sfq p7 T.cl_Web T.n_Web_turns (by show 2 < 1000; decide) ?_
    walk_at "sts"
    refine w_sfq upd_same T.cl_Web T.n_Web_rounds (by show 3 < 1000; decide) ?_
    rw [upd_upd]
    have e8 : Same (wo H7 p) (upd H7 p (.ins C_Web dx (putF "rounds" (.ref p3) (putF "turns" (.ref D) (putF "ties" (.ref t1) (putF "many" (.int (Tu.length : Nat)) [])))))) := same_wo_upd
    have p8 : upd H7 p (.ins C_Web dx (putF "rounds" (.ref p3) (putF "turns" (.ref D) (putF "ties" (.ref t1) (putF "many" (.int (Tu.length : Nat)) []))))) p = some (.ins C_Web dx (putF "rounds" (.ref p3) (putF "turns" (.ref D) (putF "ties" (.ref t1) (putF "many" (.int (Tu.length : Nat)) []))))) := upd_same
    generalize upd H7 p (.ins C_Web dx (putF "rounds" (.ref p3) (putF "turns" (.ref D) (putF "ties" (.ref t1) (putF "many" (.int (Tu.length : Nat)) []))))) = H8 at e8 p8 ⊢
    have f8 : Same (wo H3 p) H8 := (w5.trans w7).trans e8
    walk_at "sts"
    refine ⟨a, p3, ps.map V.ref, R, rfl, f8.seq hps, dR.same f8, by rw [hpl]; exact hC.rings.all, fun r hr => ?_, by omega, fun pS H9 yS GS s9 n9 l9 gA gB gC dS => ?_⟩
    · obtain ⟨x, l, rfl, _⟩ := hC.rings.ok r hr
      simp
    · have p9 := s9 _ _ p8
      walk_at "sts"
      refine w_sfq p9 T.cl_Web T.n_Web_sides (by show 4 < 1000; decide) ?_
      rw [wf_eq]
      have e10 : Same (wo H9 p) (upd H9 p (.ins C_Web dx (wf (Tu.length : Nat) t1 D p3 pS))) := same_wo_upd
      have w9 : Same (wo H3 p) (wo H9 p) := same_wo (f8.trans s9) wo_new
      have w79 : Same (wo H7 p) (wo H9 p) := same_wo (e8.trans s9) wo_new
      have w59 : Same (wo H5 p) (wo H9 p) := w7.trans w79
      have hpS : pS ≠ p := fun e => by
        subst e
        rw [l9] at p9
        cases p9
      refine q _ R ((w3.trans w9).trans e10) ⟨hF, hC⟩ ⟨dx, t1, D, p3, pS, yS, upd_same, ?_, ?_, ?_, ?_, ?_⟩
      · refine ⟨ps, SqL.of ((w59.trans e10) _ _ l5), hin.same (w9.trans e10)⟩
      · exact dT.same (w79.trans e10)
      · exact dR.same (w9.trans e10)
      · exact SqL.of (e10 _ _ (wo_get l9 hpS))
      · have := dpWoAll p9 _ _ (dS.same gB)
        rw [hpl] at this
        exact this.same e10
end

def dEnd (e : Nat × Nat) : PyData := .tuple ([((e.1 : Nat) : Int), ((e.2 : Nat) : Int)].map PyData.int)
def dEnds (E : EdgL) : PyData := .list (E.map dEnd)
theorem goodEnds (E : EdgL) : Good 2 (dEnds E) := goodLst (goodMap fun e => goodTup (goodMap fun _ => goodInt))
theorem dpEnd {K : PySem.W.Frag} {H : Hp} {v : V} {e : Nat × Nat} (h : Dp K H v (dEnd e)) : ∃ p, v = .ref p ∧ SqT K H p [.int (e.1 : Nat), .int (e.2 : Nat)] := by
  obtain ⟨p, xs, rfl, h1, h2⟩ := dpTup h
  have e2 := dpAll_ints h2
  rw [e2] at h1
  exact ⟨p, rfl, h1⟩
theorem dEndT {K : PySem.W.Frag} {H : Hp} {p : Addr} {a b : Nat} (h : SqT K H p [.int (a : Nat), .int (b : Nat)]) : Dp K H (.ref p) (dEnd (a, b)) := .tup h (dpInts [((a : Nat) : Int), ((b : Nat) : Int)])
theorem dpEndsAt {K : PySem.W.Frag} {H : Hp} {xs : List V} {E : EdgL} (h : DpAll K H xs (E.map dEnd)) {i : Nat} (hi : i < E.length) : ∃ p, xs[i]? = some (.ref p) ∧ SqT K H p [.int ((en E i).1 : Nat), .int ((en E i).2 : Nat)] := by
  obtain ⟨v, h1, h2⟩ := dpaGet (i := i) (d := dEnd (en E i)) h (by
    rw [List.getElem?_map, en, List.getD_eq_getElem?_getD, List.getElem?_eq_getElem hi]
    rfl)
  obtain ⟨p, rfl, h3⟩ := dpEnd h2
  exact ⟨p, h1, h3⟩
theorem iv_put (r : List Nat) (k x : Nat) : (iv r).take k ++ [V.int (x : Int)] ++ (iv r).drop k = iv (putAt r k x) := by
  unfold iv putAt
  simp

theorem modNB (z : Int) {n : Nat} (h : 0 < n) : ∃ k : Nat, z % (n : Int) = (k : Int) ∧ k < n := by
  have h1 := Int.emod_nonneg z (show (n : Int) ≠ 0 by omega)
  have h2 := Int.emod_lt_of_pos z (show (0 : Int) < n by omega)
  exact ⟨(z % (n : Int)).toNat, by omega, by omega⟩
theorem iv_take (r : List Nat) (k : Nat) : (iv r).take k = iv (r.take k) := by unfold iv; rw [List.map_take]
theorem iv_drop (r : List Nat) (k : Nat) : (iv r).drop k = iv (r.drop k) := by unfold iv; rw [List.map_drop]
theorem iv_set (R : List V) (w : Nat) (v : V) : R.set w v = R.set w v := rfl
theorem split_at {r : List Nat} {a : Nat} (h : a < r.length) : r = r.take a ++ r.getD a 0 :: r.drop (a + 1) := by
  rw [List.getD_eq_getElem?_getD, List.getElem?_eq_getElem h, Option.getD_some, ← List.drop_eq_getElem_cons h, List.take_append_drop]
theorem split_two {r : List Nat} {a b : Nat} (h : b < r.length) (hab : a < b) : r = r.take a ++ r.getD a 0 :: ((r.drop (a + 1)).take (b - a - 1) ++ r.getD b 0 :: r.drop (b + 1)) := by
  have h1 := split_at (r := r) (a := a) (by omega)
  have h2 := split_at (r := r.drop (a + 1)) (a := b - a - 1) (by rw [List.length_drop]; omega)
  have e1 : (r.drop (a + 1)).getD (b - a - 1) 0 = r.getD b 0 := by
    rw [List.getD_eq_getElem?_getD, List.getElem?_drop, List.getD_eq_getElem?_getD]
    congr 2
    omega
  have e2 : (r.drop (a + 1)).drop (b - a - 1 + 1) = r.drop (b + 1) := by
    rw [List.drop_drop]
    congr 1
    omega
  rw [e1, e2] at h2
  rw [← h2]
  exact h1
theorem dpaSetB {K : PySem.W.Frag} {H : Hp} {v : V} {d : PyData} : ∀ {xs : List V} {ds : List PyData}, DpAll K H xs ds → Dp K H v d → ∀ i, DpAll K H (xs.set i v) (ds.set i d)
  | _, _, .nil, _, _ => .nil
  | _, _, .cons _ t, hv, 0 => .cons hv t
  | _, _, .cons h t, hv, i + 1 => .cons h (dpaSetB t hv i)
/-- the three lists while a web grows -/
structure StB (K : PySem.W.Frag) (H0 H G : Hp) (e t r : Addr) (xs ys : List V) (qs : List Addr) (E : EdgL) (T : Turns) (R : List (List Nat)) : Prop where
  e1 : H e = some (.lst xs)
  e2 : DpAll K G xs (E.map dEnd)
  r1 : H r = some (.lst ys)
  r2 : DpAll K G ys (R.map dRow)
  tl : LL H t qs T
  s0 : Same H0 G
  s1 : Same G H
  ge : New G e
  gt : New G t
  gr : New G r
  gq : ∀ q ∈ qs, New G q
  eq : e ∉ qs
  rq : r ∉ qs
  et : e ≠ t
  er : e ≠ r
  tr : t ≠ r
section
variable {K : PySem.W.Frag} {H0 H G : Hp} {e t r : Addr} {xs ys : List V} {qs : List Addr} {E : EdgL} {T : Turns} {R : List (List Nat)}
theorem StB.qne (h : StB K H0 H G e t r xs ys qs E T R) {p : Addr} (n : New H p) : p ∉ qs := fun z => by
  obtain ⟨k, hk, e'⟩ := List.mem_iff_getElem.mp z
  exact ne_new (h.tl.row k p (by rw [List.getElem?_eq_getElem hk, e'])) n rfl
theorem StB.alloc (h : StB K H0 H G e t r xs ys qs E T R) {p : Addr} {o : HO} (n : New H p) : StB K H0 (upd H p o) G e t r xs ys qs E T R := by
  have s := same_upd (o := o) n
  exact ⟨s _ _ h.e1, h.e2, s _ _ h.r1, h.r2, h.tl.same s, h.s0, h.s1.trans s, h.ge, h.gt, h.gr, h.gq, h.eq, h.rq, h.et, h.er, h.tr⟩
theorem StB.keep (h : StB K H0 H G e t r xs ys qs E T R) {p : Addr} {o : HO} (n : New H p) : StB K H0 (upd H p o) (upd G p o) e t r xs ys qs E T R := by
  have s := same_upd (o := o) n
  have sg := same_upd (o := o) (n.of h.s1)
  exact ⟨s _ _ h.e1, h.e2.same sg, s _ _ h.r1, h.r2.same sg, h.tl.same s, h.s0.trans sg, (h.s1.trans s).add upd_same, h.ge.upd (ne_new h.e1 n), h.gt.upd (ne_new h.tl.top n), h.gr.upd (ne_new h.r1 n), fun q hq => (h.gq q hq).upd (fun z => h.qne n (z ▸ hq)), h.eq, h.rq, h.et, h.er, h.tr⟩
theorem StB.setRow (h : StB K H0 H G e t r xs ys qs E T R) {p : Nat} {q : Addr} (hp : p < T.length) (hq : qs[p]? = some q) (l : List Nat) : StB K H0 (upd H q (.lst (iv l))) G e t r xs ys qs E (T.set p l) R := by
  have hm := List.mem_of_getElem? hq
  exact ⟨by rw [upd_ne (fun z => h.eq (by rw [z]; exact hm))]; exact h.e1, h.e2, by rw [upd_ne (fun z => h.rq (by rw [z]; exact hm))]; exact h.r1, h.r2, h.tl.set hp hq l, h.s0, h.s1.mut (h.gq q hm), h.ge, h.gt, h.gr, h.gq, h.eq, h.rq, h.et, h.er, h.tr⟩
theorem LL.upd_ne {H : Hp} {a x : Addr} {qs : List Addr} {T : List (List Nat)} {o : HO} (h : LL H a qs T) (h1 : x ≠ a) (h2 : x ∉ qs) : LL (upd H x o) a qs T :=
  ⟨by rw [L2.upd_ne (Ne.symm h1)]; exact h.top, h.len, h.nd, fun i q hq => by rw [L2.upd_ne (fun z => h2 (by rw [← z]; exact List.mem_of_getElem? hq))]; exact h.row i q hq, h.ne⟩
theorem StB.setRing (h : StB K H0 H G e t r xs ys qs E T R) {w : Nat} {v : V} {l : List Nat} (hv : Dp K G v (dRow l)) : StB K H0 (upd H r (.lst (ys.set w v))) G e t r xs (ys.set w v) qs E T (R.set w l) := by
  refine ⟨by rw [L2.upd_ne h.er]; exact h.e1, h.e2, upd_same, ?_, h.tl.upd_ne (Ne.symm h.tr) h.rq, h.s0, h.s1.mut h.gr, h.ge, h.gt, h.gr, h.gq, h.eq, h.rq, h.et, h.er, h.tr⟩
  rw [List.map_set]
  exact dpaSetB h.r2 hv _
theorem StB.pushRing (h : StB K H0 H G e t r xs ys qs E T R) {v : V} {l : List Nat} (hv : Dp K G v (dRow l)) : StB K H0 (upd H r (.lst (ys ++ [v]))) G e t r xs (ys ++ [v]) qs E T (R ++ [l]) := by
  refine ⟨by rw [L2.upd_ne h.er]; exact h.e1, h.e2, upd_same, ?_, h.tl.upd_ne (Ne.symm h.tr) h.rq, h.s0, h.s1.mut h.gr, h.ge, h.gt, h.gr, h.gq, h.eq, h.rq, h.et, h.er, h.tr⟩
  rw [List.map_append]
  exact dpaApp h.r2 (.cons hv .nil)
theorem StB.pushEnd (h : StB K H0 H G e t r xs ys qs E T R) {v : V} {x : Nat × Nat} (hv : Dp K G v (dEnd x)) : StB K H0 (upd H e (.lst (xs ++ [v]))) G e t r (xs ++ [v]) ys qs (E ++ [x]) T R := by
  refine ⟨upd_same, ?_, by rw [L2.upd_ne (Ne.symm h.er)]; exact h.r1, h.r2, h.tl.upd_ne h.et h.eq, h.s0, h.s1.mut h.ge, h.ge, h.gt, h.gr, h.gq, h.eq, h.rq, h.et, h.er, h.tr⟩
  rw [List.map_append]
  exact dpaApp h.e2 (.cons hv .nil)
theorem StB.pushTurn (h : StB K H0 H G e t r xs ys qs E T R) {q : Addr} {l : List Nat} (n : New H q) : StB K H0 (upd (upd H q (.lst (iv l))) t (.lst ((qs ++ [q]).map V.ref))) G e t r xs ys (qs ++ [q]) E (T ++ [l]) R := by
  have h2 := h.alloc (o := .lst (iv l)) n
  have hq := h.qne n
  have nqe := ne_new h.e1 n
  have nqr := ne_new h.r1 n
  refine ⟨by rw [L2.upd_ne h.et]; exact h2.e1, h.e2, by rw [L2.upd_ne (Ne.symm h.tr)]; exact h2.r1, h.r2, h2.tl.push upd_same hq (Ne.symm (ne_new h.tl.top n)), h.s0, h2.s1.mut h.gt, h.ge, h.gt, h.gr, fun z hz => ?_, by simp [h.eq, nqe], by simp [h.rq, nqr], h.et, h.er, h.tr⟩
  rcases List.mem_append.mp hz with hz | hz
  · exact h.gq z hz
  · rw [List.mem_singleton.mp hz]
    exact n.of h.s1
theorem StB.dE (h : StB K H0 H G e t r xs ys qs E T R) : Dp K H (.ref e) (dEnds E) := .lst (SqL.of h.e1) (h.e2.same h.s1)
theorem StB.dR (h : StB K H0 H G e t r xs ys qs E T R) : Dp K H (.ref r) (dRows R) := .lst (SqL.of h.r1) (h.r2.same h.s1)
end

section
variable {P : Program} {w : World} {K : PySem.W.Frag} {mg : Str → Option Value} {base : Heap} {C_Pull C_Push C_Web C_TooWide C_FloorError C_TooMany C_TooRough : Addr}
def spCell (K : PySem.W.Frag) : Sp := fun vs H Q _ => ∃ (p : Addr) (ns : List Int) (k : Nat), vs = [.ref p, .int k] ∧ SqL K H p (ns.map V.int) ∧ Q (.int (ns.getD k 0)) H
theorem ok_law_cell {f : Addr} {fd : FuncData} (F : Fun K "_law_cell" "_law_cell" s_law_cell f fd) (gf : mg "_law_cell" = some (.ref f)) (B : Bl mg) {C_Pull C_Push C_Web C_TooWide C_FloorError C_TooMany C_TooRough : Addr} (T : Txt K mg C_Pull C_Push C_Web C_TooWide C_FloorError C_TooMany C_TooRough) : Has P w K mg base CX0 1 "_law_cell" ["script", "k"] (spCell K) := by
  refine Has.mk' F gf (F.binds (ps := ["script", "k"]) fun _ _ _ _ _ _ us hl => match us, hl with | [_, _], _ => rfl) sc_law_cell (by walk_at "len") (fun cdv A outer s H vs Q E hr h => ?_)
  obtain ⟨p, ns, k, rfl, hp, q⟩ := h
  refine ⟨_, (pss_cons (ps_if (pt_cmpR op_lt (pv 1) (pe_callB (call_lenK K) (by rfl) B.len (by decide +kernel) (pa_cons (pv 0) pa_nil)) (nomark _)) (pss_one (ps_ret (pe_ix (ix_listK K) (pv 0) (pv 1) (fun _ _ => rfl)))) pss_nil)
 (pss_one (ps_ret pe_int))), ?_⟩
  walk_at "sts"
  refine ifd (fun hc => ?_) (fun hc => ?_)
  · rw [List.length_map] at hc
    have e : (ns.map V.int)[k]? = some (.int (ns.getD k 0)) := by
      rw [List.getElem?_map, List.getD_eq_getElem?_getD, List.getElem?_eq_getElem (by omega)]
      rfl
    walk_at "sts"
    exact q
  · rw [List.length_map] at hc
    walk_at "sts"
    rw [List.getD_eq_getElem?_getD, List.getElem?_eq_none (by omega)] at q
    exact q
def spLHead (K : PySem.W.Frag) : Sp := fun vs H Q _ => ∃ (a : Addr) (d : Nat) (E : EdgL), vs = [.ref a, .int d] ∧ Dp K H (.ref a) (dEnds E) ∧ d < 2 * E.length ∧ Q (.int (hd E d : Nat)) H
theorem ok_law_head {f : Addr} {fd : FuncData} (F : Fun K "_law_head" "_law_head" s_law_head f fd) (gf : mg "_law_head" = some (.ref f)) (B : Bl mg) {C_Pull C_Push C_Web C_TooWide C_FloorError C_TooMany C_TooRough : Addr} (T : Txt K mg C_Pull C_Push C_Web C_TooWide C_FloorError C_TooMany C_TooRough) : Has P w K mg base CX0 1 "_law_head" ["ends", "dart"] (spLHead K) := by
  refine Has.mk' F gf (F.binds (ps := ["ends", "dart"]) fun _ _ _ _ _ _ us hl => match us, hl with | [_, _], _ => rfl) sc_law_head (by walk_at "len") (fun cdv A outer s H vs Q E hr h => ?_)
  obtain ⟨a, d, E', rfl, hE, hd', q⟩ := h
  obtain ⟨xs, hx, hX⟩ := dpLstA hE
  obtain ⟨p, h1, h2⟩ := dpEndsAt hX (i := d / 2) (by omega)
  refine ⟨_, (pss_one (ps_ret (pe_ix (ix_tupK K) (pe_ix (ix_listK K) (pv 0) (pe_op op_fdivW (pv 1) pe_int) (fun _ _ => rfl)) (pe_op op_sub pe_int (pe_op op_mod (pv 1) pe_int)) (fun _ _ => rfl)))), ?_⟩
  have e : atI [V.int ((en E' (d / 2)).1 : Nat), .int ((en E' (d / 2)).2 : Nat)] (1 - (d : Int) % 2) = some (.int (hd E' d : Nat)) := by
    unfold hd
    by_cases hm : d % 2 = 0
    · rw [if_pos hm, show (1 - (d : Int) % 2) = ((1 : Nat) : Int) by omega]; exact atI_nat rfl
    · rw [if_neg hm, show (1 - (d : Int) % 2) = ((0 : Nat) : Int) by omega]; exact atI_nat rfl
  walk_at "sts"
  exact q
end

section
variable {P : Program} {w : World} {K : PySem.W.Frag} {mg : Str → Option Value} {base : Heap} {C_Pull C_Push C_Web C_TooWide C_FloorError C_TooMany C_TooRough : Addr}
def spPutB (K : PySem.W.Frag) : Sp := fun vs H Q _ => ∃ (a : Addr) (p d x : Nat) (T : Turns) (qs : List Addr), vs = [.ref a, .int p, .int d, .int x] ∧ LL H a qs T ∧ p < T.length ∧ d / 2 ∈ row T p ∧ (row T p).length ≤ 1000 ∧ ∀ q, qs[p]? = some q → Q .non (upd H q (.lst (iv (putAt (row T p) ((row T p).idxOf (d / 2) + 1) x))))
theorem ok_law_put {f : Addr} {fd : FuncData} (F : Fun K "_law_put" "_law_put" s_law_put f fd) (gf : mg "_law_put" = some (.ref f)) (B : Bl mg) {C_Pull C_Push C_Web C_TooWide C_FloorError C_TooMany C_TooRough : Addr} (T : Txt K mg C_Pull C_Push C_Web C_TooWide C_FloorError C_TooMany C_TooRough) : Has P w K mg base CX0 1 "_law_put" ["turns", "place", "behind", "fresh"] (spPutB K) := by
  refine Has.mk' F gf (F.binds (ps := ["turns", "place", "behind", "fresh"]) fun _ _ _ _ _ _ us hl => match us, hl with | [_, _, _, _], _ => rfl) sc_law_put (by walk_at "len") (fun cdv A outer s H vs Q E hr h => ?_)
  obtain ⟨a, p, d, x, Tu, qs, rfl, hL, hp, hm, hl, q⟩ := h
  obtain ⟨q1, f1, f2, f3⟩ := hL.get hp
  have htop := SqL.of (K := K) hL.top
  have hsl : (iv (row Tu p)).length < sizeLine := szlt (by rw [iv_len]; omega)
  have hix : (row Tu p).idxOf (d / 2) < (row Tu p).length := List.idxOf_lt_length_of_mem hm
  refine ⟨_, (pss_cons (ps_set (i := 4) sc_law_put.nd rfl (.inl rfl) (pe_ix (ix_listK K) (pv 0) (pv 1) (fun _ _ => rfl)))
 (pss_one (ps_expr (pe_bmK K (pe_bm PySem.F.plainAttrs_list PySem.F.slot_list_insert PySem.F.type_list_insert mt_insert (pv 4) (pa_cons (pe_op op_add (pe_bmK K (pe_bm PySem.F.plainAttrs_list PySem.F.slot_list_index PySem.F.type_list_index (mt_indexK K) (pv 4) (pa_cons (pe_op op_fdivW (pv 2) pe_int) pa_nil))) pe_int) (pa_cons (pv 3) pa_nil))))))), ?_⟩
  walk_at "sts"
  refine w_idx (SqL.of f3) hm ?_
  walk_at "sts"
  have hix2 : (((row Tu p).idxOf (d / 2) : Nat) : Int) + 1 < 2 ^ 63 := by omega
  refine w_ins f3 hsl (by omega) hix2 ?_
  have ep : List.take (Int.toNat ((((row Tu p).idxOf (d / 2) : Nat) : Int) + 1)) (iv (row Tu p)) ++ [V.int (x : Int)] ++ List.drop (Int.toNat ((((row Tu p).idxOf (d / 2) : Nat) : Int) + 1)) (iv (row Tu p)) = iv (putAt (row Tu p) ((row Tu p).idxOf (d / 2) + 1) x) := iv_put _ _ _
  rw [ep]
  exact q q1 f1
theorem sz1000 {n : Nat} (h : n ≤ 1000) : n ≤ sizeLine := Nat.le_trans h (by decide)
/-- between the two halves of a step -/
def MidB (K : PySem.W.Frag) (H0 H' G : Hp) (e t r : Addr) (xs : List V) (E : EdgL) (T : Turns) (fl : Bool) (lf two pl : Nat) : Prop :=
  ∃ (G1 : Hp) (ys1 : List V) (qs1 : List Addr) (T1 : Turns) (R1 : List (List Nat)), Same G G1 ∧ StB K H0 H' G1 e t r xs ys1 qs1 E T1 R1 ∧ GB (E ++ [newE fl (hd E lf) two]) (putBehind T1 (hd E lf) (lf / 2) E.length) R1 ∧ hd E lf < T1.length ∧ row T1 (hd E lf) = row T (hd E lf) ∧ T.length ≤ T1.length ∧ T1.length ≤ pl
def spStepB (K : PySem.W.Frag) : Sp := fun vs H Q _ => ∃ (c : Int) (e t r : Addr) (pl : Nat), vs = [.int c, .ref e, .ref t, .ref r, .int pl] ∧ ∃ (H0 G : Hp) (xs ys : List V) (qs : List Addr) (E : EdgL) (T : Turns) (R : List (List Nat)), StB K H0 H G e t r xs ys qs E T R ∧ GB E T R ∧ 0 < E.length ∧ E.length ≤ 100 ∧ T.length ≤ pl ∧ pl ≤ 100 ∧
  ∀ H' G' xs' ys' qs' E' T' R', StB K H0 H' G' e t r xs' ys' qs' E' T' R' → GB E' T' R' → E'.length ≤ E.length + 1 → E.length ≤ E'.length → T'.length ≤ pl → T.length ≤ T'.length → Q .non H'
theorem ok_law_step {f : Addr} {fd : FuncData} (F : Fun K "_law_step" "_law_step" s_law_step f fd) (gf : mg "_law_step" = some (.ref f)) (B : Bl mg) {C_Pull C_Push C_Web C_TooWide C_FloorError C_TooMany C_TooRough : Addr} (T : Txt K mg C_Pull C_Push C_Web C_TooWide C_FloorError C_TooMany C_TooRough) (h_law_head : Has P w K mg base CX0 1 "_law_head" ["ends", "dart"] (spLHead K)) (h_law_put : Has P w K mg base CX0 1 "_law_put" ["turns", "place", "behind", "fresh"] (spPutB K)) : Has P w K mg base CX0 2 "_law_step" ["cell", "ends", "turns", "rings", "places"] (spStepB K) := by
  refine Has.mk' F gf (F.binds (ps := ["cell", "ends", "turns", "rings", "places"]) fun _ _ _ _ _ _ us hl => match us, hl with | [_, _, _, _, _], _ => rfl) sc_law_step (by walk_at "len") (fun cdv A outer s H vs Q E hr h => ?_)
  obtain ⟨c, e, t, r, pl, rfl, H0, G, xs, ys, qs, E', Tu, R, hS, hG, hEp, hE1, hT1, hpl, q⟩ := h
  have ok := hG.flat.ok
  have hrl := hG.rlen
  have hxl : xs.length = E'.length := by have := dpaLen hS.e2; simpa using this
  have hyl : ys.length = R.length := by have := dpaLen hS.r2; simpa using this
  have hEpos : 0 < E'.length := hEp
  have hRpos : 0 < R.length := by
    have h0 : (0 : Nat) ∈ R.flatten := hG.rings.mem.mpr (by omega)
    obtain ⟨x, hx, _⟩ := List.mem_flatten.mp h0
    exact List.length_pos_of_mem hx
  obtain ⟨M, hM, hM2⟩ : ∃ M : Nat, c % 1000000007 * 48271 % 2147483647 = (M : Int) ∧ M < 2147483647 := ⟨(c % 1000000007 * 48271 % 2147483647).toNat, by omega, by omega⟩
  have hr1 := SqL.of (K := K) hS.r1
  have he1 := SqL.of (K := K) hS.e1
  refine ⟨_, (pss_cons (ps_set (i := 5) sc_law_step.nd rfl (.inl rfl) (pe_op op_mod (pe_op op_mulX (pe_op op_mod (pv 0) pe_int) pe_int) pe_int))
 (pss_cons (ps_set (i := 6) sc_law_step.nd rfl (.inl rfl) (pe_op op_mod (pe_op op_fdivW (pv 5) pe_int) (pe_callB (call_lenK K) (by rfl) B.len (by decide +kernel) (pa_cons (pv 3) pa_nil))))
 (pss_cons (ps_set (i := 7) sc_law_step.nd rfl (.inl rfl) (pe_op op_fdivW (pe_op op_fdivW (pv 5) pe_int) (pe_callB (call_lenK K) (by rfl) B.len (by decide +kernel) (pa_cons (pv 3) pa_nil))))
 (pss_cons (ps_set (i := 8) sc_law_step.nd rfl (.inl rfl) (pe_ix (ix_listK K) (pv 3) (pv 6) (fun _ _ => rfl)))
 (pss_cons (ps_set (i := 9) sc_law_step.nd rfl (.inl rfl) (pe_op op_mod (pv 7) (pe_callB (call_lenK K) (by rfl) B.len (by decide +kernel) (pa_cons (pv 8) pa_nil))))
 (pss_cons (ps_set (i := 10) sc_law_step.nd rfl (.inl rfl) (pv 9))
 (pss_cutX (ps_if (pt_cmpR op_eq (pe_op op_mod (pv 5) pe_int) pe_int (nomark _)) (pss_one (ps_set (i := 10) sc_law_step.nd rfl (.inl rfl) (pe_op op_add (pv 9) (pe_op op_mod (pe_op op_fdivW (pv 7) (pe_callB (call_lenK K) (by rfl) B.len (by decide +kernel) (pa_cons (pv 8) pa_nil))) (pe_op op_sub (pe_callB (call_lenK K) (by rfl) B.len (by decide +kernel) (pa_cons (pv 8) pa_nil)) (pv 9)))))) pss_nil)
 (pss_cons (ps_set (i := 11) sc_law_step.nd rfl (.inl rfl) (pe_fn h_law_head (hr.mono (by decide)) (by rfl) (pa_cons (pv 1) (pa_cons (pe_ix (ix_listK K) (pv 8) (pv 9) (fun _ _ => rfl)) pa_nil))))
 (pss_cons (ps_set (i := 12) sc_law_step.nd rfl (.inl rfl) (pe_fn h_law_head (hr.mono (by decide)) (by rfl) (pa_cons (pv 1) (pa_cons (pe_ix (ix_listK K) (pv 8) (pv 10) (fun _ _ => rfl)) pa_nil))))
 (pss_cons (ps_set (i := 13) sc_law_step.nd rfl (.inl rfl) (pe_callB (call_lenK K) (by rfl) B.len (by decide +kernel) (pa_cons (pv 1) pa_nil)))
 (pss_cons (ps_set (i := 14) sc_law_step.nd rfl (.inl rfl) (pe_op op_add (pe_op op_mulX pe_int (pv 13)) (pe_op op_mod (pe_op op_fdivW (pv 0) pe_int) pe_int)))
 (pss_cons (ps_set (i := 15) sc_law_step.nd rfl (.inl rfl) (pe_op op_sub (pe_op op_add (pe_op op_mulX pe_int (pv 13)) pe_int) (pv 14)))
 (pss_cons (ps_if (PW.pt (pw_and (pt_cmpR op_eq (pv 11) (pv 12) (nomark _)) (pw_and1 (pt_cmpR op_ge (pe_callB (call_lenK K) (by rfl) B.len (by decide +kernel) (pa_cons (pv 2) pa_nil)) (pv 4) (nomark _))))) (pss_one ps_retN) pss_nil)
 (pss_cutX (ps_if (pt_cmpR op_eq (pv 11) (pv 12) (nomark _)) (pss_cons (ps_set (i := 12) sc_law_step.nd rfl (.inl rfl) (pe_callB (call_lenK K) (by rfl) B.len (by decide +kernel) (pa_cons (pv 2) pa_nil)))
 (pss_cons (ps_expr (pe_bmK K (pe_bm PySem.F.plainAttrs_list PySem.F.slot_list_append PySem.F.type_list_append mt_append (pv 2) (pa_cons (pe_lst (pa_cons (pv 13) pa_nil)) pa_nil))))
 (pss_one (ps_asg (pe_op op_cat (pe_op op_cat (pe_slice (sl_listK K) (pv 8) po_none (po_some (pe_op op_add (pv 9) pe_int))) (pe_lst (pa_cons (pv 14) (pa_cons (pv 15) pa_nil)))) (pe_slice (sl_listK K) (pv 8) (po_some (pe_op op_add (pv 9) pe_int)) po_none)) (pg_sub (pv 3) (pv 6) set_list))))) (pss_cons (ps_expr (pe_fn h_law_put (hr.mono (by decide)) (by rfl) (pa_cons (pv 2) (pa_cons (pv 12) (pa_cons (pe_ix (ix_listK K) (pv 8) (pv 10) (fun _ _ => rfl)) (pa_cons (pv 13) pa_nil))))))
 (pss_cons (ps_asg (pe_op op_cat (pe_op op_cat (pe_slice (sl_listK K) (pv 8) po_none (po_some (pe_op op_add (pv 9) pe_int))) (pe_lst (pa_cons (pv 14) pa_nil))) (pe_slice (sl_listK K) (pv 8) (po_some (pe_op op_add (pv 10) pe_int)) po_none)) (pg_sub (pv 3) (pv 6) set_list))
 (pss_one (ps_expr (pe_bmK K (pe_bm PySem.F.plainAttrs_list PySem.F.slot_list_append PySem.F.type_list_append mt_append (pv 3) (pa_cons (pe_op op_cat (pe_slice (sl_listK K) (pv 8) (po_some (pe_op op_add (pv 9) pe_int)) (po_some (pe_op op_add (pv 10) pe_int))) (pe_lst (pa_cons (pv 15) pa_nil))) pa_nil))))))))
 (pss_cons (ps_expr (pe_fn h_law_put (hr.mono (by decide)) (by rfl) (pa_cons (pv 2) (pa_cons (pv 11) (pa_cons (pe_ix (ix_listK K) (pv 8) (pv 9) (fun _ _ => rfl)) (pa_cons (pv 13) pa_nil))))))
 (pss_one (ps_if (pt_cmpR op_eq (pe_op op_mod (pv 14) pe_int) pe_int (nomark _)) (pss_one (ps_expr (pe_bmK K (pe_bm PySem.F.plainAttrs_list PySem.F.slot_list_append PySem.F.type_list_append mt_append (pv 1) (pa_cons (pe_tup (pa_cons (pv 11) (pa_cons (pv 12) pa_nil))) pa_nil))))) (pss_one (ps_expr (pe_bmK K (pe_bm PySem.F.plainAttrs_list PySem.F.slot_list_append PySem.F.type_list_append mt_append (pv 1) (pa_cons (pe_tup (pa_cons (pv 12) (pa_cons (pv 11) pa_nil))) pa_nil)))))))))))))))))))))), ?_⟩
  walk_at "sts"
  rw [hM, hyl]
  obtain ⟨wh, hwh, hwh2⟩ := modNB ((M : Int) / 2) hRpos
  rw [hwh]
  obtain ⟨z, hz1, hz2⟩ := dpRowsAt (hS.r2.same hS.s1) hwh2
  obtain ⟨zG, hzG1, hzG⟩ := dpRowsAt hS.r2 hwh2
  rw [hz1] at hzG1
  cases hzG1
  obtain ⟨rs, hrs⟩ : ∃ rs : Nat, (M : Int) / 2 / ((R.length : Nat) : Int) = (rs : Int) := ⟨M / 2 / R.length, by rw [Int.natCast_ediv, Int.natCast_ediv]; rfl⟩
  have hring : R[wh]? = some (row R wh) := by unfold row; rw [List.getD_eq_getElem?_getD, List.getElem?_eq_getElem hwh2]; rfl
  have hrpos : 0 < (row R wh).length := by
    obtain ⟨x, l, e1, _⟩ := hG.rings.ok _ (List.mem_of_getElem? hring)
    rw [e1]
    exact Nat.succ_pos _
  have hrle : (row R wh).length ≤ 200 := by
    have := nodup_sub_len (ys := List.range (2 * E'.length)) (hG.rings.nd.sublist (List.sublist_flatten_of_mem (List.mem_of_getElem? hring))) fun z hz => List.mem_range.mpr (hG.lt hring hz)
    simp at this
    omega
  have hmem : ∀ i, i < (row R wh).length → (row R wh).getD i 0 < 2 * E'.length := fun i hi => hG.lt hring (by rw [List.getD_eq_getElem?_getD, List.getElem?_eq_getElem hi]; exact List.getElem_mem hi)
  rw [hrs]
  obtain ⟨a, ha, ha2⟩ := modNB (rs : Int) hrpos
  walk_at "sts"
  rw [iv_len]
  walk_at "sts"
  rw [ha]
  have hat := iv_at ha2
  try dsimp only
  refine w_cut (fun σ' H1 => ∃ (b : Nat), σ' = [some (.int c), some (.ref e), some (.ref t), some (.ref r), some (.int pl), some (.int (M : Nat)), some (.int (wh : Nat)), some (.int (rs : Nat)), some (.ref z), some (.int (a : Nat)), some (.int (b : Nat)), none, none, none, none, none] ∧ H1 = H ∧ a ≤ b ∧ b < (row R wh).length) ?_ ?_
  · walk_at "sts"
    refine ifd (fun h1 => ?_) (fun h1 => ?_)
    · obtain ⟨b, hb, hb2⟩ := modNB ((rs : Int) / ((row R wh).length : Nat)) (show 0 < (row R wh).length - a by omega)
      walk_at "sts"
      rw [iv_len]
      walk_at "sts"
      rw [iv_len, show (((row R wh).length : Nat) : Int) - (a : Int) = (((row R wh).length - a : Nat) : Int) by omega]
      walk_at "sts"
      rw [hb]
      exact ⟨a + b, rfl, rfl, by omega, by omega⟩
    · walk_at "sts"
      exact ⟨a, rfl, rfl, Nat.le_refl _, ha2⟩
  rintro σ H1 ⟨b, rfl, rfl, hab, hb⟩
  have hbt := iv_at hb
  have hl := hmem a ha2
  have hr := hmem b hb
  walk_at "sts"
  have hsp := split_at ha2
  have hsp2 : a < b → _ := fun h => split_two hb h
  obtain ⟨lf, hlf⟩ : ∃ lf, lf = (row R wh).getD a 0 := ⟨_, rfl⟩
  obtain ⟨rt, hrt⟩ : ∃ rt, rt = (row R wh).getD b 0 := ⟨_, rfl⟩
  have hdl : a = b → lf = rt := fun e => by rw [hlf, hrt, e]
  rw [← hlf] at hsp hsp2 hl hat ⊢
  rw [← hrt] at hsp2 hr hbt
  refine ⟨e, lf, E', rfl, hS.dE, hl, ?_⟩
  walk_at "sts"
  refine ⟨e, rt, E', rfl, hS.dE, hr, ?_⟩
  walk_at "sts"
  have htl : (qs.map V.ref).length = Tu.length := by rw [List.length_map, hS.tl.len]
  have ht := SqL.of (K := K) hS.tl.top
  obtain ⟨fl, hfl⟩ : ∃ fl : Bool, c / 3 % 2 = if fl = true then 1 else 0 := by
    by_cases h : c / 3 % 2 = 1
    · exact ⟨true, h⟩
    · exact ⟨false, by show c / 3 % 2 = 0; omega⟩
  have hout : 2 * ((E'.length : Nat) : Int) + c / 3 % 2 = ((newD E' fl : Nat) : Int) := by
    rw [hfl]
    unfold newD
    cases fl <;> simp
  have hback : 4 * ((E'.length : Nat) : Int) + 1 - ((newD E' fl : Nat) : Int) = ((newD E' (!fl) : Nat) : Int) := by
    unfold newD
    cases fl <;> simp <;> omega
  have hplt := ok.hd_lt hl
  have hplr := ok.hd_lt hr
  have rl : ∀ p, p < Tu.length → (row Tu p).length ≤ E'.length := fun p hp' => by
    have := nodup_sub_len (ys := List.range E'.length) (ok.nd p hp') fun z hz => List.mem_range.mpr ((ok.mem p hp' z).mp hz).1
    simpa using this
  rw [hxl, hout, hback]
  walk_at "sts"
  refine ifd (fun heq => ?_) (fun hne => ?_)
  have heq' : hd E' lf = hd E' rt := by omega
  walk_at "sts"
  rw [htl]
  refine ifd (fun hle => ?_) (fun hlt => ?_)
  · walk_at "sts"
    exact q _ G xs ys qs E' Tu R hS hG (by omega) (Nat.le_refl _) hT1 (Nat.le_refl _)
  walk_at "sts"
  try dsimp only
  refine w_cut (fun σ' H2 => ∃ two : Nat, σ' = [some (.int c), some (.ref e), some (.ref t), some (.ref r), some (.int pl), some (.int (M : Nat)), some (.int (wh : Nat)), some (.int (rs : Nat)), some (.ref z), some (.int (a : Nat)), some (.int (b : Nat)), some (.int (hd E' lf : Nat)), some (.int (two : Nat)), some (.int (E'.length : Nat)), some (.int (newD E' fl : Nat)), some (.int (newD E' (!fl) : Nat))] ∧ MidB K H0 H2 G e t r xs E' Tu fl lf two pl) ?_ ?_
  · walk_at "sts"
    rw [htl]
    refine w_new fun qn nq => ?_
    have sz1 : (qs.map V.ref).length < sizeLine := szlt (by rw [htl]; omega)
    have t1 := ne_new hS.tl.top nq
    have top1 : upd H1 qn (.lst [.int (E'.length : Nat)]) t = some (.lst (qs.map V.ref)) := by rw [upd_ne t1]; exact hS.tl.top
    walk_at "sts"
    have st1 : StB K H0 (upd (upd H1 qn (.lst [.int (E'.length : Nat)])) t (.lst (qs.map V.ref ++ [.ref qn]))) G e t r xs ys (qs ++ [qn]) E' (Tu ++ [[E'.length]]) R := by
      have := hS.pushTurn (l := [E'.length]) nq
      rw [List.map_append] at this
      exact this
    generalize upd (upd H1 qn (.lst [.int (E'.length : Nat)])) t (.lst (qs.map V.ref ++ [.ref qn])) = H2 at st1 ⊢
    clear top1
    obtain ⟨z', hz1', hz2'⟩ := dpRowsAt (st1.r2.same st1.s1) hwh2
    rw [hz1] at hz1'
    cases hz1'
    walk_at "sts"
    refine w_new fun q1 m1 => ?_
    rw [show ((a : Nat) : Int) + 1 = ((a + 1 : Nat) : Int) from rfl, cutV_to, iv_take]
    have st2 := st1.alloc (o := .lst (iv ((row R wh).take (a + 1)))) m1
    have k1 := upd_same (H := H2) (a := q1) (o := .lst (iv ((row R wh).take (a + 1))))
    have u1 := same_upd (o := .lst (iv ((row R wh).take (a + 1)))) m1
    have hz3 := u1.seq hz2'
    generalize upd H2 q1 (.lst (iv ((row R wh).take (a + 1)))) = H3 at st2 k1 hz3 ⊢
    clear u1 m1
    walk_at "sts"
    refine w_new fun q2 m2 => ?_
    have st3 := st2.alloc (o := .lst [.int (newD E' fl : Nat), .int (newD E' (!fl) : Nat)]) m2
    have k2 := upd_same (H := H3) (a := q2) (o := .lst [.int (newD E' fl : Nat), .int (newD E' (!fl) : Nat)])
    have u2 := same_upd (o := .lst [.int (newD E' fl : Nat), .int (newD E' (!fl) : Nat)]) m2
    have hz4 := u2.seq hz3
    have k1 := u2 _ _ k1
    generalize upd H3 q2 (.lst [.int (newD E' fl : Nat), .int (newD E' (!fl) : Nat)]) = H4 at st3 k1 k2 hz4 ⊢
    clear u2 m2
    refine ⟨q1, q2, _, _, rfl, rfl, k1, k2, sz1000 (by rw [iv_len, List.length_take]; show min (a + 1) (row R wh).length + 2 ≤ 1000; omega), fun q3 m3 => ?_⟩
    have st4 := st3.alloc (o := .lst (iv ((row R wh).take (a + 1)) ++ [.int (newD E' fl : Nat), .int (newD E' (!fl) : Nat)])) m3
    have k3 := upd_same (H := H4) (a := q3) (o := .lst (iv ((row R wh).take (a + 1)) ++ [.int (newD E' fl : Nat), .int (newD E' (!fl) : Nat)]))
    have u3 := same_upd (o := .lst (iv ((row R wh).take (a + 1)) ++ [.int (newD E' fl : Nat), .int (newD E' (!fl) : Nat)])) m3
    have hz5 := u3.seq hz4
    generalize upd H4 q3 (.lst (iv ((row R wh).take (a + 1)) ++ [.int (newD E' fl : Nat), .int (newD E' (!fl) : Nat)])) = H5 at st4 k3 hz5 ⊢
    clear u3 m3 k1 k2
    walk_at "sts"
    refine w_new fun q4 m4 => ?_
    rw [show ((a : Nat) : Int) + 1 = ((a + 1 : Nat) : Int) from rfl, cutV_from, iv_drop]
    have st5 := st4.alloc (o := .lst (iv ((row R wh).drop (a + 1)))) m4
    have k4 := upd_same (H := H5) (a := q4) (o := .lst (iv ((row R wh).drop (a + 1))))
    have k3 := same_upd (o := .lst (iv ((row R wh).drop (a + 1)))) m4 _ _ k3
    generalize upd H5 q4 (.lst (iv ((row R wh).drop (a + 1)))) = H6 at st5 k3 k4 ⊢
    clear m4
    refine ⟨q3, q4, _, _, rfl, rfl, k3, k4, sz1000 (by rw [List.length_append, iv_len, iv_len, List.length_take, List.length_drop]; show min (a + 1) (row R wh).length + 2 + ((row R wh).length - (a + 1)) ≤ 1000; omega), fun q5 m5 => ?_⟩
    obtain ⟨ring', hring'⟩ : ∃ l, l = (row R wh).take a ++ lf :: newD E' fl :: newD E' (!fl) :: (row R wh).drop (a + 1) := ⟨_, rfl⟩
    have hiv : iv ((row R wh).take (a + 1)) ++ [.int (newD E' fl : Nat), .int (newD E' (!fl) : Nat)] ++ iv ((row R wh).drop (a + 1)) = iv ring' := by
      rw [hring', List.take_add_one, List.getElem?_eq_getElem ha2, Option.toList_some, iv_app, iv_app, show (row R wh)[a] = lf by rw [hlf, List.getD_eq_getElem?_getD, List.getElem?_eq_getElem ha2]; rfl, List.append_assoc, List.append_assoc]
      rfl
    rw [hiv]
    have st6 := st5.keep (o := .lst (iv ring')) m5
    have gk : upd G q5 (.lst (iv ring')) q5 = some (.lst (iv ring')) := upd_same
    have sG7 : Same G (upd G q5 (.lst (iv ring'))) := same_upd ((show New _ q5 from m5).of st5.s1)
    generalize upd H6 q5 (.lst (iv ring')) = H7 at st6 ⊢
    generalize upd G q5 (.lst (iv ring')) = G7 at st6 gk sG7
    have hr7 := st6.r1
    walk_at "sts"
    have st7 := st6.setRing (w := wh) (v := .ref q5) (l := ring') (dpRow (SqL.of gk))
    refine ⟨Tu.length, rfl, G7, _, _, _, _, sG7, st7, ?_, by rw [List.length_append]; omega, ?_, by rw [List.length_append]; omega, by rw [List.length_append]; show Tu.length + 1 ≤ pl; omega⟩
    · rw [put_push hplt, hring']
      exact hG.leaf (by rw [hring]; exact congrArg some hsp) fl
    · rw [row_push, if_neg (by omega)]
  rintro σ H2 ⟨two, rfl, G1, ys1, qs1, T1, R1, sG1, hS1, hG1, hp1, hrow1, hT1', hT1''⟩
  have hz9 : SqL K H2 z (iv (row R wh)) := (sG1.trans hS1.s1).seq hzG
  walk_at "sts"
  refine ⟨t, hd E' lf, lf, E'.length, T1, qs1, rfl, hS1.tl, hp1, by rw [hrow1]; exact ok.hd_mem hl, by rw [hrow1]; have := rl _ hplt; omega, fun qp hqp => ?_⟩
  have st := hS1.setRow hp1 hqp (putAt (row T1 (hd E' lf)) ((row T1 (hd E' lf)).idxOf (lf / 2) + 1) E'.length)
  generalize upd H2 qp (.lst (iv (putAt (row T1 (hd E' lf)) ((row T1 (hd E' lf)).idxOf (lf / 2) + 1) E'.length))) = H3 at st ⊢
  have hxsz : xs.length < sizeLine := szlt (by omega)
  have he3 := SqL.of (K := K) st.e1
  walk_at "sts"
  cases fl with
  | false =>
    have e0 : ((newD E' false : Nat) : Int) % 2 = 0 := by unfold newD; simp
    walk_at "sts"
    refine w_new fun pt npt => ?_
    have st' := st.keep (o := .tup [.int (hd E' lf : Nat), .int (two : Nat)]) npt
    have gk : upd G1 pt (.tup [.int (hd E' lf : Nat), .int (two : Nat)]) pt = some (.tup [.int (hd E' lf : Nat), .int (two : Nat)]) := upd_same
    generalize upd H3 pt (.tup [.int (hd E' lf : Nat), .int (two : Nat)]) = H4 at st' ⊢
    generalize upd G1 pt (.tup [.int (hd E' lf : Nat), .int (two : Nat)]) = G4 at st' gk
    have he4 := st'.e1
    have he5 := SqL.of (K := K) st'.e1
    walk_at "sts"
    have st2 := st'.pushEnd (x := newE false (hd E' lf) two) (dEndT (SqT.of gk))
    exact q _ _ _ _ _ _ _ _ st2 hG1 (by rw [List.length_append]; exact Nat.le_refl _) (by rw [List.length_append]; omega) (by rw [List.length_set]; exact hT1'') (by rw [List.length_set]; exact hT1')
  | true =>
    have e0 : ((newD E' true : Nat) : Int) % 2 = 1 := by unfold newD; simp
    walk_at "sts"
    refine w_new fun pt npt => ?_
    have st' := st.keep (o := .tup [.int (two : Nat), .int (hd E' lf : Nat)]) npt
    have gk : upd G1 pt (.tup [.int (two : Nat), .int (hd E' lf : Nat)]) pt = some (.tup [.int (two : Nat), .int (hd E' lf : Nat)]) := upd_same
    generalize upd H3 pt (.tup [.int (two : Nat), .int (hd E' lf : Nat)]) = H4 at st' ⊢
    generalize upd G1 pt (.tup [.int (two : Nat), .int (hd E' lf : Nat)]) = G4 at st' gk
    have he4 := st'.e1
    have he5 := SqL.of (K := K) st'.e1
    walk_at "sts"
    have st2 := st'.pushEnd (x := newE true (hd E' lf) two) (dEndT (SqT.of gk))
    exact q _ _ _ _ _ _ _ _ st2 hG1 (by rw [List.length_append]; exact Nat.le_refl _) (by rw [List.length_append]; omega) (by rw [List.length_set]; exact hT1'') (by rw [List.length_set]; exact hT1')

  refine ifF rfl ?_
  walk_at "sts"
  try dsimp only
  refine w_cut (fun σ' H2 => ∃ two : Nat, σ' = [some (.int c), some (.ref e), some (.ref t), some (.ref r), some (.int pl), some (.int (M : Nat)), some (.int (wh : Nat)), some (.int (rs : Nat)), some (.ref z), some (.int (a : Nat)), some (.int (b : Nat)), some (.int (hd E' lf : Nat)), some (.int (two : Nat)), some (.int (E'.length : Nat)), some (.int (newD E' fl : Nat)), some (.int (newD E' (!fl) : Nat))] ∧ MidB K H0 H2 G e t r xs E' Tu fl lf two pl) ?_ ?_
  · walk_at "sts"
    refine ⟨t, hd E' rt, rt, E'.length, Tu, qs, rfl, hS.tl, hplr, ok.hd_mem hr, by have := rl _ hplr; omega, fun qp hqp => ?_⟩
    have hne' : hd E' lf ≠ hd E' rt := by omega
    have hab' : a < b := by
      rcases Nat.lt_or_ge a b with h | h
      · exact h
      · exact absurd (by rw [hdl (by omega)]) hne'
    have st1 := hS.setRow hplr hqp (putAt (row Tu (hd E' rt)) ((row Tu (hd E' rt)).idxOf (rt / 2) + 1) E'.length)
    generalize upd H1 qp (.lst (iv (putAt (row Tu (hd E' rt)) ((row Tu (hd E' rt)).idxOf (rt / 2) + 1) E'.length))) = H2 at st1 ⊢
    obtain ⟨z', hz1', hz2'⟩ := dpRowsAt (st1.r2.same st1.s1) hwh2
    rw [hz1] at hz1'
    cases hz1'
    walk_at "sts"
    refine w_new fun q1 m1 => ?_
    rw [show ((a : Nat) : Int) + 1 = ((a + 1 : Nat) : Int) from rfl, cutV_to, iv_take]
    have st2 := st1.alloc (o := .lst (iv ((row R wh).take (a + 1)))) m1
    have k1 := upd_same (H := H2) (a := q1) (o := .lst (iv ((row R wh).take (a + 1))))
    have u1 := same_upd (o := .lst (iv ((row R wh).take (a + 1)))) m1
    have hz3 := u1.seq hz2'
    generalize upd H2 q1 (.lst (iv ((row R wh).take (a + 1)))) = H3 at st2 k1 hz3 ⊢
    clear u1 m1
    walk_at "sts"
    refine w_new fun q2 m2 => ?_
    have st3 := st2.alloc (o := .lst [.int (newD E' fl : Nat)]) m2
    have k2 := upd_same (H := H3) (a := q2) (o := .lst [.int (newD E' fl : Nat)])
    have u2 := same_upd (o := .lst [.int (newD E' fl : Nat)]) m2
    have hz4 := u2.seq hz3
    have k1 := u2 _ _ k1
    generalize upd H3 q2 (.lst [.int (newD E' fl : Nat)]) = H4 at st3 k1 k2 hz4 ⊢
    clear u2 m2
    refine ⟨q1, q2, _, _, rfl, rfl, k1, k2, sz1000 (by rw [iv_len, List.length_take]; show min (a + 1) (row R wh).length + 1 ≤ 1000; omega), fun q3 m3 => ?_⟩
    have st4 := st3.alloc (o := .lst (iv ((row R wh).take (a + 1)) ++ [.int (newD E' fl : Nat)])) m3
    have k3 := upd_same (H := H4) (a := q3) (o := .lst (iv ((row R wh).take (a + 1)) ++ [.int (newD E' fl : Nat)]))
    have u3 := same_upd (o := .lst (iv ((row R wh).take (a + 1)) ++ [.int (newD E' fl : Nat)])) m3
    have hz5 := u3.seq hz4
    generalize upd H4 q3 (.lst (iv ((row R wh).take (a + 1)) ++ [.int (newD E' fl : Nat)])) = H5 at st4 k3 hz5 ⊢
    clear u3 m3 k1 k2
    walk_at "sts"
    refine w_new fun q4 m4 => ?_
    rw [show ((b : Nat) : Int) + 1 = ((b + 1 : Nat) : Int) from rfl, cutV_from, iv_drop]
    have st5 := st4.alloc (o := .lst (iv ((row R wh).drop (b + 1)))) m4
    have k4 := upd_same (H := H5) (a := q4) (o := .lst (iv ((row R wh).drop (b + 1))))
    have u4 := same_upd (o := .lst (iv ((row R wh).drop (b + 1)))) m4
    have k3 := u4 _ _ k3
    have hz6 := u4.seq hz5
    generalize upd H5 q4 (.lst (iv ((row R wh).drop (b + 1)))) = H6 at st5 k3 k4 hz6 ⊢
    clear m4 u4
    refine ⟨q3, q4, _, _, rfl, rfl, k3, k4, sz1000 (by rw [List.length_append, iv_len, iv_len, List.length_take, List.length_drop]; show min (a + 1) (row R wh).length + 1 + ((row R wh).length - (b + 1)) ≤ 1000; omega), fun q5 m5 => ?_⟩
    obtain ⟨ring', hring'⟩ : ∃ l, l = (row R wh).take a ++ lf :: newD E' fl :: (row R wh).drop (b + 1) := ⟨_, rfl⟩
    have hiv : iv ((row R wh).take (a + 1)) ++ [.int (newD E' fl : Nat)] ++ iv ((row R wh).drop (b + 1)) = iv ring' := by
      rw [hring', List.take_add_one, List.getElem?_eq_getElem ha2, Option.toList_some, iv_app, iv_app, show (row R wh)[a] = lf by rw [hlf, List.getD_eq_getElem?_getD, List.getElem?_eq_getElem ha2]; rfl, List.append_assoc, List.append_assoc]
      rfl
    rw [hiv]
    have st6 := st5.keep (o := .lst (iv ring')) m5
    have gk : upd G q5 (.lst (iv ring')) q5 = some (.lst (iv ring')) := upd_same
    have sG7 : Same G (upd G q5 (.lst (iv ring'))) := same_upd ((show New _ q5 from m5).of st5.s1)
    have hz7 := (same_upd (o := .lst (iv ring')) m5).seq hz6
    generalize upd H6 q5 (.lst (iv ring')) = H7 at st6 hz7 ⊢
    generalize upd G q5 (.lst (iv ring')) = G7 at st6 gk sG7
    have hr7 := st6.r1
    walk_at "sts"
    have st7 := st6.setRing (w := wh) (v := .ref q5) (l := ring') (dpRow (SqL.of gk))
    have hz8 : SqL K (upd H7 r (.lst (ys.set wh (.ref q5)))) z (iv (row R wh)) := (sG7.trans st7.s1).seq hzG
    generalize upd H7 r (.lst (ys.set wh (.ref q5))) = H8 at st7 hz8 ⊢
    have hr8 := st7.r1
    have hr8' := SqL.of (K := K) st7.r1
    have hsz8 : (ys.set wh (.ref q5)).length < sizeLine := szlt (by rw [List.length_set]; omega)
    walk_at "sts"
    refine w_new fun q6 m6 => ?_
    rw [show ((a : Nat) : Int) + 1 = ((a + 1 : Nat) : Int) from rfl, show ((b : Nat) : Int) + 1 = ((b + 1 : Nat) : Int) from rfl, cutV_nat, iv_drop, iv_take]
    have st8 := st7.alloc (o := .lst (iv (((row R wh).drop (a + 1)).take (b + 1 - (a + 1))))) m6
    have k6 := upd_same (H := H8) (a := q6) (o := .lst (iv (((row R wh).drop (a + 1)).take (b + 1 - (a + 1)))))
    generalize upd H8 q6 (.lst (iv (((row R wh).drop (a + 1)).take (b + 1 - (a + 1))))) = H9 at st8 k6 ⊢
    clear m6
    walk_at "sts"
    refine w_new fun q7 m7 => ?_
    have st9 := st8.alloc (o := .lst [.int (newD E' (!fl) : Nat)]) m7
    have k7 := upd_same (H := H9) (a := q7) (o := .lst [.int (newD E' (!fl) : Nat)])
    have k6 := same_upd (o := .lst [.int (newD E' (!fl) : Nat)]) m7 _ _ k6
    generalize upd H9 q7 (.lst [.int (newD E' (!fl) : Nat)]) = H10 at st9 k6 k7 ⊢
    clear m7
    refine ⟨q6, q7, _, _, rfl, rfl, k6, k7, sz1000 (by rw [iv_len, List.length_take, List.length_drop]; show min (b + 1 - (a + 1)) ((row R wh).length - (a + 1)) + 1 ≤ 1000; omega), fun q8 m8 => ?_⟩
    obtain ⟨ring2, hring2⟩ : ∃ l, l = ((row R wh).drop (a + 1)).take (b - a - 1) ++ [rt, newD E' (!fl)] := ⟨_, rfl⟩
    have hiv2 : iv (((row R wh).drop (a + 1)).take (b + 1 - (a + 1))) ++ [.int (newD E' (!fl) : Nat)] = iv ring2 := by
      have e1 : b + 1 - (a + 1) = (b - a - 1) + 1 := by omega
      have e2 : ((row R wh).drop (a + 1))[b - a - 1]? = some rt := by
        rw [List.getElem?_drop, show a + 1 + (b - a - 1) = b by omega, hrt, List.getD_eq_getElem?_getD, List.getElem?_eq_getElem hb]
        rfl
      rw [hring2, e1, List.take_add_one, e2, Option.toList_some, iv_app, iv_app, List.append_assoc]
      rfl
    rw [hiv2]
    have st10 := st9.keep (o := .lst (iv ring2)) m8
    have gk2 : upd G7 q8 (.lst (iv ring2)) q8 = some (.lst (iv ring2)) := upd_same
    have sG8 : Same G (upd G7 q8 (.lst (iv ring2))) := sG7.trans (same_upd ((show New _ q8 from m8).of st9.s1))
    generalize upd H10 q8 (.lst (iv ring2)) = H11 at st10 ⊢
    generalize upd G7 q8 (.lst (iv ring2)) = G8 at st10 gk2 sG8
    have hr11 := st10.r1
    have hr11' := SqL.of (K := K) st10.r1
    walk_at "sts"
    have st11 := st10.pushRing (v := .ref q8) (l := ring2) (dpRow (SqL.of gk2))
    refine ⟨hd E' rt, rfl, G8, _, _, _, _, sG8, st11, ?_, by rw [List.length_set]; exact hplt, ?_, by rw [List.length_set]; exact Nat.le_refl _, by rw [List.length_set]; exact hT1⟩
    · have := hG.chord (w := wh) (left := lf) (right := rt) (by rw [hring]; exact congrArg some (hsp2 hab')) hne' fl
      rw [← put_comm hne', ← hring', ← hring2] at this
      exact this
    · exact putBehind_row Tu (rt / 2) E'.length hplr (hd E' lf) |>.trans (if_neg hne')
  rintro σ H2 ⟨two, rfl, G1, ys1, qs1, T1, R1, sG1, hS1, hG1, hp1, hrow1, hT1', hT1''⟩
  have hz9 : SqL K H2 z (iv (row R wh)) := (sG1.trans hS1.s1).seq hzG
  walk_at "sts"
  refine ⟨t, hd E' lf, lf, E'.length, T1, qs1, rfl, hS1.tl, hp1, by rw [hrow1]; exact ok.hd_mem hl, by rw [hrow1]; have := rl _ hplt; omega, fun qp hqp => ?_⟩
  have st := hS1.setRow hp1 hqp (putAt (row T1 (hd E' lf)) ((row T1 (hd E' lf)).idxOf (lf / 2) + 1) E'.length)
  generalize upd H2 qp (.lst (iv (putAt (row T1 (hd E' lf)) ((row T1 (hd E' lf)).idxOf (lf / 2) + 1) E'.length))) = H3 at st ⊢
  have hxsz : xs.length < sizeLine := szlt (by omega)
  have he3 := SqL.of (K := K) st.e1
  walk_at "sts"
  cases fl with
  | false =>
    have e0 : ((newD E' false : Nat) : Int) % 2 = 0 := by unfold newD; simp
    walk_at "sts"
    refine w_new fun pt npt => ?_
    have st' := st.keep (o := .tup [.int (hd E' lf : Nat), .int (two : Nat)]) npt
    have gk : upd G1 pt (.tup [.int (hd E' lf : Nat), .int (two : Nat)]) pt = some (.tup [.int (hd E' lf : Nat), .int (two : Nat)]) := upd_same
    generalize upd H3 pt (.tup [.int (hd E' lf : Nat), .int (two : Nat)]) = H4 at st' ⊢
    generalize upd G1 pt (.tup [.int (hd E' lf : Nat), .int (two : Nat)]) = G4 at st' gk
    have he4 := st'.e1
    have he5 := SqL.of (K := K) st'.e1
    walk_at "sts"
    have st2 := st'.pushEnd (x := newE false (hd E' lf) two) (dEndT (SqT.of gk))
    exact q _ _ _ _ _ _ _ _ st2 hG1 (by rw [List.length_append]; exact Nat.le_refl _) (by rw [List.length_append]; omega) (by rw [List.length_set]; exact hT1'') (by rw [List.length_set]; exact hT1')
  | true =>
    have e0 : ((newD E' true : Nat) : Int) % 2 = 1 := by unfold newD; simp
    walk_at "sts"
    refine w_new fun pt npt => ?_
    have st' := st.keep (o := .tup [.int (two : Nat), .int (hd E' lf : Nat)]) npt
    have gk : upd G1 pt (.tup [.int (two : Nat), .int (hd E' lf : Nat)]) pt = some (.tup [.int (two : Nat), .int (hd E' lf : Nat)]) := upd_same
    generalize upd H3 pt (.tup [.int (two : Nat), .int (hd E' lf : Nat)]) = H4 at st' ⊢
    generalize upd G1 pt (.tup [.int (two : Nat), .int (hd E' lf : Nat)]) = G4 at st' gk
    have he4 := st'.e1
    have he5 := SqL.of (K := K) st'.e1
    walk_at "sts"
    have st2 := st'.pushEnd (x := newE true (hd E' lf) two) (dEndT (SqT.of gk))
    exact q _ _ _ _ _ _ _ _ st2 hG1 (by rw [List.length_append]; exact Nat.le_refl _) (by rw [List.length_append]; omega) (by rw [List.length_set]; exact hT1'') (by rw [List.length_set]; exact hT1')

end

section
variable {P : Program} {w : World} {K : PySem.W.Frag} {mg : Str → Option Value} {base : Heap} {C_Pull C_Push C_Web C_TooWide C_FloorError C_TooMany C_TooRough : Addr}
/-- grown is a tuple of ends, turns and rings -/
def GrB (K : PySem.W.Frag) (H : Hp) (p : Addr) (E : EdgL) (T : Turns) (R : List (List Nat)) : Prop := ∃ e t r, SqT K H p [.ref e, .ref t, .ref r] ∧ Dp K H (.ref e) (dEnds E) ∧ Dp K H (.ref t) (dRows T) ∧ Dp K H (.ref r) (dRows R)
theorem GrB.same {K : PySem.W.Frag} {H H' : Hp} {p : Addr} {E : EdgL} {T : Turns} {R : List (List Nat)} (h : GrB K H p E T R) (e : Same H H') : GrB K H' p E T R := by
  obtain ⟨a, b, c, h1, h2, h3, h4⟩ := h
  exact ⟨a, b, c, same_read e h1, h2.same e, h3.same e, h4.same e⟩
def spGrownB (K : PySem.W.Frag) : Sp := fun vs H Q _ => ∃ (a : Addr) (cs : List Int) (pl : Nat), vs = [.ref a, .int pl] ∧ SqL K H a (cs.map V.int) ∧ cs.length ≤ 90 ∧ 2 ≤ pl ∧ pl ≤ 100 ∧
  ∀ p H' E T R, Same H H' → New H p → GrB K H' p E T R → GB E T R → 1 ≤ E.length → E.length ≤ cs.length + 1 → 2 ≤ T.length → T.length ≤ pl → Q (.ref p) H'
theorem ok_law_grown {f : Addr} {fd : FuncData} (F : Fun K "_law_grown" "_law_grown" s_law_grown f fd) (gf : mg "_law_grown" = some (.ref f)) (B : Bl mg) {C_Pull C_Push C_Web C_TooWide C_FloorError C_TooMany C_TooRough : Addr} (T : Txt K mg C_Pull C_Push C_Web C_TooWide C_FloorError C_TooMany C_TooRough) (h_law_step : Has P w K mg base CX0 2 "_law_step" ["cell", "ends", "turns", "rings", "places"] (spStepB K)) : Has P w K mg base CX0 3 "_law_grown" ["cells", "places"] (spGrownB K) := by
  refine Has.mk' F gf (F.binds (ps := ["cells", "places"]) fun _ _ _ _ _ _ us hl => match us, hl with | [_, _], _ => rfl) sc_law_grown (by walk_at "len") (fun cdv A outer s H vs Q E hr h => ?_)
  obtain ⟨a, cs, pl, rfl, hS, hsz, hp2, hp1, q⟩ := h
  refine ⟨_, (pss_cons (ps_set (i := 2) sc_law_grown.nd rfl (.inl rfl) (pe_lst (pa_cons (pe_tup (pa_cons pe_int (pa_cons pe_int pa_nil))) pa_nil)))
 (pss_cons (ps_set (i := 3) sc_law_grown.nd rfl (.inl rfl) (pe_lst (pa_cons (pe_lst (pa_cons pe_int pa_nil)) (pa_cons (pe_lst (pa_cons pe_int pa_nil)) pa_nil))))
 (pss_cons (ps_set (i := 4) sc_law_grown.nd rfl (.inl rfl) (pe_lst (pa_cons (pe_lst (pa_cons pe_int (pa_cons pe_int pa_nil))) pa_nil)))
 (pss_cons (ps_for PassesOwn.never rfl (pi_listK K (pv 0)) (pg_name (i := 5) sc_law_grown.nd rfl (.inl rfl)) (pss_one (ps_expr (pe_fn h_law_step (hr.mono (by decide)) (by rfl) (pa_cons (pv 5) (pa_cons (pv 2) (pa_cons (pv 3) (pa_cons (pv 4) (pa_cons (pv 1) pa_nil)))))))))
 (pss_one (ps_ret (pe_tup (pa_cons (pv 2) (pa_cons (pv 3) (pa_cons (pv 4) pa_nil)))))))))), ?_⟩
  walk_at "sts"
  refine w_new fun p1 n1 => ?_
  walk_at "sts"
  refine w_new fun p2 n2 => ?_
  walk_at "sts"
  refine w_new fun p3 n3 => ?_
  walk_at "sts"
  refine w_new fun p4 n4 => ?_
  walk_at "sts"
  refine w_new fun p5 n5 => ?_
  walk_at "sts"
  refine w_new fun p6 n6 => ?_
  walk_at "sts"
  refine w_new fun p7 n7 => ?_
  walk_at "sts"
  have q12 : p1 ≠ p2 := ne_new upd_same n2
  have q13 : p1 ≠ p3 := ne_new (by walk_at "hp") n3
  have q14 : p1 ≠ p4 := ne_new (by walk_at "hp") n4
  have q15 : p1 ≠ p5 := ne_new (by walk_at "hp") n5
  have q16 : p1 ≠ p6 := ne_new (by walk_at "hp") n6
  have q17 : p1 ≠ p7 := ne_new (by walk_at "hp") n7
  have q23 : p2 ≠ p3 := ne_new upd_same n3
  have q24 : p2 ≠ p4 := ne_new (by walk_at "hp") n4
  have q25 : p2 ≠ p5 := ne_new (by walk_at "hp") n5
  have q26 : p2 ≠ p6 := ne_new (by walk_at "hp") n6
  have q27 : p2 ≠ p7 := ne_new (by walk_at "hp") n7
  have q34 : p3 ≠ p4 := ne_new upd_same n4
  have q35 : p3 ≠ p5 := ne_new (by walk_at "hp") n5
  have q36 : p3 ≠ p6 := ne_new (by walk_at "hp") n6
  have q37 : p3 ≠ p7 := ne_new (by walk_at "hp") n7
  have q45 : p4 ≠ p5 := ne_new upd_same n5
  have q46 : p4 ≠ p6 := ne_new (by walk_at "hp") n6
  have q47 : p4 ≠ p7 := ne_new (by walk_at "hp") n7
  have q56 : p5 ≠ p6 := ne_new upd_same n6
  have q57 : p5 ≠ p7 := ne_new (by walk_at "hp") n7
  have q67 : p6 ≠ p7 := ne_new upd_same n7
  have m2 : New H p2 := n2.of (by walk_at "same")
  have m3 : New H p3 := n3.of (by walk_at "same")
  have m4 : New H p4 := n4.of (by walk_at "same")
  have m5 : New H p5 := n5.of (by walk_at "same")
  have m6 : New H p6 := n6.of (by walk_at "same")
  have m7 : New H p7 := n7.of (by walk_at "same")
  have q61 : p6 ≠ p1 := Ne.symm q16
  have sG1 : Same H (upd H p1 (.tup [.int 0, .int 1])) := same_upd n1
  have m6' : New (upd H p1 (.tup [.int 0, .int 1])) p6 := m6.upd q61
  have sG : Same H (upd (upd H p1 (.tup [.int 0, .int 1])) p6 (.lst (iv [0, 1]))) := sG1.trans (same_upd m6')
  have sAll : Same H (upd (upd (upd (upd (upd (upd (upd H p1 (.tup [.int 0, .int 1])) p2 (.lst [.ref p1])) p3 (.lst [.int 0])) p4 (.lst [.int 0])) p5 (.lst [.ref p3, .ref p4])) p6 (.lst [.int 0, .int 1])) p7 (.lst [.ref p6])) := by walk_at "same"
  refine for_list (xs := cs.map V.int) (fun i σ H' => ∃ (E' : EdgL) (Tu : Turns) (R : List (List Nat)) (xs ys : List V) (qs : List Addr) (G : Hp) (y : Option V), σ = [some (.ref a), some (.int pl), some (.ref p2), some (.ref p5), some (.ref p7), y] ∧ GB E' Tu R ∧ 1 ≤ E'.length ∧ E'.length ≤ i + 1 ∧ 2 ≤ Tu.length ∧ Tu.length ≤ pl ∧ StB K H H' G p2 p5 p7 xs ys qs E' Tu R) ?_ ?_ ?_ ?_
  · refine ⟨[(0, 1)], [[0], [0]], [[0, 1]], [.ref p1], [.ref p6], [p3, p4], upd (upd H p1 (.tup [.int 0, .int 1])) p6 (.lst (iv [0, 1])), _, rfl, gb0, Nat.le_refl _, Nat.le_refl _, Nat.le_refl _, hp2, ?_⟩
    refine ⟨by walk_at "hp", ?_, upd_same, ?_, ?_, sG, ?_, ?_, ?_, ?_, ?_, ?_, ?_, q25, q27, q57⟩
    · exact .cons (dEndT (a := 0) (b := 1) (SqT.of (by rw [upd_ne q16, upd_same]; rfl))) .nil
    · exact .cons (dpRow (SqL.of upd_same)) .nil
    · refine ⟨by rw [upd_ne q57, upd_ne q56, upd_same]; rfl, rfl, by simp [q34], fun i q hq => ?_, by simp [Ne.symm q35, Ne.symm q45]⟩
      match i, hq with
      | 0, hq => cases hq; rw [upd_ne q37, upd_ne q36, upd_ne q35, upd_ne q34, upd_same]; rfl
      | 1, hq => cases hq; rw [upd_ne q47, upd_ne q46, upd_ne q45, upd_same]; rfl
      | i + 2, hq => simp at hq
    · exact (sAll.add (by rw [upd_ne q17, upd_ne q16, upd_ne q15, upd_ne q14, upd_ne q13, upd_ne q12, upd_same])).add (by rw [upd_ne q67, upd_same]; rfl)
    · exact (m2.upd (Ne.symm q12)).upd q26
    · exact (m5.upd (Ne.symm q15)).upd q56
    · exact (m7.upd (Ne.symm q17)).upd (Ne.symm q67)
    · intro q hq
      have : q = p3 ∨ q = p4 := by simpa using hq
      rcases this with rfl | rfl
      · exact (m3.upd (Ne.symm q13)).upd q36
      · exact (m4.upd (Ne.symm q14)).upd q46
    · simp [q23, q24]
    · simp [Ne.symm q37, Ne.symm q47]
  · rintro i σ H' _ ⟨E', Tu, R, xs, ys, qs, G, y, _, _, _, _, _, _, st⟩
    exact (st.s0.trans st.s1).seq hS
  · rintro i x σ H' hx ⟨E', Tu, R, xs, ys, qs, G, y, rfl, hG, b1, b2, b3, b4, st⟩
    have hi : i < cs.length := by
      have := (List.getElem?_eq_some_iff.mp hx).1
      rwa [List.length_map] at this
    rw [List.getElem?_map] at hx
    obtain ⟨c, hc, rfl⟩ := Option.map_eq_some_iff.mp hx
    walk_at "sts"
    refine ⟨c, p2, p5, p7, pl, rfl, H, G, xs, ys, qs, E', Tu, R, st, hG, b1, by omega, b4, hp1, fun H2 G2 xs2 ys2 qs2 E2 T2 R2 st2 hG2 c1 c2 c3 c4 => ?_⟩
    walk_at "sts"
    exact ⟨E2, T2, R2, xs2, ys2, qs2, G2, _, rfl, hG2, by omega, by omega, by omega, c3, st2⟩
  · rintro σ H1 ⟨E', Tu, R, xs, ys, qs, G, y, rfl, hG, b1, b2, b3, b4, st⟩
    rw [List.length_map] at b2
    walk_at "sts"
    refine w_new fun p np => ?_
    have sN := same_upd (o := .tup [.ref p2, .ref p5, .ref p7]) np
    exact q p _ E' Tu R (st.s0.trans (st.s1.trans sN)) (np.of (st.s0.trans st.s1)) ⟨p2, p5, p7, SqT.of upd_same, st.dE.same sN, st.tl.dp.same sN, st.dR.same sN⟩ hG b1 b2 b3 b4
end
/-! ### an order of numbers; the web renumbered -/
theorem iv_put1 (r : List Nat) (k : Nat) (x : Int) (j : Nat) (hx : x = (j : Int)) : (iv r).take (Int.toNat (k : Int)) ++ [V.int x] ++ (iv r).drop (Int.toNat (k : Int)) = iv (putAt r k j) := by
  rw [hx, Int.toNat_natCast]
  exact iv_put r k j
theorem perm_put {r : List Nat} {i k : Nat} (h : r.Perm (List.range i)) : (putAt r k i).Perm (List.range (i + 1)) := by
  refine (putAt_perm r k i).trans ?_
  rw [List.range_succ]
  exact (h.cons i).trans (List.perm_append_comm (l₁ := [i]) (l₂ := List.range i))
theorem dpaOf {K : PySem.W.Frag} {H : Hp} : ∀ {xs : List V} {ds : List PyData}, xs.length = ds.length → (∀ (i : Nat) (v : V) (d : PyData), xs[i]? = some v → ds[i]? = some d → Dp K H v d) → DpAll K H xs ds
  | [], [], _, _ => .nil
  | _ :: xs, _ :: ds, hl, h => .cons (h 0 _ _ rfl rfl) (dpaOf (by simpa using hl) fun i v d a b => h (i + 1) v d a b)
theorem Flat.row_pos {E : EdgL} {T : Turns} (h : Flat E T) (h2 : 2 ≤ T.length) {p : Nat} (hp : p < T.length) : 0 < (row T p).length := by
  refine Nat.pos_of_ne_zero fun e => ?_
  have ok := h.ok
  have em : row T p = [] := List.eq_nil_of_length_eq_zero e
  obtain ⟨q, hq, hne⟩ : ∃ q, q < T.length ∧ q ≠ p := by
    by_cases z : p = 0
    · exact ⟨1, by omega, by omega⟩
    · exact ⟨0, by omega, by omega⟩
  have := h.whole (fun x => decide (x = p)) (fun i hi => by
    have a : ¬ ((en E i).1 = p ∨ (en E i).2 = p) := fun z => by
      have := (ok.mem p hp i).mpr ⟨hi, z⟩
      rw [em] at this
      cases this
    rw [not_or] at a
    show decide _ = decide _
    rw [decide_eq_false a.1, decide_eq_false a.2]) p q hp hq
  simp [hne] at this
theorem cut_rot (r : List Nat) (c : Nat) (h : c ≤ r.length) : cutV (iv r) (some (c : Int)) none ++ cutV (iv r) none (some (c : Int)) = iv (rot c r) := by
  have h1 : HT.sIx (iv r).length 0 (some (c : Int)) = c := by
    rw [iv_len, HT.sIx_nat]; omega
  have h2 : HT.sIx (iv r).length (iv r).length (some (c : Int)) = c := by
    rw [iv_len, HT.sIx_nat]; omega
  unfold cutV
  rw [h1, h2]
  show List.take (HT.sIx (iv r).length (iv r).length none - c) (List.drop c (iv r)) ++ List.take (c - HT.sIx (iv r).length 0 none) (List.drop (HT.sIx (iv r).length 0 none) (iv r)) = _
  have h3 : HT.sIx (iv r).length (iv r).length none = (iv r).length := rfl
  have h4 : HT.sIx (iv r).length 0 none = 0 := rfl
  rw [h3, h4]
  unfold rot
  rw [iv_app]
  unfold iv
  rw [List.map_drop, List.map_take, List.drop_zero, Nat.sub_zero, List.take_of_length_le (by simp)]
def renE (σ τ : List Nat) (E : EdgL) : EdgL := (List.range E.length).map fun j => (pm σ (en E (τ.idxOf j)).1, pm σ (en E (τ.idxOf j)).2)
def cutN (c : Int) (p l : Nat) : Nat := (c % 1009 * ((p : Int) + 1) % (l : Int)).toNat
def renT (σ τ : List Nat) (c : Int) (T : Turns) : Turns := (List.range T.length).map fun q => rot (cutN c (σ.idxOf q) (row T (σ.idxOf q)).length) ((row T (σ.idxOf q)).map (pm τ))
theorem renE_len (σ τ : List Nat) (E : EdgL) : (renE σ τ E).length = E.length := by unfold renE; simp
theorem renT_len (σ τ : List Nat) (c : Int) (T : Turns) : (renT σ τ c T).length = T.length := by unfold renT; simp
theorem pm_idx {τ : List Nat} {n j : Nat} (h : τ.Perm (List.range n)) (hj : j < n) : τ.idxOf j < n ∧ pm τ (τ.idxOf j) = j := by
  obtain ⟨i, hi, e⟩ := pm_surj h hj
  have nd : τ.Nodup := h.nodup_iff.mpr List.nodup_range
  have := idx_at nd (pm_at h hi)
  rw [e] at this
  rw [this]
  exact ⟨hi, e⟩
theorem idx_pm {τ : List Nat} {n i : Nat} (h : τ.Perm (List.range n)) (hi : i < n) : τ.idxOf (pm τ i) = i := idx_at (h.nodup_iff.mpr List.nodup_range) (pm_at h hi)
theorem renum_of {E : EdgL} {T : Turns} {σ τ : List Nat} (c : Int) (hs : σ.Perm (List.range T.length)) (ht : τ.Perm (List.range E.length)) : Renum E T σ τ (renE σ τ E) (renT σ τ c T) := by
  refine ⟨hs, ht, renE_len _ _ _, renT_len _ _ _ _, fun k hk => ?_, fun p hp => ⟨cutN c p (row T p).length, ?_⟩⟩
  · unfold en renE
    rw [List.getD_eq_getElem?_getD, map_at (pm_lt ht hk), idx_pm ht hk]
    rfl
  · unfold row renT
    rw [List.getD_eq_getElem?_getD, map_at (pm_lt hs hp), idx_pm hs hp]
    rfl

theorem max1 {n : Nat} (h : 0 < n) : (if ((n : Nat) : Int) > 1 then ((n : Nat) : Int) else 1) = (n : Int) := by
  split <;> omega
theorem Renum.gb {E E' : EdgL} {T T' : Turns} {σ τ : List Nat} {R : List (List Nat)} (h : Renum E T σ τ E' T') (g : GB E T R) : GB E' T' (R.map (List.map (dm τ))) := by
  have ok := g.flat.ok
  have hR := g.rings
  refine ⟨h.flat g.flat, ⟨?_, ?_⟩⟩
  · rw [h.le, ← List.map_flatten]
    exact (hR.all.map _).trans (dm_perm h.pt)
  · intro r hr
    obtain ⟨s, hs, rfl⟩ := List.mem_map.mp hr
    obtain ⟨x, l, rfl, p⟩ := hR.ok s hs
    refine ⟨dm τ x, l.map (dm τ), rfl, p.map fun z hz => ?_⟩
    exact h.fol ok (hR.mem.mp (List.mem_flatten.mpr ⟨_, hs, hz⟩))
section
variable {P : Program} {w : World} {K : PySem.W.Frag} {mg : Str → Option Value} {base : Heap} {C_Pull C_Push C_Web C_TooWide C_FloorError C_TooMany C_TooRough : Addr}
def spOrder : Sp := fun vs H Q _ => ∃ (c : Int) (m : Nat), vs = [.int c, .int m] ∧ m ≤ 1000 ∧ ∀ p H' π, Same H H' → New H p → π.Perm (List.range m) → H' p = some (.lst (iv π)) → Q (.ref p) H'
theorem ok_law_order {f : Addr} {fd : FuncData} (F : Fun K "_law_order" "_law_order" s_law_order f fd) (gf : mg "_law_order" = some (.ref f)) (B : Bl mg) {C_Pull C_Push C_Web C_TooWide C_FloorError C_TooMany C_TooRough : Addr} (T : Txt K mg C_Pull C_Push C_Web C_TooWide C_FloorError C_TooMany C_TooRough) : Has P w K mg base CX0 1 "_law_order" ["cell", "many"] spOrder := by
  refine Has.mk' F gf (F.binds (ps := ["cell", "many"]) fun _ _ _ _ _ _ us hl => match us, hl with | [_, _], _ => rfl) sc_law_order (by walk_at "len") (fun cdv A outer s H vs Q E hr h => ?_)
  obtain ⟨c, m, rfl, hm, q⟩ := h
  refine ⟨_, (pss_cons (ps_set (i := 2) sc_law_order.nd rfl (.inl rfl) (pe_lst pa_nil))
 (pss_cons (ps_set (i := 3) sc_law_order.nd rfl (.inl rfl) (pe_op op_mod (pv 0) pe_int))
 (pss_cons (ps_for PassesOwn.never rfl (pi_range1 (by rfl) B.range (pa_cons (pv 1) pa_nil)) (pg_name (i := 4) sc_law_order.nd rfl (.inl rfl)) (pss_cons (ps_set (i := 3) sc_law_order.nd rfl (.inl rfl) (pe_op op_mod (pe_op op_add (pe_op op_mulX (pv 3) pe_int) (pe_op op_mulX pe_int (pv 4))) pe_int))
 (pss_one (ps_expr (pe_bmK K (pe_bm PySem.F.plainAttrs_list PySem.F.slot_list_insert PySem.F.type_list_insert mt_insert (pv 2) (pa_cons (pe_op op_mod (pv 3) (pe_op op_add (pv 4) pe_int)) (pa_cons (pv 4) pa_nil))))))))
 (pss_one (ps_ret (pv 2)))))), ?_⟩
  walk_at "sts"
  refine w_new fun p1 n1 => ?_
  walk_at "sts"
  refine for_r0 (n := m) ?_ (fun i σ H' => ∃ (π : List Nat) (M : Int) (y : Option V), σ = [some (.int c), some (.int (m : Int)), some (.ref p1), some (.int M), y] ∧ 0 ≤ M ∧ M < 2147483647 ∧ π.Perm (List.range i) ∧ Same H H' ∧ H' p1 = some (.lst (iv π))) ?_ ?_ ?_
  · rfl
  · refine ⟨[], c % 1000000007, _, rfl, by omega, by omega, .nil, same_upd n1, upd_same⟩
  · rintro i σ H' hi ⟨π, M, y, rfl, m1, m2, hp, s1, e1⟩
    have hl : π.length = i := by have := hp.length_eq; simpa using this
    have hsl : (iv π).length < sizeLine := szlt (by rw [iv_len]; omega)
    walk_at "sts"
    obtain ⟨k, hk⟩ : ∃ k : Nat, (M * 48271 + 11 * (i : Int)) % 2147483647 % ((i : Int) + 1) = (k : Int) := ⟨((M * 48271 + 11 * (i : Int)) % 2147483647 % ((i : Int) + 1)).toNat, by
      have := Int.emod_nonneg ((M * 48271 + 11 * (i : Int)) % 2147483647) (show (i : Int) + 1 ≠ 0 by omega)
      omega⟩
    have hk2 : k < 2 ^ 63 := by
      have := Int.emod_lt_of_pos ((M * 48271 + 11 * (i : Int)) % 2147483647) (show 0 < (i : Int) + 1 by omega)
      omega
    rw [hk]
    refine w_ins e1 hsl (by omega) (by omega) ?_
    rw [iv_put1 π k _ i rfl]
    walk_at "sts"
    exact ⟨putAt π k i, _, _, rfl, by omega, by omega, perm_put hp, s1.mut n1, upd_same⟩
  · rintro σ H' ⟨π, M, y, rfl, m1, m2, hp, s1, e1⟩
    walk_at "sts"
    exact q p1 H' π s1 n1 hp e1
def spRenumB (K : PySem.W.Frag) : Sp := fun vs H Q _ => ∃ (a : Addr) (c : Int) (E : EdgL) (T : Turns) (R : List (List Nat)), vs = [.ref a, .int c] ∧ GrB K H a E T R ∧ GB E T R ∧ E.length ≤ 200 ∧ T.length ≤ 200 ∧ 2 ≤ T.length ∧
  ∀ p H' E' T' R', Same H H' → New H p → GrB K H' p E' T' R' → GB E' T' R' → E'.length = E.length → T'.length = T.length → Q (.ref p) H'
theorem ok_law_renumbered {f : Addr} {fd : FuncData} (F : Fun K "_law_renumbered" "_law_renumbered" s_law_renumbered f fd) (gf : mg "_law_renumbered" = some (.ref f)) (B : Bl mg) {C_Pull C_Push C_Web C_TooWide C_FloorError C_TooMany C_TooRough : Addr} (T : Txt K mg C_Pull C_Push C_Web C_TooWide C_FloorError C_TooMany C_TooRough) (h_law_order : Has P w K mg base CX0 1 "_law_order" ["cell", "many"] spOrder) : Has P w K mg base CX0 2 "_law_renumbered" ["grown", "cell"] (spRenumB K) := by
  refine Has.mk' F gf (F.binds (ps := ["grown", "cell"]) fun _ _ _ _ _ _ us hl => match us, hl with | [_, _], _ => rfl) sc_law_renumbered (by walk_at "len") (fun cdv A outer s H vs Q E hr h => ?_)
  obtain ⟨a, c, E', Tu, R, rfl, ⟨e, t, r, hA, hE, hTu, hRu⟩, hG, z1, z2, z3, q⟩ := h
  have hF := hG.flat
  have ok := hF.ok
  obtain ⟨es, he, hEs⟩ := dpLstA hE
  obtain ⟨ts, ht, hTs⟩ := dpLstA hTu
  obtain ⟨rs, hrr, hRs⟩ := dpLstA hRu
  have hrl : rs.length = R.length := by have := dpaLen hRs; simpa using this
  have hel : es.length = E'.length := by have := dpaLen hEs; simpa using this
  have htl : ts.length = Tu.length := by have := dpaLen hTs; simpa using this
  refine ⟨_, (pss_cons (ps_set (i := 2) sc_law_renumbered.nd rfl (.inl rfl) (pe_fn h_law_order (hr.mono (by decide)) (by rfl) (pa_cons (pv 1) (pa_cons (pe_callB (call_lenK K) (by rfl) B.len (by decide +kernel) (pa_cons (pe_ix (ix_tupK K) (pv 0) pe_int (fun _ _ => rfl)) pa_nil)) pa_nil))))
 (pss_cons (ps_set (i := 3) sc_law_renumbered.nd rfl (.inr rfl) (pe_fn h_law_order (hr.mono (by decide)) (by rfl) (pa_cons (pe_op op_fdivW (pv 1) pe_int) (pa_cons (pe_callB (call_lenK K) (by rfl) B.len (by decide +kernel) (pa_cons (pe_ix (ix_tupK K) (pv 0) pe_int (fun _ _ => rfl)) pa_nil)) pa_nil))))
 (pss_cons (ps_set (i := 4) sc_law_renumbered.nd rfl (.inl rfl) (pe_callTy (call_listK K) (by rfl) B.list (by decide +kernel) (pa_cons (pe_ix (ix_tupK K) (pv 0) pe_int (fun _ _ => rfl)) pa_nil)))
 (pss_cons (ps_for PassesOwn.never rfl (pi_range1 (by rfl) B.range (pa_cons (pe_callB (call_lenK K) (by rfl) B.len (by decide +kernel) (pa_cons (pv 4) pa_nil)) pa_nil)) (pg_name (i := 5) sc_law_renumbered.nd rfl (.inl rfl)) (pss_one (ps_asg (pe_tup (pa_cons (pe_ix (ix_listK K) (pv 2) (pe_ix (ix_tupK K) (pe_ix (ix_listK K) (pe_ix (ix_tupK K) (pv 0) pe_int (fun _ _ => rfl)) (pv 5) (fun _ _ => rfl)) pe_int (fun _ _ => rfl)) (fun _ _ => rfl)) (pa_cons (pe_ix (ix_listK K) (pv 2) (pe_ix (ix_tupK K) (pe_ix (ix_listK K) (pe_ix (ix_tupK K) (pv 0) pe_int (fun _ _ => rfl)) (pv 5) (fun _ _ => rfl)) pe_int (fun _ _ => rfl)) (fun _ _ => rfl)) pa_nil))) (pg_sub (pv 4) (pe_ix (ix_listK K) (pv 3) (pv 5) (fun _ _ => rfl)) set_list))))
 (pss_cons (ps_set (i := 6) sc_law_renumbered.nd rfl (.inl rfl) (pe_callTy (call_listK K) (by rfl) B.list (by decide +kernel) (pa_cons (pe_ix (ix_tupK K) (pv 0) pe_int (fun _ _ => rfl)) pa_nil)))
 (pss_cons (ps_for PassesOwn.never rfl (pi_range1 (by rfl) B.range (pa_cons (pe_callB (call_lenK K) (by rfl) B.len (by decide +kernel) (pa_cons (pv 6) pa_nil)) pa_nil)) (pg_name (i := 7) sc_law_renumbered.nd rfl (.inl rfl)) (pss_cons (ps_setLc (i := 8) (own := [("k", 5)]) rfl sc_law_renumbered.nd rfl rfl (sw_true rfl rfl rfl (by decide +kernel)) (pi_listK K (pe_ix (ix_listK K) (pe_ix (ix_tupK K) (pv 0) pe_int (fun _ _ => rfl)) (pv 7) (fun _ _ => rfl))) (blkOk_by (own := [("k", 5)]) (N := ["grown", "cell", "places", "ties", "ends", "k", "turns", "p", "row", "cut", "rings", "ring", "dart"]) (sc := defScope s_law_renumbered) (by decide +kernel)) (fun _ _ _ _ _ => pg_name (i := 5) sc_law_renumbered.nd rfl (Or.inl rfl)) (fun _ _ _ _ _ => pts_nil) (fun _ _ _ _ _ => (pe_ix (ix_listK K) (pv 3) (pv 5) (fun _ _ => rfl))))
 (pss_cons (ps_set (i := 9) sc_law_renumbered.nd rfl (.inl rfl) (pe_op op_mod (pe_op op_mulX (pe_op op_mod (pv 1) pe_int) (pe_op op_add (pv 7) pe_int)) (pe_callB (call_max2 rfl) (by rfl) B.max (by decide +kernel) (pa_cons pe_int (pa_cons (pe_callB (call_lenK K) (by rfl) B.len (by decide +kernel) (pa_cons (pv 8) pa_nil)) pa_nil)))))
 (pss_one (ps_asg (pe_op op_cat (pe_slice (sl_listK K) (pv 8) (po_some (pv 9)) po_none) (pe_slice (sl_listK K) (pv 8) po_none (po_some (pv 9)))) (pg_sub (pv 6) (pe_ix (ix_listK K) (pv 2) (pv 7) (fun _ _ => rfl)) set_list))))))
 (pss_cons (ps_set (i := 10) sc_law_renumbered.nd rfl (.inl rfl) (pe_lst pa_nil))
 (pss_cons (ps_for PassesOwn.never rfl (pi_listK K (pe_ix (ix_tupK K) (pv 0) pe_int (fun _ _ => rfl))) (pg_name (i := 11) sc_law_renumbered.nd rfl (.inl rfl)) (pss_one (ps_expr (pe_bmK K (pe_bm PySem.F.plainAttrs_list PySem.F.slot_list_append PySem.F.type_list_append mt_append (pv 10) (pa_cons (pe_lc (own := [("dart", 12)]) rfl sc_law_renumbered.nd (pi_listK K (pv 11)) (blkOk_by (own := [("dart", 12)]) (N := ["grown", "cell", "places", "ties", "ends", "k", "turns", "p", "row", "cut", "rings", "ring", "dart"]) (sc := defScope s_law_renumbered) (by decide +kernel)) (fun _ _ _ _ _ => pg_name (i := 12) sc_law_renumbered.nd rfl (Or.inl rfl)) (fun _ _ _ _ _ => pts_nil) (fun _ _ _ _ _ => (pe_op op_add (pe_op op_mulX pe_int (pe_ix (ix_listK K) (pv 3) (pe_op op_fdivW (pv 12) pe_int) (fun _ _ => rfl))) (pe_op op_mod (pv 12) pe_int)))) pa_nil))))))
 (pss_one (ps_ret (pe_tup (pa_cons (pv 4) (pa_cons (pv 6) (pa_cons (pv 10) pa_nil)))))))))))))), ?_⟩
  walk_at "sts"
  rw [htl]
  refine ⟨c, Tu.length, rfl, by omega, fun pS H1 σ s1 nS pS1 lS => ?_⟩
  have A1 := same_read s1 hA
  have E1 := s1.seq he
  walk_at "sts"
  rw [hel]
  refine ⟨_, E'.length, rfl, by omega, fun pT H2 τ s2 nT pT1 lT => ?_⟩
  have hsl : σ.length = Tu.length := by have := pS1.length_eq; simpa using this
  have htl' : τ.length = E'.length := by have := pT1.length_eq; simpa using this
  have A2 := same_read s2 A1
  have E2 := s2.seq E1
  have L2 := s2 _ _ lS
  walk_at "sts"
  refine w_new fun pE nE => ?_
  walk_at "sts"
  have s12 := s1.trans s2
  have sp : ∀ i, i < Tu.length → (iv σ)[i]? = some (.int ((pm σ i : Nat) : Int)) := fun i hi => iv_at (by omega)
  have tp : ∀ i, i < E'.length → (iv τ)[i]? = some (.int ((pm τ i : Nat) : Int)) := fun i hi => iv_at (by omega)
  refine for_r0 (n := E'.length) ?_ (fun i σ' H' => ∃ (y : Option V) (y2 y3 y4 y5 y6 y7 y8 : Option V) (xs : List V) (G : Hp), σ' = [some (.ref a), some (.int c), some (.ref pS), some (.ref pT), some (.ref pE), y, y2, y3, y4, y5, y6, y7, y8] ∧ Same H2 G ∧ Same G H' ∧ New G pE ∧ H' pE = some (.lst xs) ∧ xs.length = E'.length ∧
    ∀ k, k < i → ∃ v, xs[pm τ k]? = some v ∧ Dp K G v (dEnd (pm σ (en E' k).1, pm σ (en E' k).2))) ?_ ?_ ?_
  · rw [hel]
  · exact ⟨_, _, _, _, _, _, _, _, es, H2, rfl, Same.refl _, same_upd nE, nE, upd_same, hel, fun k hk => absurd hk (by omega)⟩
  · rintro i σ' H' hi ⟨y, y2, y3, y4, y5, y6, y7, y8, xs, G, rfl, g1, g2, g3, x1, x2, x3⟩
    obtain ⟨p0, b1, b2⟩ := dpEndsAt hEs hi
    have g12 := g1.trans g2
    have A3 := same_read g12 A2
    have E3 := g12.seq E2
    have b3 := same_read g12 (same_read s12 b2)
    have P3 := SqL.of (K := K) (g12 _ _ L2)
    have T3 := SqL.of (K := K) (g12 _ _ lT)
    have w1 := (ok.ends i hi).2.1
    have w2 := (ok.ends i hi).2.2
    have sp1 := sp _ w1
    have sp2 := sp _ w2
    have tp1 := tp _ hi
    walk_at "sts"
    refine w_new fun pt nt => ?_
    have hne : pE ≠ pt := ne_new x1 nt
    have hlt : pm τ i < E'.length := pm_lt pT1 hi
    walk_at "sts"
    refine ⟨_, _, _, _, _, _, _, _, xs.set (pm τ i) (.ref pt), upd G pt _, rfl, g1.trans (same_upd (nt.of g2)), ((g2.trans (same_upd nt)).add upd_same).mut (g3.upd hne), g3.upd hne, upd_same, by simp [x2], fun k hk => ?_⟩
    by_cases e : k = i
    · rw [e]
      exact ⟨.ref pt, List.getElem?_set_self (by omega), dEndT (SqT.of upd_same)⟩
    · obtain ⟨v, v1, v2⟩ := x3 k (by omega)
      have : pm τ i ≠ pm τ k := fun z => e (pm_inj pT1 hi (by omega) z).symm
      exact ⟨v, by rw [List.getElem?_set_ne this]; exact v1, v2.same (same_upd (nt.of g2))⟩
  · rintro σ' H4 ⟨y, y2, y3, y4, y5, y6, y7, y8, xs, G, rfl, g1, g2, g3, x1, x2, x3⟩
    have hDE : DpAll K G xs ((renE σ τ E').map dEnd) := by
      refine dpaOf (by rw [x2, List.length_map, renE_len]) fun i v d v1 v2 => ?_
      have hi : i < E'.length := by rw [← x2]; exact (List.getElem?_eq_some_iff.mp v1).1
      obtain ⟨j1, j2⟩ := pm_idx pT1 hi
      rw [List.getElem?_map, renE, map_at hi] at v2
      cases v2
      obtain ⟨v', u1, u2⟩ := x3 _ j1
      rw [j2, v1] at u1
      cases u1
      exact u2
    have g12 := g1.trans g2
    have A4 := same_read g12 A2
    have T4 := g12.seq (s12.seq ht)
    have dE4 : Dp K H4 (.ref pE) (dEnds (renE σ τ E')) := .lst (SqL.of x1) (hDE.same g2)
    have lS4 := g12 _ _ L2
    have lT4 := g12 _ _ lT
    have S4 := s12.trans g12
    have nE4 : New H pE := nE.of s12
    clear x3 hDE E1 E2 A1 A2
    walk_at "sts"
    refine w_new fun pU nU => ?_
    walk_at "sts"
    refine for_r0 (n := Tu.length) ?_ (fun i σ' H' => ∃ (y3 y4 y5 y6 y7 y8 : Option V) (xs : List V) (G : Hp), σ' = [some (.ref a), some (.int c), some (.ref pS), some (.ref pT), some (.ref pE), y, some (.ref pU), y3, y4, y5, y6, y7, y8] ∧ Same H4 G ∧ Same G H' ∧ New G pU ∧ H' pU = some (.lst xs) ∧ xs.length = Tu.length ∧
      ∀ k, k < i → ∃ v, xs[pm σ k]? = some v ∧ Dp K G v (dRow (rot (cutN c k (row Tu k).length) ((row Tu k).map (pm τ))))) ?_ ?_ ?_
    · rw [htl]
    · exact ⟨_, _, _, _, _, _, ts, H4, rfl, Same.refl _, same_upd nU, nU, upd_same, htl, fun k hk => absurd hk (by omega)⟩
    · rintro i σ' H' hi ⟨y3, y4, y5, y6, y7, y8, xs, G, rfl, g1, g2, g3, x1, x2, x3⟩
      obtain ⟨p0, b1, b2⟩ := dpRowsAt hTs hi
      have g12 := g1.trans g2
      have A5 := same_read g12 A4
      have E5 := g12.seq T4
      have b3 := g12.seq (S4.seq b2)
      have l5 := g12 _ _ lT4
      have l6 := g12 _ _ lS4
      walk_at "sts"
      intro D nD
      refine lc_list (xs := iv (row Tu i)) (fun j H'' => H'' D = some (.lst (iv (((row Tu i).take j).map (pm τ)))) ∧ Same H' H'') ?_ ?_ ?_ ?_
      · exact ⟨upd_same, same_upd nD⟩
      · rintro j H'' _ ⟨_, k2⟩
        exact k2.seq b3
      · rintro j x H'' hx ⟨k1, k2⟩
        have hj : j < (row Tu i).length := by rw [← iv_len]; exact (List.getElem?_eq_some_iff.mp hx).1
        rw [iv_at hj] at hx
        cases hx
        have l7 := k2 _ _ l5
        have hjm : (row Tu i).getD j 0 ∈ row Tu i := by
          rw [List.getD_eq_getElem?_getD, List.getElem?_eq_getElem hj]
          exact List.getElem_mem hj
        have tq := tp _ ((ok.mem i hi _).mp hjm).1
        have hrl : (row Tu i).length ≤ E'.length := by
          have := nodup_sub_len (ys := List.range E'.length) (ok.nd i hi) fun z hz => List.mem_range.mpr ((ok.mem i hi z).mp hz).1
          simpa using this
        walk_at "sts"
        refine ⟨_, k1, szlt (by rw [iv_len, List.length_map, List.length_take]; omega), ?_, k2.mut nD⟩
        rw [upd_same, take_snoc hj, List.map_append, iv_app]
        rfl
      · rintro H6 ⟨k1, k2⟩
        rw [iv_len, List.take_length] at k1
        have hpos := hF.row_pos z3 hi
        have hmp : 0 < (((iv ((row Tu i).map (pm τ))).length : Nat) : Int) := by rw [iv_len, List.length_map]; omega
        have hmod0 : 0 ≤ c % 1009 ∧ c % 1009 < 1009 := by omega
        have hcut : c % 1009 * ((i : Int) + 1) % (((iv ((row Tu i).map (pm τ))).length : Nat) : Int) = ((cutN c i (row Tu i).length : Nat) : Int) := by
          rw [iv_len, List.length_map]
          unfold cutN
          have := Int.emod_nonneg (c % 1009 * ((i : Int) + 1)) (show ((row Tu i).length : Int) ≠ 0 by omega)
          omega
        have hcl : cutN c i (row Tu i).length ≤ ((row Tu i).map (pm τ)).length := by
          have := Int.emod_lt_of_pos (c % 1009 * ((i : Int) + 1)) hmp
          rw [hcut, iv_len] at this
          omega
        have A6 := same_read k2 A5
        have x1' := k2 _ _ x1
        walk_at "sts"
        rw [max1 (show 0 < (iv ((row Tu i).map (pm τ))).length by rw [iv_len, List.length_map]; exact hpos), hcut]
        refine w_new fun q1 nq1 => ?_
        walk_at "sts"
        refine w_new fun q2 nq2 => ?_
        walk_at "sts"
        have q12 : q1 ≠ q2 := ne_new upd_same nq2
        refine ⟨q1, q2, _, _, rfl, rfl, by walk_at "hp", upd_same, ?_, w_new fun pr nr => ?_⟩
        · have a1 := cutV_length (iv ((row Tu i).map (pm τ))) (some ((cutN c i (row Tu i).length : Nat) : Int)) none
          have a2 := cutV_length (iv ((row Tu i).map (pm τ))) none (some ((cutN c i (row Tu i).length : Nat) : Int))
          have hrl : (row Tu i).length ≤ E'.length := by
            have := nodup_sub_len (ys := List.range E'.length) (ok.nd i hi) fun z hz => List.mem_range.mpr ((ok.mem i hi z).mp hz).1
            simpa using this
          rw [iv_len, List.length_map] at a1 a2
          exact Nat.le_trans (show _ ≤ 1000 by omega) (by decide)
        rw [cut_rot _ _ hcl]
        have sp3 := sp _ hi
        have s7 : Same H' (upd (upd H6 q1 (.lst (cutV (iv ((row Tu i).map (pm τ))) (some ((cutN c i (row Tu i).length : Nat) : Int)) none))) q2 (.lst (cutV (iv ((row Tu i).map (pm τ))) none (some ((cutN c i (row Tu i).length : Nat) : Int))))) := (k2.new nq1).new nq2
        generalize upd (upd H6 q1 (.lst (cutV (iv ((row Tu i).map (pm τ))) (some ((cutN c i (row Tu i).length : Nat) : Int)) none))) q2 (.lst (cutV (iv ((row Tu i).map (pm τ))) none (some ((cutN c i (row Tu i).length : Nat) : Int)))) = H7 at nr s7 ⊢
        have x7 := s7 _ _ x1
        have l7 := SqL.of (K := K) (s7 _ _ l6)
        have hUr : pU ≠ pr := ne_new x7 nr
        have hlt : pm σ i < Tu.length := pm_lt pS1 hi
        walk_at "sts"
        refine ⟨_, _, _, _, _, _, xs.set (pm σ i) (.ref pr), upd G pr _, rfl, g1.trans (same_upd (nr.of (g2.trans s7))), (((g2.trans s7).trans (same_upd nr)).add upd_same).mut (g3.upd hUr), g3.upd hUr, upd_same, by simp [x2], fun k hk => ?_⟩
        by_cases e : k = i
        · rw [e]
          exact ⟨.ref pr, List.getElem?_set_self (by omega), dpRow (SqL.of upd_same)⟩
        · obtain ⟨v, v1, v2⟩ := x3 k (by omega)
          have : pm σ i ≠ pm σ k := fun z => e (pm_inj pS1 hi (by omega) z).symm
          exact ⟨v, by rw [List.getElem?_set_ne this]; exact v1, v2.same (same_upd (nr.of (g2.trans s7)))⟩
    · rintro σ' H5 ⟨y3, y4, y5, y6, y7, y8, xs, G, rfl, g1, g2, g3, x1, x2, x3⟩
      have hDT : DpAll K G xs ((renT σ τ c Tu).map dRow) := by
        refine dpaOf (by rw [x2, List.length_map, renT_len]) fun i v d v1 v2 => ?_
        have hi : i < Tu.length := by rw [← x2]; exact (List.getElem?_eq_some_iff.mp v1).1
        obtain ⟨j1, j2⟩ := pm_idx pS1 hi
        rw [List.getElem?_map, renT, map_at hi] at v2
        cases v2
        obtain ⟨v', u1, u2⟩ := x3 _ j1
        rw [j2, v1] at u1
        cases u1
        exact u2
      have g12 := g1.trans g2
      have S5 := S4.trans g12
      have A5 := same_read g12 A4
      have R5 := S5.seq hrr
      have T5 := g12 _ _ lT4
      have dE5 := dE4.same g12
      have dU5 : Dp K H5 (.ref pU) (dRows (renT σ τ c Tu)) := .lst (SqL.of x1) (hDT.same g2)
      have ren := renum_of (E := E') (T := Tu) c pS1 pT1
      clear x3 hDT A4 x1 x2 g1 g2 g12 g3
      walk_at "sts"
      refine w_new fun pR nR => ?_
      walk_at "sts"
      refine for_list (xs := rs) (fun i σ' H' => ∃ (y7 y8 : Option V) (xs : List V) (G : Hp), σ' = [some (.ref a), some (.int c), some (.ref pS), some (.ref pT), some (.ref pE), y, some (.ref pU), y3, y4, y5, some (.ref pR), y7, y8] ∧ Same H5 G ∧ Same G H' ∧ New G pR ∧ H' pR = some (.lst xs) ∧ DpAll K G xs (((R.map (List.map (dm τ))).take i).map dRow)) ?_ ?_ ?_ ?_
      · exact ⟨_, _, [], H5, rfl, Same.refl _, same_upd nR, nR, upd_same, .nil⟩
      · rintro i σ' H' _ ⟨y7, y8, xs, G, _, g1, g2, _, _, _⟩
        exact (g1.trans g2).seq R5
      · rintro i x σ' H' hx ⟨y7, y8, xs, G, rfl, g1, g2, g3, x1, x2⟩
        have hi : i < R.length := by rw [← hrl]; exact (List.getElem?_eq_some_iff.mp hx).1
        obtain ⟨p0, b1, b2⟩ := dpRowsAt hRs hi
        rw [hx] at b1
        cases b1
        have g12 := g1.trans g2
        have b3 := g12.seq (S5.seq b2)
        have l5 := g12 _ _ T5
        have hxl : xs.length = i := by have := dpaLen x2; simp at this; omega
        have hRl := hG.rlen
        have hring : R[i]? = some (row R i) := by unfold row; rw [List.getD_eq_getElem?_getD, List.getElem?_eq_getElem hi]; rfl
        have hrle : (row R i).length ≤ 400 := by
          have := nodup_sub_len (ys := List.range (2 * E'.length)) (hG.rings.nd.sublist (List.sublist_flatten_of_mem (List.mem_of_getElem? hring))) fun z hz => List.mem_range.mpr (hG.lt hring hz)
          simp at this
          omega
        walk_at "sts"
        intro D nD
        refine lc_list (xs := iv (row R i)) (fun j H'' => H'' D = some (.lst (iv (((row R i).take j).map (dm τ)))) ∧ Same H' H'') ?_ ?_ ?_ ?_
        · exact ⟨upd_same, same_upd nD⟩
        · rintro j H'' _ ⟨_, k2⟩
          exact k2.seq b3
        · rintro j x H'' hx ⟨k1, k2⟩
          have hj : j < (row R i).length := by rw [← iv_len]; exact (List.getElem?_eq_some_iff.mp hx).1
          rw [iv_at hj] at hx
          cases hx
          have l7 := k2 _ _ l5
          have hjm : (row R i).getD j 0 < 2 * E'.length := hG.lt hring (by rw [List.getD_eq_getElem?_getD, List.getElem?_eq_getElem hj]; exact List.getElem_mem hj)
          have tq := tp ((row R i).getD j 0 / 2) (by omega)
          have hpml := pm_lt pT1 (show (row R i).getD j 0 / 2 < E'.length by omega)
          walk_at "sts"
          refine ⟨_, k1, szlt (by rw [iv_len, List.length_map, List.length_take]; omega), ?_, k2.mut nD⟩
          rw [upd_same, take_snoc hj, List.map_append, iv_app]
          rfl
        · rintro H6 ⟨k1, k2⟩
          rw [iv_len, List.take_length] at k1
          have x1' := k2 _ _ x1
          have hDR : pR ≠ D := ne_new x1 nD
          have hxs : xs.length < sizeLine := szlt (by omega)
          have kR := SqL.of (K := K) x1'
          walk_at "sts"
          refine ⟨_, _, xs ++ [.ref D], upd G D (.lst (iv ((row R i).map (dm τ)))), rfl, g1.trans (same_upd (nD.of g2)), ((g2.trans k2).add k1).mut (g3.upd hDR), g3.upd hDR, upd_same, ?_⟩
          have et : (R.map (List.map (dm τ))).take (i + 1) = (R.map (List.map (dm τ))).take i ++ [(row R i).map (dm τ)] := by
            rw [List.take_add_one, List.getElem?_map, hring]
            rfl
          rw [et, List.map_append]
          exact dpaApp (x2.same (same_upd (nD.of g2))) (.cons (dpRow (SqL.of upd_same)) .nil)
      · rintro σ' H6 ⟨y7, y8, xs, G, rfl, g1, g2, g3, x1, x2⟩
        rw [hrl, List.take_of_length_le (by simp)] at x2
        walk_at "sts"
        refine w_new fun p n => ?_
        have sN := same_upd (o := .tup [.ref pE, .ref pU, .ref pR]) n
        have g5 := g2.trans sN
        exact q p _ (renE σ τ E') (renT σ τ c Tu) (R.map (List.map (dm τ))) (S5.trans (g1.trans g5)) (n.of (S5.trans (g1.trans g2))) ⟨pE, pU, pR, SqT.of upd_same, dE5.same (g1.trans g5), dU5.same (g1.trans g5), .lst (SqL.of (sN _ _ x1)) (x2.same g5)⟩ (ren.gb hG) (renE_len _ _ _) (renT_len _ _ _ _)
end

section
variable {P : Program} {w : World} {K : PySem.W.Frag} {mg : Str → Option Value} {base : Heap} {C_Pull C_Push C_Web C_TooWide C_FloorError C_TooMany C_TooRough : Addr}
def dTi (t : Ti) : PyData := .tuple ([(if t.push = true then 1 else 0 : Int), (t.s : Int)].map PyData.int)
def dTold (ts : List Ti) : PyData := .list (ts.map dTi)
/-- what a built web is -/
structure Built (ts : List Ti) (T : Turns) (most : Nat) : Prop where
  flat : Flat (endsOf ts) T
  le : ts.length ≤ most
  pos : 1 ≤ ts.length
  tl : T.length ≤ ts.length + 1
  tp : 2 ≤ T.length
  s : ∀ i, (ti ts i).s ≤ 10 ^ 30
theorem toldAt {K : PySem.W.Frag} {H : Hp} {xs : List V} {ts : List Ti} (h : DpAll K H xs (ts.map dTi)) {i : Nat} (hi : i < ts.length) : ∃ p, xs[i]? = some (.ref p) ∧ SqT K H p [.int (if (ti ts i).push = true then 1 else 0 : Int), .int ((ti ts i).s : Nat)] := by
  obtain ⟨v, h1, h2⟩ := dpaGet (i := i) (d := dTi (ti ts i)) h (by rw [List.getElem?_map, ti_at hi]; rfl)
  obtain ⟨p, ys, rfl, h3, h4⟩ := dpTup h2
  have := dpAll_ints h4
  rw [this] at h3
  exact ⟨p, h1, h3⟩
def BuiltAt (K : PySem.W.Frag) (H : Hp) (p : Addr) (ts : List Ti) (T : Turns) : Prop := ∃ e t d, SqT K H p [.ref e, .ref t, .ref d] ∧ Dp K H (.ref e) (dEnds (endsOf ts)) ∧ Dp K H (.ref t) (dRows T) ∧ Dp K H (.ref d) (dTold ts)
theorem BuiltAt.same {K : PySem.W.Frag} {H H' : Hp} {p : Addr} {ts : List Ti} {T : Turns} (h : BuiltAt K H p ts T) (e : Same H H') : BuiltAt K H' p ts T := by
  obtain ⟨a, b, c, h1, h2, h3, h4⟩ := h
  exact ⟨a, b, c, same_read e h1, h2.same e, h3.same e, h4.same e⟩

end
section
variable {P : Program} {w : World} {K : PySem.W.Frag} {mg : Str → Option Value} {base : Heap} {C_Pull C_Push C_Web C_TooWide C_FloorError C_TooMany C_TooRough : Addr}
theorem natDivMod (x : Nat) : dTi ⟨decide ((x : Int) % 2 = 1), 0, 0, x / 2⟩ = .tuple ([(x : Int) % 2, (x : Int) / 2].map PyData.int) := by
  unfold dTi
  have e1 : (if decide ((x : Int) % 2 = 1) = true then 1 else 0 : Int) = (x : Int) % 2 := by
    by_cases h : (x : Int) % 2 = 1
    · rw [decide_eq_true h, if_pos rfl, h]
    · rw [decide_eq_false h, if_neg (by decide)]
      omega
  rw [e1]
  rfl
def kdOf (E : EdgL) (xs : List Nat) : List Ti := (List.range E.length).map fun k => ⟨decide ((((xs.getD k 0 : Nat) : Int)) % 2 = 1), (en E k).1, (en E k).2, xs.getD k 0 / 2⟩
theorem kdOf_ends {E : EdgL} {xs : List Nat} : endsOf (kdOf E xs) = E := by
  refine List.ext_getElem (by simp [endsOf, kdOf]) fun i h1 h2 => ?_
  simp [endsOf, kdOf, en, List.getD_eq_getElem?_getD, List.getElem?_eq_getElem h2]
theorem kdOf_told {E : EdgL} {xs : List Nat} (h : xs.length = E.length) : (kdOf E xs).map dTi = xs.map fun x => .tuple ([((x : Nat) : Int) % 2, ((x : Nat) : Int) / 2].map PyData.int) := by
  refine List.ext_getElem (by simp [kdOf, h]) fun i h1 h2 => ?_
  rw [List.getElem_map, List.getElem_map]
  have hi : i < xs.length := by simpa using h2
  unfold kdOf
  rw [List.getElem_map, List.getElem_range, ← natDivMod, show xs.getD i 0 = xs[i] by rw [List.getD_eq_getElem?_getD, List.getElem?_eq_getElem hi]; rfl]
  rfl
def spKindsB (K : PySem.W.Frag) : Sp := fun vs H Q _ => ∃ (a lm : Addr) (ns ls : List Int) (E : EdgL), vs = [.ref a, .int E.length, .ref lm] ∧ SqL K H a (ns.map V.int) ∧ ns.length ≤ 1000 ∧ SqL K H lm (ls.map V.int) ∧ 0 < ls.length ∧ (∀ x ∈ ls, 0 < x ∧ x ≤ 10 ^ 30 + 1) ∧ 0 < E.length ∧ E.length ≤ 200 ∧
  ∀ p H' ts, Same H H' → New H p → Dp K H' (.ref p) (dTold ts) → endsOf ts = E → (∀ i, (ti ts i).s ≤ 10 ^ 30) → Q (.ref p) H'
theorem ok_law_kinds {f : Addr} {fd : FuncData} (F : Fun K "_law_kinds" "_law_kinds" s_law_kinds f fd) (gf : mg "_law_kinds" = some (.ref f)) (B : Bl mg) {C_Pull C_Push C_Web C_TooWide C_FloorError C_TooMany C_TooRough : Addr} (T : Txt K mg C_Pull C_Push C_Web C_TooWide C_FloorError C_TooMany C_TooRough) (h_law_cell : Has P w K mg base CX0 1 "_law_cell" ["script", "k"] (spCell K)) : Has P w K mg base CX0 2 "_law_kinds" ["script", "many", "limits"] (spKindsB K) := by
  refine Has.mk' F gf (F.binds (ps := ["script", "many", "limits"]) fun _ _ _ _ _ _ us hl => match us, hl with | [_, _, _], _ => rfl) sc_law_kinds (by walk_at "len") (fun cdv A outer s H vs Q E hr h => ?_)
  obtain ⟨a, lm, ns, ls, E', rfl, hS, hnl, hL, hl0, hls, hE0, hE1, q⟩ := h
  refine ⟨_, (pss_cons (ps_set (i := 3) sc_law_kinds.nd rfl (.inl rfl) (pe_ix (ix_listK K) (pv 2) (pe_op op_mod (pe_fn h_law_cell (hr.mono (by decide)) (by rfl) (pa_cons (pv 0) (pa_cons pe_int pa_nil))) (pe_callB (call_lenK K) (by rfl) B.len (by decide +kernel) (pa_cons (pv 2) pa_nil))) (fun _ _ => rfl)))
 (pss_cons (ps_setLc (i := 5) (own := [("k", 4)]) rfl sc_law_kinds.nd rfl rfl (sw_true rfl rfl rfl (by decide +kernel)) (pi_range1 (by rfl) B.range (pa_cons (pv 1) pa_nil)) (blkOk_by (own := [("k", 4)]) (N := ["script", "many", "limits", "limit", "k", "totals", "total"]) (sc := defScope s_law_kinds) (by decide +kernel)) (fun _ _ _ _ _ => pg_name (i := 4) sc_law_kinds.nd rfl (Or.inl rfl)) (fun _ _ _ _ _ => pts_nil) (fun _ _ _ _ _ => pe_int))
 (pss_cons (ps_for PassesOwn.never rfl (pi_range1 (by rfl) B.range (pa_cons (pe_callB (call_lenK K) (by rfl) B.len (by decide +kernel) (pa_cons (pv 0) pa_nil)) pa_nil)) (pg_name (i := 4) sc_law_kinds.nd rfl (.inl rfl)) (pss_one (ps_asg (pe_op op_mod (pe_op op_add (pe_op op_mulX (pe_ix (ix_listK K) (pv 5) (pe_op op_mod (pv 4) (pv 1)) (fun _ _ => rfl)) pe_int) (pe_ix (ix_listK K) (pv 0) (pv 4) (fun _ _ => rfl))) (pe_op op_mulX pe_int (pv 3))) (pg_sub (pv 5) (pe_op op_mod (pv 4) (pv 1)) set_list))))
 (pss_one (ps_ret (pe_lc (own := [("total", 6)]) rfl sc_law_kinds.nd (pi_listK K (pv 5)) (blkOk_by (own := [("total", 6)]) (N := ["script", "many", "limits", "limit", "k", "totals", "total"]) (sc := defScope s_law_kinds) (by decide +kernel)) (fun _ _ _ _ _ => pg_name (i := 6) sc_law_kinds.nd rfl (Or.inl rfl)) (fun _ _ _ _ _ => pts_nil) (fun _ _ _ _ _ => (pe_tup (pa_cons (pe_op op_mod (pv 6) pe_int) (pa_cons (pe_op op_fdivW (pv 6) pe_int) pa_nil)))))))))), ?_⟩
  walk_at "sts"
  refine ⟨a, ns, 1, rfl, hS, ?_⟩
  obtain ⟨j, hj, hj2⟩ := modNB (ns.getD 1 0) hl0
  have hat : (ls.map V.int)[j]? = some (.int (ls.getD j 0)) := by
    rw [List.getElem?_map, List.getD_eq_getElem?_getD, List.getElem?_eq_getElem hj2]
    rfl
  obtain ⟨L, hL1, hL2, hL3⟩ : ∃ L : Nat, ls.getD j 0 = (L : Int) ∧ 0 < L ∧ L ≤ 10 ^ 30 + 1 := by
    have := hls (ls.getD j 0) (by rw [List.getD_eq_getElem?_getD, List.getElem?_eq_getElem hj2]; exact List.getElem_mem hj2)
    exact ⟨(ls.getD j 0).toNat, by omega, by omega, by omega⟩
  rw [hL1] at hat
  walk_at "sts"
  rw [List.length_map]
  walk_at "sts"
  rw [hj]
  walk_at "sts"
  intro D nD
  refine lc_r0 (n := E'.length) rfl (fun i H' => H' D = some (.lst (List.replicate i (.int 0))) ∧ Same H H') ?_ ?_ ?_
  · exact ⟨upd_same, same_upd nD⟩
  · rintro i H' hi ⟨l1, s1⟩
    walk_at "sts"
    refine ⟨_, l1, szlt (by rw [List.length_replicate]; omega), ?_, s1.mut nD⟩
    rw [upd_same, List.replicate_succ']
  rintro H1 ⟨l1, s1⟩
  have hS1 := s1.seq hS
  walk_at "sts"
  rw [List.length_map]
  refine ⟨by omega, by omega, ?_⟩
  refine for_r0 (n := ns.length) ?_ (fun i σ' H' => ∃ (y5 y6 : Option V) (xs : List Nat), σ' = [some (.ref a), some (.int E'.length), some (.ref lm), some (.int L), y5, some (.ref D), y6] ∧ Same H H' ∧ H' D = some (.lst (xs.map fun x => V.int ((x : Nat) : Int))) ∧ xs.length = E'.length ∧ ∀ x ∈ xs, x < 2 * L) ?_ ?_ ?_
  · rfl
  · refine ⟨_, _, List.replicate E'.length 0, rfl, s1, by rw [List.map_replicate]; exact l1, List.length_replicate .., fun x hx => ?_⟩
    rw [List.eq_of_mem_replicate hx]
    omega
  · rintro i σ' H' hi ⟨y5, y6, xs, rfl, s2, l2, hxl, hxs⟩
    obtain ⟨k, hk, hk2⟩ := modNB (i : Int) hE0
    have hS2 := s2.seq hS
    have hat2 : (xs.map fun x => V.int ((x : Nat) : Int))[k]? = some (.int (xs.getD k 0 : Nat)) := by
      rw [List.getElem?_map, List.getD_eq_getElem?_getD, List.getElem?_eq_getElem (by omega)]
      rfl
    have hat3 : (ns.map V.int)[i]? = some (.int (ns.getD i 0)) := by
      rw [List.getElem?_map, List.getD_eq_getElem?_getD, List.getElem?_eq_getElem hi]
      rfl
    have hxb : xs.getD k 0 < 2 * L := hxs _ (by rw [List.getD_eq_getElem?_getD, List.getElem?_eq_getElem (by omega)]; exact List.getElem_mem (by omega))
    obtain ⟨z, hz, hz2⟩ := modNB (((xs.getD k 0 : Nat) : Int) * 5 + ns.getD i 0) (show 0 < 2 * L by omega)
    rw [Int.natCast_mul] at hz
    have hk3 : k < (xs.map fun x => V.int ((x : Nat) : Int)).length := by rw [List.length_map]; omega
    walk_at "sts"
    rw [hk]
    walk_at "sts"
    rw [show (((2 : Nat) : Int)) = 2 from rfl] at hz
    rw [hz]
    refine ⟨_, _, xs.set k z, rfl, s2.mut nD, ?_, by rw [List.length_set]; exact hxl, fun x hx => ?_⟩
    · have hk' : i % ((E'.length : Nat) : Int).natAbs = k := by rw [Int.natAbs_natCast]; exact_mod_cast hk
      rw [upd_same, List.map_set]
      show some (HO.lst (List.set _ (i % ((E'.length : Nat) : Int).natAbs) _)) = _
      rw [hk']
    · rcases List.mem_or_eq_of_mem_set hx with h | h
      · exact hxs x h
      · omega
  rintro σ' H2 ⟨y5, y6, xs, rfl, s2, l2, hxl, hxs⟩
  have l2' := SqL.of (K := K) l2
  walk_at "sts"
  intro D2 nD2
  refine lc_list (xs := xs.map fun x => V.int ((x : Nat) : Int)) (fun i H' => ∃ ys G, H' D2 = some (.lst ys) ∧ Same H2 G ∧ Same G H' ∧ New G D2 ∧ DpAll K G ys ((xs.take i).map fun x => .tuple ([((x : Nat) : Int) % 2, ((x : Nat) : Int) / 2].map PyData.int))) ?_ ?_ ?_ ?_
  · exact ⟨[], H2, upd_same, Same.refl _, same_upd nD2, nD2, .nil⟩
  · rintro i H' _ ⟨ys, G, _, g1, g2, _, _⟩
    exact (g1.trans g2).seq l2'
  · rintro i x H' hx ⟨ys, G, y1, g1, g2, g3, hD⟩
    have hi : i < xs.length := by
      have := (List.getElem?_eq_some_iff.mp hx).1
      rwa [List.length_map] at this
    rw [List.getElem?_map, List.getElem?_eq_getElem hi] at hx
    cases hx
    have hyl : ys.length = i := by have := dpaLen hD; simp at this; omega
    walk_at "sts"
    refine w_new fun t nt => ?_
    have hDt : D2 ≠ t := ne_new y1 nt
    refine ⟨ys, by walk_at "hp", szlt (by omega), _, upd G t _, upd_same, g1.trans (same_upd (nt.of g2)), ((g2.trans (same_upd nt)).add upd_same).mut (g3.upd hDt), g3.upd hDt, ?_⟩
    rw [List.take_add_one, List.getElem?_eq_getElem hi, List.map_append]
    exact dpaApp (hD.same (same_upd (nt.of g2))) (.cons (.tup (SqT.of upd_same) (dpInts [((xs[i] : Nat) : Int) % 2, ((xs[i] : Nat) : Int) / 2])) .nil)
  · rintro H3 ⟨ys, G, y1, g1, g2, g3, hD⟩
    rw [List.length_map, List.take_length, ← kdOf_told hxl] at hD
    walk_at "sts"
    refine q D2 H3 (kdOf E' xs) (s2.trans (g1.trans g2)) (nD2.of s2) (.lst (SqL.of y1) (hD.same g2)) kdOf_ends fun i => ?_
    unfold ti kdOf
    rw [List.getD_eq_getElem?_getD, List.getElem?_map]
    by_cases hi : i < E'.length
    · rw [List.getElem?_range hi]
      show xs.getD i 0 / 2 ≤ _
      have := hxs (xs.getD i 0) (by rw [List.getD_eq_getElem?_getD, List.getElem?_eq_getElem (by omega)]; exact List.getElem_mem (by omega))
      omega
    · rw [List.getElem?_eq_none (by simpa using hi)]
      exact Nat.zero_le _
end
section
variable {P : Program} {w : World} {K : PySem.W.Frag} {mg : Str → Option Value} {base : Heap} {C_Pull C_Push C_Web C_TooWide C_FloorError C_TooMany C_TooRough : Addr}
def spLWebB (K : PySem.W.Frag) (CP CQ CW : Addr) : Sp := fun vs H Q _ => ∃ (a k : Addr) (ts : List Ti) (T : Turns) (R : List (List Nat)), vs = [.ref a, .ref k] ∧ GrB K H a (endsOf ts) T R ∧ Dp K H (.ref k) (dTold ts) ∧ Built ts T 100 ∧
  ∀ p H' R', Same H H' → New H p → WebOk ⟨ts, T, R'⟩ → WebAt K CP CQ CW H' p ⟨ts, T, R'⟩ → Q (.ref p) H'
theorem ok_law_web {f : Addr} {fd : FuncData} (F : Fun K "_law_web" "_law_web" s_law_web f fd) (gf : mg "_law_web" = some (.ref f)) (B : Bl mg) {C_Pull C_Push C_Web C_TooWide C_FloorError C_TooMany C_TooRough : Addr} (T : Txt K mg C_Pull C_Push C_Web C_TooWide C_FloorError C_TooMany C_TooRough) (h_mk_Web : HasMk P w K mg base CX0 5 "Web" C_Web ["self", "many", "ties", "turns"] (spWeb K C_Pull C_Push C_Web)) (h_mk_Push : HasMk P w K mg base CX0 1 "Push" C_Push ["self", "one", "two", "strength"] (spTInit C_Pull C_Push)) (h_mk_Pull : HasMk P w K mg base CX0 1 "Pull" C_Pull ["self", "one", "two", "strength"] (spTInit C_Pull C_Push)) : Has P w K mg base CX0 7 "_law_web" ["grown", "kinds"] (spLWebB K C_Pull C_Push C_Web) := by
  refine Has.mk' F gf (F.binds (ps := ["grown", "kinds"]) fun _ _ _ _ _ _ us hl => match us, hl with | [_, _], _ => rfl) sc_law_web (by walk_at "len") (fun cdv A outer s H vs Q E hr h => ?_)
  obtain ⟨a, kd, ts, Tu, R0, rfl, ⟨e, t, r, hA, hE, hTu, _⟩, hD, hB, q⟩ := h
  have ok := hB.flat.ok
  obtain ⟨es, he, hEs⟩ := dpLstA hE
  obtain ⟨us, hu, hTs⟩ := dpLstA hTu
  obtain ⟨ds, hd, hDs⟩ := dpLstA hD
  have hel : es.length = ts.length := by have := dpaLen hEs; rw [List.length_map, endsOf_len] at this; exact this
  have hul : us.length = Tu.length := by have := dpaLen hTs; simpa using this
  have hdl : ds.length = ts.length := by have := dpaLen hDs; simpa [dTold] using this
  have hle := hB.le
  have htl := hB.tl
  refine ⟨_, (pss_cons (ps_set (i := 2) sc_law_web.nd rfl (.inl rfl) (pe_lst pa_nil))
 (pss_cons (ps_for PassesOwn.never rfl (pi_range1 (by rfl) B.range (pa_cons (pe_callB (call_lenK K) (by rfl) B.len (by decide +kernel) (pa_cons (pv 1) pa_nil)) pa_nil)) (pg_name (i := 3) sc_law_web.nd rfl (.inl rfl)) (pss_cons (ps_set (i := 4) sc_law_web.nd rfl (.inl rfl) (pe_ix (ix_listK K) (pe_ix (ix_tupK K) (pv 0) pe_int (fun _ _ => rfl)) (pv 3) (fun _ _ => rfl)))
 (pss_one (ps_if (pt_cmpR op_eq (pe_ix (ix_tupK K) (pe_ix (ix_listK K) (pv 1) (pv 3) (fun _ _ => rfl)) pe_int (fun _ _ => rfl)) pe_int (nomark _)) (pss_one (ps_expr (pe_bmK K (pe_bm PySem.F.plainAttrs_list PySem.F.slot_list_append PySem.F.type_list_append mt_append (pv 2) (pa_cons (pe_mk h_mk_Push (hr.mono (by decide)) (by rfl) (pa_cons (pe_ix (ix_tupK K) (pv 4) pe_int (fun _ _ => rfl)) (pa_cons (pe_ix (ix_tupK K) (pv 4) pe_int (fun _ _ => rfl)) (pa_cons (pe_ix (ix_tupK K) (pe_ix (ix_listK K) (pv 1) (pv 3) (fun _ _ => rfl)) pe_int (fun _ _ => rfl)) pa_nil)))) pa_nil))))) (pss_one (ps_expr (pe_bmK K (pe_bm PySem.F.plainAttrs_list PySem.F.slot_list_append PySem.F.type_list_append mt_append (pv 2) (pa_cons (pe_mk h_mk_Pull (hr.mono (by decide)) (by rfl) (pa_cons (pe_ix (ix_tupK K) (pv 4) pe_int (fun _ _ => rfl)) (pa_cons (pe_ix (ix_tupK K) (pv 4) pe_int (fun _ _ => rfl)) (pa_cons (pe_ix (ix_tupK K) (pe_ix (ix_listK K) (pv 1) (pv 3) (fun _ _ => rfl)) pe_int (fun _ _ => rfl)) pa_nil)))) pa_nil)))))))))
 (pss_one (ps_ret (pe_mk h_mk_Web (hr.mono (by decide)) (by rfl) (pa_cons (pe_callB (call_lenK K) (by rfl) B.len (by decide +kernel) (pa_cons (pe_ix (ix_tupK K) (pv 0) pe_int (fun _ _ => rfl)) pa_nil)) (pa_cons (pv 2) (pa_cons (pe_lc (own := [("row", 5)]) rfl sc_law_web.nd (pi_listK K (pe_ix (ix_tupK K) (pv 0) pe_int (fun _ _ => rfl))) (blkOk_by (own := [("row", 5)]) (N := ["grown", "kinds", "ties", "k", "end", "row"]) (sc := defScope s_law_web) (by decide +kernel)) (fun _ _ _ _ _ => pg_name (i := 5) sc_law_web.nd rfl (Or.inl rfl)) (fun _ _ _ _ _ => pts_nil) (fun _ _ _ _ _ => (pe_callTy (call_listK K) (by rfl) B.list (by decide +kernel) (pa_cons (pv 5) pa_nil)))) pa_nil)))))))), ?_⟩
  walk_at "sts"
  refine w_new fun pL nL => ?_
  walk_at "sts"
  refine for_r0 (n := ts.length) ?_ (fun i σ' H' => ∃ (y2 y3 y4 : Option V) (ps : List Addr), σ' = [some (.ref a), some (.ref kd), some (.ref pL), y2, y3, y4] ∧ Same H H' ∧ H' pL = some (.lst (ps.map V.ref)) ∧ TiesIn C_Pull C_Push H' ps (ts.take i)) ?_ ?_ ?_
  · rw [hdl]
  · exact ⟨_, _, _, [], rfl, same_upd nL, upd_same, .nil⟩
  · rintro i σ' H' hi ⟨y2, y3, y4, ps, rfl, s1, l1, t1⟩
    have hpl : ps.length = i := by have := t1.1; rw [List.length_take] at this; omega
    obtain ⟨p0, b1, b2⟩ := dpEndsAt hEs (show i < (endsOf ts).length by rw [endsOf_len]; exact hi)
    obtain ⟨p1, b3, b4⟩ := toldAt hDs hi
    rw [en_ti hi] at b2
    have hA' := same_read s1 hA
    have he' := s1.seq he
    have hd' := s1.seq hd
    have b2' := same_read s1 b2
    have b4' := same_read s1 b4
    have hne : (ti ts i).one ≠ (ti ts i).two := by
      have := (ok.ends i (by rw [endsOf_len]; exact hi)).1
      rw [en_ti hi] at this
      exact this
    have htk : ts.take (i + 1) = ts.take i ++ [ti ts i] := by rw [List.take_add_one, ti_at hi]; rfl
    have hsl : (ps.map V.ref).length < sizeLine := szlt (by rw [List.length_map]; omega)
    have fin : ∀ (x dx : Addr) (push : Bool), push = (ti ts i).push → New H' x → New H' dx → dx ≠ x → ∃ (ps' : List Addr), ps.map V.ref ++ [V.ref x] = ps'.map V.ref ∧ pL ≠ x ∧ Same H (upd (upd (upd H' dx (.own x)) x (.ins (clsOf C_Pull C_Push push) dx (tf (ti ts i).one (ti ts i).two (ti ts i).s))) pL (.lst (ps.map V.ref ++ [.ref x]))) ∧
        upd (upd H' dx (.own x)) x (.ins (clsOf C_Pull C_Push push) dx (tf (ti ts i).one (ti ts i).two (ti ts i).s)) pL = some (.lst (ps.map V.ref)) ∧ TiesIn C_Pull C_Push (upd (upd (upd H' dx (.own x)) x (.ins (clsOf C_Pull C_Push push) dx (tf (ti ts i).one (ti ts i).two (ti ts i).s))) pL (.lst (ps.map V.ref ++ [.ref x]))) ps' (ts.take (i + 1)) := by
      rintro x dx _ rfl nx nd hxd
      have sm : Same H' (upd (upd H' dx (.own x)) x (.ins (clsOf C_Pull C_Push (ti ts i).push) dx (tf (ti ts i).one (ti ts i).two (ti ts i).s))) := made_same nx nd hxd
      have l2 := sm _ _ l1
      refine ⟨ps ++ [x], by simp, ne_new l1 nx, (s1.trans sm).mut nL, l2, ?_⟩
      rw [htk]
      exact ((t1.same sm).push ⟨dx, upd_same⟩).lst l2
    walk_at "sts"
    refine ifd (fun hc => ?_) (fun hc => ?_)
    · have hp : (ti ts i).push = true := by
        cases hb : (ti ts i).push with
        | true => rfl
        | false => rw [hb] at hc; exact absurd hc (by decide)
      walk_at "sts"
      intro x dx nx nd hxd
      refine ⟨x, dx, ti ts i, rfl, ?_, hne, rfl, ?_⟩
      · rw [hp]; exact upd_same
      · rw [upd_upd, hp]
        obtain ⟨ps', f1, f2, f3, f4, f5⟩ := fin x dx true hp.symm nx nd hxd
        walk_at "sts"
        rw [f1] at f3 f5 ⊢
        exact ⟨_, _, _, ps', rfl, f3, upd_same, f5⟩
    · have hp : (ti ts i).push = false := by
        cases hb : (ti ts i).push with
        | false => rfl
        | true => rw [hb] at hc; exact absurd rfl hc
      walk_at "sts"
      intro x dx nx nd hxd
      refine ⟨x, dx, ti ts i, rfl, ?_, hne, rfl, ?_⟩
      · rw [hp]; exact upd_same
      · rw [upd_upd, hp]
        obtain ⟨ps', f1, f2, f3, f4, f5⟩ := fin x dx false hp.symm nx nd hxd
        walk_at "sts"
        rw [f1] at f3 f5 ⊢
        exact ⟨_, _, _, ps', rfl, f3, upd_same, f5⟩
  · rintro σ' H1 ⟨y2, y3, y4, ps, rfl, s1, l1, t1⟩
    rw [List.take_length] at t1
    have hA' := same_read s1 hA
    have hu' := s1.seq hu
    walk_at "sts"
    intro D nD
    refine lc_list (xs := us) (fun i H' => ∃ ys G, H' D = some (.lst ys) ∧ Same H1 G ∧ Same G H' ∧ New G D ∧ DpAll K G ys ((Tu.take i).map dRow)) ?_ ?_ ?_ ?_
    · exact ⟨[], H1, upd_same, Same.refl _, same_upd nD, nD, .nil⟩
    · rintro i H' _ ⟨ys, G, _, g1, g2, _, _⟩
      exact (g1.trans g2).seq hu'
    · rintro i x H' hx ⟨ys, G, y1, g1, g2, g3, hD⟩
      have hi : i < Tu.length := by rw [← hul]; exact (List.getElem?_eq_some_iff.mp hx).1
      obtain ⟨q1, e1, e2⟩ := dpRowsAt hTs hi
      rw [hx] at e1
      cases e1
      have e3 := (s1.trans (g1.trans g2)).seq e2
      have hyl : ys.length = i := by have := dpaLen hD; simp at this; omega
      walk_at "sts"
      refine w_new fun t nt => ?_
      have hDt : D ≠ t := ne_new y1 nt
      refine ⟨ys, by walk_at "hp", szlt (by omega), _, upd G t (.lst (iv (row Tu i))), upd_same, g1.trans (same_upd (nt.of g2)), ?_, g3.upd hDt, ?_⟩
      · refine Same.mut ?_ (g3.upd hDt)
        exact (g2.trans (same_upd nt)).add upd_same
      · have et : Tu.take (i + 1) = Tu.take i ++ [row Tu i] := by
          rw [List.take_add_one, List.getElem?_eq_getElem hi]
          unfold row
          rw [List.getD_eq_getElem?_getD, List.getElem?_eq_getElem hi]
          rfl
        rw [et, List.map_append]
        exact dpaApp (hD.same (same_upd (nt.of g2))) (.cons (dpRow (SqL.of upd_same)) .nil)
    · rintro H2 ⟨ys, G, y1, g1, g2, g3, hD⟩
      rw [hul, List.take_length] at hD
      have g12 := g1.trans g2
      walk_at "sts"
      intro x dx nx nd hxd
      have sm : Same H2 (upd (upd H2 dx (.own x)) x (.ins C_Web dx [])) := made_same nx nd hxd
      have sw : Same H2 (wo (upd (upd H2 dx (.own x)) x (.ins C_Web dx [])) x) := same_wo sm nx
      refine ⟨x, dx, pL, D, ts, Tu, ?_, upd_same, ⟨ps, SqL.of ((g12.trans sw) _ _ l1), t1.same (g12.trans sw)⟩, .lst (SqL.of (sw _ _ y1)) (hD.same (g2.trans sw)), hB.flat, by have := hB.tp; omega, by omega, by omega, fun H' R s5 w1 w2 => ?_⟩
      · rw [hul]
      · refine ⟨rfl, ?_⟩
        walk_at "sts"
        exact q x H' R ((s1.trans (g12.trans sw)).trans s5) (nx.of (s1.trans g12)) w1 w2
end

section
variable {P : Program} {w : World} {K : PySem.W.Frag} {mg : Str → Option Value} {base : Heap} {C_Pull C_Push C_Web C_TooWide C_FloorError C_TooMany C_TooRough : Addr}
def spIsInt : Sp := fun vs H Q _ => ∃ i : Int, vs = [.int i] ∧ Q (.bl true) H
end

section
variable {P : Program} {w : World} {K : PySem.W.Frag} {mg : Str → Option Value} {base : Heap} {C_Pull C_Push C_Web C_TooWide C_FloorError C_TooMany C_TooRough : Addr}
theorem tf_no (a b s : Int) {m : Str} (h1 : ¬ m = "one") (h2 : ¬ m = "two") (h3 : ¬ m = "strength") : (tf a b s).lookup m = none := by
  unfold tf
  simp [List.lookup, h1, h2, h3, beq_eq_false_iff_ne.mpr]
/-- a method of either kind, called -/
theorem w_mt {σ : L2.St} {H : Hp} {Q : VK} {ta : TE} {tl : TA} {m : Str} {sp : Sp} {p : Addr} {t : Ti} (h1 : ¬ m = "one") (h2 : ¬ m = "two") (h3 : ¬ m = "strength")
    (ha : ∀ R : VK, R (.ref p) H → ta σ H R) (ht : TieAt C_Pull C_Push H p t) (h : tl σ H fun vs H2 => sp (.ref p :: vs) H2 Q E0) : tMeth C_Pull m sp [] E0 ta tl σ H Q ∨ tMeth C_Push m sp [] E0 ta tl σ H Q := by
  obtain ⟨dx, e⟩ := ht
  cases hp : t.push with
  | true =>
    rw [hp] at e
    exact .inr (w_meth (ha _ (w_methq e (tf_no _ _ _ h1 h2 h3) h)))
  | false =>
    rw [hp] at e
    exact .inl (w_meth (ha _ (w_methq e (tf_no _ _ _ h1 h2 h3) h)))
theorem w_mt2 {σ : L2.St} {H : Hp} {Q : VK} {ta : TE} {tl : TA} {m : Str} {sp sq : Sp} {p : Addr} {t : Ti} (h1 : ¬ m = "one") (h2 : ¬ m = "two") (h3 : ¬ m = "strength")
    (ha : ∀ R : VK, R (.ref p) H → ta σ H R) (ht : TieAt C_Pull C_Push H p t) (hp : t.push = false → tl σ H fun vs H2 => sp (.ref p :: vs) H2 Q E0) (hq : t.push = true → tl σ H fun vs H2 => sq (.ref p :: vs) H2 Q E0) : tMeth C_Pull m sp [] E0 ta tl σ H Q ∨ tMeth C_Push m sq [] E0 ta tl σ H Q := by
  obtain ⟨dx, e⟩ := ht
  cases hb : t.push with
  | true =>
    rw [hb] at e
    exact .inr (w_meth (ha _ (w_methq e (tf_no _ _ _ h1 h2 h3) (hq hb))))
  | false =>
    rw [hb] at e
    exact .inl (w_meth (ha _ (w_methq e (tf_no _ _ _ h1 h2 h3) (hp hb))))
def wishOf (t : Ti) : Int := if t.push = true then 1 else 0
def spWish (CP CQ : Addr) (b : Bool) : Sp := fun vs H Q _ => ∃ (p : Addr) (t : Ti), vs = [.ref p] ∧ t.push = b ∧ TieAt CP CQ H p t ∧ Q (.int (wishOf t)) H
theorem ok_Pull_wish {f : Addr} {fd : FuncData} (F : Fun K "wish" "Pull.wish" s_Pull_wish f fd) (B : Bl mg) {C_Pull C_Push C_Web C_TooWide C_FloorError C_TooMany C_TooRough : Addr} (T : Txt K mg C_Pull C_Push C_Web C_TooWide C_FloorError C_TooMany C_TooRough) : HasFn P w K mg base CX0 1 f ["self"] (spWish C_Pull C_Push false) := by
  refine HasFn.mk' F (F.binds (ps := ["self"]) fun _ _ _ _ _ _ us hl => match us, hl with | [_], _ => rfl) sc_Pull_wish (by walk_at "len") (fun cdv A outer s H vs Q E hr h => ?_)
  obtain ⟨p, t, rfl, hp, ht, q⟩ := h
  refine ⟨_, (pss_one (ps_ret pe_int)), ?_⟩
  walk_at "sts"
  unfold wishOf at q
  rw [hp] at q
  exact q
theorem ok_Push_wish {f : Addr} {fd : FuncData} (F : Fun K "wish" "Push.wish" s_Push_wish f fd) (B : Bl mg) {C_Pull C_Push C_Web C_TooWide C_FloorError C_TooMany C_TooRough : Addr} (T : Txt K mg C_Pull C_Push C_Web C_TooWide C_FloorError C_TooMany C_TooRough) : HasFn P w K mg base CX0 1 f ["self"] (spWish C_Pull C_Push true) := by
  refine HasFn.mk' F (F.binds (ps := ["self"]) fun _ _ _ _ _ _ us hl => match us, hl with | [_], _ => rfl) sc_Push_wish (by walk_at "len") (fun cdv A outer s H vs Q E hr h => ?_)
  obtain ⟨p, t, rfl, hp, ht, q⟩ := h
  refine ⟨_, (pss_one (ps_ret pe_int)), ?_⟩
  walk_at "sts"
  unfold wishOf at q
  rw [hp] at q
  exact q
end

section
variable {P : Program} {w : World} {K : PySem.W.Frag} {mg : Str → Option Value} {base : Heap} {C_Pull C_Push C_Web C_TooWide C_FloorError C_TooMany C_TooRough : Addr}
def unp (t : Ti) (l : Nat) : Bool := (l.testBit t.one == l.testBit t.two) == t.push
theorem par_bits (x y : Nat) : (x + y) % 2 = if (decide (x % 2 = 1) == decide (y % 2 = 1)) = true then 0 else 1 := by
  have hx : x % 2 = 0 ∨ x % 2 = 1 := by omega
  have hy : y % 2 = 0 ∨ y % 2 = 1 := by omega
  rcases hx with h | h <;> rcases hy with h2 | h2 <;> simp [h, h2] <;> omega
theorem unp_eq (t : Ti) (l : Nat) : (!decide (Builtin.bitAnd ((l : Int) / 2 ^ (Int.toNat (t.one : Int)) + (l : Int) / 2 ^ (Int.toNat (t.two : Int))) 1 = wishOf t)) = unp t l := by
  rw [shr_nat, shr_nat, ← Int.natCast_add, and_one _ (Int.natCast_nonneg _)]
  unfold unp wishOf
  rw [Nat.testBit_eq_decide_div_mod_eq, Nat.testBit_eq_decide_div_mod_eq, ← Nat.shiftRight_eq_div_pow, ← Nat.shiftRight_eq_div_pow]
  have h := par_bits (l >>> t.one) (l >>> t.two)
  generalize l >>> t.one = x at h ⊢
  generalize l >>> t.two = y at h ⊢
  have e : ((x + y : Nat) : Int) % 2 = (((x + y) % 2 : Nat) : Int) := by omega
  rw [e, h]
  generalize (decide (x % 2 = 1) == decide (y % 2 = 1)) = b
  cases b <;> cases t.push <;> decide
def spUnp (CP CQ : Addr) : Sp := fun vs H Q _ => ∃ (p : Addr) (t : Ti) (l : Nat), vs = [.ref p, .int l] ∧ TieAt CP CQ H p t ∧ Q (.bl (unp t l)) H
theorem ok_Tie_unpleased {f : Addr} {fd : FuncData} (F : Fun K "unpleased" "Tie.unpleased" s_Tie_unpleased f fd) (B : Bl mg) {C_Pull C_Push C_Web C_TooWide C_FloorError C_TooMany C_TooRough : Addr} (T : Txt K mg C_Pull C_Push C_Web C_TooWide C_FloorError C_TooMany C_TooRough) (h_Pull_wish : HasMeth P w K mg base CX0 1 C_Pull "wish" ["self"] (spWish C_Pull C_Push false)) (h_Push_wish : HasMeth P w K mg base CX0 1 C_Push "wish" ["self"] (spWish C_Pull C_Push true)) : HasFn P w K mg base CX0 2 f ["self", "laying"] (spUnp C_Pull C_Push) := by
  refine HasFn.mk' F (F.binds (ps := ["self", "laying"]) fun _ _ _ _ _ _ us hl => match us, hl with | [_, _], _ => rfl) sc_Tie_unpleased (by walk_at "len") (fun cdv A outer s H vs Q E hr h => ?_)
  obtain ⟨p, t, l, rfl, ht, q⟩ := h
  refine ⟨_, (pss_cons (ps_set (i := 2) sc_Tie_unpleased.nd rfl (.inl rfl) (pe_op op_add (pe_op op_shr (pv 1) (pe_fldK K (pv 0) rfl)) (pe_op op_shr (pv 1) (pe_fldK K (pv 0) rfl))))
 (pss_one (ps_ret (pe_cmpR op_ne (pe_op op_and (pv 2) pe_int) (PE.or (pe_mt0 h_Pull_wish (pv 0) (hr.mono (by decide))) (pe_mt0 h_Push_wish (pv 0) (hr.mono (by decide)))) (nomark _))))), ?_⟩
  walk_at "sts"
  refine w_t1 T.tie ht ?_
  walk_at "sts"
  refine w_t2 T.tie ht ?_
  walk_at "sts"
  refine w_mt2 (p := p) (t := t) (by decide +kernel) (by decide +kernel) (by decide +kernel) (fun R h => ⟨_, rfl, h⟩) ht (fun hb => ?_) (fun hb => ?_)
  all_goals
    walk_at "sts"
    refine ⟨p, t, rfl, hb, ht, ?_⟩
    walk_at "sts"
    rw [unp_eq]
    exact q
def spPrice (CP CQ : Addr) : Sp := fun vs H Q _ => ∃ (p : Addr) (t : Ti) (l : Nat), vs = [.ref p, .int l] ∧ TieAt CP CQ H p t ∧ Q (.int (if unp t l = true then (t.s : Int) else 0)) H
theorem ok_Tie_price {f : Addr} {fd : FuncData} (F : Fun K "price" "Tie.price" s_Tie_price f fd) (B : Bl mg) {C_Pull C_Push C_Web C_TooWide C_FloorError C_TooMany C_TooRough : Addr} (T : Txt K mg C_Pull C_Push C_Web C_TooWide C_FloorError C_TooMany C_TooRough) (h_Pull_unpleased : HasMeth P w K mg base CX0 2 C_Pull "unpleased" ["self", "laying"] (spUnp C_Pull C_Push)) (h_Push_unpleased : HasMeth P w K mg base CX0 2 C_Push "unpleased" ["self", "laying"] (spUnp C_Pull C_Push)) : HasFn P w K mg base CX0 3 f ["self", "laying"] (spPrice C_Pull C_Push) := by
  refine HasFn.mk' F (F.binds (ps := ["self", "laying"]) fun _ _ _ _ _ _ us hl => match us, hl with | [_, _], _ => rfl) sc_Tie_price (by walk_at "len") (fun cdv A outer s H vs Q E hr h => ?_)
  obtain ⟨p, t, l, rfl, ht, q⟩ := h
  refine ⟨_, (pss_one (ps_ret (pe_ifExp (pt_val (PE.or (pe_mt h_Pull_unpleased (pv 0) (hr.mono (by decide)) (pa_cons (pv 1) pa_nil)) (pe_mt h_Push_unpleased (pv 0) (hr.mono (by decide)) (pa_cons (pv 1) pa_nil)))) (pe_fldK K (pv 0) rfl) pe_int))), ?_⟩
  walk_at "sts"
  refine w_mt (p := p) (t := t) (by decide +kernel) (by decide +kernel) (by decide +kernel) (fun R h => ⟨_, rfl, h⟩) ht ?_
  walk_at "sts"
  refine ⟨p, t, l, rfl, ht, ?_⟩
  walk_at "sts"
  refine ifb (fun hc => ?_) (fun hc => ?_)
  · rw [if_pos hc] at q
    walk_at "sts"
    refine w_t3 T.tie ht ?_
    exact q
  · rw [hc] at q
    walk_at "sts"
    exact q
def spAcross (CP CQ : Addr) : Sp := fun vs H Q _ => ∃ (p : Addr) (t : Ti) (z : Int), vs = [.ref p, .int z] ∧ TieAt CP CQ H p t ∧ Q (.int (if z = (t.one : Int) then (t.two : Int) else (t.one : Int))) H
end

/-! ### the set of unpleased ties; its price -/
def um (ts : List Ti) (l : Nat) : Nat → Nat
  | 0 => 0
  | k + 1 => if unp (ti ts k) l = true then um ts l k ||| 2 ^ k else um ts l k
def costM (ts : List Ti) (mask : Nat) : Nat → Nat
  | 0 => 0
  | k + 1 => if mask.testBit k = true then costM ts mask k + (ti ts k).s else costM ts mask k
def wm (ts : List Ti) (l : Nat) : Nat → Nat
  | 0 => 0
  | k + 1 => wm ts l k + if unp (ti ts k) l = true then (ti ts k).s else 0
theorem um_bit (ts : List Ti) (l : Nat) : ∀ k i, (um ts l k).testBit i = (decide (i < k) && unp (ti ts i) l)
  | 0, i => by simp [um]
  | k + 1, i => by
    unfold um
    by_cases hk : unp (ti ts k) l = true
    · rw [if_pos hk, Nat.testBit_or, um_bit ts l k i, Nat.testBit_two_pow]
      by_cases e : i = k
      · subst e; simp [hk]
      · have e2 : ¬ k = i := fun z => e z.symm
        by_cases h : i < k
        · simp [h, e2, show i < k + 1 by omega]
        · simp [h, e2, show ¬ i < k + 1 by omega]
    · rw [if_neg hk, um_bit ts l k i]
      by_cases e : i = k
      · subst e; simp [hk]
      · by_cases h : i < k
        · simp [h, show i < k + 1 by omega]
        · simp [h, show ¬ i < k + 1 by omega]
theorem wm_cost (ts : List Ti) (l n : Nat) : ∀ k, k ≤ n → costM ts (um ts l n) k = wm ts l k
  | 0, _ => rfl
  | k + 1, h => by
    unfold costM wm
    rw [um_bit, decide_eq_true (show k < n by omega), Bool.true_and, wm_cost ts l n k (by omega)]
    split <;> rfl
theorem um_congr (ts : List Ti) (l l' : Nat) : ∀ k, (∀ i, i < k → unp (ti ts i) l = unp (ti ts i) l') → um ts l k = um ts l' k
  | 0, _ => rfl
  | k + 1, h => by
    unfold um
    rw [h k (by omega), um_congr ts l l' k fun i hi => h i (by omega)]
theorem unp_flip {t : Ti} {l m : Nat} (h1 : t.one < m) (h2 : t.two < m) : unp t (l ^^^ (2 ^ m - 1)) = unp t l := by
  unfold unp
  rw [Nat.testBit_xor, Nat.testBit_xor, Nat.testBit_two_pow_sub_one, Nat.testBit_two_pow_sub_one, decide_eq_true h1, decide_eq_true h2]
  cases l.testBit t.one <;> cases l.testBit t.two <;> rfl
theorem pow30 : (10 : Int) ^ Int.toNat 30 = 1000000000000000000000000000000 := by decide
theorem xor_par (x y : Nat) : (x ^^^ y) % 2 = (x + y) % 2 := by
  have h := Nat.xor_mod_two_pow (a := x) (b := y) (n := 1)
  rw [Nat.pow_one] at h
  rw [h, Nat.add_mod]
  have h1 : x % 2 = 0 ∨ x % 2 = 1 := by omega
  have h2 : y % 2 = 0 ∨ y % 2 = 1 := by omega
  rcases h1 with h1 | h1 <;> rcases h2 with h2 | h2 <;> rw [h1, h2] <;> rfl
section
variable {P : Program} {w : World} {K : PySem.W.Frag} {mg : Str → Option Value} {base : Heap} {C_Pull C_Push C_Web C_TooWide C_FloorError C_TooMany C_TooRough : Addr}
theorem unl_eq (t : Ti) (l : Nat) : (!decide (Builtin.bitAnd (Builtin.bitXor ((l : Int) / 2 ^ (Int.toNat (t.one : Int))) ((l : Int) / 2 ^ (Int.toNat (t.two : Int)))) 1 = (if t.push = true then 1 else 0 : Int))) = unp t l := by
  rw [shr_nat, shr_nat, xor_nat, and_one _ (Int.natCast_nonneg _)]
  unfold unp
  rw [Nat.testBit_eq_decide_div_mod_eq, Nat.testBit_eq_decide_div_mod_eq, ← Nat.shiftRight_eq_div_pow, ← Nat.shiftRight_eq_div_pow]
  have h := par_bits (l >>> t.one) (l >>> t.two)
  rw [← xor_par] at h
  generalize l >>> t.one = x at h ⊢
  generalize l >>> t.two = y at h ⊢
  rw [show ((x ^^^ y : Nat) : Int) % 2 = (((x ^^^ y) % 2 : Nat) : Int) by omega, h]
  generalize (decide (x % 2 = 1) == decide (y % 2 = 1)) = b
  cases b <;> cases t.push <;> decide
def spUnl (K : PySem.W.Frag) (CP CQ CW : Addr) : Sp := fun vs H Q _ => ∃ (p : Addr) (M : WebM) (l : Nat), vs = [.ref p, .int l] ∧ WebAt K CP CQ CW H p M ∧ M.ts.length ≤ 1000 ∧ Q (.int (um M.ts l M.ts.length : Nat)) H
def spWorth (K : PySem.W.Frag) (CP CQ CW : Addr) : Sp := fun vs H Q _ => ∃ (p : Addr) (M : WebM) (l : Nat), vs = [.ref p, .int l] ∧ WebAt K CP CQ CW H p M ∧ Q (.int (wm M.ts l M.ts.length : Nat)) H
theorem ok_worth {f : Addr} {fd : FuncData} (F : Fun K "worth" "worth" s_worth f fd) (gf : mg "worth" = some (.ref f)) (B : Bl mg) {C_Pull C_Push C_Web C_TooWide C_FloorError C_TooMany C_TooRough : Addr} (T : Txt K mg C_Pull C_Push C_Web C_TooWide C_FloorError C_TooMany C_TooRough) (h_Pull_price : HasMeth P w K mg base CX0 3 C_Pull "price" ["self", "laying"] (spPrice C_Pull C_Push)) (h_Push_price : HasMeth P w K mg base CX0 3 C_Push "price" ["self", "laying"] (spPrice C_Pull C_Push)) : Has P w K mg base CX0 4 "worth" ["web", "laying"] (spWorth K C_Pull C_Push C_Web) := by
  refine Has.mk' F gf (F.binds (ps := ["web", "laying"]) fun _ _ _ _ _ _ us hl => match us, hl with | [_, _], _ => rfl) sc_worth (by walk_at "len") (fun cdv A outer s H vs Q E hr h => ?_)
  obtain ⟨p, M, l, rfl, hW, q⟩ := h
  obtain ⟨dx, a, b, c, d, xs, hp, hT, _⟩ := hW.at_
  obtain ⟨ps, hps, hin⟩ := hT
  have hpl : ps.length = M.ts.length := hin.1
  refine ⟨_, (pss_cons (ps_set (i := 2) sc_worth.nd rfl (.inl rfl) pe_int)
 (pss_cons (ps_for PassesOwn.never rfl (pi_listK K (pe_fldK K (pv 0) rfl)) (pg_name (i := 3) sc_worth.nd rfl (.inl rfl)) (pss_one (ps_set (i := 2) sc_worth.nd rfl (.inl rfl) (pe_op op_add (pv 2) (PE.or (pe_mt h_Pull_price (pv 3) (hr.mono (by decide)) (pa_cons (pv 1) pa_nil)) (pe_mt h_Push_price (pv 3) (hr.mono (by decide)) (pa_cons (pv 1) pa_nil)))))))
 (pss_one (ps_ret (pv 2))))), ?_⟩
  walk_at "sts"
  refine w_fld hp T.cl_Web T.n_Web_ties (wf_ties _ _ _ _ _) ?_
  walk_at "sts"
  refine for_list (xs := ps.map V.ref) (fun i σ H' => ∃ (y3 : Option V), σ = [some (.ref p), some (.int l), some (.int (wm M.ts l i : Nat)), y3] ∧ H' = H) ?_ ?_ ?_ ?_
  · exact ⟨_, rfl, rfl⟩
  · rintro i σ H' _ ⟨_, _, rfl⟩
    exact hps
  · rintro i x σ H' hx ⟨y3, rfl, rfl⟩
    have hi : i < M.ts.length := by
      have := (List.getElem?_eq_some_iff.mp hx).1
      rw [List.length_map] at this
      omega
    obtain ⟨pt, h1, h2⟩ := hin.get (ti_at hi)
    rw [hx] at h1
    cases h1
    walk_at "sts"
    refine w_mt (p := pt) (t := ti M.ts i) (by decide +kernel) (by decide +kernel) (by decide +kernel) (fun R h => ⟨_, rfl, h⟩) h2 ?_
    walk_at "sts"
    refine ⟨pt, _, l, rfl, h2, ?_⟩
    walk_at "sts"
    have : ((wm M.ts l (i + 1) : Nat) : Int) = (wm M.ts l i : Int) + (if unp (ti M.ts i) l = true then ((ti M.ts i).s : Int) else 0) := by
      show ((wm M.ts l i + if unp (ti M.ts i) l = true then (ti M.ts i).s else 0 : Nat) : Int) = _
      split <;> omega
    rw [this]
    exact ⟨_, rfl, rfl⟩
  · rintro σ H' ⟨y3, rfl, rfl⟩
    rw [List.length_map, hpl]
    walk_at "sts"
    exact q
def spLUnp (K : PySem.W.Frag) : Sp := fun vs H Q _ => ∃ (a : Addr) (ts : List Ti) (T : Turns) (l : Nat), vs = [.ref a, .int l] ∧ BuiltAt K H a ts T ∧ ts.length ≤ 1000 ∧ Q (.int (um ts l ts.length : Nat)) H
def spCost (K : PySem.W.Frag) : Sp := fun vs H Q _ => ∃ (a : Addr) (ts : List Ti) (T : Turns) (m : Nat), vs = [.ref a, .int m] ∧ BuiltAt K H a ts T ∧ ts.length ≤ 1000 ∧ Q (.int (costM ts m ts.length : Nat)) H
def spMask : Sp := fun vs H Q _ => ∃ (c : Int) (m : Nat), vs = [.int c, .int m] ∧ m ≤ 1000 ∧ ∀ v : Nat, v < 2 ^ m → Q (.int v) H
end

theorem GB.rpos {E : EdgL} {T : Turns} {R : List (List Nat)} (h : GB E T R) (hE : 0 < E.length) : 0 < R.length := by
  have h0 : (0 : Nat) ∈ R.flatten := h.rings.mem.mpr (by omega)
  obtain ⟨x, hx, _⟩ := List.mem_flatten.mp h0
  exact List.length_pos_of_mem hx
section
variable {P : Program} {w : World} {K : PySem.W.Frag} {mg : Str → Option Value} {base : Heap} {C_Pull C_Push C_Web C_TooWide C_FloorError C_TooMany C_TooRough : Addr}
def spWorthB (K : PySem.W.Frag) : Sp := fun vs H Q _ => ∃ (e k : Addr) (ts : List Ti) (l : Nat), vs = [.ref e, .ref k, .int l] ∧ Dp K H (.ref e) (dEnds (endsOf ts)) ∧ Dp K H (.ref k) (dTold ts) ∧ ts.length ≤ 1000 ∧ Q (.int (wm ts l ts.length : Nat)) H
theorem ok_law_worth {f : Addr} {fd : FuncData} (F : Fun K "_law_worth" "_law_worth" s_law_worth f fd) (gf : mg "_law_worth" = some (.ref f)) (B : Bl mg) {C_Pull C_Push C_Web C_TooWide C_FloorError C_TooMany C_TooRough : Addr} (T : Txt K mg C_Pull C_Push C_Web C_TooWide C_FloorError C_TooMany C_TooRough) : Has P w K mg base CX0 1 "_law_worth" ["ends", "kinds", "laying"] (spWorthB K) := by
  refine Has.mk' F gf (F.binds (ps := ["ends", "kinds", "laying"]) fun _ _ _ _ _ _ us hl => match us, hl with | [_, _, _], _ => rfl) sc_law_worth (by walk_at "len") (fun cdv A outer s H vs Q E hr h => ?_)
  obtain ⟨e, kd, ts, l, rfl, hE, hD, hsz, q⟩ := h
  obtain ⟨es, he, hEs⟩ := dpLstA hE
  obtain ⟨ds, hd, hDs⟩ := dpLstA hD
  have hel : es.length = ts.length := by have := dpaLen hEs; rw [List.length_map, endsOf_len] at this; exact this
  refine ⟨_, (pss_cons (ps_set (i := 3) sc_law_worth.nd rfl (.inl rfl) pe_int)
 (pss_cons (ps_for PassesOwn.never rfl (pi_range1 (by rfl) B.range (pa_cons (pe_callB (call_lenK K) (by rfl) B.len (by decide +kernel) (pa_cons (pv 0) pa_nil)) pa_nil)) (pg_name (i := 4) sc_law_worth.nd rfl (.inl rfl)) (pss_cons (ps_set (i := 5) sc_law_worth.nd rfl (.inl rfl) (pe_op op_and (pe_op op_xor (pe_op op_shr (pv 2) (pe_ix (ix_tupK K) (pe_ix (ix_listK K) (pv 0) (pv 4) (fun _ _ => rfl)) pe_int (fun _ _ => rfl))) (pe_op op_shr (pv 2) (pe_ix (ix_tupK K) (pe_ix (ix_listK K) (pv 0) (pv 4) (fun _ _ => rfl)) pe_int (fun _ _ => rfl)))) pe_int))
 (pss_one (ps_if (pt_cmpR op_ne (pv 5) (pe_ix (ix_tupK K) (pe_ix (ix_listK K) (pv 1) (pv 4) (fun _ _ => rfl)) pe_int (fun _ _ => rfl)) (nomark _)) (pss_one (ps_set (i := 3) sc_law_worth.nd rfl (.inl rfl) (pe_op op_add (pv 3) (pe_ix (ix_tupK K) (pe_ix (ix_listK K) (pv 1) (pv 4) (fun _ _ => rfl)) pe_int (fun _ _ => rfl))))) pss_nil))))
 (pss_one (ps_ret (pv 3))))), ?_⟩
  walk_at "sts"
  refine for_r0 (n := ts.length) ?_ (fun i σ H' => ∃ (y3 y4 : Option V), σ = [some (.ref e), some (.ref kd), some (.int l), some (.int (wm ts l i : Nat)), y3, y4] ∧ H' = H) ?_ ?_ ?_
  · rw [hel]
  · exact ⟨_, _, rfl, rfl⟩
  · rintro i σ H' hi ⟨y3, y4, rfl, rfl⟩
    obtain ⟨p0, b1, b2⟩ := dpEndsAt hEs (show i < (endsOf ts).length by rw [endsOf_len]; exact hi)
    obtain ⟨p1, b3, b4⟩ := toldAt hDs hi
    rw [en_ti hi] at b2
    have hws : wm ts l (i + 1) = wm ts l i + if unp (ti ts i) l = true then (ti ts i).s else 0 := rfl
    walk_at "sts"
    rw [unl_eq]
    refine ifb (fun hc => ?_) (fun hc => ?_)
    · rw [if_pos hc] at hws
      walk_at "sts"
      rw [hws, Int.natCast_add]
      exact ⟨_, _, rfl, rfl⟩
    · rw [if_neg (by rw [hc]; decide)] at hws
      walk_at "sts"
      rw [hws]
      exact ⟨_, _, rfl, rfl⟩
  · rintro σ H' ⟨y3, y4, rfl, rfl⟩
    walk_at "sts"
    exact q
/-- the worths of all layings -/
def wms (ts : List Ti) (n : Nat) : List V := (List.range n).map fun l => V.int (wm ts l ts.length : Nat)
theorem wms_len (ts : List Ti) (n : Nat) : (wms ts n).length = n := by simp [wms]
theorem wms_at {ts : List Ti} {n l : Nat} (h : l < n) : (wms ts n)[l]? = some (.int (wm ts l ts.length : Nat)) := by
  unfold wms
  rw [List.getElem?_map, List.getElem?_range h]
  rfl
theorem wms_snoc (ts : List Ti) (n : Nat) : wms ts (n + 1) = wms ts n ++ [.int (wm ts n ts.length : Nat)] := by
  unfold wms
  rw [List.range_succ, List.map_append]
  rfl
def spCostsB (K : PySem.W.Frag) : Sp := fun vs H Q _ => ∃ (a k : Addr) (ts : List Ti) (T : Turns) (R : List (List Nat)), vs = [.ref a, .ref k] ∧ GrB K H a (endsOf ts) T R ∧ Dp K H (.ref k) (dTold ts) ∧ ts.length ≤ 1000 ∧ T.length ≤ 16 ∧
  ∀ p H', Same H H' → New H p → H' p = some (.lst (wms ts (2 ^ T.length))) → Q (.ref p) H'
theorem ok_law_costs {f : Addr} {fd : FuncData} (F : Fun K "_law_costs" "_law_costs" s_law_costs f fd) (gf : mg "_law_costs" = some (.ref f)) (B : Bl mg) {C_Pull C_Push C_Web C_TooWide C_FloorError C_TooMany C_TooRough : Addr} (T : Txt K mg C_Pull C_Push C_Web C_TooWide C_FloorError C_TooMany C_TooRough) (h_law_worth : Has P w K mg base CX0 1 "_law_worth" ["ends", "kinds", "laying"] (spWorthB K)) : Has P w K mg base CX0 2 "_law_costs" ["grown", "kinds"] (spCostsB K) := by
  refine Has.mk' F gf (F.binds (ps := ["grown", "kinds"]) fun _ _ _ _ _ _ us hl => match us, hl with | [_, _], _ => rfl) sc_law_costs (by walk_at "len") (fun cdv A outer s H vs Q E hr h => ?_)
  obtain ⟨a, kd, ts, Tu, R, rfl, ⟨e, t, r, hA, hE, hTu, _⟩, hD, hsz, htl, q⟩ := h
  obtain ⟨us, hu, hTs⟩ := dpLstA hTu
  have hul : us.length = Tu.length := by have := dpaLen hTs; simpa using this
  obtain ⟨N, hN, hN2⟩ : ∃ N : Nat, 2 ^ Tu.length = N ∧ N ≤ 65536 := ⟨_, rfl, Nat.le_trans (Nat.pow_le_pow_right (by decide) htl) (by decide)⟩
  rw [hN] at q
  refine ⟨_, (pss_one (ps_ret (pe_lc (own := [("laying", 2)]) rfl sc_law_costs.nd (pi_range1 (by rfl) B.range (pa_cons (pe_op op_shlW pe_int (pe_callB (call_lenK K) (by rfl) B.len (by decide +kernel) (pa_cons (pe_ix (ix_tupK K) (pv 0) pe_int (fun _ _ => rfl)) pa_nil))) pa_nil)) (blkOk_by (own := [("laying", 2)]) (N := ["grown", "kinds", "laying"]) (sc := defScope s_law_costs) (by decide +kernel)) (fun _ _ _ _ _ => pg_name (i := 2) sc_law_costs.nd rfl (Or.inl rfl)) (fun _ _ _ _ _ => pts_nil) (fun _ _ _ _ _ => (pe_fn h_law_worth (hr.mono (by decide)) (by rfl) (pa_cons (pe_ix (ix_tupK K) (pv 0) pe_int (fun _ _ => rfl)) (pa_cons (pv 1) (pa_cons (pv 2) pa_nil)))))))), ?_⟩
  walk_at "sts"
  rw [hul, shl_one, hN]
  refine ⟨by omega, by omega, ?_⟩
  intro D nD
  refine lc_r0 (n := N) rfl (fun i H' => H' D = some (.lst (wms ts i)) ∧ Same H H') ?_ ?_ ?_
  · exact ⟨upd_same, same_upd nD⟩
  · rintro i H' hi ⟨l1, s1⟩
    have hA1 := same_read s1 hA
    walk_at "sts"
    refine ⟨e, kd, ts, i, rfl, hE.same s1, hD.same s1, hsz, ?_⟩
    refine ⟨_, l1, szlt (by rw [wms_len]; omega), ?_, s1.mut nD⟩
    rw [upd_same, wms_snoc]
  · rintro H1 ⟨l1, s1⟩
    walk_at "sts"
    exact q D H1 s1 nD l1
def spNumI : Sp := fun vs H Q _ => ∃ i : Int, vs = [.int i] ∧ Q (.bl true) H
theorem ok_law_number {f : Addr} {fd : FuncData} (F : Fun K "_law_number" "_law_number" s_law_number f fd) (gf : mg "_law_number" = some (.ref f)) (B : Bl mg) {C_Pull C_Push C_Web C_TooWide C_FloorError C_TooMany C_TooRough : Addr} (T : Txt K mg C_Pull C_Push C_Web C_TooWide C_FloorError C_TooMany C_TooRough) : Has P w K mg base CX0 1 "_law_number" ["found"] spNumI := by
  refine Has.mk' F gf (F.binds (ps := ["found"]) fun _ _ _ _ _ _ us hl => match us, hl with | [_], _ => rfl) sc_law_number (by walk_at "len") (fun cdv A outer s H vs Q E hr h => ?_)
  obtain ⟨i, rfl, q⟩ := h
  refine ⟨_, (pss_one (ps_ret (pe_and (pe_callB (call_isiK' K) (by rfl) B.isinstance (by decide +kernel) (pa_cons (pv 0) (pa_cons (pe_bltn (v := .ty "int") (by rfl) B.int (by decide +kernel) rfl) pa_nil))) (pe_one (pe_not (pe_callB (call_isiK' K) (by rfl) B.isinstance (by decide +kernel) (pa_cons (pv 0) (pa_cons (pe_bltn (v := .ty "bool") (by rfl) B.bool (by decide +kernel) rfl) pa_nil)))))))), ?_⟩
  walk_at "sts"
  exact q
end


/-! ### an exception that is kept behind its suite: try: body, except x as n: .. found = n -/
/-- at a: a caught exception, of the class cls, its dict d -/
def exk (a : Addr) (cls : Value) (d : Option Addr) : HO := .ext fun h => ∃ (oe : Obj) (vs : Array Value), h.get? a = some oe ∧ Zc cls d oe ∧ oe.data = .fields vs
theorem exk_ok {P : Program} {w : World} {H : Hp} {h : Heap} {a : Addr} {cls : Value} {d : Option Addr} {oe : Obj} {vs : Array Value} (e : h.get? a = some oe) (z : Zc cls d oe) (dd : oe.data = .fields vs) : ObjOk P w H h a (exk a cls d) :=
  ⟨⟨oe, vs, e, z, dd⟩, ⟨oe, e⟩, fun _ _ ⟨o, v, q, r⟩ k => ⟨o, v, k o q, r⟩⟩
theorem exk_at {P : Program} {w : World} {H : Hp} {h : Heap} {a : Addr} {cls : Value} {d : Option Addr} (hok : HOk P w H h) (he : H a = some (exk a cls d)) : ∃ (oe : Obj) (vs : Array Value), h.get? a = some oe ∧ Zc cls d oe ∧ oe.data = .fields vs := by
  have x : ObjOk P w H h a (.ext fun h => ∃ (oe : Obj) (vs : Array Value), h.get? a = some oe ∧ Zc cls d oe ∧ oe.data = .fields vs) := hok a _ he
  exact x.1
section
variable {X : Cx} {pins : List (Addr × Obj)} {σ : L2.St} {H : Hp} {s : Shared}
/-- an object that is there, of ours, is tracked from now on -/
theorem Inv.track {a : Addr} {o : HO} (I : Inv X pins σ H s) (na : H a = none) (hx : ∀ ob, X.s_0.heap.get? a = some ob → a ∈ X.ex) (nL : a ≠ X.env.locals) (hc : ∀ x c, X.env.cells.lookup x = some c → c ≠ a) (hp : ∀ p ∈ X.pn ++ pins, p.1 ≠ a) (new : ObjOk X.prog X.w (upd H a o) s.heap a o) :
    Inv X pins σ (upd H a o) s :=
  ⟨I.ok, I.os, I.bare,
    ⟨I.base.keep, I.base.slot, fun b ob e n hb => by
      have nb : b ≠ a := fun z => by subst z; exact hb (hx ob e)
      rw [upd_ne nb]; exact I.base.free b ob e n hb, I.base.there,
      fun b xs q => by rw [upd_ne (ne_of_none (I.base.tups b xs q) na)]; exact I.base.tups b xs q,
      fun b ob u q => by rw [upd_ne (ne_of_none (I.base.frzs b ob u q) na)]; exact I.base.frzs b ob u q,
      fun b ps q => by
        obtain ⟨m, e⟩ := I.base.tbls b ps q
        exact ⟨m, by rw [upd_ne (ne_of_none e na)]; exact e⟩⟩,
    I.loc, I.cell, by rw [upd_ne nL.symm]; exact I.free, fun x c e => by rw [upd_ne (hc x c e)]; exact I.freeC x c e,
    fun p hq => by
      obtain ⟨h1, h2, h3⟩ := I.pin p hq
      exact ⟨h1, by rw [upd_ne (hp p hq)]; exact h2, h3⟩,
    fun b u e => by
      by_cases hb : b = a
      · subst hb; rw [upd_same] at e; cases e; exact new
      · rw [upd_ne hb] at e
        exact (I.hok b u e).stay (fun c v _ q => q) (fun c q => by rw [upd_ne (ne_of_none q na)]; exact q) fun c xs q => by rw [upd_ne (ne_of_none q na)]; exact q,
    I.len⟩
end
/-- what 'except x as n: suite' wishes, the exception kept behind -/
def wKeep (K : PySem.W.Frag) (c : Value) (i : Nat) (ts : Addr → Value → Option Addr → TS) (Wout : WX) (D : Ends) : WX := fun cls d σ H =>
  ∃ b, PySem.W.exmOne K cls c = some b ∧ (b = true → ∀ a, H a = none → ts a cls d { nx := fun σ' H' => H' a = none → D.nx (σ'.set i none) (upd H' a (exk a cls d)), rt := fun _ _ => False, bk := fun _ _ => False, ct := fun _ _ => False } (σ.set i (some (.ref a))) H) ∧
    (b = false → Wout cls d σ H)
section
variable {X : Cx} {x n : Str} {c : Value} {i : Nat} {body suite : List Stmt} {b₀ : Stmt} {np pos pos' : Pos} {tb : WX → TS} {ts : Addr → Value → Option Addr → TS} {Wout : WX}
theorem ps_try_keep (hs : X.stack = X.env :: X.outer) (hf : X.env.frame = some X.env.locals) (hN : X.N.Nodup) (hi : X.N[i]? = some n) (hln : X.env.kindOf n = some .local) (hc : Names X x c) (tk : Takes X Wout)
    (hb : ∀ (W : WX) (pn : List (Addr × Obj)) (xe : Value → Shared → Prop), Takes (X.tr pn xe) W → PassesOwn (model X.prog X.w) X.A X.env xe → PSs (X.tr pn xe) body (tb W))
    (hsu : ∀ (a : Addr) (oe : Obj) (cls : Value) (d : Option Addr) (pn : List (Addr × Obj)), Zc cls d oe → (∃ vs, oe.data = .fields vs) → PSs (X.suite a ((a, oe) :: pn)) (b₀ :: suite) (ts a cls d)) :
    PS X (.Try body [.ExceptHandler (some (.Name x np)) (some n) (b₀ :: suite) pos'] [] [] pos) (fun D σ H => tb (wKeep X.K c i ts Wout D) D σ H) := by
  refine ⟨fun pins s σ H D I h => ?_⟩
  have ok := I.ok
  have hfr : X.A.frames = some (X.env :: X.outer) := by rw [ok.frames, hs]
  refine wpAny_Try_except ?_
  refine wpAny_mono ((hb (wKeep X.K c i ts Wout D) (X.pn ++ pins) (fun e s₁ => wpAny (model X.prog X.w) X.A (noteFrame e X.env) (fun _ s₂ => wpAny (model X.prog X.w) X.A (setFlight e none) (fun _ s₃ =>
    wpAny (model X.prog X.w) X.A (handleBy e X.env [.ExceptHandler (some (.Name x np)) (some n) (b₀ :: suite) pos']) (SP X pins D) X.xe s₃) X.xe s₂) X.xe s₁) (fun u s' xx => ?_) PassesOwn.looking).run [] s σ H D (I.toTry _) h) (fun f s1 hsp => ?_) (fun e s1 he => he)
  · obtain ⟨a, B, sI, pins', σ', H', cls, d, rfl, J', nb, up, sky, na, os, ag, b, hb1, hyes, hno⟩ := xx
    have J : Inv X pins σ' H' sI := J'.ofTry ok
    have sky' : Sky B (X.env :: X.outer) a (Zc cls d) X.env.locals s'.heap := by rw [← hs]; exact sky
    show wpAny (model X.prog X.w) X.A (noteFrame (.ref a) X.env) _ _ _
    refine Sky.land Zc.steady hfr hf sky' fun h3 fl3 up3 => ?_
    have J3 : Inv X pins σ' H' { s' with heap := h3 } := J.landed nb fl3.1 (up.trans up3) os ag
    obtain ⟨oe3, vs3, he3, hz3, hd3⟩ := fl3.there
    have nfr : a ∉ frs (X.env :: X.outer) := fun hm => by
      obtain ⟨_, o', e', hnf⟩ := fl3.2.2.1.mem hm
      rw [he3] at e'; cases e'
      exact hnf _ hd3
    have nL : a ≠ X.env.locals := fun z => nfr (List.mem_filterMap.mpr ⟨X.env, List.mem_cons_self, by rw [hf, z]⟩)
    have nF : a ∉ X.fs := fun hm => by
      obtain ⟨e, he, q⟩ := List.mem_filterMap.mp hm
      exact nfr (List.mem_filterMap.mpr ⟨e, List.mem_cons_of_mem _ he, q⟩)
    have nI : sI.heap.get? a = none := by
      cases q : sI.heap.get? a with
      | none => rfl
      | some o =>
        have z := nb a o q (by rw [hs]; exact nfr)
        rw [fl3.2.1] at z
        cases z
    have S3 := J3.suite he3 hd3 na nL nF
    refine wpAny_handleBy_cons (codeAny_handlers_test ?_) (by intro q; cases q)
    have LT : PySem.W.Looks (model X.prog X.w) h3 (typeOf (.ref a)) cls := fun A Q E s k q => wpAny_typeOf_ref (k _ _ he3) (by rw [hz3.1]; exact q)
    have LM := PySem.W.exm_one (M := model X.prog X.w) (J3.kIn) LT hb1
    have test : ∀ {Q : Value → Shared → Prop} {E : Value → Shared → Prop}, Q c { s' with heap := h3 } → wpAny (model X.prog X.w) (X.A.mark (some (.ref a))) (eval (.Name x np) X.env) Q E { s' with heap := h3 } := fun {Q E} q => by
      obtain ⟨hg, hdbg, hm | ⟨hm, hv, hnn⟩⟩ := hc
      · exact ld_glob (X := X.suite a ((a, oe3) :: (X.pn ++ pins))) S3 hg hm q hdbg
      · exact ld_blt (X := X.suite a ((a, oe3) :: (X.pn ++ pins))) S3 hg hm hv q hnn hdbg
    refine test (LM.here ?_)
    cases b with
    | true =>
      refine codeAny_handlers_suite_as ?_
      refine HandSPX.lands_againZ fl3 fun h4 fl4 up4 => ?_
      have J4 : Inv X pins σ' H' { s' with heap := h4 } := J.landed nb fl4.1 ((up.trans up3).trans up4) os ag
      obtain ⟨oe4, vs4, he4, hz4, hd4⟩ := fl4.there
      have S4 := J4.suite he4 hd4 na nL nF
      refine store_ok (X := X.suite a ((a, oe4) :: (X.pn ++ pins))) (v := .ref a) S4 hN hi (.inl hln) rfl (fun s5 S5 => ?_) (.inr hln)
      refine wpAny_mono ((hsu a oe4 cls d (X.pn ++ pins) hz4 ⟨_, hd4⟩).run [] s5 _ H' _ S5 (hyes rfl a na)) (fun f s6 hsp => ?_) (fun _ _ z => False.elim z)
      cases f with
      | next =>
        obtain ⟨σ6, H6, S6, q6⟩ := hsp
        obtain ⟨g6, n6, _⟩ := S6.pin (a, oe4) (List.mem_append_left _ List.mem_cons_self)
        have T6 : Inv X pins σ6 (upd H6 a (exk a cls d)) s6 := Inv.track (S6.unsuite ok) n6
          (fun ob e => by
            refine Classical.byContradiction fun hx => ?_
            obtain ⟨o', e'⟩ := J.base.there a ob e hx
            rw [nI] at e'
            cases e')
          nL (fun y c' e z => by
            obtain ⟨v, hv⟩ := J.cell y c' e
            obtain ⟨o', e', _⟩ := hv
            rw [z, nI] at e'
            cases e')
          (fun p hp z => by
            have q := (J.pin p hp).1
            rw [z, nI] at q
            cases q)
          (exk_ok g6 hz4 hd4)
        exact gone_ok T6 hN hi hln fun s7 J7 => ⟨_, _, J7, q6 n6⟩
      | brk =>
        obtain ⟨_, _, _, q6⟩ := hsp
        exact False.elim q6
      | cont =>
        obtain ⟨_, _, _, q6⟩ := hsp
        exact False.elim q6
      | ret u =>
        obtain ⟨_, _, _, _, _, q6⟩ := hsp
        exact False.elim q6
    | false =>
      show wpAny _ X.A (handleBy (.ref a) X.env []) _ _ _
      refine wpAny_handleBy_nil ?_
      obtain ⟨k1, k2, k3, oe, vs, T, oT, ts', he, hz, hd, h1, hr⟩ := id fl3
      unfold PySem.passOn
      refine wpAny_bind (wpAny_field he hd h1 ?_)
      rw [if_neg (show ¬ ((Value.ref T == Value.none) = true) from by simp)]
      have fin : wpAny (model X.prog X.w) X.A (setFlight (.ref a) X.env.frame) (fun _ s4 => wpAny (model X.prog X.w) X.A (throw (.ref a) : Sem Flow) (SP X pins D) X.xe s4) X.xe { s' with heap := h3 } := by
        rw [hf]
        refine HandSPX.setFlight_upZ fl3 fun h4 hh4 up4 => wpAny_throw (tk _ _ ?_)
        exact ⟨a, B, sI, pins, σ', H', cls, d, rfl, J, nb, (up.trans up3).trans up4, .inr (.inr (by rw [hs]; exact hh4)), na, os, ag, hno rfl⟩
      first
        | exact wpAny_bind (wpAny_pure (wpAny_bind fin))
        | exact wpAny_bind fin
  · cases f with
    | next =>
      obtain ⟨σ', H', J', q⟩ := hsp
      exact wpAny_execs_nil ⟨σ', H', J'.ofTry ok, q⟩
    | brk =>
      obtain ⟨σ', H', J', q⟩ := hsp
      exact ⟨σ', H', J'.ofTry ok, q⟩
    | cont =>
      obtain ⟨σ', H', J', q⟩ := hsp
      exact ⟨σ', H', J'.ofTry ok, q⟩
    | ret u =>
      obtain ⟨v, σ', H', J', r, q⟩ := hsp
      exact ⟨v, σ', H', J'.ofTry ok, r, q⟩
end
/-- what is known of a kept exception -/
def Kept (K : PySem.W.Frag) (H : Hp) (a D : Addr) (d : Option Addr) : Prop := H a = some (exk a (.ref D) d) ∧ (d = none ∨ ∃ dd fs, d = some dd ∧ H dd = some (.xd fs))
theorem Kept.inst {X : Cx} {pins : List (Addr × Obj)} {σ : L2.St} {H : Hp} {s : Shared} {a D : Addr} {d : Option Addr} (I : Inv X pins σ H s) (k : Kept X.K H a D d) : ∃ oe od, PySem.W.InstAt s.heap a oe D od := by
  obtain ⟨ha, hd⟩ := k
  obtain ⟨oe, vs, hget, hz, hv⟩ := exk_at I.hok ha
  rcases hd with rfl | ⟨dd, fs, rfl, hdd⟩
  · exact ⟨oe, none, hget, hz.1, by unfold PySem.W.notCls; rw [hv] <;> rfl, by rw [hz.2]; trivial⟩
  · obtain ⟨mA, hns, _⟩ : ObjOk X.prog X.w H s.heap dd (.xd fs) := I.hok dd _ hdd
    obtain ⟨od, ho, _⟩ := lookIn_ns hns
    exact ⟨oe, some od, hget, hz.1, by unfold PySem.W.notCls; rw [hv] <;> rfl, by rw [hz.2]; exact ho⟩
/-- isinstance(x, c), x a kept exception or None -/
def rIsKp (K : PySem.W.Frag) : List V → Hp → VK → Prop := fun xs H Q =>
  (∃ (a D : Addr) (d : Option Addr) (c : V) (cv : Value) (b : Bool), ExF K D ∧ Kept K H a D d ∧ xs = [.ref a, c] ∧ (∀ u, RelV c u → u = cv) ∧ PySem.W.kitOne K (.ref D) cv = some b ∧ Q (.bl b) H)
theorem call_isKp {X : Cx} (K : PySem.W.Frag) (hK : X.K = K := by rfl) : CallR X (.builtin "isinstance") (rIsKp K) := by
  subst hK
  intro pins s σ H xs us Q I r h
  obtain ⟨a, D, d, c, cv, b, F, hk, rfl, hcv, e, q⟩ := h
  obtain _ | ⟨rx, rr⟩ := r
  obtain _ | ⟨rt, rr⟩ := rr
  cases rr
  cases rx
  have ec := hcv _ rt
  subst ec
  have hcl : (PySem.W.clsIn X.K D).isSome = true := F.cl
  obtain ⟨oe, od, J⟩ := hk.inst I
  exact PySem.W.kia_one (PySem.W.kitx_exc hcl F.ga F.gg F.be F.oc F.og F.ot F.om) I.kIn J e (fun z => nomatch z) fun tk => ⟨.bl b, H, I.kept (t' := tk) fun _ _ z => z, rfl, q⟩
theorem w_isKp {K : PySem.W.Frag} {H : Hp} {Q : VK} {a D E : Addr} {d : Option Addr} {b : Bool} (F : ExF K D) (G : ExF K E) (hs : PySem.W.subIn K (.ref D) (.ref E) = some b) (hk : Kept K H a D d) (h : Q (.bl b) H) : rIsKp K [.ref a, .ref E] H Q :=
  ⟨a, D, d, .ref E, .ref E, b, F, hk, rfl, fun _ r => r, F.kit G hs, h⟩
theorem w_isKpV {K : PySem.W.Frag} {H : Hp} {Q : VK} {a D : Addr} {d : Option Addr} (F : ExF K D) (hk : Kept K H a D d) (h : Q (.bl true) H) : rIsKp K [.ref a, .ty "ValueError"] H Q :=
  ⟨a, D, d, .ty "ValueError", .type "ValueError", true, F, hk, rfl, fun _ r => r, F.kitV, h⟩
theorem Kept.same {K : PySem.W.Frag} {H H' : Hp} {a D : Addr} {d : Option Addr} (k : Kept K H a D d) (e : Same H H') : Kept K H' a D d :=
  ⟨e _ _ k.1, k.2.imp_right fun ⟨dd, fs, h1, h2⟩ => ⟨dd, fs, h1, e _ _ h2⟩⟩
/-- found.f -/
def tXk (K : PySem.W.Frag) (f : Str) (te : TE) : TE := fun σ H Q => te σ H fun x H1 => ∃ (a C dd : Addr) (fs : List (Str × V)) (v : V), x = .ref a ∧ XfC K C ∧ PySem.W.findIn K (.ref C) f = some none ∧ H1 a = some (exk a (.ref C) (some dd)) ∧ H1 dd = some (.xd fs) ∧ fs.lookup f = some v ∧ Q v H1
theorem pe_xk {X : Cx} {e : Expr} {te : TE} {pos : Pos} {f : Str} (K : PySem.W.Frag) (he : PE X e te) (hb : attributeBase e f X.env (eval e X.env) = eval e X.env := by rfl) (hK : X.K = K := by rfl) : PE X (.Attribute e f pos) (tXk K f te) := by
  subst hK
  refine ⟨fun pins s σ H Q I h => ?_⟩
  refine attr_of hb (thn (he.run pins s σ H _ I h) fun u s1 hh => ?_)
  obtain ⟨x, H1, I1, rx, a, C, dd, fs, v, ex, T, hno, ha, ea, l, q⟩ := hh
  subst ex
  obtain rfl : u = Value.ref a := rx
  obtain ⟨oe, vs, hget, hz, hv⟩ := exk_at I1.hok ha
  have hx : ObjOk X.prog X.w H1 s1.heap dd (.xd fs) := I1.hok dd _ ea
  obtain ⟨mA, hns, hr⟩ := hx
  obtain ⟨od, ho, hl⟩ := lookIn_ns hns
  obtain ⟨u, hu, ru⟩ := RelO.some_of (v := v) (o := mA f) (by rw [← l]; exact hr f)
  have J : PySem.W.InstAt s1.heap a oe C (some od) := ⟨hget, hz.1, by unfold PySem.W.notCls; rw [hv] <;> rfl, by rw [hz.2]; exact ho⟩
  exact HandSPX.exc_get I1.kIn J T.ga T.gg T.exC (PySem.W.findObj_own T.hdC hno rfl (by rw [hl, hu])) (handed_of ru) ⟨v, H1, I1.tok _, ru, q⟩
theorem w_xk {K : PySem.W.Frag} {σ : L2.St} {H : Hp} {Q : VK} {f : Str} {te : TE} (h : te σ H fun x H1 => ∃ (a C dd : Addr) (fs : List (Str × V)) (v : V), x = .ref a ∧ XfC K C ∧ PySem.W.findIn K (.ref C) f = some none ∧ H1 a = some (exk a (.ref C) (some dd)) ∧ H1 dd = some (.xd fs) ∧ fs.lookup f = some v ∧ Q v H1) : tXk K f te σ H Q := h
/-! ### objects whose __init__ may raise -/
theorem HasFn.mkX {P : Program} {w : World} {K : PySem.W.Frag} {mg : Str → Option Value} {base : Heap} {x qual : Str} {ps N : List Str} {sp : Sp} {k : Nat} {st : Stmt} {f : Addr} {fd : FuncData} (F : Fun K x qual st f fd) (b : Binds K fd ps []) (S : FnScope N ps (defScope st)) (len : ∀ vs H Q E, sp vs H Q E → vs.length = ps.length)
    (hbody : ∀ (cdv : Value) (A : Around) (outer : List Env) (s : Shared) (H : Hp) (vs : List V) (Q : VK) (E : XK), Room k (A.deeper (envOfC qual (defScope st) s.heap.objs.size f cdv)) → sp vs H Q E →
      ∃ t, PSs (cxOf (L2.CX P w) P w K mg base N qual (defScope st) f cdv A outer s H E) (defBody st) t ∧ t { nx := fun _ H' => Q .non H', rt := Q } (start N vs) H) : HasFn P w K mg base (L2.CX P w) (k + 1) f ps sp :=
  ⟨fd, F.okX S len hbody, b⟩
section
variable {X : Cx} {k : Nat} {ps : List Str} {sp : Sp} {x : Str} {p pos : Pos} {e : Expr} {es : List Expr} {t : TA} {C : Addr} {E : XK}
theorem pe_mkX (tk : Takes X (fun cls d _ H => E cls d H)) (h : HasMk X.prog X.w X.K X.mg X.base (L2.CX X.prog X.w) k x C ps sp) (hr : Room (k + 1) X.A) (hg : Gl X x) (ha : PA X (e :: es) t) (hdb : (x == ("__debug__" : Str)) = false := by decide) (he : starEach (e :: es) X.env = (false, eval e X.env) :: starEach es X.env := by rfl) (hpl : (backTo pos (starEach es X.env)).any (·.1) = false := by rfl) :
    PE X (.Call (.Name x p) (e :: es) [] pos) (tMake C sp [] E t) := by
  obtain ⟨f, fd, F, M, g, b⟩ := h.ex
  exact pe_make M F hr hg g b .nil (passes_call tk fun _ _ _ _ h => h) ha hdb he hpl
theorem pe_mkL (h : HasMk X.prog X.w X.K X.mg X.base (L2.CX X.prog X.w) k x C ps sp) (hr : Room (k + 1) X.A) (hg : Gl X x) (ha : PA X (e :: es) t) (hdb : (x == ("__debug__" : Str)) = false := by decide) (he : starEach (e :: es) X.env = (false, eval e X.env) :: starEach es X.env := by rfl) (hpl : (backTo pos (starEach es X.env)).any (·.1) = false := by rfl) :
    PE X (.Call (.Name x p) (e :: es) [] pos) (tMake C sp [] E0 t) := by
  obtain ⟨f, fd, F, M, g, b⟩ := h.ex
  exact pe_make M F hr hg g b .nil passL ha hdb he hpl
end
/-- X(), X an own exception class without own __init__ -/
theorem pmk_own0 {X : Cx} {C : Addr} {bmB : List Value} {B newId initId : String} {x : Str} {p pos : Pos} (F : ExcBaseFacts B newId initId bmB) (q : PySem.W.excIn X.K C bmB newId = true) (gC : X.mg x = some (.ref C)) (kC : PySem.W.keepIn X.K (.ref C) = true) (r : Raises X (.ref C)) (hg : Gl X x)
    (hdb : (x == ("__debug__" : Str)) = false := by decide) : PMk X (.Call (.Name x p) [] [] pos) (fun _ H Q => Q (.ref C) none H) := by
  intro pins s σ H Q I h
  refine wpAny_Call_Name_kw (ld_glob I hg gC ?_ hdb)
  refine PySem.W.callWith_K0 I.kIn kC ?_
  obtain ⟨bm, N, nm, qn, bs, hdct, sn, sub, ab, col, dd, k0, k1, k2, k3, k5, mN, hC, hN, hni, T⟩ := exc_obj I.kIn q
  refine wpAny_call_exc_subT F T hC hN hni (fun h1 e hm => ?_) (by first | exact Nat.zero_le _ | decide)
  exact mk_of I hm r h (I.hok.gone hm.new)
/-- what is never reached -/
theorem pe_never {X : Cx} {e : Expr} : PE X e (fun _ _ _ => False) := ⟨fun _ _ _ _ _ _ h => h.elim⟩

section
variable {P : Program} {w : World} {K : PySem.W.Frag} {mg : Str → Option Value} {base : Heap} {C_Pull C_Push C_Web C_TooWide C_FloorError C_TooMany C_TooRough : Addr}
def spLaw (K : PySem.W.Frag) : Sp := fun vs H Q _ => ∃ (a : Addr) (ns : List Int), vs = [.ref a] ∧ LsE K H a (ns.map V.int) ∧ ns.length ≤ 63 ∧ (∀ z ∈ ns, Builtin.Int.intBits z ≤ 1048576) ∧ ∀ H', Q (.bl true) H'
end
theorem modN (z : Int) {n : Nat} (h : 0 < n) : ∃ k : Nat, z % (n : Int) = (k : Int) ∧ k < n := by
  have h1 := Int.emod_nonneg z (show (n : Int) ≠ 0 by omega)
  have h2 := Int.emod_lt_of_pos z (show (0 : Int) < n by omega)
  exact ⟨(z % (n : Int)).toNat, by omega, by omega⟩

theorem Built.mono {ts : List Ti} {T : Turns} {m n : Nat} (h : Built ts T m) (e : m ≤ n) : Built ts T n := ⟨h.flat, Nat.le_trans h.le e, h.pos, h.tl, h.tp, h.s⟩

/-! ### ways by single turned places -/
def Way (m : Nat) (x : Nat) : List Nat → Nat → Prop
  | [], y => x = y
  | a :: l, y => (∃ p, p < m ∧ a = x ^^^ 2 ^ p) ∧ Way m a l y
theorem Way.app {m : Nat} : ∀ {l l2 : List Nat} {x y z : Nat}, Way m x l y → Way m y l2 z → Way m x (l ++ l2) z
  | [], _, _, _, _, h, h2 => by cases h; exact h2
  | _ :: _, _, _, _, _, h, h2 => ⟨h.1, Way.app h.2 h2⟩
theorem Way.end_ {m : Nat} : ∀ {l : List Nat} {x y : Nat}, Way m x l y → y ∈ x :: l
  | [], _, _, h => by cases h; exact List.mem_cons_self
  | _ :: _, _, _, h => List.mem_cons_of_mem _ (Way.end_ h.2)
/-- a way none of whose layings is worth more -/
def Reaw (W : Nat → Nat) (m c x y : Nat) : Prop := ∃ l, Way m x l y ∧ ∀ z ∈ x :: l, W z ≤ c
theorem Reaw.refl {W : Nat → Nat} {m x : Nat} : Reaw W m (W x) x x := ⟨[], rfl, fun z hz => by rw [List.mem_singleton.mp hz]; exact Nat.le_refl _⟩
theorem Reaw.ends {W : Nat → Nat} {m c x y : Nat} (h : Reaw W m c x y) : W x ≤ c ∧ W y ≤ c := by
  obtain ⟨l, h1, h2⟩ := h
  exact ⟨h2 x List.mem_cons_self, h2 y h1.end_⟩
theorem Reaw.trans {W : Nat → Nat} {m c d x y z : Nat} (h : Reaw W m c x y) (h' : Reaw W m d y z) : Reaw W m (max c d) x z := by
  obtain ⟨l, h1, h2⟩ := h
  obtain ⟨l', h3, h4⟩ := h'
  refine ⟨l ++ l', h1.app h3, fun w hw => ?_⟩
  rw [← List.cons_append] at hw
  rcases List.mem_append.mp hw with a | a
  · exact Nat.le_trans (h2 w a) (Nat.le_max_left _ _)
  · exact Nat.le_trans (h4 w (List.mem_cons_of_mem _ a)) (Nat.le_max_right _ _)
/-- what a climb tells -/
structure ClimbOk (W : Nat → Nat) (m s g h : Nat) (l : List Nat) : Prop where
  way : Way m s l g
  le : ∀ z ∈ s :: l, W z ≤ h
  nd : (s :: l).Nodup
  min : ∀ c, Reaw W m c s g → h ≤ c
theorem ClimbOk.reach {W : Nat → Nat} {m s g h : Nat} {l : List Nat} (k : ClimbOk W m s g h l) : Reaw W m h s g := ⟨l, k.way, k.le⟩
theorem xor_twice (x p : Nat) : x ^^^ 2 ^ p ^^^ 2 ^ p = x := by rw [Nat.xor_assoc, Nat.xor_self, Nat.xor_zero]
theorem turn_lt {m x p : Nat} (h : x < 2 ^ m) (hp : p < m) : x ^^^ 2 ^ p < 2 ^ m := Nat.xor_lt_two_pow h (Nat.pow_lt_pow_right (by decide) hp)
/-- from any laying to any other -/
theorem way_all {m x y : Nat} (hx : x < 2 ^ m) (hy : y < 2 ^ m) : ∃ l, Way m x l y := by
  have key : ∀ k, k ≤ m → ∃ z l, Way m x l z ∧ z < 2 ^ m ∧ ∀ q, z.testBit q = if q < k then y.testBit q else x.testBit q := by
    intro k
    induction k with
    | zero => exact fun _ => ⟨x, [], rfl, hx, fun q => by rw [if_neg (Nat.not_lt_zero _)]⟩
    | succ k ih =>
      intro hk
      obtain ⟨z, l, h1, h2, h3⟩ := ih (by omega)
      by_cases e : x.testBit k = y.testBit k
      · refine ⟨z, l, h1, h2, fun q => ?_⟩
        rw [h3]
        by_cases c : q < k
        · rw [if_pos c, if_pos (by omega)]
        · rw [if_neg c]
          by_cases c2 : q = k
          · subst c2; rw [if_pos (by omega), e]
          · rw [if_neg (by omega)]
      · refine ⟨z ^^^ 2 ^ k, l ++ [z ^^^ 2 ^ k], h1.app ⟨⟨k, by omega, rfl⟩, rfl⟩, turn_lt h2 (by omega), fun q => ?_⟩
        rw [Nat.testBit_xor, h3, Nat.testBit_two_pow]
        by_cases c2 : q = k
        · subst c2
          rw [if_neg (by omega), if_pos (by omega), decide_eq_true rfl]
          cases hx' : x.testBit q <;> cases hy' : y.testBit q <;> simp_all
        · rw [decide_eq_false (fun z => c2 z.symm), Bool.xor_false]
          by_cases c : q < k
          · rw [if_pos c, if_pos (by omega)]
          · rw [if_neg c, if_neg (by omega)]
  obtain ⟨z, l, h1, h2, h3⟩ := key m (Nat.le_refl _)
  have : z = y := Nat.eq_of_testBit_eq fun q => by
    rw [h3]
    by_cases c : q < m
    · rw [if_pos c]
    · rw [if_neg c, Nat.testBit_lt_two_pow (Nat.lt_of_lt_of_le hx (Nat.pow_le_pow_right (by decide) (by omega))), Nat.testBit_lt_two_pow (Nat.lt_of_lt_of_le hy (Nat.pow_le_pow_right (by decide) (by omega)))]
  rw [this] at h1
  exact ⟨l, h1⟩
/-- who came from where -/
structure ParOk (m s : Nat) (S : List Nat) (par : Nat → Nat) (X : List Nat) : Prop where
  nd : S.Nodup
  s0 : S[0]? = some s
  par : ∀ i x, S[i]? = some x → i ≠ 0 → ∃ j, j < i ∧ S[j]? = some (par x) ∧ par x ∈ X ∧ ∃ p, p < m ∧ x = par x ^^^ 2 ^ p
/-- a search under way: D tells which steps of the taken ones are done -/
structure Clm (W : Nat → Nat) (m s g : Nat) (S : List Nat) (par : Nat → Nat) (X wt : List Nat) (ht : Nat) (D : Nat → Nat → Prop) : Prop where
  po : ParOk m s S par X
  lt : ∀ x ∈ S, x < 2 ^ m
  perm : S.Perm (X ++ wt)
  close : ∀ x ∈ X, ∀ p, p < m → D x p → x ^^^ 2 ^ p ∈ S
  low : ∀ x ∈ X, W x ≤ ht
  hs : W s ≤ ht
  min : ∀ c, Reaw W m c s g → ht ≤ c
section
variable {W : Nat → Nat} {m s g : Nat} {S : List Nat} {par : Nat → Nat} {X wt : List Nat} {ht : Nat} {D : Nat → Nat → Prop}
theorem Clm.init (hs : s < 2 ^ m) (hD : D = fun _ _ => True) : Clm W m s g [s] par [] [s] (W s) D := by
  refine ⟨⟨by simp, rfl, fun i x hx hi => ?_⟩, fun x hx => by rw [List.mem_singleton.mp hx]; exact hs, List.Perm.refl _, fun x hx => (by cases hx), fun x hx => (by cases hx), Nat.le_refl _, fun c hc => hc.ends.1⟩
  have := (List.getElem?_eq_some_iff.mp hx).1
  simp at this
  exact absurd this hi
theorem Clm.memS (h : Clm W m s g S par X wt ht D) {x : Nat} : x ∈ S ↔ x ∈ X ∨ x ∈ wt := by rw [h.perm.mem_iff, List.mem_append]
theorem Clm.sS (h : Clm W m s g S par X wt ht D) : s ∈ S := List.mem_of_getElem? h.po.s0
/-- a way out leads over one that waits -/
theorem Clm.cross (h : Clm W m s g S par X wt ht fun _ _ => True) : ∀ (l : List Nat) (x y : Nat), Way m x l y → x ∈ S → y ∉ S → ∃ z ∈ x :: l, z ∈ wt
  | [], x, y, hw, hx, hy => by cases hw; exact absurd hx hy
  | a :: l, x, y, hw, hx, hy => by
    rcases h.memS.mp hx with hX | hW
    · obtain ⟨⟨p, hp, e⟩, hw2⟩ := hw
      have ha : a ∈ S := by rw [e]; exact h.close x hX p hp trivial
      obtain ⟨z, h1, h2⟩ := h.cross l a y hw2 ha hy
      exact ⟨z, List.mem_cons_of_mem _ h1, h2⟩
    · exact ⟨x, List.mem_cons_self, hW⟩
theorem Clm.wait (h : Clm W m s g S par X wt ht fun _ _ => True) (hg : g < 2 ^ m) (hn : g ∉ S) : 0 < wt.length := by
  obtain ⟨l, hl⟩ := way_all (h.lt s h.sS) hg
  obtain ⟨z, _, h2⟩ := h.cross l s g hl h.sS hn
  exact List.length_pos_of_mem h2
theorem Clm.pop (h : Clm W m s g S par X wt ht fun _ _ => True) (hn : g ∉ S) {k w : Nat} (hk : wt[k]? = some w) (hmin : ∀ z ∈ wt, W w ≤ W z) : Clm W m s g S par (X ++ [w]) (wt.eraseIdx k) (max ht (W w)) (fun x p => x ≠ w ∨ p < 0) := by
  have hw : w ∈ wt := List.mem_of_getElem? hk
  have hk1 := (List.getElem?_eq_some_iff.mp hk).1
  refine ⟨⟨h.po.nd, h.po.s0, fun i x hx hi => ?_⟩, h.lt, ?_, fun x hx p hp hd => ?_, fun x hx => ?_, Nat.le_trans h.hs (Nat.le_max_left _ _), fun c hc => ?_⟩
  · obtain ⟨j, h1, h2, h3, h4⟩ := h.po.par i x hx hi
    exact ⟨j, h1, h2, List.mem_append_left _ h3, h4⟩
  · refine h.perm.trans ?_
    rw [List.append_assoc]
    refine List.Perm.append_left _ ?_
    rw [List.eraseIdx_eq_take_drop_succ]
    have : wt = wt.take k ++ w :: wt.drop (k + 1) := by
      have e := (List.getElem?_eq_some_iff.mp hk).2
      conv => lhs; rw [← List.take_append_drop k wt, List.drop_eq_getElem_cons hk1, e]
    conv => lhs; rw [this]
    exact List.perm_middle
  · rcases List.mem_append.mp hx with a | a
    · exact h.close x a p hp trivial
    · rcases hd with z | z
      · exact absurd (List.mem_singleton.mp a) z
      · exact absurd z (Nat.not_lt_zero _)
  · rcases List.mem_append.mp hx with a | a
    · exact Nat.le_trans (h.low x a) (Nat.le_max_left _ _)
    · rw [List.mem_singleton.mp a]; exact Nat.le_max_right _ _
  · refine Nat.max_le.mpr ⟨h.min c hc, ?_⟩
    obtain ⟨l, hl, hle⟩ := hc
    obtain ⟨z, h1, h2⟩ := h.cross l s g hl h.sS hn
    exact Nat.le_trans (hmin z h2) (hle z h1)
theorem Clm.old {w i : Nat} (h : Clm W m s g S par X wt ht fun x p => x ≠ w ∨ p < i) (hi : w ^^^ 2 ^ i ∈ S) : Clm W m s g S par X wt ht (fun x p => x ≠ w ∨ p < i + 1) := by
  refine ⟨h.po, h.lt, h.perm, fun x hx p hp hd => ?_, h.low, h.hs, h.min⟩
  by_cases c : x = w ∧ p = i
  · rw [c.1, c.2]; exact hi
  · exact h.close x hx p hp (by rcases hd with z | z; exact .inl z; by_cases e : x = w; exact .inr (by omega); exact .inl e)
theorem Clm.new {w i : Nat} (h : Clm W m s g S par X wt ht fun x p => x ≠ w ∨ p < i) (hw : w ∈ X) (hi : i < m) (hn : w ^^^ 2 ^ i ∉ S) : Clm W m s g (S ++ [w ^^^ 2 ^ i]) (fun x => if x = w ^^^ 2 ^ i then w else par x) X (wt ++ [w ^^^ 2 ^ i]) ht (fun x p => x ≠ w ∨ p < i + 1) := by
  have hwS : w ∈ S := h.memS.mpr (.inl hw)
  have hS0 : 0 < S.length := List.length_pos_of_mem hwS
  refine ⟨⟨?_, ?_, fun j x hx hj => ?_⟩, fun x hx => ?_, ?_, fun x hx p hp hd => ?_, h.low, h.hs, h.min⟩
  · rw [List.nodup_append]
    exact ⟨h.po.nd, by simp, fun a ha b hb e => hn (by rw [← List.mem_singleton.mp hb, ← e]; exact ha)⟩
  · rw [List.getElem?_append_left hS0]; exact h.po.s0
  · by_cases c : j < S.length
    · rw [List.getElem?_append_left c] at hx
      obtain ⟨j', h1, h2, h3, h4⟩ := h.po.par j x hx hj
      have hxn : x ≠ w ^^^ 2 ^ i := fun z => hn (by rw [← z]; exact List.mem_of_getElem? hx)
      refine ⟨j', h1, ?_, ?_, ?_⟩
      · rw [if_neg hxn, List.getElem?_append_left (by omega)]; exact h2
      · rw [if_neg hxn]; exact h3
      · rw [if_neg hxn]; exact h4
    · have hj2 := (List.getElem?_eq_some_iff.mp hx).1
      rw [List.length_append, List.length_singleton] at hj2
      have : j = S.length := by omega
      subst this
      rw [List.getElem?_append_right (Nat.le_refl _), Nat.sub_self] at hx
      cases hx
      obtain ⟨j', hj', e⟩ := List.mem_iff_getElem.mp hwS
      refine ⟨j', hj', ?_, ?_, i, hi, ?_⟩
      · rw [if_pos rfl, List.getElem?_append_left hj', List.getElem?_eq_getElem hj', e]
      · rw [if_pos rfl]; exact hw
      · rw [if_pos rfl]
  · rcases List.mem_append.mp hx with a | a
    · exact h.lt x a
    · rw [List.mem_singleton.mp a]; exact turn_lt (h.lt w hwS) hi
  · rw [← List.append_assoc]; exact h.perm.append_right _
  · by_cases c : x = w ∧ p = i
    · rw [c.1, c.2]; exact List.mem_append_right _ (by simp)
    · exact List.mem_append_left _ (h.close x hx p hp (by rcases hd with z | z; exact .inl z; by_cases e : x = w; exact .inr (by omega); exact .inl e))
theorem Clm.all {w : Nat} (h : Clm W m s g S par X wt ht fun x p => x ≠ w ∨ p < m) : Clm W m s g S par X wt ht (fun _ _ => True) :=
  ⟨h.po, h.lt, h.perm, fun x hx p hp _ => h.close x hx p hp (.inr hp), h.low, h.hs, h.min⟩
theorem Clm.xlen (h : Clm W m s g S par X wt ht D) : S.length ≤ 2 ^ m ∧ X.length + wt.length = S.length := by
  have := nodup_sub_len (ys := List.range (2 ^ m)) h.po.nd fun x hx => List.mem_range.mpr (h.lt x hx)
  simp at this
  have e := h.perm.length_eq
  rw [List.length_append] at e
  exact ⟨this, e.symm⟩
/-- the way back, told from its end -/
structure Back (m s g : Nat) (S : List Nat) (X : List Nat) (x : Nat) (l : List Nat) : Prop where
  way : Way m x l g
  xS : x ∈ S
  mem : ∀ z ∈ x :: l, z = g ∨ z ∈ X
  nd : (x :: l).Nodup
  up : ∀ z ∈ l, z ∈ S ∧ S.idxOf x < S.idxOf z
theorem Back.init (hg : g ∈ S) : Back m s g S X g [] := ⟨rfl, hg, fun z hz => .inl (List.mem_singleton.mp hz), by simp, fun z hz => by cases hz⟩
theorem idxAt {S : List Nat} (nd : S.Nodup) {i x : Nat} (h : S[i]? = some x) : S.idxOf x = i := idx_at nd h
theorem Back.step (po : ParOk m s S par X) {x : Nat} {l : List Nat} (h : Back m s g S X x l) (hx : x ≠ s) : Back m s g S X (par x) (x :: l) ∧ S.idxOf (par x) < S.idxOf x := by
  have h3 := List.idxOf_lt_length_of_mem h.xS
  have e : S[S.idxOf x]? = some x := by rw [List.getElem?_eq_getElem h3, List.getElem_idxOf h3]
  have hi : S.idxOf x ≠ 0 := fun z => by
    rw [z, po.s0] at e
    exact hx (by injection e with e; exact e.symm)
  obtain ⟨j, j1, j2, j3, p, hp, ep⟩ := po.par _ x e hi
  have ij := idxAt po.nd j2
  have hup : ∀ z ∈ x :: l, z ∈ S ∧ S.idxOf (par x) < S.idxOf z := fun z hz => by
    rcases List.mem_cons.mp hz with rfl | hz
    · exact ⟨h.xS, by omega⟩
    · obtain ⟨a, b⟩ := h.up z hz
      exact ⟨a, by omega⟩
  refine ⟨⟨⟨⟨p, hp, ep⟩, h.way⟩, List.mem_of_getElem? j2, fun z hz => ?_, ?_, hup⟩, by omega⟩
  · rcases List.mem_cons.mp hz with rfl | hz
    · exact .inr j3
    · exact h.mem z hz
  · refine List.nodup_cons.mpr ⟨fun hz => ?_, h.nd⟩
    have := (hup _ hz).2
    omega
/-- the end of a climb -/
theorem Clm.done (h : Clm W m s g S par X wt ht fun _ _ => True) {l : List Nat} (b : Back m s g S X s l) : ClimbOk W m s g (max ht (W g)) l := by
  refine ⟨b.way, fun z hz => ?_, b.nd, fun c hc => Nat.max_le.mpr ⟨h.min c hc, hc.ends.2⟩⟩
  rcases b.mem z hz with e | e
  · rw [e]; exact Nat.le_max_right _ _
  · exact Nat.le_trans (h.low z e) (Nat.le_max_left _ _)
end

/-! ### what is come to by steps that are let -/
inductive RL (m : Nat) (L : Nat → Nat → Bool) (s : Nat) : Nat → Prop
  | refl : RL m L s s
  | step {x p : Nat} : RL m L s x → p < m → L x (x ^^^ 2 ^ p) = true → RL m L s (x ^^^ 2 ^ p)
structure SpreadOk (m : Nat) (L : Nat → Nat → Bool) (s : Nat) (ys : List Nat) : Prop where
  up : ys.Pairwise (· < ·)
  mem : ∀ x, x ∈ ys ↔ RL m L s x
  lt : ∀ x ∈ ys, x < 2 ^ m
structure Spr (m : Nat) (L : Nat → Nat → Bool) (s : Nat) (S X wt : List Nat) (D : Nat → Nat → Prop) : Prop where
  nd : S.Nodup
  sS : s ∈ S
  lt : ∀ x ∈ S, x < 2 ^ m
  perm : S.Perm (X ++ wt)
  close : ∀ x ∈ X, ∀ p, p < m → D x p → L x (x ^^^ 2 ^ p) = true → x ^^^ 2 ^ p ∈ S
  back : ∀ x ∈ S, RL m L s x
section
variable {m : Nat} {L : Nat → Nat → Bool} {s : Nat} {S X wt : List Nat} {D : Nat → Nat → Prop}
theorem Spr.init (hs : s < 2 ^ m) : Spr m L s [s] [] [s] fun _ _ => True :=
  ⟨by simp, by simp, fun x hx => by rw [List.mem_singleton.mp hx]; exact hs, List.Perm.refl _, fun x hx => (by cases hx), fun x hx => by rw [List.mem_singleton.mp hx]; exact .refl⟩
theorem Spr.len (h : Spr m L s S X wt D) : S.length ≤ 2 ^ m ∧ X.length + wt.length = S.length := by
  have := nodup_sub_len (ys := List.range (2 ^ m)) h.nd fun x hx => List.mem_range.mpr (h.lt x hx)
  simp at this
  have e := h.perm.length_eq
  rw [List.length_append] at e
  exact ⟨this, e.symm⟩
theorem Spr.pop {w : Nat} (h : Spr m L s S X (wt ++ [w]) fun _ _ => True) : Spr m L s S (X ++ [w]) wt (fun x p => x ≠ w ∨ p < 0) := by
  refine ⟨h.nd, h.sS, h.lt, ?_, fun x hx p hp hd hl => ?_, h.back⟩
  · refine h.perm.trans ?_
    rw [List.append_assoc]
    exact List.Perm.append_left _ List.perm_append_comm
  · rcases List.mem_append.mp hx with a | a
    · exact h.close x a p hp trivial hl
    · rcases hd with z | z
      · exact absurd (List.mem_singleton.mp a) z
      · exact absurd z (Nat.not_lt_zero _)
theorem Spr.old {w i : Nat} (h : Spr m L s S X wt fun x p => x ≠ w ∨ p < i) (hi : w ^^^ 2 ^ i ∈ S ∨ L w (w ^^^ 2 ^ i) = false) : Spr m L s S X wt (fun x p => x ≠ w ∨ p < i + 1) := by
  refine ⟨h.nd, h.sS, h.lt, h.perm, fun x hx p hp hd hl => ?_, h.back⟩
  by_cases c : x = w ∧ p = i
  · rw [c.1, c.2] at hl ⊢
    rcases hi with z | z
    · exact z
    · rw [z] at hl; cases hl
  · exact h.close x hx p hp (by rcases hd with z | z; exact .inl z; by_cases e : x = w; exact .inr (by omega); exact .inl e) hl
theorem Spr.new {w i : Nat} (h : Spr m L s S X wt fun x p => x ≠ w ∨ p < i) (hw : w ∈ X) (hi : i < m) (hn : w ^^^ 2 ^ i ∉ S) (hl : L w (w ^^^ 2 ^ i) = true) : Spr m L s (S ++ [w ^^^ 2 ^ i]) X (wt ++ [w ^^^ 2 ^ i]) (fun x p => x ≠ w ∨ p < i + 1) := by
  have hwS : w ∈ S := h.perm.mem_iff.mpr (List.mem_append_left _ hw)
  refine ⟨?_, List.mem_append_left _ h.sS, fun x hx => ?_, ?_, fun x hx p hp hd hL => ?_, fun x hx => ?_⟩
  · rw [List.nodup_append]
    exact ⟨h.nd, by simp, fun a ha b hb e => hn (by rw [← List.mem_singleton.mp hb, ← e]; exact ha)⟩
  · rcases List.mem_append.mp hx with a | a
    · exact h.lt x a
    · rw [List.mem_singleton.mp a]; exact turn_lt (h.lt w hwS) hi
  · rw [← List.append_assoc]; exact h.perm.append_right _
  · by_cases c : x = w ∧ p = i
    · rw [c.1, c.2]; exact List.mem_append_right _ (by simp)
    · exact List.mem_append_left _ (h.close x hx p hp (by rcases hd with z | z; exact .inl z; by_cases e : x = w; exact .inr (by omega); exact .inl e) hL)
  · rcases List.mem_append.mp hx with a | a
    · exact h.back x a
    · rw [List.mem_singleton.mp a]; exact .step (h.back w hwS) hi hl
theorem Spr.all {w : Nat} (h : Spr m L s S X wt fun x p => x ≠ w ∨ p < m) : Spr m L s S X wt (fun _ _ => True) :=
  ⟨h.nd, h.sS, h.lt, h.perm, fun x hx p hp _ => h.close x hx p hp (.inr hp), h.back⟩
theorem Spr.mem (h : Spr m L s S X [] fun _ _ => True) {x : Nat} : x ∈ S ↔ RL m L s x := by
  refine ⟨h.back x, fun hr => ?_⟩
  induction hr with
  | refl => exact h.sS
  | step _ hp hl ih => exact h.close _ (by have := h.perm.mem_iff.mp ih; rwa [List.append_nil] at this) _ hp trivial hl
theorem Spr.done (h : Spr m L s S X [] fun _ _ => True) {ys : List Nat} (hp : ys.Perm S) (hu : ys.Pairwise (· ≤ ·)) : SpreadOk m L s ys := by
  have nd : ys.Nodup := hp.nodup_iff.mpr h.nd
  refine ⟨?_, fun x => by rw [hp.mem_iff]; exact h.mem, fun x hx => h.lt x (hp.mem_iff.mp hx)⟩
  exact (hu.and nd).imp fun {a b} z => Nat.lt_of_le_of_ne z.1 z.2
end
/-- a list of numbers and what was come to of it -/
theorem SpreadOk.same {m : Nat} {L : Nat → Nat → Bool} {s : Nat} {ys S X : List Nat} (h : SpreadOk m L s ys) (k : Spr m L s S X [] fun _ _ => True) : S.length = ys.length := by
  have h1 := nodup_sub_len (ys := ys) k.nd fun x hx => (h.mem x).mpr (k.mem.mp hx)
  have h2 := nodup_sub_len (ys := S) (h.up.imp fun {a b} z => Nat.ne_of_lt z) fun x hx => k.mem.mpr ((h.mem x).mp hx)
  omega

theorem sorted_eq : ∀ {xs ys : List Nat}, xs.Pairwise (· < ·) → ys.Pairwise (· < ·) → (∀ a, a ∈ xs ↔ a ∈ ys) → xs = ys
  | [], [], _, _, _ => rfl
  | [], y :: ys, _, _, h => absurd ((h y).mpr List.mem_cons_self) (by simp)
  | x :: xs, [], _, _, h => absurd ((h x).mp List.mem_cons_self) (by simp)
  | x :: xs, y :: ys, h1, h2, h => by
    obtain ⟨a1, a2⟩ := List.pairwise_cons.mp h1
    obtain ⟨b1, b2⟩ := List.pairwise_cons.mp h2
    have e : x = y := by
      rcases List.mem_cons.mp ((h x).mp List.mem_cons_self) with e | e
      · exact e
      · rcases List.mem_cons.mp ((h y).mpr List.mem_cons_self) with e2 | e2
        · exact e2.symm
        · have := a1 _ e2; have := b1 _ e; omega
    subst e
    rw [sorted_eq a2 b2 fun a => ?_]
    constructor
    · intro ha
      rcases List.mem_cons.mp ((h a).mp (List.mem_cons_of_mem _ ha)) with e | e
      · have := a1 _ ha; omega
      · exact e
    · intro ha
      rcases List.mem_cons.mp ((h a).mpr (List.mem_cons_of_mem _ ha)) with e | e
      · have := b1 _ ha; omega
      · exact e

/-! ### sorted(d.keys()), the keys numbers, any number of them -/
section
open PySem PySem.Spec PyProof.Rows
variable {X : Cx} {e : Expr} {te : TE} {p apos cpos pos : Pos}
def rSortK : V → Hp → VK → Prop := fun x H Q => ∃ (d : Addr) (kvs : List (Key × V)) (ks : List Int), x = .ref d ∧ H d = some (.dK kvs) ∧ kvs.map (·.1) = ks.map Sum.inl ∧
  ∀ (ys : List Int) (p : Addr), ys.Perm ks → ys.Pairwise (· ≤ ·) → H p = none → Q (.ref p) (upd H p (.lst (ys.map V.int)))
def tSortK (te : TE) : TE := fun σ H Q => te σ H fun x H1 => rSortK x H1 Q
theorem pe_sortedKeys (hc : X.calm = true) (hg : Gl X "sorted") (hm : X.mg "sorted" = none) (he : PE X e te) (hv : bootBuiltins "sorted" = some (.builtin "sorted") := by decide +kernel) (hbase : attributeBase e "keys" X.env (eval e X.env) = eval e X.env := by rfl) (hline : (apos.endLine == cpos.line) = true := by rfl)
    (hs : starEach [.Call (.Attribute e "keys" apos) [] [] cpos] X.env = (false, eval (.Call (.Attribute e "keys" apos) [] [] cpos) X.env) :: starEach [] X.env := by rfl) :
    PE X (.Call (.Name "sorted" p) [.Call (.Attribute e "keys" apos) [] [] cpos] [] pos) (tSortK te) := by
  refine ⟨fun pins s σ H Q I hq => ?_⟩
  refine wpAny_Call_Name_kw (ld_blt I hg hm hv ?_)
  refine PyProof.Rows.callWith_builtin1 ?_ hs rfl
  rw [hs]
  show wpAny _ _ (spliced ((false, eval (.Call (.Attribute e "keys" apos) [] [] cpos) X.env) :: backTo pos (starEach [] X.env))) _ _ s
  refine Calls.spliced_cons ?_
  refine wpAny_Call_method (T := "dict") (id := "dict.keys") hbase rfl hline F.plainAttrs_dict F.slot_dict_keys F.type_dict_keys (thn (he.run pins s σ H _ I hq) fun u s1 ⟨x, H1, I1, rx, d, kvs, ks, ex, hd, hks, q⟩ => ?_)
  subst ex
  obtain rfl : u = Value.ref d := rx
  obtain ⟨hz, hs0, vs, kv, hdo⟩ := I1.hok d _ hd
  obtain ⟨ep, hat⟩ := hdo.dictAt
  have hkeys : vs.map (·.1) = ks.map Sum.inl := (KV.keys kv).symm.trans hks
  have hl : vs.length = ks.length := by
    have e := congrArg List.length hkeys
    rw [List.length_map, List.length_map] at e
    exact e
  have h16 : vs.length ≤ sizeLine := by
    have e : kvs.length = vs.length := Paired.length kv
    omega
  have I2 : Inv X pins σ H1 { s1 with heap := s1.heap.push { cls := .type "dict_keys", data := .fields #[.ref d] } } := I1.kept (t' := s1.toks) fun b ob q => Heap.get?_push_of_some _ q
  refine ⟨hdo.typeIs, hdo.mapOf.noDict, ?_⟩
  show wpAny _ _ (callWith cpos (.builtin "dict.keys") [.ref d] [] []) _ X.xe s1
  refine method_meetsIn F.slot_dict_keys F.entry_dict_keys rfl (PySem.evalArgs_none ⟨rfl, hdo.typeIs, F.args_dict_keys_1 _, _, PySem.W.kdl_meets_keys (mixKind X.prog X.w) d hs0, ⟨vs, hdo⟩, ?_⟩)
  refine Calls.spliced_nil ?_
  have gen : ∀ s2 : Shared, s2 = { s1 with heap := s1.heap.push { cls := .type "dict_keys", data := .fields #[.ref d] } } → wpAny (model X.prog X.w) X.A (call (.builtin "sorted") [.ref s1.heap.objs.size]) (EP X pins σ Q) X.xe s2 := by
    intro s2 es
    have I2 : Inv X pins σ H1 s2 := by rw [es]; exact I2
    have hview : PySem.W.KdlKeysView s2.heap s1.heap.objs.size d := by rw [es]; exact ⟨_, Heap.get?_push_size _ rfl, rfl, rfl⟩
    have hat2 : s2.heap.DictAt (mixKind X.prog X.w) d vs ep := by rw [es]; exact hat.push _
    refine Calls.call_function_entry PyProof.Rows.kind_sorted PyProof.Rows.plain_sorted PyProof.Rows.entry_sorted (PyProof.Rows.args_sorted1 _) ?_
    unfold Builtin.«sorted»
    refine wpAny_bind (m := checkCount "sorted" 1 1 _) (wpAny_pure ?_)
    refine wpAny_bind (PySem.W.kdu_collect (A := X.A.in1) (PySem.W.kdl_keys (knd := mixKind X.prog X.w) (kvs := vs) (ep := ep)) (I2.ok.hd hc) ⟨hview, hat2⟩ h16 fun h' tk acc hk hacc => ?_)
    have hal : acc.toList.length = ks.length := by rw [Array.length_toList, hacc.1, hl]
    have hS : IntsAre acc.toList ks := ints_each hal fun j v e => by
      obtain ⟨k, x, e1, e2⟩ := hacc.2 j v (by rw [← Array.getElem?_toList]; exact e)
      have e3 : (vs.map (·.1))[j]? = some k := by rw [List.getElem?_map, e1]; rfl
      rw [hkeys, List.getElem?_map] at e3
      cases e4 : ks[j]? with
      | none => rw [e4] at e3; cases e3
      | some y =>
        rw [e4] at e3
        have e5 : Sum.inl y = k := Option.some.inj e3
        subst e5
        rcases keyIs_shape (show keyIs (Sum.inl y) v = true from e2) with ⟨i, t, ek, ev⟩ | ⟨z, t, ek, ev⟩
        · cases ek
          exact ⟨y, t, rfl, ev⟩
        · cases ek
    have I3 : Inv X pins σ H1 { s2 with heap := h', toks := tk } := I2.kept hk
    have hz2 : acc.toList.length ≤ sizeLine := by rw [hal]; omega
    refine wpAny_bind (wpAny_newList ?_ hz2)
    have hoL : (h'.push (seqObj "list" acc.toList.toArray 0)).get? h'.objs.size = some (seqObj "list" acc.toList.toArray 0) := Heap.get?_push_size _ rfl
    show wpAny _ _ _ _ _ { s2 with heap := h'.push (seqObj "list" acc.toList.toArray 0), toks := tk }
    refine wpAny_bind (wpAny_holding (wpAny_call_entry PyProof.Rows.slot_list_sort ⟨_, hoL, rfl⟩ PyProof.Rows.entry_list_sort
      (SrtO.list_sort_ord (s := { s2 with heap := h'.push (seqObj "list" acc.toList.toArray 0), toks := tk }) SrtO.swo_int hoL hz2 (fun h2 => SrtO.ints_sortable hS h2) fun out h1 h2 => ⟨.none, rfl, ?_⟩) (PyProof.Rows.args_list_sort _)))
    obtain ⟨k1, k2, k3⟩ := SrtO.ints_out hS h1 h2
    obtain ⟨e', he'⟩ := PyProof.Rows.sortedHeap_at (vs := acc.toList) (out := out.toArray) hoL
    have hlen : ((out.map SrtO.iv).map V.int).length ≤ sizeLine := by
      rw [List.length_map, k2.length_eq]
      omega
    refine wpAny_pure ⟨_, rfl, .ref h'.objs.size, upd H1 h'.objs.size (.lst ((out.map SrtO.iv).map V.int)), I3.laid (t' := tk) (fun b u e => ?_) (Nat.le_refl _) ⟨hlen, out, e', vals_of_ints k1, he'⟩, rfl, q _ _ k2 k3 (I3.hok.fresh (Nat.le_refl _))⟩
    have hb : b < h'.objs.size := Heap.lt_size e
    rw [PyProof.Rows.sortedHeap_old (Nat.ne_of_lt hb) (by rw [size_push']; exact Nat.lt_succ_of_lt hb)]
    exact Heap.get?_push_of_some _ e
  exact gen _ rfl
end
theorem w_sortK {σ : L2.St} {H : Hp} {Q : VK} {te : TE} (h : te σ H fun x H1 => rSortK x H1 Q) : tSortK te σ H Q := h

/-! ### a lambda of two parameters, handed to a def as its third argument -/
section
open PySem PySem.Spec PyProof.Rows LamX
/-- two names of its own; captured ones and globals -/
structure LamT (sc scope : Scope) (a1 a2 : Str) (N : List Str) : Prop where
  kind : scope.kind = .function
  co : scope.isCoroutine = false
  gen : scope.isGenerator = false
  own : ∀ y ∈ scope.names, (y.2 = .local → y.1 = a1 ∨ y.1 = a2) ∧ y.2 ≠ .cell
  l1 : scope.names.lookup a1 = some .local
  l2 : scope.names.lookup a2 = some .local
  ne : (a1 == a2) = false
  n1 : a1 ∉ N
  n2 : a2 ∉ N
  free : ∀ y ∈ scope.names, y.2 = .free → sc.names.lookup y.1 = some .cell ∨ sc.names.lookup y.1 = some .free
def lamTB (sc scope : Scope) (a1 a2 : Str) (N : List Str) : Bool :=
  decide (scope.kind = .function) && !scope.isCoroutine && !scope.isGenerator && (scope.names.all fun y => (!decide (y.2 = .local) || decide (y.1 = a1) || decide (y.1 = a2)) && !decide (y.2 = .cell) && (!decide (y.2 = .free) || decide (sc.names.lookup y.1 = some .cell) || decide (sc.names.lookup y.1 = some .free))) &&
    decide (scope.names.lookup a1 = some .local) && decide (scope.names.lookup a2 = some .local) && !(a1 == a2) && decide (a1 ∉ N) && decide (a2 ∉ N)
theorem lamT_by {sc scope : Scope} {a1 a2 : Str} {N : List Str} (h : lamTB sc scope a1 a2 N = true) : LamT sc scope a1 a2 N := by
  unfold lamTB at h
  simp only [Bool.and_eq_true, Bool.or_eq_true, Bool.not_eq_true', decide_eq_true_eq, decide_eq_false_iff_not, List.all_eq_true] at h
  obtain ⟨⟨⟨⟨⟨⟨⟨⟨h1, h2⟩, h3⟩, h4⟩, h5⟩, h6⟩, h7⟩, h8⟩, h9⟩ := h
  refine ⟨h1, h2, h3, fun y hy => ⟨fun e => ?_, (h4 y hy).1.2⟩, h5, h6, h7, h8, h9, fun y hy e => ?_⟩
  · rcases (h4 y hy).1.1 with (z | z) | z
    · exact absurd e z
    · exact .inl z
    · exact .inr z
  · rcases (h4 y hy).2 with (z | z) | z
    · exact absurd e z
    · exact .inl z
    · exact .inr z
theorem LamT.has {X : Cx} {scope : Scope} {a1 a2 : Str} {N : List Str} (L : LamT X.env.scope scope a1 a2 N) (ok : X.Ok) : ∀ y ∈ scope.names, y.2 = .free → ∃ c, X.env.cells.lookup y.1 = some c := fun y hy e => by
  rcases L.free y hy e with k | k
  · exact ok.has _ (.inl k)
  · exact ok.has _ (.inr k)
/-- the context of the lambda's body, entered at s from the frames outer -/
def lamCx2 (X : Cx) (A : Around) (outer : List Env) (s : Shared) (H : Hp) (E : XK) (scope : Scope) (f c' : Addr) (a1 a2 : Str) : Cx where
  prog := X.prog
  w := X.w
  K := X.K
  mg := X.mg
  base := X.base
  A := A.deeper (lamEnv X scope s.heap.objs.size f c')
  N := a1 :: a2 :: X.N
  s_0 := s
  H_0 := H
  env := lamEnv X scope s.heap.objs.size f c'
  outer := outer
  stack := lamEnv X scope s.heap.objs.size f c' :: outer
  ex := []
  fn := fun _ => false
  calm := true
  pn := []
  xe := fun e s' => wpAny (model X.prog X.w) (A.deeper (lamEnv X scope s.heap.objs.size f c')) (leaving (lamEnv X scope s.heap.objs.size f c') e) (fun _ s'' => L2.CX X.prog X.w outer H s E e s'') (fun e' s'' => L2.CX X.prog X.w outer H s E e' s'') s'
section
variable {X : Cx} {pins : List (Addr × Obj)} {σ : L2.St} {H HZ : Hp} {s s1 : Shared}
theorem lam_start3 {A : Around} {outer : List Env} {E : XK} {scope : Scope} {f c' : Addr} {a1 a2 : Str} {v1 v2 : V} {u1 u2 : Value} {h₁ : Heap} {tk : Nat} (I : Inv X pins σ H s) (L : LamT X.env.scope scope a1 a2 X.N) (e0 : Env0 X.prog X.w X.K X.mg X.base A outer s1 HZ) (hd : A.handled = none) (r1 : RelV v1 u1) (r2 : RelV v2 u2)
    (un : Un (frs X.stack) [] H HZ s.heap s1.heap) (hns : h₁.Ns s1.heap.objs.size fun y => ([(a1, u1), (a2, u2)] : List (Str × Value)).reverse.lookup y) (kp : ∀ b o, s1.heap.get? b = some o → h₁.get? b = some o) :
    Inv (lamCx2 X A outer s1 HZ E scope f c' a1 a2) [] (some v1 :: some v2 :: σ) HZ { s1 with heap := h₁, toks := tk } := by
  have hfree := L.has I.ok
  have cm : ∀ {y c}, (cloFrom X.env.cells scope.names []).lookup y = some c → X.env.cells.lookup y = some c := fun {y c} e => by
    rcases cloFrom_mem (PySem.mem_of_lookup e) with hm | ⟨h1, h2⟩
    · cases hm
    · obtain ⟨c1, hc⟩ := hfree _ h1 rfl
      have hc : X.env.cells.lookup y = some c1 := hc
      have e2 : c = c1 := by
        rw [h2, hc] <;> rfl
      rw [e2]
      exact hc
  have look : ∀ {y}, scope.names.lookup y = some .free → ∃ c, (cloFrom X.env.cells scope.names []).lookup y = some c := fun {y} hl => by
    have hy : (y, NameKind.free) ∈ scope.names := PySem.mem_of_lookup hl
    exact mem_lookup (cloFrom_has (cells := X.env.cells) (acc := []) hy)
  have cellK : ∀ {c : Addr} {v : Option Value}, H c = none → s.heap.IsCell c v → h₁.IsCell c v := fun {c v} n ⟨o, ho, hd⟩ => by
    obtain ⟨sl, q⟩ := un.any ho n (by simp)
    exact ⟨_, kp _ _ q, hd⟩
  have noA : ∀ b : Addr, b ∉ (lamCx2 X A outer s1 HZ E scope f c' a1 a2).ex := fun b z => absurd (show b ∈ ([] : List Addr) from z) (by simp)
  refine ⟨⟨e0.mod, L.kind, rfl, rfl, Nat.le_refl _, fun y z c e1 e2 => I.ok.inj y z c (cm e1) (cm e2), fun y hy => ?_, fun y c z _ => ?_, fun _ => hd, Around.frames_deeper e0.frames, .inr ⟨rfl, rfl⟩, fun b z => absurd z (noA b), e0.bs, e0.bsz, fun b _ _ => noA b,
      fun b z => absurd z (noA b), e0.funs, e0.frf⟩,
    rfl, e0.bare, Un.kept kp, ⟨_, hns, fun i y v e1 e2 e3 => ?_⟩, fun y c e => ?_, e0.hok.fresh (Nat.le_refl _), fun y c e => ?_, fun q hq => absurd (show q ∈ ([] : List (Addr × Obj)) ++ [] from hq) (by simp), e0.hok.kept kp, ?_⟩
  · have hy : scope.names.lookup y = some .cell ∨ scope.names.lookup y = some .free := hy
    rcases hy with hy | hy
    · exact absurd rfl (L.own _ (PySem.mem_of_lookup hy)).2
    · exact look hy
  · have z : false = true := z
    cases z
  · have e3 : Vis scope y := e3
    match i, e1, e2 with
    | 0, e1, e2 =>
      have e1 : some a1 = some y := e1
      have e2 : some (some v1) = some (some v) := e2
      cases e1
      cases e2
      refine ⟨u1, r1, .inl ⟨L.l1, ?_⟩⟩
      show List.lookup a1 [(a2, u2), (a1, u1)] = some u1
      rw [List.lookup_cons, L.ne, List.lookup_cons]
      simp
    | 1, e1, e2 =>
      have e1 : some a2 = some y := e1
      have e2 : some (some v2) = some (some v) := e2
      cases e1
      cases e2
      refine ⟨u2, r2, .inl ⟨L.l2, ?_⟩⟩
      show List.lookup a2 [(a2, u2), (a1, u1)] = some u2
      rw [List.lookup_cons]
      simp
    | i + 2, e1, e2 =>
      have e1 : X.N[i]? = some y := e1
      have e2 : σ[i]? = some (some v) := e2
      have hyN : y ∈ X.N := List.mem_of_getElem? e1
      rcases e3 with k | k | k
      · rcases (L.own _ (PySem.mem_of_lookup k)).1 rfl with z | z
        · exact absurd (show a1 ∈ X.N by rw [← show y = a1 from z]; exact hyN) L.n1
        · exact absurd (show a2 ∈ X.N by rw [← show y = a2 from z]; exact hyN) L.n2
      · exact absurd rfl (L.own _ (PySem.mem_of_lookup k)).2
      · obtain ⟨m, hn, hl⟩ := I.loc
        have hvis : Vis X.env.scope y := (L.free _ (PySem.mem_of_lookup k) rfl).elim (fun k => .inr (.inl k)) (fun k => .inr (.inr k))
        obtain ⟨w', r, q⟩ := hl i y v e1 e2 hvis
        obtain ⟨c2, h2⟩ := look k
        refine ⟨w', r, .inr ⟨.inr k, c2, h2, ?_⟩⟩
        have c1 := cm h2
        rcases q with ⟨k', _⟩ | ⟨_, c3, e', z⟩
        · have k' : X.env.scope.names.lookup y = some .local := k'
          rcases L.free _ (PySem.mem_of_lookup k) rfl with k2 | k2 <;> rw [show X.env.scope.names.lookup y = _ from k2] at k' <;> cases k'
        · rw [c1] at e'
          cases e'
          exact cellK (I.freeC y _ c1) z
  · obtain ⟨w', z⟩ := I.cell y c (cm e)
    exact ⟨w', cellK (I.freeC y c (cm e)) z⟩
  · obtain ⟨v, o, ho, hd⟩ := I.cell y c (cm e)
    exact un.free c o ho (I.freeC y c (cm e)) (by simp)
  · show (some v1 :: some v2 :: σ).length = (a1 :: a2 :: X.N).length
    rw [List.length_cons, List.length_cons, List.length_cons, List.length_cons, I.len]
/-- a(e1, e2), in the def that got the lambda -/
theorem pe_act2 {CXg : CXT} {Eg : XK} {Ng : List Str} {qg : Str} {sg : Scope} {g f c' : Addr} {cdg pm ctv : Value} {params : Arguments} {body : Expr} {scope : Scope} {k i : Nat} {a a1 a2 : Str} {tb : TE} {p1 p2 : Pos} {e1 e2 : Expr} {ta : TA}
    (I : Inv X pins σ H s) (L : LamT X.env.scope scope a1 a2 X.N) (hf : s.heap.get? f = some (PySem.W.kla_obj "<lambda>" (X.env.qual ++ "<lambda>") params body scope (cloFrom X.env.cells scope.names []) pm c' ctv)) (hfn : H f = none) (hfr : f ∉ frs X.stack)
    (hbind : ∀ u1 u2 : Value, bindArgs (PySem.W.kla_fn "<lambda>" (X.env.qual ++ "<lambda>") params body scope (cloFrom X.env.cells scope.names []) pm (.ref c') ctv) ⟨[u1, u2], []⟩ = pure [(a1, u1), (a2, u2)])
    (hr : Room (k + 1) (X.A.deeper (envOfC qg sg s.heap.objs.size g cdg)))
    (hbody : ∀ (A : Around) (outer : List Env) (s : Shared) (H : Hp), Room k (A.deeper (lamEnv X scope s.heap.objs.size f c')) → PE (lamCx2 X A outer s H (fun _ _ _ => False) scope f c' a1 a2).nox body tb)
    (ha : PA (cxOf CXg X.prog X.w X.K X.mg X.base Ng qg sg g cdg X.A X.stack s H Eg).nox [e1, e2] ta)
    (hN : Ng[i]? = some a) (hv : Vis sg a) (hd : (a == ("__debug__" : Str)) = false := by decide) (hcd : (a == ("__classdict__" : Str)) = false := by decide)
    (he : starEach [e1, e2] (envOfC qg sg s.heap.objs.size g cdg) = (false, eval e1 (envOfC qg sg s.heap.objs.size g cdg)) :: starEach [e2] (envOfC qg sg s.heap.objs.size g cdg) := by rfl) (hpl : (backTo p2 (starEach [e2] (envOfC qg sg s.heap.objs.size g cdg))).any (·.1) = false := by rfl) :
    PE (cxOf CXg X.prog X.w X.K X.mg X.base Ng qg sg g cdg X.A X.stack s H Eg).nox (.Call (.Name a p1) [e1, e2] [] p2)
      (fun σZ HZ Q => σZ[i]? = some (some (.ref f)) ∧ ta σZ HZ fun vs H1 => ∃ v1 v2, vs = [v1, v2] ∧ H1 c' = some (CodeO c' (X.env.qual ++ "<lambda>")) ∧ tb (some v1 :: some v2 :: σ) H1 Q) := by
  refine ⟨fun pinsZ sZ σZ HZ Q IZ h => ?_⟩
  obtain ⟨hs, ht⟩ := h
  have of0 : ∀ {pinsY : List (Addr × Obj)} {σY : L2.St} {HY : Hp} {sY : Shared}, Inv (cxOf CXg X.prog X.w X.K X.mg X.base Ng qg sg g cdg X.A X.stack s H Eg).nox pinsY σY HY sY → sY.heap.get? f = some (PySem.W.kla_obj "<lambda>" (X.env.qual ++ "<lambda>") params body scope (cloFrom X.env.cells scope.names []) pm c' ctv) :=
    fun J => J.base.keep f _ hf hfn hfr (fun z => nomatch (show f ∈ ([] : List Addr) from z))
  refine wpAny_Call_Name_kw (thn ((pe_var (pos := p1) (i := i) hN hv hd hcd).run pinsZ sZ σZ HZ (fun v H1 => v = .ref f ∧ H1 = HZ) IZ ⟨.ref f, hs, rfl, rfl⟩) fun u s1 ⟨v, H1, I1, r1, q1⟩ => ?_)
  obtain ⟨ev, eH⟩ := q1
  subst ev
  rw [eH] at I1
  obtain rfl : u = Value.ref f := r1
  refine PySem.W.callWith_F ⟨_, _, _, _, of0 I1⟩ (thn (ha.run p2 pinsZ s1 σZ _ _ I1 ht) fun us s2 ⟨vs, H2, I2, r, q⟩ => ⟨⟨_, _, _, _, of0 I2⟩, ?_⟩) he hpl
  obtain ⟨v1, v2, rfl, hc, hq⟩ := q
  obtain ⟨u1, u2, rfl, r1, r2⟩ : ∃ u1 u2, us = [u1, u2] ∧ RelV v1 u1 ∧ RelV v2 u2 := by
    cases r with
    | cons a t =>
      cases t with
      | cons b t =>
        cases t
        exact ⟨_, _, rfl, a, b⟩
  have un : Un (frs X.stack) [] H H2 s.heap s2.heap := I2.base
  obtain ⟨⟨oc, vs, t, hoc, hdc, hvc⟩, _, _⟩ := I2.hok c' _ hc
  have rc : codeAny (model X.prog X.w) (X.A.deeper (envOfC qg sg s.heap.objs.size g cdg)) (.call (.ref f) ⟨[u1, u2], []⟩) (CR (L2.CX X.prog X.w) (envOfC qg sg s.heap.objs.size g cdg :: X.stack) X.prog X.w H2 s2 Q (fun _ _ _ => False)) s2 := by
    refine PySem.W.kla_callFunE hr.depth (of0 I2) rfl L.co L.gen rfl ⟨c', oc, vs, t, rfl, hoc, hdc, hvc⟩ ?_
    rw [hbind]
    refine wpAny_pure (wpAny_newFunctionEnv (fun y hy => (L.own y hy).2) (fun y hy => ?_) (fun h₁ hns hsb => ⟨I2.nolimit.fresh _ hsb, ?_⟩) L.kind)
    · rcases List.mem_cons.mp hy with e | hy
      · rw [e]; exact L.l1
      · rw [List.mem_singleton.mp hy]; exact L.l2
    show codeAny _ _ (.expr body (lamEnv X scope s2.heap.objs.size f c')) _ _
    have kp : ∀ b o, s2.heap.get? b = some o → h₁.get? b = some o := fun b o e => hsb.extBut b o (Nat.ne_of_lt (Heap.lt_size e)) (Heap.get?_push_of_some _ e)
    have J : Inv (lamCx2 X (X.A.deeper (envOfC qg sg s.heap.objs.size g cdg)) (envOfC qg sg s.heap.objs.size g cdg :: X.stack) s2 H2 (fun _ _ _ => False) scope f c' a1 a2) [] (some v1 :: some v2 :: σ) H2 { s2 with heap := h₁, toks := s2.toks + ([(a1, u1), (a2, u2)] : List (Str × Value)).length } :=
      lam_start3 I L I2.unwish.env0 hr.hd r1 r2 un hns kp
    refine PySem.W.kla_codeExpr (wpAny_mono ((hbody _ _ s2 H2 (hr.deeper _)).nox.run [] _ _ H2 Q J hq) (fun v s' hq => ?_) fun e s' hq => hq)
    obtain ⟨w', H', J', rv, q⟩ := hq
    exact ⟨w', H', J'.os, J'.bare, J'.base, J'.hok, rv, q⟩
  refine wpAny_call (codeAny_mono rc fun r s' hq => ?_)
  cases r with
  | error e =>
    obtain ⟨_, _, _, _, _, _, _, _, _, _, _, _, z⟩ := (show L2.CX X.prog X.w _ _ _ (fun _ _ _ => False) _ _ from hq)
    exact z.elim
  | ok fl =>
    cases fl with
    | ret u => exact I2.after hq
    | next => exact False.elim hq
    | brk => exact False.elim hq
    | cont => exact False.elim hq
end
end

/-! ### f(e1, e2, lambda a1, a2: body) -/
section
open PySem PySem.Spec PyProof.Rows LamX
/-- the def that gets the lambda as its third argument, and calls it by the name a -/
def Gives3 (P : Program) (w : World) (K : PySem.W.Frag) (mg : Str → Option Value) (base : Heap) (k : Nat) (Ng : List Str) (x : Str) (st : Stmt) (a : Str) (TT : V → V → (V → V → Hp → VK → Prop) → Hp → VK → Prop) : Prop :=
  ∀ (g : Addr) (cdv : Value) (A : Around) (outer : List Env) (s : Shared) (H : Hp) (Q : VK) (E : XK) (f : Addr) (v1 v2 : V) (tl : V → V → Hp → VK → Prop),
    Room k (A.deeper (envOfC x (defScope st) s.heap.objs.size g cdv)) →
    (∀ (e1 e2 : Expr) (ta : TA) (p1 p2 : Pos), PA (cxOf CX0 P w K mg base Ng x (defScope st) g cdv A outer s H E).nox [e1, e2] ta →
      (starEach [e1, e2] (envOfC x (defScope st) s.heap.objs.size g cdv) = (false, eval e1 (envOfC x (defScope st) s.heap.objs.size g cdv)) :: starEach [e2] (envOfC x (defScope st) s.heap.objs.size g cdv)) →
      ((backTo p2 (starEach [e2] (envOfC x (defScope st) s.heap.objs.size g cdv))).any (·.1) = false) →
      PE (cxOf CX0 P w K mg base Ng x (defScope st) g cdv A outer s H E).nox (.Call (.Name a p1) [e1, e2] [] p2) (fun σZ HZ Q => σZ[2]? = some (some (.ref f)) ∧ ta σZ HZ fun vs H1 => ∃ u1 u2, vs = [u1, u2] ∧ tl u1 u2 H1 Q)) →
    TT v1 v2 tl H Q →
    ∃ t, PSs (cxOf CX0 P w K mg base Ng x (defScope st) g cdv A outer s H E).nox (defBody st) t ∧ t { nx := fun _ H' => Q .non H', rt := Q } (start Ng [v1, v2, .ref f]) H
def tLam3 (T : List (Addr × Str)) (TT : V → V → (V → V → Hp → VK → Prop) → Hp → VK → Prop) (q : Str) (t1 t2 t : TE) : TE := fun σ H Q => t1 σ H fun v1 H1 => t2 σ H1 fun v2 H2 => Tabs T H2 ∧ ∀ H3 c', ExtN H2 H3 → Tabs T H3 → H3 c' = some (CodeO c' q) →
  TT v1 v2 (fun u1 u2 H' Q' => H' c' = some (CodeO c' q) ∧ t (some u1 :: some u2 :: σ) H' Q') H3 Q
section
variable {X : Cx}
theorem pe_lam3 {T : List (Addr × Str)} {TT : V → V → (V → V → Hp → VK → Prop) → Hp → VK → Prop} {x a a1 a2 b1 b2 : Str} {g c P : Addr} {k : Nat} {st : Stmt} {fd : FuncData} {Ng : List Str} {e1 e2 : Expr}
    {params : Arguments} {body : Expr} {scope : Scope} {t1 t2 t : TE} {p lpos pos : Pos} (F : Fun X.K x x st g fd) (hg : Gl X x) (hm : X.mg x = some (.ref g)) (hb : L2.Binds X.K fd [b1, b2, a] []) (Sg : FnScope Ng [b1, b2, a] (defScope st)) (hNg : Ng[2]? = some a) (hva : Vis (defScope st) a)
    (hG : Gives3 X.prog X.w X.K X.mg X.base (k + 1) Ng x st a TT)
    (TB : TabB X.base X.mg c P) (hcode : X.env.code = .ref c) (hmT : (P, X.env.qual ++ "<lambda>") ∈ T) (hu : ∀ p ∈ T, p.1 = P → p.2 = X.env.qual ++ "<lambda>") (hr : Room (k + 2) X.A) (L : LamT X.env.scope scope a1 a2 X.N) (hdef : defaultsOf params X.env = ([], []))
    (hbind : ∀ (q : Str) (cl : List (Str × Addr)) (pm cv ctv u1 u2 : Value), bindArgs (PySem.W.kla_fn "<lambda>" q params body scope cl pm cv ctv) ⟨[u1, u2], []⟩ = pure [(a1, u1), (a2, u2)])
    (hbody : ∀ (A : Around) (outer : List Env) (s : Shared) (H : Hp) (f c' : Addr), Room k (A.deeper (lamEnv X scope s.heap.objs.size f c')) → PE (lamCx2 X A outer s H (fun _ _ _ => False) scope f c' a1 a2).nox body t)
    (h1 : PE X e1 t1) (h2 : PE X e2 t2) (hdb : (x == ("__debug__" : Str)) = false := by decide) (hd : (a == ("__debug__" : Str)) = false := by decide) (hcd : (a == ("__classdict__" : Str)) = false := by decide)
    (hs1 : starEach [e1, e2, .Lambda params body scope lpos] X.env = (false, eval e1 X.env) :: starEach [e2, .Lambda params body scope lpos] X.env := by rfl) (hs2 : starEach [e2, .Lambda params body scope lpos] X.env = (false, eval e2 X.env) :: starEach [.Lambda params body scope lpos] X.env := by rfl) (hpl : (backTo pos (starEach [e2, .Lambda params body scope lpos] X.env)).any (·.1) = false := by rfl) :
    PE X (.Call (.Name x p) [e1, e2, .Lambda params body scope lpos] [] pos) (tLam3 T TT (X.env.qual ++ "<lambda>") t1 t2 t) := by
  refine ⟨fun pins s σ H Q I h => ?_⟩
  obtain ⟨oc, od, kV, doc, pm, an, cdv, ct, osl, ef, lk, hcg⟩ := F.ex
  subst ef
  refine wpAny_Call_Name_kw (ld_glob I hg hm ?_ hdb)
  refine PySem.W.callWith_K (h₀ := X.base) I.ok.mod.kin F.kp ?_ hs1 hpl
  rw [hs1]
  show wpAny _ _ (spliced ((false, eval e1 X.env) :: backTo pos (starEach [e2, .Lambda params body scope lpos] X.env))) _ _ s
  refine Calls.spliced_cons (thn (h1.run pins s σ H _ I h) fun u1 s1 ⟨v1, H1, I1, r1, q1⟩ => ?_)
  rw [hs2]
  show wpAny _ _ (spliced ((false, eval e2 X.env) :: backTo pos (starEach [.Lambda params body scope lpos] X.env))) _ _ s1
  refine Calls.spliced_cons (thn (h2.run pins s1 σ H1 _ I1 q1) fun u2 s2 ⟨v2, H2, I2, r2, q2⟩ => ?_)
  obtain ⟨hT, h3⟩ := q2
  show wpAny _ _ (spliced ((false, eval (.Lambda params body scope lpos) X.env) :: backTo pos (starEach [] X.env))) _ _ s2
  refine Calls.spliced_cons (lam_make2 I2 TB hcode hmT hu hT hdef (L.has I2.ok) fun f c' pm' ctv H3 s3 I3 eN T3 hf hfn hfr hco => ?_)
  refine Calls.spliced_nil ⟨I3.kIn, ?_⟩
  have rc : codeAny (model X.prog X.w) X.A (.call (.ref g) ⟨[u1, u2, .ref f], []⟩) (CR CX0 X.stack X.prog X.w H3 s3 Q E0) s3 := by
    refine run_ofS (N := Ng) (ps := [b1, b2, a]) (us := [u1, u2, .ref f]) (vs := [v1, v2, .ref f]) lk hcg Sg hr I3.env0 (hb s3 [u1, u2, .ref f] I3.kIn rfl) (.cons r1 (.cons r2 (.cons rfl .nil))) rfl fun hr' => ?_
    obtain ⟨t', ht', hq'⟩ := hG g cdv X.A X.stack s3 H3 Q E0 f v1 v2 (fun u1 u2 H' Q' => H' c' = some (CodeO c' (X.env.qual ++ "<lambda>")) ∧ t (some u1 :: some u2 :: σ) H' Q') hr'
      (fun e1 e2 ta p1 p2 ha he hpl => pe_act2 (i := 2) I3 L hf hfn hfr (fun u1 u2 => hbind _ _ _ _ _ u1 u2) hr' (fun A outer s H hr2 => hbody A outer s H f c' hr2) ha hNg hva hd hcd he hpl) (h3 H3 c' eN T3 hco)
    exact ⟨t', ht'.nox, hq'⟩
  refine wpAny_call (codeAny_mono rc fun r s2 hq => ?_)
  cases r with
  | error e => exact (show False from hq).elim
  | ok fl =>
    cases fl with
    | ret u => exact I3.after hq
    | next => exact False.elim hq
    | brk => exact False.elim hq
    | cont => exact False.elim hq
end
/-! ### a def that makes a lambda: its code object is known -/
structure FunL (K : PySem.W.Frag) (x qual : Str) (st : Stmt) (f : Addr) (fd : FuncData) (c : Addr) : Prop where
  ex : ∃ (oc : Value) (od : Option Addr) (kV doc pm : Value) (an : Option Addr) (ct : Value) (osl : Array (Option Value)),
    fd = PySem.W.fnOf x qual (defArgs st) (defBody st) (defScope st) .none kV doc pm an (.ref c) ct ∧ K.lookup f = some ⟨oc, od, .func fd, osl⟩ ∧ PySem.W.codeIn K (.ref c) qual = true
  kp : PySem.W.keepIn K (.ref f) = true
theorem FunL.fun {K : PySem.W.Frag} {x qual : Str} {st : Stmt} {f : Addr} {fd : FuncData} {c : Addr} (F : FunL K x qual st f fd c) : Fun K x qual st f fd := by
  obtain ⟨oc, od, kV, doc, pm, an, ct, osl, e, l, h⟩ := F.ex
  exact ⟨⟨oc, od, kV, doc, pm, an, .ref c, ct, osl, e, l, h⟩, F.kp⟩
theorem funL_mk {K : PySem.W.Frag} {x qual : Str} {st : Stmt} {f c : Addr} {oc : Value} {od an : Option Addr} {osl : Array (Option Value)} {kV doc pm ct : Value} (l : K.lookup f = some ⟨oc, od, .func (PySem.W.fnOf x qual (defArgs st) (defBody st) (defScope st) .none kV doc pm an (.ref c) ct), osl⟩)
    (h : PySem.W.codeIn K (.ref c) qual = true) (k : PySem.W.keepIn K (.ref f) = true) : FunL K x qual st f (PySem.W.fnOf x qual (defArgs st) (defBody st) (defScope st) .none kV doc pm an (.ref c) ct) c := ⟨⟨oc, od, kV, doc, pm, an, ct, osl, rfl, l, h⟩, k⟩
theorem Has.mkL {P : Program} {w : World} {K : PySem.W.Frag} {mg : Str → Option Value} {base : Heap} {x qual : Str} {ps N : List Str} {sp : Sp} {k : Nat} {st : Stmt} {f c : Addr} {fd : FuncData} (F : FunL K x qual st f fd c) (gf : mg x = some (.ref f)) (b : L2.Binds K fd ps []) (S : FnScope N ps (defScope st)) (len : ∀ vs H Q E, sp vs H Q E → vs.length = ps.length)
    (hbody : ∀ (A : Around) (outer : List Env) (s : Shared) (H : Hp) (vs : List V) (Q : VK) (E : XK), Room k (A.deeper (envOfC qual (defScope st) s.heap.objs.size f (.ref c))) → sp vs H Q E →
      ∃ t, PSs (cxOf CX0 P w K mg base N qual (defScope st) f (.ref c) A outer s H E).nox (defBody st) t ∧ t { nx := fun _ H' => Q .non H', rt := Q } (start N vs) H) : Has P w K mg base CX0 (k + 1) x ps sp := by
  obtain ⟨oc, od, kV, doc, pm, an, ct, osl, rfl, lk, hcd⟩ := F.ex
  refine ⟨f, _, fn_of lk hcd S len fun A outer s H vs Q E hr hsp => ?_, gf, F.kp, b⟩
  obtain ⟨t, h, q⟩ := hbody A outer s H vs Q E hr hsp
  exact ⟨t, h.nox, q⟩
/-! ### all but the tables -/
def noT (H : Hp) : Hp := fun b => match H b with
  | some (.tbl _) => none
  | o => o
theorem noT_at {H : Hp} {b : Addr} {o : HO} (h : H b = some o) (n : ∀ ps, o ≠ .tbl ps) : noT H b = some o := by
  unfold noT
  rw [h]
  cases o with
  | tbl ps => exact absurd rfl (n ps)
  | _ => rfl
theorem noT_le {H : Hp} : Same (noT H) H := fun b o h => by
  unfold noT at h
  cases e : H b with
  | none => rw [e] at h; cases h
  | some u =>
    rw [e] at h
    cases u with
    | tbl ps => cases h
    | _ => exact h
theorem noT_ext {H H' : Hp} (e : ExtN H H') : Same (noT H) H' := fun b o h => by
  have h1 := noT_le b o h
  refine e b o h1 fun ps z => ?_
  subst z
  unfold noT at h
  rw [h1] at h
  cases h
theorem noT_rd {H : Hp} {a : Addr} {o : HO} (n : ∀ ps, o ≠ .tbl ps) (h : Rd H a o) : Rd (noT H) a o := by
  rcases h with h | ⟨u, h⟩
  · exact .inl (noT_at h n)
  · exact .inr ⟨u, noT_at h fun ps z => by cases z⟩
theorem noT_seqL {K : PySem.W.Frag} {H : Hp} {a : Addr} {xs : List V} (h : SqL K H a xs) : SqL K (noT H) a xs := by
  rcases h with h | h
  · exact .inl (noT_rd (fun ps z => by cases z) h)
  · exact .inr h
theorem noT_seqT {K : PySem.W.Frag} {H : Hp} {a : Addr} {xs : List V} (h : SqT K H a xs) : SqT K (noT H) a xs := by
  rcases h with h | h
  · exact .inl (noT_rd (fun ps z => by cases z) h)
  · exact .inr h
theorem noT_lsE {K : PySem.W.Frag} {H : Hp} {a : Addr} {xs : List V} (h : LsE K H a xs) : LsE K (noT H) a xs := by
  rcases h with h | h
  · exact .inl (noT_rd (fun ps z => by cases z) h)
  · exact .inr h
mutual
theorem dpNoT {K : PySem.W.Frag} {H : Hp} : ∀ (d : PyData) (v : V), Dp K H v d → Dp K (noT H) v d
  | .none, _, h => by cases h; exact .non
  | .bool b, _, h => by cases h; exact .bl b
  | .int i, _, h => by cases h; exact .int i
  | .str x, _, h => by cases h; exact .str x
  | .list ds, _, h => by cases h with | lst a b => exact .lst (noT_seqL a) (dpNoTAll ds _ b)
  | .tuple ds, _, h => by cases h with | tup a b => exact .tup (noT_seqT a) (dpNoTAll ds _ b)
  | .dict _, _, h => by cases h
theorem dpNoTAll {K : PySem.W.Frag} {H : Hp} : ∀ (ds : List PyData) (vs : List V), DpAll K H vs ds → DpAll K (noT H) vs ds
  | [], _, h => by cases h; exact .nil
  | d :: ds, _, h => by cases h with | cons a b => exact .cons (dpNoT d _ a) (dpNoTAll ds _ b)
end
end

theorem Has.mkLX {P : Program} {w : World} {K : PySem.W.Frag} {mg : Str → Option Value} {base : Heap} {x qual : Str} {ps N : List Str} {sp : Sp} {k : Nat} {st : Stmt} {f c : Addr} {fd : FuncData} (F : FunL K x qual st f fd c) (gf : mg x = some (.ref f)) (b : L2.Binds K fd ps []) (S : FnScope N ps (defScope st)) (len : ∀ vs H Q E, sp vs H Q E → vs.length = ps.length)
    (hbody : ∀ (A : Around) (outer : List Env) (s : Shared) (H : Hp) (vs : List V) (Q : VK) (E : XK), Room k (A.deeper (envOfC qual (defScope st) s.heap.objs.size f (.ref c))) → sp vs H Q E →
      ∃ t, PSs (cxOf (L2.CX P w) P w K mg base N qual (defScope st) f (.ref c) A outer s H E) (defBody st) t ∧ t { nx := fun _ H' => Q .non H', rt := Q } (start N vs) H) : Has P w K mg base (L2.CX P w) (k + 1) x ps sp := by
  obtain ⟨oc, od, kV, doc, pm, an, ct, osl, rfl, lk, hcd⟩ := F.ex
  refine ⟨f, _, fn_of lk hcd S len fun A outer s H vs Q E hr hsp => ?_, gf, F.kp, b⟩
  exact hbody A outer s H vs Q E hr hsp

section
variable {P : Program} {w : World} {K : PySem.W.Frag} {mg : Str → Option Value} {base : Heap} {C_Pull C_Push C_Web C_TooWide C_FloorError C_TooMany C_TooRough : Addr}
theorem wd_disp {σ : L2.St} {H : Hp} {Q : VK} {trs : List (TE × TE)} (h : ∀ p, New H p → tPairs trs σ (upd H p (.dK [])) fun ps H2 => H2 p = some (.dK []) ∧ ∃ kvs : List (Key × V), ps = kvs.map (fun kv => (kV kv.1, kv.2)) ∧ kvs.length ≤ 15 ∧ Q (.ref p) (upd H2 p (.dK (mergeK [] kvs)))) : tDisp trs σ H Q := h
theorem wd_pc {σ : L2.St} {H : Hp} {tk tv : TE} {r : List (TE × TE)} {R : List (V × V) → Hp → Prop} (h : tk σ H fun x H1 => tv σ H1 fun y H2 => tPairs r σ H2 fun ps H3 => R ((x, y) :: ps) H3) : tPairs ((tk, tv) :: r) σ H R := h
theorem wd_pn {σ : L2.St} {H : Hp} {R : List (V × V) → Hp → Prop} (h : R [] H) : tPairs [] σ H R := h
theorem iv_lastI (x : Nat) (l : List Nat) : atI (iv (x :: l).reverse) (-1) = some (.int (x : Nat)) := by
  have h1 : ixN (iv (x :: l).reverse).length (-1) = some l.length := by
    rw [iv_len, List.length_reverse, List.length_cons]
    unfold ixN
    rw [if_neg (by omega), if_pos (by omega)]
    congr 1
    omega
  unfold atI
  rw [h1]
  show (iv (x :: l).reverse)[l.length]? = _
  rw [List.reverse_cons, iv_app, List.getElem?_append_right (by rw [iv_len, List.length_reverse]; exact Nat.le_refl _), iv_len, List.length_reverse, Nat.sub_self]
  rfl
theorem Holds.get2 {kvs : List (Key × V)} {S : List Nat} {g : Nat → V} (h : Holds kvs S g) {d : Nat} (hd : d ∈ S) : valV kvs (.inl (d : Int)) = some (g d) := by rw [h.2, if_pos hd]
theorem Holds.congr {kvs : List (Key × V)} {S : List Nat} {g g' : Nat → V} (h : Holds kvs S g) (e : ∀ x ∈ S, g x = g' x) : Holds kvs S g' := ⟨h.1, fun d => by
  rw [h.2]
  by_cases hd : d ∈ S
  · rw [if_pos hd, if_pos hd, e d hd]
  · rw [if_neg hd, if_neg hd]⟩
theorem maxI (a b : Nat) : (if ((b : Nat) : Int) > ((a : Nat) : Int) then ((b : Nat) : Int) else ((a : Nat) : Int)) = ((max a b : Nat) : Int) := by
  split <;> omega
theorem iv_erase (r : List Nat) (k : Nat) : (iv r).eraseIdx k = iv (r.eraseIdx k) := by
  unfold iv
  rw [List.eraseIdx_eq_take_drop_succ, List.eraseIdx_eq_take_drop_succ, List.map_append, List.map_take, List.map_drop]
def spToldX (K : PySem.W.Frag) (CP CQ CW CT : Addr) : Sp := fun vs H Q E => ∃ (p : Addr) (M : WebM), vs = [.ref p] ∧ WebAt K CP CQ CW H p M ∧ (10 < M.T.length → E (.ref CT) none H) ∧ ∀ q H', M.T.length ≤ 10 → Same H H' → New H q → H' q = some (.lst (wms M.ts (2 ^ M.T.length))) → Q (.ref q) H'
theorem ok_worths_told {f : Addr} {fd : FuncData} (F : Fun K "worths_told" "worths_told" s_worths_told f fd) (gf : mg "worths_told" = some (.ref f)) (B : Bl mg) {C_Pull C_Push C_Web C_TooWide C_FloorError C_TooMany C_TooRough : Addr} (T : Txt K mg C_Pull C_Push C_Web C_TooWide C_FloorError C_TooMany C_TooRough) (h_worth : Has P w K mg base CX0 4 "worth" ["web", "laying"] (spWorth K C_Pull C_Push C_Web)) : Has P w K mg base (L2.CX P w) 5 "worths_told" ["web"] (spToldX K C_Pull C_Push C_Web C_TooWide) := by
  refine Has.mkX F gf (F.binds (ps := ["web"]) fun _ _ _ _ _ _ us hl => match us, hl with | [_], _ => rfl) sc_worths_told (by walk_at "len") (fun cdv A outer s H vs Q E hr h => ?_)
  obtain ⟨p, M, rfl, hW, qe, q⟩ := h
  obtain ⟨dx, a, b, c, d, xs, hp, _⟩ := id hW.at_
  refine ⟨_, (pss_cons (ps_if (pt_cmpR op_gt (pe_fldK K (pv 0) rfl) (pe_glob (v := .int 10) (by rfl) T.k_MOST_PLACES.choose_spec ⟨_, rfl⟩) (nomark _)) (pss_one (ps_raise rfl (takes_of rfl rfl rfl rfl) (pmk_own PySem.F.excBase_ValueError T.xn_TooWide T.g_TooWide T.xf_TooWide.kp (raises_own T.xf_TooWide.be T.xf_TooWide.ty) (by exact rfl)))) pss_nil)
 (pss_one (ps_ret (pe_lc (own := [("laying", 1)]) rfl sc_worths_told.nd (pi_range1 (by rfl) B.range (pa_cons (pe_op op_shlW pe_int (pe_fldK K (pv 0) rfl)) pa_nil)) (blkOk_by (own := [("laying", 1)]) (N := ["web", "laying"]) (sc := defScope s_worths_told) (by decide +kernel)) (fun _ _ _ _ _ => pg_name (i := 1) sc_worths_told.nd rfl (Or.inl rfl)) (fun _ _ _ _ _ => pts_nil) (fun _ _ _ _ _ => (pe_fn h_worth (hr.mono (by decide)) (by rfl) (pa_cons (pv 0) (pa_cons (pv 1) pa_nil)))))))), ?_⟩
  walk_at "sts"
  refine w_fld hp T.cl_Web T.n_Web_many (wf_many _ _ _ _ _) ?_
  walk_at "sts"
  refine ifd (fun hw => ?_) (fun hw => ?_)
  · exact qe (by omega)
  have hm : M.T.length ≤ 10 := by omega
  obtain ⟨N, hN, hN2⟩ : ∃ N : Nat, 2 ^ M.T.length = N ∧ N ≤ 65536 := ⟨_, rfl, Nat.le_trans (Nat.pow_le_pow_right (by decide) hm) (by decide)⟩
  rw [hN] at q
  walk_at "sts"
  refine w_fld hp T.cl_Web T.n_Web_many (wf_many _ _ _ _ _) ?_
  walk_at "sts"
  rw [shl_one, hN]
  refine ⟨by omega, by omega, ?_⟩
  intro D nD
  refine lc_r0 (n := N) rfl (fun i H' => H' D = some (.lst (wms M.ts i)) ∧ Same H H') ?_ ?_ ?_
  · exact ⟨upd_same, same_upd nD⟩
  · rintro i H' hi ⟨l1, s1⟩
    walk_at "sts"
    refine ⟨p, M, i, rfl, hW.same s1, ?_⟩
    refine ⟨_, l1, szlt (by rw [wms_len]; omega), ?_, s1.mut nD⟩
    rw [upd_same, wms_snoc]
  · rintro H1 ⟨l1, s1⟩
    walk_at "sts"
    exact q D H1 hm s1 nD l1
def spSteps (K : PySem.W.Frag) (CP CQ CW : Addr) : Sp := fun vs H Q _ => ∃ (p : Addr) (M : WebM) (l : Nat), vs = [.ref p, .int l] ∧ WebAt K CP CQ CW H p M ∧ M.T.length ≤ 10 ∧ ∀ q H', Same H H' → New H q → H' q = some (.lst (iv ((List.range M.T.length).map fun k => l ^^^ 2 ^ k))) → Q (.ref q) H'
theorem ok_steps_from {f : Addr} {fd : FuncData} (F : Fun K "steps_from" "steps_from" s_steps_from f fd) (gf : mg "steps_from" = some (.ref f)) (B : Bl mg) {C_Pull C_Push C_Web C_TooWide C_FloorError C_TooMany C_TooRough : Addr} (T : Txt K mg C_Pull C_Push C_Web C_TooWide C_FloorError C_TooMany C_TooRough) : Has P w K mg base CX0 1 "steps_from" ["web", "laying"] (spSteps K C_Pull C_Push C_Web) := by
  refine Has.mk' F gf (F.binds (ps := ["web", "laying"]) fun _ _ _ _ _ _ us hl => match us, hl with | [_, _], _ => rfl) sc_steps_from (by walk_at "len") (fun cdv A outer s H vs Q E hr h => ?_)
  obtain ⟨p, M, l, rfl, hW, hm, q⟩ := h
  obtain ⟨dx, a, b, c, d, xs, hp, _⟩ := id hW.at_
  refine ⟨_, (pss_one (ps_ret (pe_lc (own := [("place", 2)]) rfl sc_steps_from.nd (pi_range1 (by rfl) B.range (pa_cons (pe_fldK K (pv 0) rfl) pa_nil)) (blkOk_by (own := [("place", 2)]) (N := ["web", "laying", "place"]) (sc := defScope s_steps_from) (by decide +kernel)) (fun _ _ _ _ _ => pg_name (i := 2) sc_steps_from.nd rfl (Or.inl rfl)) (fun _ _ _ _ _ => pts_nil) (fun _ _ _ _ _ => (pe_op op_xor (pv 1) (pe_op op_shlW pe_int (pv 2))))))), ?_⟩
  walk_at "sts"
  refine w_fld hp T.cl_Web T.n_Web_many (wf_many _ _ _ _ _) ?_
  walk_at "sts"
  intro D nD
  refine lc_r0 (n := M.T.length) rfl (fun i H' => H' D = some (.lst (iv ((List.range i).map fun k => l ^^^ 2 ^ k))) ∧ Same H H') ?_ ?_ ?_
  · exact ⟨upd_same, same_upd nD⟩
  · rintro i H' hi ⟨l1, s1⟩
    walk_at "sts"
    rw [shl_one, xor_nat]
    refine ⟨_, l1, szlt (by rw [iv_len, List.length_map, List.length_range]; omega), ?_, s1.mut nD⟩
    rw [upd_same, List.range_succ, List.map_append, iv_app]
    rfl
  · rintro H1 ⟨l1, s1⟩
    walk_at "sts"
    exact q D H1 s1 nD l1
def spLeastAt (K : PySem.W.Frag) : Sp := fun vs H Q _ => ∃ (a b : Addr) (wt : List Nat) (ts : List Ti) (n : Nat), vs = [.ref a, .ref b] ∧ SqL K H a (iv wt) ∧ SqL K H b (wms ts n) ∧ (∀ x ∈ wt, x < n) ∧ wt.length ≤ 100000 ∧ 0 < wt.length ∧
  ∀ k w, wt[k]? = some w → (∀ z ∈ wt, wm ts w ts.length ≤ wm ts z ts.length) → Q (.int (k : Nat)) H
theorem ok_least_at {f : Addr} {fd : FuncData} (F : Fun K "least_at" "least_at" s_least_at f fd) (gf : mg "least_at" = some (.ref f)) (B : Bl mg) {C_Pull C_Push C_Web C_TooWide C_FloorError C_TooMany C_TooRough : Addr} (T : Txt K mg C_Pull C_Push C_Web C_TooWide C_FloorError C_TooMany C_TooRough) : Has P w K mg base CX0 1 "least_at" ["waiting", "heights"] (spLeastAt K) := by
  refine Has.mk' F gf (F.binds (ps := ["waiting", "heights"]) fun _ _ _ _ _ _ us hl => match us, hl with | [_, _], _ => rfl) sc_least_at (by walk_at "len") (fun cdv A outer s H vs Q E hr h => ?_)
  obtain ⟨a, b, wt, ts, n, rfl, hA, hB, hlt, hsz, hpos, q⟩ := h
  refine ⟨_, (pss_cons (ps_set (i := 2) sc_least_at.nd rfl (.inl rfl) pe_int)
 (pss_cons (ps_for PassesOwn.never rfl (pi_range1 (by rfl) B.range (pa_cons (pe_callB (call_lenK K) (by rfl) B.len (by decide +kernel) (pa_cons (pv 0) pa_nil)) pa_nil)) (pg_name (i := 3) sc_least_at.nd rfl (.inl rfl)) (pss_one (ps_if (pt_cmpR op_lt (pe_ix (ix_listK K) (pv 1) (pe_ix (ix_listK K) (pv 0) (pv 3) (fun _ _ => rfl)) (fun _ _ => rfl)) (pe_ix (ix_listK K) (pv 1) (pe_ix (ix_listK K) (pv 0) (pv 2) (fun _ _ => rfl)) (fun _ _ => rfl)) (nomark _)) (pss_one (ps_set (i := 2) sc_least_at.nd rfl (.inl rfl) (pv 3))) pss_nil)))
 (pss_one (ps_ret (pv 2))))), ?_⟩
  walk_at "sts"
  rw [iv_len]
  refine ⟨by omega, by omega, ?_⟩
  have atB : ∀ i, i < wt.length → (wms ts n)[wt.getD i 0]? = some (.int (wm ts (wt.getD i 0) ts.length : Nat)) := fun i hi => wms_at (hlt _ (by rw [List.getD_eq_getElem?_getD, List.getElem?_eq_getElem hi]; exact List.getElem_mem hi))
  refine for_r0 (n := wt.length) rfl (fun i σ H' => ∃ (k : Nat) (y3 : Option V), σ = [some (.ref a), some (.ref b), some (.int (k : Nat)), y3] ∧ H' = H ∧ k < wt.length ∧ ∀ j, j < i → wm ts (wt.getD k 0) ts.length ≤ wm ts (wt.getD j 0) ts.length) ?_ ?_ ?_
  · exact ⟨0, _, rfl, rfl, hpos, fun j hj => absurd hj (Nat.not_lt_zero _)⟩
  · rintro i σ H' hi ⟨k, y3, rfl, rfl, hk, hmin⟩
    have a1 := iv_at hi
    have a2 := iv_at hk
    have b1 := atB i hi
    have b2 := atB k hk
    walk_at "sts"
    refine ifd (fun hc => ?_) (fun hc => ?_)
    · walk_at "sts"
      refine ⟨i, _, rfl, rfl, hi, fun j hj => ?_⟩
      by_cases e : j = i
      · rw [e]; exact Nat.le_refl _
      · have := hmin j (by omega); omega
    · walk_at "sts"
      refine ⟨k, _, rfl, rfl, hk, fun j hj => ?_⟩
      by_cases e : j = i
      · rw [e]; omega
      · exact hmin j (by omega)
  · rintro σ H' ⟨k, y3, rfl, rfl, hk, hmin⟩
    walk_at "sts"
    refine q k (wt.getD k 0) (by rw [List.getD_eq_getElem?_getD, List.getElem?_eq_getElem hk]; rfl) fun z hz => ?_
    obtain ⟨j, hj, e⟩ := List.mem_iff_getElem.mp hz
    have := hmin j hj
    rw [show wt.getD j 0 = z by rw [List.getD_eq_getElem?_getD, List.getElem?_eq_getElem hj, Option.getD_some, e]] at this
    exact this
def cameV (s : Nat) (par : Nat → Nat) (x : Nat) : V := if x = s then .non else .int (par x : Nat)
theorem Holds.came {kvs : List (Key × V)} {S : List Nat} {s : Nat} {par : Nat → Nat} (h : Holds kvs S (cameV s par)) {y : Nat} (hy : y ∉ S) (hs : y ≠ s) (w : Nat) : Holds (putK kvs (.inl (y : Int)) (.int (w : Nat))) (S ++ [y]) (cameV s fun x => if x = y then w else par x) := by
  have e1 : ∀ x ∈ S, cameV s par x = cameV s (fun x => if x = y then w else par x) x := fun x hx => by
    have : x ≠ y := fun z => hy (z ▸ hx)
    unfold cameV
    simp [this]
  have h2 := (h.congr e1).put y
  have e2 : cameV s (fun x => if x = y then w else par x) y = .int (w : Nat) := by
    unfold cameV
    simp [hs]
  rw [e2] at h2
  exact h2
def spBack (K : PySem.W.Frag) : Sp := fun vs H Q _ => ∃ (d : Addr) (g : Nat) (kvs : List (Key × V)) (m s : Nat) (S : List Nat) (par : Nat → Nat) (X : List Nat), vs = [.ref d, .int g] ∧ H d = some (.dK kvs) ∧ Holds kvs S (cameV s par) ∧ ParOk m s S par X ∧ S.length ≤ 100000 ∧ g ∈ S ∧
  ∀ q H' l, Same H H' → New H q → H' q = some (.lst (iv (s :: l))) → Back m s g S X s l → Q (.ref q) H'
theorem ok_way_back {f : Addr} {fd : FuncData} (F : Fun K "way_back" "way_back" s_way_back f fd) (gf : mg "way_back" = some (.ref f)) (B : Bl mg) {C_Pull C_Push C_Web C_TooWide C_FloorError C_TooMany C_TooRough : Addr} (T : Txt K mg C_Pull C_Push C_Web C_TooWide C_FloorError C_TooMany C_TooRough) : Has P w K mg base CX0 1 "way_back" ["came", "goal"] (spBack K) := by
  refine Has.mk' F gf (F.binds (ps := ["came", "goal"]) fun _ _ _ _ _ _ us hl => match us, hl with | [_, _], _ => rfl) sc_way_back (by walk_at "len") (fun cdv A outer s H vs Q E hr h => ?_)
  obtain ⟨d, g, kvs, m, s, S, par, X, rfl, hd, hH, po, hsz, hg, q⟩ := h
  refine ⟨_, (pss_cons (ps_set (i := 2) sc_way_back.nd rfl (.inl rfl) (pe_lst (pa_cons (pv 1) pa_nil)))
 (pss_cons (ps_while PassesOwn.never (pt_cmpR op_notN (pe_dget (hu_of hr) (pv 0) (pe_ix (ix_listK K) (pv 2) (pe_un un_neg pe_int) (fun _ _ => rfl)) (fun _ _ => rfl)) pe_non (nomark _)) (pss_one (ps_expr (pe_bmK K (pe_bm PySem.F.plainAttrs_list PySem.F.slot_list_append PySem.F.type_list_append mt_append (pv 2) (pa_cons (pe_dget (hu_of hr) (pv 0) (pe_ix (ix_listK K) (pv 2) (pe_un un_neg pe_int) (fun _ _ => rfl)) (fun _ _ => rfl)) pa_nil))))))
 (pss_one (ps_ret (pe_listRev K rfl (by rfl) B.list (by rfl) B.reversed (pv 2)))))), ?_⟩
  walk_at "sts"
  refine w_new fun p1 n1 => ?_
  walk_at "sts"
  refine ⟨fun k σ H' => ∃ (x : Nat) (l : List Nat), σ = [some (.ref d), some (.int g), some (.ref p1)] ∧ k = S.idxOf x ∧ Same H H' ∧ H' p1 = some (.lst (iv (x :: l).reverse)) ∧ Back m s g S X x l, ⟨_, g, [], rfl, rfl, same_upd n1, upd_same, Back.init hg⟩, ?_⟩
  rintro k σ H' ⟨x, l, rfl, rfl, s1, l1, b⟩
  have hd2 := s1 _ _ hd
  have l1' := SqL.of (K := K) l1
  have hlen : (iv (x :: l).reverse).length = l.length + 1 := by rw [iv_len, List.length_reverse]; rfl
  have hll : l.length ≤ 100000 := by
    have := nodup_sub_len (ys := S) (List.nodup_cons.mp b.nd).2 fun z hz => (b.up z hz).1
    omega
  have hat : atI (iv (x :: l).reverse) (-1) = some (.int x) := iv_lastI x l
  have hv := hH.get b.xS
  walk_at "sts"
  refine w_getI (kvs := kvs) hd2 hv ?_
  by_cases hx : x = s
  · rw [cameV, if_pos hx]
    subst hx
    walk_at "sts"
    refine ifF (by simp) ?_
    walk_at "sts"
    refine w_lrev ?_
    walk_at "sts"
    refine ⟨p1, _, rfl, l1', fun pq nq => ?_⟩
    refine q pq _ l (s1.trans (same_upd nq)) ((show New _ pq from nq).of s1) ?_ b
    rw [upd_same]
    unfold iv
    rw [← List.map_reverse, List.reverse_reverse]
  · rw [cameV, if_neg hx] at hv ⊢
    obtain ⟨b2, hlt2⟩ := Back.step po b hx
    walk_at "sts"
    refine ifT (by simp) (w_wt ?_)
    walk_at "sts"
    refine w_getI (kvs := kvs) hd2 hv ?_
    have hsl : (iv (x :: l).reverse).length < sizeLine := szlt (by rw [hlen]; omega)
    walk_at "sts"
    refine ⟨_, hlt2, par x, x :: l, rfl, rfl, s1.mut n1, ?_, b2⟩
    rw [upd_same, List.reverse_cons (a := par x), iv_app]
    rfl
def spClimbX (K : PySem.W.Frag) (CP CQ CW CT : Addr) : Sp := fun vs H Q E => ∃ (p : Addr) (M : WebM) (s g : Nat), vs = [.ref p, .int s, .int g] ∧ WebAt K CP CQ CW H p M ∧ (10 < M.T.length → E (.ref CT) none H) ∧ (M.T.length ≤ 10 → s < 2 ^ M.T.length ∧ g < 2 ^ M.T.length) ∧
  ∀ q q2 H' h l, M.T.length ≤ 10 → Same H H' → New H q → H' q = some (.tup [.int (h : Nat), .ref q2]) → H' q2 = some (.lst (iv (s :: l))) → ClimbOk (fun x => wm M.ts x M.ts.length) M.T.length s g h l → Q (.ref q) H'
theorem ok_climb {f : Addr} {fd : FuncData} (F : Fun K "climb" "climb" s_climb f fd) (gf : mg "climb" = some (.ref f)) (B : Bl mg) {C_Pull C_Push C_Web C_TooWide C_FloorError C_TooMany C_TooRough : Addr} (T : Txt K mg C_Pull C_Push C_Web C_TooWide C_FloorError C_TooMany C_TooRough) (h_worths_told : Has P w K mg base (L2.CX P w) 5 "worths_told" ["web"] (spToldX K C_Pull C_Push C_Web C_TooWide)) (h_steps_from : Has P w K mg base CX0 1 "steps_from" ["web", "laying"] (spSteps K C_Pull C_Push C_Web)) (h_way_back : Has P w K mg base CX0 1 "way_back" ["came", "goal"] (spBack K)) (h_least_at : Has P w K mg base CX0 1 "least_at" ["waiting", "heights"] (spLeastAt K)) : Has P w K mg base (L2.CX P w) 6 "climb" ["web", "start", "goal"] (spClimbX K C_Pull C_Push C_Web C_TooWide) := by
  refine Has.mkX F gf (F.binds (ps := ["web", "start", "goal"]) fun _ _ _ _ _ _ us hl => match us, hl with | [_, _, _], _ => rfl) sc_climb (by walk_at "len") (fun cdv A outer s H vs Q E hr h => ?_)
  obtain ⟨p, M, s, g, rfl, hW, qe, hsg, q⟩ := h
  obtain ⟨W, hWd⟩ : ∃ W : Nat → Nat, W = fun x => wm M.ts x M.ts.length := ⟨_, rfl⟩
  rw [← hWd] at q
  have aH : ∀ x, x < 2 ^ M.T.length → (wms M.ts (2 ^ M.T.length))[x]? = some (.int (W x : Nat)) := fun x hx => by rw [hWd]; exact wms_at hx
  refine ⟨_, (pss_cons (ps_set (i := 3) sc_climb.nd rfl (.inl rfl) (pe_fnS (takes_of rfl rfl rfl rfl) h_worths_told (hr.mono (by decide)) (by rfl) (pa_cons (pv 0) pa_nil)))
 (pss_cons (ps_set (i := 4) sc_climb.nd rfl (.inl rfl) (pe_disp (pps_cons (pv 1) pe_non pps_nil) (by rfl) (by rfl) (fun z => by cases z) (by decide)))
 (pss_cons (ps_set (i := 5) sc_climb.nd rfl (.inl rfl) (pe_lst (pa_cons (pv 1) pa_nil)))
 (pss_cons (ps_set (i := 6) sc_climb.nd rfl (.inl rfl) (pe_ix (ix_listK K) (pv 3) (pv 1) (fun _ _ => rfl)))
 (pss_cons (ps_while (passes_of rfl) (pt_cmp (pc_dnotin (hu_of hr) (pv 2) (pv 4))) (pss_cons (ps_set (i := 7) sc_climb.nd rfl (.inl rfl) (pe_bmK K (pe_bm PySem.F.plainAttrs_list PySem.F.slot_list_pop PySem.F.type_list_pop mt_popAt (pv 5) (pa_cons (pe_fn h_least_at (hr.mono (by decide)) (by rfl) (pa_cons (pv 5) (pa_cons (pv 3) pa_nil))) pa_nil))))
 (pss_cons (ps_set (i := 6) sc_climb.nd rfl (.inl rfl) (pe_callB (call_max2 rfl) (by rfl) B.max (by decide +kernel) (pa_cons (pv 6) (pa_cons (pe_ix (ix_listK K) (pv 3) (pv 7) (fun _ _ => rfl)) pa_nil))))
 (pss_one (ps_for (passes_of rfl) rfl (pi_listK K (pe_fn h_steps_from (hr.mono (by decide)) (by rfl) (pa_cons (pv 0) (pa_cons (pv 7) pa_nil)))) (pg_name (i := 8) sc_climb.nd rfl (.inl rfl)) (pss_one (ps_if (pt_cmp (pc_dnotin (hu_of hr) (pv 8) (pv 4))) (pss_cons (ps_dput (hu_of hr) (pv 4) (pv 8) (pv 7) rfl)
 (pss_one (ps_expr (pe_bmK K (pe_bm PySem.F.plainAttrs_list PySem.F.slot_list_append PySem.F.type_list_append mt_append (pv 5) (pa_cons (pv 8) pa_nil)))))) pss_nil)))))))
 (pss_one (ps_ret (pe_tup (pa_cons (pe_callB (call_max2 rfl) (by rfl) B.max (by decide +kernel) (pa_cons (pv 6) (pa_cons (pe_ix (ix_listK K) (pv 3) (pv 2) (fun _ _ => rfl)) pa_nil))) (pa_cons (pe_fn h_way_back (hr.mono (by decide)) (by rfl) (pa_cons (pv 4) (pa_cons (pv 2) pa_nil))) pa_nil)))))))))), ?_⟩
  walk_at "sts"
  refine ⟨p, M, rfl, hW, qe, fun pH H1 hm s1 nH lH => ?_⟩
  obtain ⟨hs, hg⟩ := hsg hm
  have hN2 : 2 ^ M.T.length ≤ 1024 := Nat.le_trans (Nat.pow_le_pow_right (by decide) hm) (by decide)
  have hW1 := hW.same s1
  have aS := aH s hs
  have aG := aH g hg
  walk_at "sts"
  refine wd_disp fun d nd => ?_
  refine wd_pc ?_
  walk_at "sts"
  refine wd_pn ?_
  refine ⟨upd_same, [(.inl (s : Int), .non)], rfl, by show 1 ≤ 15; decide, ?_⟩
  rw [upd_upd]
  have sd := same_upd (o := .dK (mergeK [] [(.inl (s : Int), .non)])) nd
  have ld : upd H1 d (.dK (mergeK [] [(.inl (s : Int), .non)])) d = some (.dK (mergeK [] [(.inl (s : Int), .non)])) := upd_same
  have hH0 : Holds (mergeK [] [(.inl (s : Int), .non)]) [s] (cameV s fun _ => 0) := by
    have := (Holds.nil (g := cameV s fun _ => 0)).put s
    rw [show cameV s (fun _ => 0) s = .non from if_pos rfl] at this
    exact this
  generalize upd H1 d (.dK (mergeK [] [(.inl (s : Int), .non)])) = H2 at sd ld ⊢
  walk_at "sts"
  refine w_new fun pw nw => ?_
  have sw := same_upd (o := .lst [.int s]) nw
  have lw : upd H2 pw (.lst [.int s]) pw = some (.lst (iv [s])) := upd_same
  have ld := sw _ _ ld
  have nw1 := nw.of sd
  have sdw := sd.trans sw
  have dw : d ≠ pw := ne_new (by assumption) nw
  generalize upd H2 pw (.lst [.int s]) = H3 at sdw sw lw ld ⊢
  have lH3 := SqL.of (K := K) (sdw _ _ lH)
  walk_at "sts"
  refine ⟨fun k σ H' => ∃ (S X wt : List Nat) (par : Nat → Nat) (ht : Nat) (kvs : List (Key × V)) (y7 y8 : Option V), σ = [some (.ref p), some (.int s), some (.int g), some (.ref pH), some (.ref d), some (.ref pw), some (.int ht), y7, y8] ∧ k = 2 ^ M.T.length - X.length ∧ Same H1 H' ∧ H' d = some (.dK kvs) ∧ H' pw = some (.lst (iv wt)) ∧ Holds kvs S (cameV s par) ∧ Clm W M.T.length s g S par X wt ht (fun _ _ => True), ⟨_, [s], [], [s], _, W s, _, _, _, rfl, rfl, sdw, ld, lw, hH0, Clm.init hs rfl⟩, ?_⟩
  rintro k σ H' ⟨S, X, wt, par, ht, kvs, y7, y8, rfl, rfl, sH, lD, lW, hK, hC⟩
  have hxl := hC.xlen
  have lHH := SqL.of (K := K) (sH _ _ lH)
  walk_at "sts"
  rw [hK.2]
  by_cases hgS : g ∈ S
  · rw [if_pos hgS]
    walk_at "sts"
    refine ifF rfl ?_
    walk_at "sts"
    rw [maxI]
    refine ⟨d, g, kvs, M.T.length, s, S, par, X, rfl, lD, hK, hC.po, by omega, hgS, fun qb H4 l s4 n4 l4 b => ?_⟩
    walk_at "sts"
    refine w_new fun pt nt => ?_
    have st := same_upd (o := .tup [.int (max ht (W g) : Nat), .ref qb]) nt
    exact q pt qb _ _ l hm (s1.trans (sH.trans (s4.trans st))) (nt.of (s1.trans (sH.trans s4))) upd_same (st _ _ l4) (hC.done b)
  · rw [if_neg hgS]
    walk_at "sts"
    refine ifT rfl (w_wt ?_)
    have hwl := hC.wait hg hgS
    have lW' := SqL.of (K := K) lW
    walk_at "sts"
    refine ⟨pw, pH, wt, M.ts, 2 ^ M.T.length, rfl, lW', lHH, fun x hx => hC.lt x (hC.memS.mpr (.inr hx)), by omega, hwl, fun k w hk hmin => ?_⟩
    have hmin' : ∀ z ∈ wt, W w ≤ W z := fun z hz => by rw [hWd]; exact hmin z hz
    have hk1 := (List.getElem?_eq_some_iff.mp hk).1
    have hwS : w ∈ S := hC.memS.mpr (.inr (List.mem_of_getElem? hk))
    have hw := hC.lt w hwS
    have aW := aH w hw
    have hC2 := hC.pop hgS hk hmin'
    refine ⟨pw, _, _, k, .int (w : Nat), rfl, rfl, lW, by omega, by omega, ?_, ?_, ?_⟩
    · rw [iv_len]
      unfold seqIndex?
      have h0 : ¬ ((k : Int) < 0) := by omega
      have h1 : ((k : Int) < ((wt.length : Nat) : Int)) := by omega
      simp only [if_neg h0, decide_eq_true (show (0 : Int) ≤ (k : Int) by omega), decide_eq_true h1, Bool.and_self, if_true, Int.toNat_natCast]
    · rw [iv_at hk1, List.getD_eq_getElem?_getD, hk]
      rfl
    rw [iv_erase]
    have lW3 : upd H' pw (.lst (iv (wt.eraseIdx k))) pw = some (.lst (iv (wt.eraseIdx k))) := upd_same
    have lD3 : upd H' pw (.lst (iv (wt.eraseIdx k))) d = some (.dK kvs) := by rw [upd_ne dw]; exact lD
    have sH3 : Same H1 (upd H' pw (.lst (iv (wt.eraseIdx k)))) := sH.mut nw1
    generalize upd H' pw (.lst (iv (wt.eraseIdx k))) = H3' at lW3 lD3 sH3 ⊢
    have lH3' := SqL.of (K := K) (sH3 _ _ lH)
    walk_at "sts"
    rw [maxI]
    refine ⟨p, M, w, rfl, hW1.same sH3, hm, fun pq H4 s4 nq lq => ?_⟩
    have pqw : pq ≠ pw := fun z => ne_new lW3 nq z.symm
    have pqd : pq ≠ d := fun z => ne_new lD3 nq z.symm
    walk_at "sts"
    refine for_list (xs := iv ((List.range M.T.length).map fun k => w ^^^ 2 ^ k)) (fun i σ H' => ∃ (S wt : List Nat) (par : Nat → Nat) (kvs : List (Key × V)) (y8 : Option V), σ = [some (.ref p), some (.int s), some (.int g), some (.ref pH), some (.ref d), some (.ref pw), some (.int (max ht (W w) : Nat)), some (.int w), y8] ∧ Same H1 H' ∧ H' pq = some (.lst (iv ((List.range M.T.length).map fun k => w ^^^ 2 ^ k))) ∧ H' d = some (.dK kvs) ∧ H' pw = some (.lst (iv wt)) ∧ Holds kvs S (cameV s par) ∧ Clm W M.T.length s g S par (X ++ [w]) wt (max ht (W w)) (fun x p => x ≠ w ∨ p < i)) ?_ ?_ ?_ ?_
    · exact ⟨S, _, par, kvs, _, rfl, sH3.trans s4, lq, s4 _ _ lD3, s4 _ _ lW3, hK, hC2⟩
    · rintro i σ H' _ ⟨S, wt, par, kvs, y8, _, _, lq, _⟩
      exact SqL.of lq
    · rintro i x σ H' hx ⟨S, wt, par, kvs, y8, rfl, sH, lq, lD, lW, hK, hC⟩
      have hi : i < M.T.length := by
        have := (List.getElem?_eq_some_iff.mp hx).1
        rwa [iv_len, List.length_map, List.length_range] at this
      have hxe : x = .int ((w ^^^ 2 ^ i : Nat) : Int) := by
        rw [iv_at (by rw [List.length_map, List.length_range]; exact hi), List.getD_eq_getElem?_getD, List.getElem?_map, List.getElem?_range hi] at hx
        injection hx with hx
        exact hx.symm
      subst hxe
      walk_at "sts"
      rw [hK.2]
      by_cases hin : w ^^^ 2 ^ i ∈ S
      · rw [if_pos hin]
        refine ifF rfl ?_
        walk_at "sts"
        exact ⟨S, wt, par, kvs, _, rfl, sH, lq, lD, lW, hK, hC.old hin⟩
      · rw [if_neg hin]
        refine ifT rfl ?_
        have hwX : w ∈ X ++ [w] := by simp
        have hxl := hC.xlen
        have hC3 := hC.new hwX hi hin
        have hxl3 := hC3.xlen
        have hKl := hK.1
        have hks : kvs.length < sizeLine := szlt (by omega)
        have hws : (iv wt).length < sizeLine := szlt (by rw [iv_len]; omega)
        have hK3 := hK.came hin (fun z => hin (z ▸ hC.sS)) w
        walk_at "sts"
        exact ⟨S ++ [w ^^^ 2 ^ i], wt ++ [w ^^^ 2 ^ i], _, _, _, rfl, (sH.mut nd).mut nw1, by rw [upd_ne pqw, upd_ne pqd]; exact lq, by rw [upd_ne dw, upd_same], by rw [upd_same, iv_app]; rfl, hK3, hC3⟩
    · rintro σ H' ⟨S', wt', par', kvs', y8, rfl, sH', lq', lD', lW', hK', hC'⟩
      rw [iv_len, List.length_map, List.length_range] at hC'
      exact ⟨_, by rw [List.length_append, List.length_singleton]; omega, S', _, wt', par', _, kvs', _, _, rfl, rfl, sH', lD', lW', hK', hC'.all⟩
end

section
variable {P : Program} {w : World} {K : PySem.W.Frag} {mg : Str → Option Value} {base : Heap} {C_Pull C_Push C_Web C_TooWide C_FloorError C_TooMany C_TooRough : Addr}
def kvSt (S : List Nat) : List (Key × V) := S.map fun x : Nat => ((.inl (x : Int) : Key), V.bl true)
theorem kvSt_val (S : List Nat) (d : Nat) : valV (kvSt S) (.inl (d : Int)) = if d ∈ S then some (.bl true) else none := by
  induction S with
  | nil => rfl
  | cons x S ih =>
    unfold valV kvSt at ih ⊢
    rw [List.map_cons, List.find?_cons]
    by_cases e : d = x
    · subst e; simp
    · have e1 : ¬ ((.inl (x : Int) : Key) = .inl (d : Int)) := fun z => e (by have := Sum.inl.inj z; omega)
      rw [decide_eq_false e1]
      simp only [ih, List.mem_cons, e, false_or]
theorem kvSt_put {S : List Nat} {y : Nat} (h : y ∉ S) : putK (kvSt S) (.inl (y : Int)) (.bl true) = kvSt (S ++ [y]) := by
  have hany : ¬ ((kvSt S).any fun kv => decide (kv.1 = .inl (y : Int))) = true := fun z => by
    rw [List.any_eq_true] at z
    obtain ⟨p, hp, hp2⟩ := z
    obtain ⟨x, hx, rfl⟩ := List.mem_map.mp hp
    have := Sum.inl.inj (of_decide_eq_true hp2)
    exact h (by rw [show y = x by omega]; exact hx)
  unfold putK
  rw [if_neg hany]
  unfold kvSt
  rw [List.map_append]
  rfl
theorem kvSt_keys (S : List Nat) : (kvSt S).map (·.1) = (S.map fun x : Nat => (x : Int)).map Sum.inl := by
  unfold kvSt
  rw [List.map_map, List.map_map]
  rfl
theorem kvSt_len (S : List Nat) : (kvSt S).length = S.length := by unfold kvSt; rw [List.length_map]
theorem perm_nats {ys : List Int} {S : List Nat} (h : ys.Perm (S.map fun x : Nat => (x : Int))) : ∃ ns : List Nat, ys = ns.map (fun x : Nat => (x : Int)) ∧ ns.Perm S := by
  refine ⟨ys.map Int.toNat, ?_, ?_⟩
  · rw [List.map_map]
    conv => lhs; rw [← List.map_id ys]
    refine List.map_congr_left fun y hy => ?_
    obtain ⟨x, _, e⟩ := List.mem_map.mp (h.mem_iff.mp hy)
    show y = ((y.toNat : Nat) : Int)
    omega
  · have := h.map Int.toNat
    rw [List.map_map] at this
    have e : S.map (Int.toNat ∘ fun x : Nat => (x : Int)) = S := by
      conv => rhs; rw [← List.map_id S]
      exact List.map_congr_left fun x _ => Int.toNat_natCast x
    rwa [e] at this
def ttSpread (K : PySem.W.Frag) (CP CQ CW : Addr) : V → V → (V → V → Hp → VK → Prop) → Hp → VK → Prop := fun v1 v2 tl H Q => ∃ (p : Addr) (M : WebM) (s : Nat) (L : Nat → Nat → Bool), v1 = .ref p ∧ v2 = .int s ∧ WebAt K CP CQ CW H p M ∧ M.T.length ≤ 10 ∧ s < 2 ^ M.T.length ∧
  (∀ (x y : Nat) H' Q', x < 2 ^ M.T.length → y < 2 ^ M.T.length → Same H H' → Q' (.bl (L x y)) H' → tl (.int x) (.int y) H' Q') ∧ ∀ q H' ys, Same H H' → New H q → H' q = some (.lst (iv ys)) → SpreadOk M.T.length L s ys → Q (.ref q) H'
theorem gv_spread (B : Bl mg) (h_steps_from : Has P w K mg base CX0 1 "steps_from" ["web", "laying"] (spSteps K C_Pull C_Push C_Web)) : Gives3 P w K mg base 1 ["web", "start", "let", "seen", "waiting", "laying", "other"] "spread" s_spread "let" (ttSpread K C_Pull C_Push C_Web) := by
  intro g cdv A outer s H Q E f v1 v2 tl hr act h
  obtain ⟨p, M, st, L, rfl, rfl, hW, hm, hs, hl, q⟩ := h
  have hN2 : 2 ^ M.T.length ≤ 1024 := Nat.le_trans (Nat.pow_le_pow_right (by decide) hm) (by decide)
  refine ⟨_, (pss_cons (ps_set (i := 3) sc_spread.nd rfl (.inl rfl) (pe_disp (pps_cons (pv 1) pe_bl pps_nil) (by rfl) (by rfl) (fun z => by cases z) (by decide)))
 (pss_cons (ps_set (i := 4) sc_spread.nd rfl (.inl rfl) (pe_lst (pa_cons (pv 1) pa_nil)))
 (pss_cons (ps_while PassesOwn.never (pt_cmpR op_gt (pe_callB (call_lenK K) (by rfl) B.len (by decide +kernel) (pa_cons (pv 4) pa_nil)) pe_int (nomark _)) (pss_cons (ps_set (i := 5) sc_spread.nd rfl (.inl rfl) (pe_bm0K K (pe_bm0 PySem.F.plainAttrs_list PySem.F.slot_list_pop PySem.F.type_list_pop mt_pop (pv 4))))
 (pss_one (ps_for PassesOwn.never rfl (pi_listK K (pe_fn h_steps_from (hr.mono (by decide)) (by rfl) (pa_cons (pv 0) (pa_cons (pv 5) pa_nil)))) (pg_name (i := 6) sc_spread.nd rfl (.inl rfl)) (pss_one (ps_if (PW.pt (pw_and (pt_cmp (pc_dnotin (hu_of hr) (pv 6) (pv 3))) (pw_and1 (pt_val (act _ _ _ _ _ (pa_cons (pv 5) (pa_cons (pv 6) pa_nil)) rfl rfl))))) (pss_cons (ps_dput (hu_of hr) (pv 3) (pv 6) pe_bl rfl)
 (pss_one (ps_expr (pe_bmK K (pe_bm PySem.F.plainAttrs_list PySem.F.slot_list_append PySem.F.type_list_append mt_append (pv 4) (pa_cons (pv 6) pa_nil)))))) pss_nil))))))
 (pss_one (ps_ret (pe_sortedKeys rfl (by rfl) B.sorted (pv 3))))))), ?_⟩
  walk_at "sts"
  refine wd_disp fun d nd => ?_
  refine wd_pc ?_
  walk_at "sts"
  refine wd_pn ?_
  refine ⟨upd_same, [(.inl (st : Int), .bl true)], rfl, by show 1 ≤ 15; decide, ?_⟩
  rw [upd_upd, show mergeK [] [((.inl (st : Int) : Key), V.bl true)] = kvSt [st] from rfl]
  have sd := same_upd (o := .dK (kvSt [st])) nd
  have ld : upd H d (.dK (kvSt [st])) d = some (.dK (kvSt [st])) := upd_same
  generalize upd H d (.dK (kvSt [st])) = H2 at sd ld ⊢
  walk_at "sts"
  refine w_new fun pw nw => ?_
  have sw := same_upd (o := .lst [.int st]) nw
  have lw : upd H2 pw (.lst [.int st]) pw = some (.lst (iv [st])) := upd_same
  have ld := sw _ _ ld
  have nw1 := nw.of sd
  have sdw := sd.trans sw
  have dw : d ≠ pw := ne_new (by assumption) nw
  generalize upd H2 pw (.lst [.int st]) = H3 at sdw sw lw ld ⊢
  walk_at "sts"
  refine ⟨fun k σ H' => ∃ (S X wt : List Nat) (y5 y6 : Option V), σ = [some (.ref p), some (.int st), some (.ref f), some (.ref d), some (.ref pw), y5, y6] ∧ k = 2 ^ M.T.length - X.length ∧ Same H H' ∧ H' d = some (.dK (kvSt S)) ∧ H' pw = some (.lst (iv wt)) ∧ Spr M.T.length L st S X wt (fun _ _ => True), ⟨_, [st], [], [st], _, _, rfl, rfl, sdw, ld, lw, Spr.init hs⟩, ?_⟩
  rintro k σ H' ⟨S, X, wt, y5, y6, rfl, rfl, sH, lD, lW, hC⟩
  have hxl := hC.len
  have lW' := SqL.of (K := K) lW
  walk_at "sts"
  refine ifd (fun h0 => w_wt ?_) (fun h0 => ?_)
  · obtain ⟨wt', w, rfl⟩ : ∃ (wt' : List Nat) (w : Nat), wt = wt' ++ [w] := by
      rcases List.eq_nil_or_concat wt with e | ⟨W', at_, e⟩
      · subst e; exact absurd h0 (by simp [iv])
      · exact ⟨W', at_, by rw [e]; simp⟩
    rw [iv_app] at lW
    have hC2 := hC.pop
    have hwS : w ∈ S := hC.perm.mem_iff.mpr (by simp)
    have hw := hC.lt w hwS
    walk_at "sts"
    refine ⟨pw, _, .int w, rfl, rfl, lW, by simp [iv], ?_⟩
    rw [show (iv wt' ++ iv [w]).dropLast = iv wt' from List.dropLast_concat]
    have s2 : Same H (upd H' pw (.lst (iv wt'))) := sH.mut nw1
    have lD2 : upd H' pw (.lst (iv wt')) d = some (.dK (kvSt S)) := by rw [upd_ne dw]; exact lD
    have lW2 : upd H' pw (.lst (iv wt')) pw = some (.lst (iv wt')) := upd_same
    generalize upd H' pw (.lst (iv wt')) = H4 at s2 lD2 lW2 ⊢
    walk_at "sts"
    refine ⟨p, M, w, rfl, hW.same s2, hm, fun pq H5 s4 nq lq => ?_⟩
    have pqw : pq ≠ pw := fun z => ne_new lW2 nq z.symm
    have pqd : pq ≠ d := fun z => ne_new lD2 nq z.symm
    walk_at "sts"
    refine for_list (xs := iv ((List.range M.T.length).map fun k => w ^^^ 2 ^ k)) (fun i σ H' => ∃ (S wt : List Nat) (y6 : Option V), σ = [some (.ref p), some (.int st), some (.ref f), some (.ref d), some (.ref pw), some (.int w), y6] ∧ Same H H' ∧ H' pq = some (.lst (iv ((List.range M.T.length).map fun k => w ^^^ 2 ^ k))) ∧ H' d = some (.dK (kvSt S)) ∧ H' pw = some (.lst (iv wt)) ∧ Spr M.T.length L st S (X ++ [w]) wt (fun x p => x ≠ w ∨ p < i)) ?_ ?_ ?_ ?_
    · exact ⟨S, _, _, rfl, s2.trans s4, lq, s4 _ _ lD2, s4 _ _ lW2, hC2⟩
    · rintro i σ H' _ ⟨S, wt, y6, _, _, lq, _⟩
      exact SqL.of lq
    · rintro i x σ H' hx ⟨S, wt, y6, rfl, sH, lq, lD, lW, hC⟩
      have hi : i < M.T.length := by
        have := (List.getElem?_eq_some_iff.mp hx).1
        rwa [iv_len, List.length_map, List.length_range] at this
      have hxe : x = .int ((w ^^^ 2 ^ i : Nat) : Int) := by
        rw [iv_at (by rw [List.length_map, List.length_range]; exact hi), List.getD_eq_getElem?_getD, List.getElem?_map, List.getElem?_range hi] at hx
        injection hx with hx
        exact hx.symm
      subst hxe
      walk_at "sts"
      rw [kvSt_val]
      by_cases hin : w ^^^ 2 ^ i ∈ S
      · rw [if_pos hin]
        walk_at "sts"
        refine ifF rfl ?_
        walk_at "sts"
        exact ⟨S, wt, _, rfl, sH, lq, lD, lW, hC.old (.inl hin)⟩
      · rw [if_neg hin]
        refine ifT rfl ?_
        walk_at "sts"
        refine ⟨rfl, ?_⟩
        walk_at "sts"
        refine hl _ _ _ _ hw (turn_lt hw hi) sH ?_
        walk_at "sts"
        refine ifb (fun hb => ?_) (fun hb => ?_)
        · have hwX : w ∈ X ++ [w] := by simp
          have hxl := hC.len
          have hC3 := hC.new hwX hi hin hb
          have hxl3 := hC3.len
          have hks : (kvSt S).length < sizeLine := szlt (by rw [kvSt_len]; omega)
          have hws : (iv wt).length < sizeLine := szlt (by rw [iv_len]; omega)
          walk_at "sts"
          rw [kvSt_put hin]
          exact ⟨S ++ [w ^^^ 2 ^ i], wt ++ [w ^^^ 2 ^ i], _, rfl, (sH.mut nd).mut nw1, by rw [upd_ne pqw, upd_ne pqd]; exact lq, by rw [upd_ne dw, upd_same], by rw [upd_same, iv_app]; rfl, hC3⟩
        · walk_at "sts"
          exact ⟨S, wt, _, rfl, sH, lq, lD, lW, hC.old (.inr hb)⟩
    · rintro σ H' ⟨S', wt2, y6, rfl, sH', lq', lD', lW', hC'⟩
      rw [iv_len, List.length_map, List.length_range] at hC'
      have := hC'.len
      rw [List.length_append, List.length_singleton] at this
      exact ⟨_, by rw [List.length_append, List.length_singleton]; omega, S', _, wt2, _, _, rfl, rfl, sH', lD', lW', hC'.all⟩
  · have : wt = [] := List.length_eq_zero_iff.mp (by rw [iv_len] at h0; omega)
    subst this
    walk_at "sts"
    refine w_sortK ?_
    walk_at "sts"
    refine ⟨d, kvSt S, S.map fun x : Nat => (x : Int), rfl, lD, kvSt_keys S, fun ys pq hp hu nq => ?_⟩
    obtain ⟨ns, rfl, hns⟩ := perm_nats hp
    refine q pq _ ns (sH.trans (same_upd nq)) ((show New _ pq from nq).of sH) (by rw [upd_same]; unfold iv; rw [List.map_map]; rfl) (hC.done hns ?_)
    rw [List.pairwise_map] at hu
    exact hu.imp fun {a b} z => Int.ofNat_le.mp z
end

def qLam (x : Str) : Str := (x ++ ".<locals>.") ++ "<lambda>"
theorem webNoT {K : PySem.W.Frag} {CP CQ CW : Addr} {H : Hp} {p : Addr} {M : WebM} (h : WebAt K CP CQ CW H p M) : WebAt K CP CQ CW (noT H) p M := by
  obtain ⟨dx, a, b, c, d, xs, h1, ⟨ps, h2, h3⟩, h4, h5, h6, h7⟩ := h.at_
  refine ⟨dx, a, b, c, d, xs, noT_at h1 (fun _ z => by cases z), ⟨ps, noT_seqL h2, h3.1, fun i p t e1 e2 => ?_⟩, dpNoT _ _ h4, dpNoT _ _ h5, noT_seqL h6, dpNoTAll _ _ h7⟩
  obtain ⟨dx, e⟩ := h3.2 i p t e1 e2
  exact ⟨dx, noT_at e (fun _ z => by cases z)⟩
theorem w_lam3 {T : List (Addr × Str)} {TT : V → V → (V → V → Hp → VK → Prop) → Hp → VK → Prop} {q : Str} {t1 t2 t : TE} {σ : L2.St} {H : Hp} {Q : VK}
    (h : t1 σ H fun v1 H1 => t2 σ H1 fun v2 H2 => LamX.Tabs T H2 ∧ ∀ H3 c', LamX.ExtN H2 H3 → LamX.Tabs T H3 → H3 c' = some (LamX.CodeO c' q) → TT v1 v2 (fun u1 u2 H' Q' => H' c' = some (LamX.CodeO c' q) ∧ t (some u1 :: some u2 :: σ) H' Q') H3 Q) : tLam3 T TT q t1 t2 t σ H Q := h
theorem noT_same {H H' : Hp} (s : Same H H') : Same (noT H) (noT H') := fun b o z => noT_at (s _ _ (noT_le b o z)) fun ps e => by
  subst e
  unfold noT at z
  split at z
  · cases z
  · rename_i n
    exact n _ z
section
variable {P : Program} {w : World} {K : PySem.W.Frag} {mg : Str → Option Value} {base : Heap} {C_Pull C_Push C_Web C_TooWide C_FloorError C_TooMany C_TooRough : Addr}
def fallL (ts : List Ti) (x y : Nat) : Bool := decide (wm ts y ts.length ≤ wm ts x ts.length)
def shoreL (ts : List Ti) (h : Int) (_ y : Nat) : Bool := decide (((wm ts y ts.length : Nat) : Int) < h)
def spFallsX (K : PySem.W.Frag) (CP CQ CW CT : Addr) (Tb : List (Addr × Str)) : Sp := fun vs H Q E => ∃ (p : Addr) (M : WebM) (s : Nat), vs = [.ref p, .int s] ∧ WebAt K CP CQ CW H p M ∧ (10 < M.T.length → E (.ref CT) none H) ∧ (M.T.length ≤ 10 → s < 2 ^ M.T.length) ∧ LamX.Tabs Tb H ∧
  ∀ q H' ys, M.T.length ≤ 10 → Same (noT H) H' → New (noT H) q → LamX.Tabs Tb H' → H' q = some (.lst (iv ys)) → SpreadOk M.T.length (fallL M.ts) s ys → Q (.ref q) H'
theorem ok_falls {f : Addr} {fd : FuncData} {C_Pull C_Push C_Web C_TooWide C_FloorError C_TooMany C_TooRough : Addr} (T : Txt K mg C_Pull C_Push C_Web C_TooWide C_FloorError C_TooMany C_TooRough) (h_worths_told : Has P w K mg base (L2.CX P w) 5 "worths_told" ["web"] (spToldX K C_Pull C_Push C_Web C_TooWide)) {g_spread : Addr} {fd_spread : FuncData} (F_spread : Fun K "spread" "spread" s_spread g_spread fd_spread) (m_spread : mg "spread" = some (.ref g_spread)) (h_spread : Gives3 P w K mg base 1 ["web", "start", "let", "seen", "waiting", "laying", "other"] "spread" s_spread "let" (ttSpread K C_Pull C_Push C_Web)) {c_ P_ : Addr} (TB : LamX.TabB base mg c_ P_) {Tb : List (Addr × Str)} (hmT : (P_, qLam "falls") ∈ Tb) (hu : ∀ p ∈ Tb, p.1 = P_ → p.2 = qLam "falls") (F : FunL K "falls" "falls" s_falls f fd c_) (gf : mg "falls" = some (.ref f)) (B : Bl mg) : Has P w K mg base (L2.CX P w) 6 "falls" ["web", "start"] (spFallsX K C_Pull C_Push C_Web C_TooWide Tb) := by
  refine Has.mkLX F gf (F.fun.binds (ps := ["web", "start"]) fun _ _ _ _ _ _ us hl => match us, hl with | [_, _], _ => rfl) sc_falls (by walk_at "len") (fun A outer s H vs Q E hr h => ?_)
  obtain ⟨p, M, st, rfl, hW, qe, hs0, hT, q⟩ := h
  refine ⟨_, (pss_cons (ps_set (i := 2) sc_falls.nd rfl (.inr rfl) (pe_fnS (takes_of rfl rfl rfl rfl) h_worths_told (hr.mono (by decide)) (by rfl) (pa_cons (pv 0) pa_nil)))
 (pss_one (ps_ret (pe_lam3 (a := "let") (a1 := "laying") (a2 := "other") F_spread (by rfl) m_spread (F_spread.binds (ps := ["web", "start", "let"]) fun _ _ _ _ _ _ us hl => match us, hl with | [_, _, _], _ => rfl) sc_spread (by rfl) (.inl rfl) h_spread TB rfl hmT hu (hr.mono (by decide)) (lamT_by (sc := defScope s_falls) (N := ["web", "start", "heights"]) (by decide +kernel)) (by rfl) (fun _ _ _ _ _ _ _ => by rfl) (fun _ _ _ _ _ _ _ => (pe_cmpR op_le (pe_ix (ix_listK K) (pv 4) (pv 1) (fun _ _ => rfl)) (pe_ix (ix_listK K) (pv 4) (pv 0) (fun _ _ => rfl)) (nomark _))) (pv 0) (pv 1))))), ?_⟩
  walk_at "sts"
  refine ⟨p, M, rfl, hW, qe, fun pH H1 hm s1 nH lH => ?_⟩
  have hs := hs0 hm
  have hW1 := webNoT (hW.same s1)
  have hT1 := hT.ext s1
  walk_at "sts"
  refine w_lam3 ?_
  walk_at "sts"
  refine ⟨hT1, fun H3 c' eN T3 hc => ?_⟩
  have e3 := noT_ext eN
  have lH3 := e3 _ _ (noT_at lH (fun _ z => by cases z))
  refine ⟨p, M, st, fallL M.ts, rfl, rfl, hW1.same e3, hm, hs, fun x y H' Q' hx hy sH hq => ⟨sH _ _ hc, ?_⟩, fun q' H' ys s4 nq lq ok => ?_⟩
  · have lH4 := SqL.of (K := K) (sH _ _ lH3)
    have a1 := wms_at (ts := M.ts) hx
    have a2 := wms_at (ts := M.ts) hy
    walk_at "sts"
    refine iff_of_eq ?_ |>.mp hq
    unfold fallL
    congr 2
    exact decide_eq_decide.mpr Int.ofNat_le.symm
  · have g := noT_same s1
    exact q q' H' ys hm (g.trans (e3.trans s4)) ((show New _ q' from nq).of (g.trans e3)) (T3.ext s4) lq ok
def spShoreX (K : PySem.W.Frag) (CP CQ CW CT : Addr) (Tb : List (Addr × Str)) : Sp := fun vs H Q E => ∃ (p : Addr) (M : WebM) (s : Nat) (ht : Int), vs = [.ref p, .int s, .int ht] ∧ WebAt K CP CQ CW H p M ∧ (10 < M.T.length → E (.ref CT) none H) ∧ (M.T.length ≤ 10 → s < 2 ^ M.T.length) ∧ LamX.Tabs Tb H ∧
  ∀ q H' ys, M.T.length ≤ 10 → Same (noT H) H' → New (noT H) q → LamX.Tabs Tb H' → H' q = some (.lst (iv ys)) → (ht ≤ ((wm M.ts s M.ts.length : Nat) : Int) → ys = []) → (((wm M.ts s M.ts.length : Nat) : Int) < ht → SpreadOk M.T.length (shoreL M.ts ht) s ys) → Q (.ref q) H'
theorem ok_shore {f : Addr} {fd : FuncData} {C_Pull C_Push C_Web C_TooWide C_FloorError C_TooMany C_TooRough : Addr} (T : Txt K mg C_Pull C_Push C_Web C_TooWide C_FloorError C_TooMany C_TooRough) (h_worths_told : Has P w K mg base (L2.CX P w) 5 "worths_told" ["web"] (spToldX K C_Pull C_Push C_Web C_TooWide)) {g_spread : Addr} {fd_spread : FuncData} (F_spread : Fun K "spread" "spread" s_spread g_spread fd_spread) (m_spread : mg "spread" = some (.ref g_spread)) (h_spread : Gives3 P w K mg base 1 ["web", "start", "let", "seen", "waiting", "laying", "other"] "spread" s_spread "let" (ttSpread K C_Pull C_Push C_Web)) {c_ P_ : Addr} (TB : LamX.TabB base mg c_ P_) {Tb : List (Addr × Str)} (hmT : (P_, qLam "shore") ∈ Tb) (hu : ∀ p ∈ Tb, p.1 = P_ → p.2 = qLam "shore") (F : FunL K "shore" "shore" s_shore f fd c_) (gf : mg "shore" = some (.ref f)) (B : Bl mg) : Has P w K mg base (L2.CX P w) 6 "shore" ["web", "start", "height"] (spShoreX K C_Pull C_Push C_Web C_TooWide Tb) := by
  refine Has.mkLX F gf (F.fun.binds (ps := ["web", "start", "height"]) fun _ _ _ _ _ _ us hl => match us, hl with | [_, _, _], _ => rfl) sc_shore (by walk_at "len") (fun A outer s H vs Q E hr h => ?_)
  obtain ⟨p, M, st, ht, rfl, hW, qe, hs0, hT, q⟩ := h
  refine ⟨_, (pss_cons (ps_set (i := 3) sc_shore.nd rfl (.inr rfl) (pe_fnS (takes_of rfl rfl rfl rfl) h_worths_told (hr.mono (by decide)) (by rfl) (pa_cons (pv 0) pa_nil)))
 (pss_cons (ps_if (pt_cmpR op_ge (pe_ix (ix_listK K) (pv 3) (pv 1) (fun _ _ => rfl)) (pv 2) (nomark _)) (pss_one (ps_ret (pe_lst pa_nil))) pss_nil)
 (pss_one (ps_ret (pe_lam3 (a := "let") (a1 := "laying") (a2 := "other") F_spread (by rfl) m_spread (F_spread.binds (ps := ["web", "start", "let"]) fun _ _ _ _ _ _ us hl => match us, hl with | [_, _, _], _ => rfl) sc_spread (by rfl) (.inl rfl) h_spread TB rfl hmT hu (hr.mono (by decide)) (lamT_by (sc := defScope s_shore) (N := ["web", "start", "height", "heights"]) (by decide +kernel)) (by rfl) (fun _ _ _ _ _ _ _ => by rfl) (fun _ _ _ _ _ _ _ => (pe_cmpR op_lt (pe_ix (ix_listK K) (pv 5) (pv 1) (fun _ _ => rfl)) (pv 4) (nomark _))) (pv 0) (pv 1)))))), ?_⟩
  walk_at "sts"
  refine ⟨p, M, rfl, hW, qe, fun pH H1 hm s1 nH lH => ?_⟩
  have hs := hs0 hm
  have hW1 := webNoT (hW.same s1)
  have hT1 := hT.ext s1
  have g := noT_same s1
  have a0 := wms_at (ts := M.ts) hs
  have lH1 := SqL.of (K := K) lH
  walk_at "sts"
  refine ifd (fun hc => ?_) (fun hc => ?_)
  · walk_at "sts"
    refine w_new fun q' nq => ?_
    exact q q' _ [] hm (g.trans (noT_le.trans (same_upd nq))) ((show New _ q' from nq).of (g.trans noT_le)) (hT1.ext (same_upd nq)) upd_same (fun _ => rfl) (fun z => absurd hc (by omega))
  walk_at "sts"
  refine w_lam3 ?_
  walk_at "sts"
  refine ⟨hT1, fun H3 c' eN T3 hcc => ?_⟩
  have e3 := noT_ext eN
  have lH3 := e3 _ _ (noT_at lH (fun _ z => by cases z))
  refine ⟨p, M, st, shoreL M.ts ht, rfl, rfl, hW1.same e3, hm, hs, fun x y H' Q' hx hy sH hq => ⟨sH _ _ hcc, ?_⟩, fun q' H' ys s4 nq lq ok => ?_⟩
  · have lH4 := SqL.of (K := K) (sH _ _ lH3)
    have a2 := wms_at (ts := M.ts) hy
    walk_at "sts"
    exact hq
  · exact q q' H' ys hm (g.trans (e3.trans s4)) ((show New _ q' from nq).of (g.trans e3)) (T3.ext s4) lq (fun z => absurd z (by omega)) (fun _ => ok)
end

/-! ### rows of places -/
def rowTi (c : Int) (k : Nat) : Ti := ⟨false, k, k + 1, (1 + (c + k) % 9).toNat⟩
def rowTs (c : Int) (n : Nat) : List Ti := (List.range n).map (rowTi c)
def rowTn (n : Nat) : Turns := [0] :: ((List.range (n - 1)).map (fun k => [k, k + 1]) ++ [[n - 1]])
theorem rowTs_len (c : Int) (n : Nat) : (rowTs c n).length = n := by unfold rowTs; rw [List.length_map, List.length_range]
theorem rowTn_len {n : Nat} (h : 1 ≤ n) : (rowTn n).length = n + 1 := by
  unfold rowTn
  rw [List.length_cons, List.length_append, List.length_map, List.length_range]
  show n - 1 + 1 + 1 = n + 1
  omega
theorem rowTs_at (c : Int) {n i : Nat} (h : i < n) : ti (rowTs c n) i = rowTi c i := by
  unfold ti rowTs
  rw [List.getD_eq_getElem?_getD, List.getElem?_map, List.getElem?_range h]
  rfl
theorem rowTi_s (c : Int) (k : Nat) : 1 ≤ (rowTi c k).s ∧ (rowTi c k).s ≤ 9 := by
  show 1 ≤ (1 + (c + k) % 9).toNat ∧ (1 + (c + k) % 9).toNat ≤ 9
  omega
theorem rowTi_sI (c : Int) (k : Nat) : (((rowTi c k).s : Nat) : Int) = 1 + (c + k) % 9 := by
  show (((1 + (c + k) % 9).toNat : Nat) : Int) = _
  omega
theorem row_hang {E : EdgL} {T : Turns} (h : Flat E T) (h2 : 2 ≤ T.length) {p j : Nat} (hp : p < T.length) (hr : row T p = [j]) (flip : Bool) : Flat (E ++ [newE flip p T.length]) (T.set p [j, E.length] ++ [[E.length]]) := by
  have hj := (h.ok.mem p hp j).mp (by rw [hr]; simp)
  obtain ⟨left, hl, hhd, hhalf⟩ : ∃ left, left < 2 * E.length ∧ hd E left = p ∧ left / 2 = j := by
    rcases hj.2 with e | e
    · exact ⟨2 * j + 1, by omega, by unfold hd; rw [if_neg (by omega), show (2 * j + 1) / 2 = j by omega, e], by omega⟩
    · exact ⟨2 * j, by omega, by unfold hd; rw [if_pos (by omega), show 2 * j / 2 = j by omega, e], by omega⟩
  have hf := h.leaf hl flip
  rw [hhd, hhalf] at hf
  have e : putBehind T p j E.length = T.set p [j, E.length] := by
    unfold putBehind putAt
    rw [hr]
    have e1 : List.idxOf j [j] = 0 := by simp
    rw [e1]
    rfl
  rw [e] at hf
  exact hf
theorem row_flat (c : Int) : ∀ n, Flat (endsOf (rowTs c (n + 1))) (rowTn (n + 1))
  | 0 => flat0
  | n + 1 => by
    have ih := row_flat c n
    have hl := rowTn_len (n := n + 1) (by omega)
    have hr : row (rowTn (n + 1)) (n + 1) = [n] := by
      unfold rowTn row
      rw [List.getD_eq_getElem?_getD, List.getElem?_cons_succ, List.getElem?_append_right (by rw [List.length_map, List.length_range]; omega), List.length_map, List.length_range]
      simp
    have hf := row_hang ih (by omega) (p := n + 1) (by omega) hr false
    rw [endsOf_len, rowTs_len, hl] at hf
    have e1 : endsOf (rowTs c (n + 1 + 1)) = endsOf (rowTs c (n + 1)) ++ [newE false (n + 1) (n + 1 + 1)] := by
      unfold endsOf rowTs
      rw [List.range_succ, List.map_append, List.map_append]
      rfl
    have e2 : rowTn (n + 1 + 1) = (rowTn (n + 1)).set (n + 1) [n, n + 1] ++ [[n + 1]] := by
      unfold rowTn
      rw [List.set_cons_succ, List.set_append, if_neg (by rw [List.length_map, List.length_range]; omega), List.length_map, List.length_range]
      simp [List.range_succ]
    rw [e1, e2]
    exact hf
theorem row_unp (c : Int) (k l : Nat) : unp (rowTi c k) l = !(l.testBit k == l.testBit (k + 1)) := by
  unfold unp rowTi
  cases (l.testBit k == l.testBit (k + 1)) <;> rfl
theorem row_wm0 (c : Int) (n : Nat) : ∀ k, k ≤ n → wm (rowTs c n) 0 k = 0
  | 0, _ => rfl
  | k + 1, h => by
    unfold wm
    rw [row_wm0 c n k (by omega), rowTs_at c (by omega), row_unp]
    simp
theorem wm_ge {ts : List Ti} {l i : Nat} (h : unp (ti ts i) l = true) : ∀ n, i < n → (ti ts i).s ≤ wm ts l n
  | 0, hi => absurd hi (by omega)
  | n + 1, hi => by
    unfold wm
    by_cases e : i = n
    · subst e; rw [if_pos h]; omega
    · have := wm_ge h n (by omega)
      omega
theorem row_turn (c : Int) {n k : Nat} (hn : 1 ≤ n) (hk : k ≤ n) : 1 ≤ wm (rowTs c n) (0 ^^^ 2 ^ k) n := by
  rw [Nat.zero_xor]
  by_cases h : k < n
  · refine Nat.le_trans ?_ (wm_ge (i := k) ?_ n h)
    · rw [rowTs_at c h]; exact (rowTi_s c k).1
    · rw [rowTs_at c h, row_unp, Nat.testBit_two_pow, Nat.testBit_two_pow]
      simp
  · have e : k = n := by omega
    refine Nat.le_trans ?_ (wm_ge (i := n - 1) ?_ n (by omega))
    · rw [rowTs_at c (by omega)]; exact (rowTi_s c _).1
    · rw [rowTs_at c (by omega), row_unp, Nat.testBit_two_pow, Nat.testBit_two_pow]
      have e1 : ¬ k = n - 1 := by omega
      have e2 : k = n - 1 + 1 := by omega
      simp [e1, e2]
theorem wm_sum (ts : List Ti) (l : Nat) : ∀ n, n ≤ ts.length → wm ts l n ≤ ((ts.take n).map (·.s)).sum
  | 0, _ => Nat.le_refl _
  | n + 1, h => by
    have ih := wm_sum ts l n (by omega)
    have e : ts.take (n + 1) = ts.take n ++ [ti ts n] := by
      rw [List.take_add_one]
      unfold ti
      rw [List.getD_eq_getElem?_getD, List.getElem?_eq_getElem (show n < ts.length by omega)]
      rfl
    rw [e, List.map_append, List.sum_append]
    unfold wm
    show _ ≤ _ + ((ti ts n).s + 0)
    split <;> omega
/-- nothing is let but the start -/
theorem SpreadOk.one {m s : Nat} {L : Nat → Nat → Bool} {ys : List Nat} (h : SpreadOk m L s ys) (n : ∀ p, p < m → L s (s ^^^ 2 ^ p) = false) : ys = [s] := by
  have key : ∀ x, RL m L s x → x = s := fun x hx => by
    induction hx with
    | refl => rfl
    | step _ hp hl ih =>
      rw [ih, n _ hp] at hl
      cases hl
  refine sorted_eq h.up (by simp) fun a => ?_
  rw [h.mem]
  constructor
  · intro z; rw [key a z]; simp
  · intro z; rw [List.mem_singleton.mp z]; exact .refl
/-- all is let -/
theorem SpreadOk.all {m s : Nat} {L : Nat → Nat → Bool} {ys : List Nat} (h : SpreadOk m L s ys) (hs : s < 2 ^ m) (n : ∀ x y, x < 2 ^ m → y < 2 ^ m → L x y = true) : ys = List.range (2 ^ m) := by
  have key : ∀ (l : List Nat) (x y : Nat), RL m L s x → x < 2 ^ m → Way m x l y → RL m L s y := by
    intro l
    induction l with
    | nil => intro x y hx _ hw; cases hw; exact hx
    | cons a l ih =>
      intro x y hx hxl ⟨⟨p, hp, e⟩, hw⟩
      subst e
      have hl := turn_lt hxl hp
      exact ih _ y (hx.step hp (n _ _ hxl hl)) hl hw
  refine sorted_eq h.up List.pairwise_lt_range fun a => ?_
  rw [List.mem_range]
  constructor
  · exact h.lt a
  · intro z
    obtain ⟨l, hw⟩ := way_all hs z
    exact (h.mem a).mpr (key l s a .refl hs hw)
/-- a step's climb -/
theorem ClimbOk.step {W : Nat → Nat} {m s p h : Nat} {l : List Nat} (k : ClimbOk W m s (s ^^^ 2 ^ p) h l) (hp : p < m) : h = max (W s) (W (s ^^^ 2 ^ p)) := by
  have h1 := k.le s List.mem_cons_self
  have h2 := k.le _ k.way.end_
  have h3 := k.min (max (W s) (W (s ^^^ 2 ^ p))) ⟨[s ^^^ 2 ^ p], ⟨⟨p, hp, rfl⟩, rfl⟩, fun z hz => by
    rcases List.mem_cons.mp hz with e | e
    · rw [e]; exact Nat.le_max_left _ _
    · rw [List.mem_singleton.mp e]; exact Nat.le_max_right _ _⟩
  omega
/-- the layings that rest -/
def rests (ts : List Ti) (m n : Nat) : List Nat := (List.range n).filter fun x => (List.range m).all fun k => decide (wm ts x ts.length ≤ wm ts (x ^^^ 2 ^ k) ts.length)
theorem filter_snoc (p : Nat → Bool) (n : Nat) : (List.range (n + 1)).filter p = if p n = true then (List.range n).filter p ++ [n] else (List.range n).filter p := by
  rw [List.range_succ, List.filter_append]
  by_cases e : p n = true
  · rw [if_pos e, List.filter_cons_of_pos e]
    rfl
  · rw [if_neg e, List.filter_cons_of_neg e, List.filter_nil, List.append_nil]
theorem rests_succ (ts : List Ti) (m n : Nat) : rests ts m (n + 1) = if ((List.range m).all fun k => decide (wm ts n ts.length ≤ wm ts (n ^^^ 2 ^ k) ts.length)) = true then rests ts m n ++ [n] else rests ts m n := filter_snoc _ n
theorem rests_len (ts : List Ti) (m n : Nat) : (rests ts m n).length ≤ n := by
  have := List.length_filter_le (fun x => (List.range m).all fun k => decide (wm ts x ts.length ≤ wm ts (x ^^^ 2 ^ k) ts.length)) (List.range n)
  rw [List.length_range] at this
  exact this

section
variable {P : Program} {w : World} {K : PySem.W.Frag} {mg : Str → Option Value} {base : Heap} {C_Pull C_Push C_Web C_TooWide C_FloorError C_TooMany C_TooRough : Addr}
def spRest (K : PySem.W.Frag) (CP CQ CW CT : Addr) : Sp := fun vs H Q E => ∃ (p : Addr) (M : WebM), vs = [.ref p] ∧ WebAt K CP CQ CW H p M ∧ (10 < M.T.length → E (.ref CT) none H) ∧ ∀ q H', M.T.length ≤ 10 → Same H H' → New H q → H' q = some (.lst (iv (rests M.ts M.T.length (2 ^ M.T.length)))) → Q (.ref q) H'
theorem ok_resting {f : Addr} {fd : FuncData} (F : Fun K "resting" "resting" s_resting f fd) (gf : mg "resting" = some (.ref f)) (B : Bl mg) {C_Pull C_Push C_Web C_TooWide C_FloorError C_TooMany C_TooRough : Addr} (T : Txt K mg C_Pull C_Push C_Web C_TooWide C_FloorError C_TooMany C_TooRough) (h_worths_told : Has P w K mg base (L2.CX P w) 5 "worths_told" ["web"] (spToldX K C_Pull C_Push C_Web C_TooWide)) (h_steps_from : Has P w K mg base CX0 1 "steps_from" ["web", "laying"] (spSteps K C_Pull C_Push C_Web)) : Has P w K mg base (L2.CX P w) 6 "resting" ["web"] (spRest K C_Pull C_Push C_Web C_TooWide) := by
  refine Has.mkX F gf (F.binds (ps := ["web"]) fun _ _ _ _ _ _ us hl => match us, hl with | [_], _ => rfl) sc_resting (by walk_at "len") (fun cdv A outer s H vs Q E hr h => ?_)
  obtain ⟨p, M, rfl, hW, qe, q⟩ := h
  refine ⟨_, (pss_cons (ps_set (i := 1) sc_resting.nd rfl (.inr rfl) (pe_fnS (takes_of rfl rfl rfl rfl) h_worths_told (hr.mono (by decide)) (by rfl) (pa_cons (pv 0) pa_nil)))
 (pss_cons (ps_set (i := 2) sc_resting.nd rfl (.inl rfl) (pe_lst pa_nil))
 (pss_cons (ps_for (passes_of rfl) rfl (pi_range1 (by rfl) B.range (pa_cons (pe_op op_shlW pe_int (pe_fldK K (pv 0) rfl)) pa_nil)) (pg_name (i := 3) sc_resting.nd rfl (.inr rfl)) (pss_one (ps_if (pt_val (pe_callB (cr_allK K rfl) (by rfl) B.all (by decide +kernel) (pa_cons (pe_lc (own := [("other", 4)]) rfl sc_resting.nd (pi_listK K (pe_fn h_steps_from (hr.mono (by decide)) (by rfl) (pa_cons (pv 0) (pa_cons (pv 3) pa_nil)))) (blkOk_by (own := [("other", 4)]) (N := ["web", "heights", "found", "laying", "other"]) (sc := defScope s_resting) (by decide +kernel)) (fun _ _ _ _ _ => pg_name (i := 4) sc_resting.nd rfl (Or.inl rfl)) (fun _ _ _ _ _ => pts_nil) (fun _ _ _ _ _ => (pe_cmpR op_ge (pe_ix (ix_listK K) (pv 1) (pv 4) (fun _ _ => rfl)) (pe_ix (ix_listK K) (pv 1) (pv 3) (fun _ _ => rfl)) (nomark _)))) pa_nil))) (pss_one (ps_expr (pe_bmK K (pe_bm PySem.F.plainAttrs_list PySem.F.slot_list_append PySem.F.type_list_append mt_append (pv 2) (pa_cons (pv 3) pa_nil))))) pss_nil)))
 (pss_one (ps_ret (pv 2)))))), ?_⟩
  walk_at "sts"
  refine ⟨p, M, rfl, hW, qe, fun pH H1 hm s1 nH lH => ?_⟩
  have hW1 := hW.same s1
  obtain ⟨N, hN, hN2⟩ : ∃ N : Nat, 2 ^ M.T.length = N ∧ N ≤ 65536 := ⟨_, rfl, Nat.le_trans (Nat.pow_le_pow_right (by decide) hm) (by decide)⟩
  rw [hN] at q
  obtain ⟨dx, a, b, c, d, xs, hp, _⟩ := id hW1.at_
  have aH : ∀ x, x < N → (wms M.ts (2 ^ M.T.length))[x]? = some (.int (wm M.ts x M.ts.length : Nat)) := fun x hx => wms_at (by omega)
  walk_at "sts"
  refine w_new fun D nD => ?_
  have sD := same_upd (o := .lst ([] : List V)) nD
  have lD : upd H1 D (.lst []) D = some (.lst (iv (rests M.ts M.T.length 0))) := upd_same
  have nD0 := nD.of s1
  generalize upd H1 D (.lst []) = H2 at sD lD ⊢
  walk_at "sts"
  refine w_fld (sD _ _ hp) T.cl_Web T.n_Web_many (wf_many _ _ _ _ _) ?_
  walk_at "sts"
  rw [shl_one, hN]
  refine ⟨by omega, by omega, ?_⟩
  refine for_r0 (n := N) rfl (fun i σ H' => ∃ (y3 y4 : Option V), σ = [some (.ref p), some (.ref pH), some (.ref D), y3, y4] ∧ Same H1 H' ∧ H' D = some (.lst (iv (rests M.ts M.T.length i)))) ?_ ?_ ?_
  · exact ⟨_, _, rfl, sD, lD⟩
  · rintro i σ H' hi ⟨y3, y4, rfl, sH, lD⟩
    have hW' := hW1.same sH
    have lH' := SqL.of (K := K) (sH _ _ lH)
    have hrl := rests_len M.ts M.T.length i
    walk_at "sts"
    refine ⟨p, M, i, rfl, hW', hm, fun pq H3 s3 nq lq => ?_⟩
    have lq3 := SqL.of (K := K) lq
    walk_at "sts"
    intro D2 nD2
    refine lc_list (xs := iv ((List.range M.T.length).map fun k => i ^^^ 2 ^ k)) (fun k H' => H' D2 = some (.lst (((List.range k).map fun k => decide (wm M.ts i M.ts.length ≤ wm M.ts (i ^^^ 2 ^ k) M.ts.length)).map V.bl)) ∧ Same H3 H') ?_ ?_ ?_ ?_
    · exact ⟨upd_same, same_upd nD2⟩
    · rintro k H' _ ⟨_, s4⟩
      exact s4.seq lq3
    · rintro k x H' hx ⟨l4, s4⟩
      have hk : k < M.T.length := by
        have := (List.getElem?_eq_some_iff.mp hx).1
        rwa [iv_len, List.length_map, List.length_range] at this
      have hxe : x = .int ((i ^^^ 2 ^ k : Nat) : Int) := by
        rw [iv_at (by rw [List.length_map, List.length_range]; exact hk), List.getD_eq_getElem?_getD, List.getElem?_map, List.getElem?_range hk] at hx
        injection hx with hx
        exact hx.symm
      subst hxe
      have lH4 := (s3.trans s4).seq lH'
      have a1 := aH i hi
      have a2 := aH (i ^^^ 2 ^ k) (by rw [← hN]; exact turn_lt (by omega) hk)
      walk_at "sts"
      refine ⟨_, l4, szlt (by rw [List.length_map, List.length_map, List.length_range]; omega), ?_, s4.mut nD2⟩
      rw [upd_same, List.range_succ, List.map_append, List.map_append]
      congr 3
      show [V.bl _] = [V.bl _]
      congr 2
      exact decide_eq_decide.mpr (by omega)
    · rintro H4 ⟨l4, s4⟩
      rw [iv_len, List.length_map, List.length_range] at l4
      walk_at "sts"
      refine ⟨D2, _, rfl, SqL.of l4, ?_⟩
      have e1 : ((List.range M.T.length).map fun k => decide (wm M.ts i M.ts.length ≤ wm M.ts (i ^^^ 2 ^ k) M.ts.length)).all id = (List.range M.T.length).all fun k => decide (wm M.ts i M.ts.length ≤ wm M.ts (i ^^^ 2 ^ k) M.ts.length) := by
        rw [List.all_map]; rfl
      rw [e1]
      have sA : Same H1 H4 := sH.trans (s3.trans s4)
      have lD4 := s4 _ _ (s3 _ _ lD)
      have hrs := rests_succ M.ts M.T.length i
      walk_at "sts"
      refine ifb (fun h1 => ?_) (fun h1 => ?_)
      · rw [if_pos h1] at hrs
        have hsz : (iv (rests M.ts M.T.length i)).length < sizeLine := szlt (by rw [iv_len]; omega)
        walk_at "sts"
        exact ⟨_, _, rfl, sA.mut nD, by rw [upd_same, hrs, iv_app]; rfl⟩
      · rw [if_neg (by rw [h1]; decide)] at hrs
        walk_at "sts"
        exact ⟨_, _, rfl, sA, by rw [hrs]; exact lD4⟩
  · rintro σ H' ⟨y3, y4, rfl, sH, lD⟩
    walk_at "sts"
    exact q D H' hm (s1.trans sH) nD0 lD
end

/-! ### lists whose members stand beside them -/
theorem wo_self {H : Hp} {D : Addr} (h : H D = none) : wo H D = H := by
  funext b
  by_cases e : b = D
  · subst e; rw [h]; exact if_pos rfl
  · exact if_neg e
def GrD (K : PySem.W.Frag) (H : Hp) (D : Addr) (ds : List PyData) : Prop := ∃ xs, H D = some (.lst xs) ∧ DpAll K (wo H D) xs ds
theorem GrD.new {K : PySem.W.Frag} {H : Hp} {D : Addr} : GrD K (upd H D (.lst [])) D [] := ⟨[], upd_same, .nil⟩
theorem GrD.same {K : PySem.W.Frag} {H H' : Hp} {D : Addr} {ds : List PyData} (h : GrD K H D ds) (e : Same H H') : GrD K H' D ds := by
  obtain ⟨xs, h1, h2⟩ := h
  exact ⟨xs, e _ _ h1, h2.same (wo_mono e)⟩
theorem GrD.dp {K : PySem.W.Frag} {H : Hp} {D : Addr} {ds : List PyData} (h : GrD K H D ds) : Dp K H (.ref D) (.list ds) := by
  obtain ⟨xs, h1, h2⟩ := h
  exact .lst (SqL.of h1) (h2.same wo_same)
/-- put at the end, the list laid aside while the member was made -/
theorem GrD.put {K : PySem.W.Frag} {H H' : Hp} {D : Addr} {ds : List PyData} {d : PyData} {v : V} {xs : List V} (h : DpAll K (wo H D) xs ds) (e : Same (wo H D) H') (n : H' D = none) (hv : Dp K H' v d) {o : HO} : GrD K (upd (upd H' D o) D (.lst (xs ++ [v]))) D (ds ++ [d]) := by
  refine ⟨xs ++ [v], upd_same, ?_⟩
  rw [wo_eq, wo_eq, wo_self n]
  exact dpaApp (h.same e) (.cons hv .nil)
/-- put at the end -/
theorem GrD.push {K : PySem.W.Frag} {H H' : Hp} {D : Addr} {ds : List PyData} {d : PyData} {v : V} {xs : List V} (h : DpAll K (wo H D) xs ds) (e : Same H H') (hv : Dp K (wo H' D) v d) : GrD K (upd H' D (.lst (xs ++ [v]))) D (ds ++ [d]) :=
  ⟨xs ++ [v], upd_same, dpaPush h e hv⟩
theorem GrD.len {K : PySem.W.Frag} {H : Hp} {D : Addr} {xs : List V} {ds : List PyData} (h : DpAll K (wo H D) xs ds) : xs.length = ds.length := dpaLen h
theorem range_snoc {α : Type} (f : Nat → α) (i : Nat) : (List.range (i + 1)).map f = (List.range i).map f ++ [f i] := by rw [List.range_succ, List.map_append]; rfl
theorem w_islS {K : PySem.W.Frag} {H : Hp} {Q : VK} {p : Addr} {xs : List V} {s : String} {b : Bool} (hp : SqL K H p xs) (hk : kitB "list" s = some b) (h : Q (.bl b) H) : rIsi K [.ref p, .ty s] H Q := by
  rcases hp with (hp | ⟨o, hp⟩) | ⟨o, its, n, h1, h2, _⟩
  · exact ⟨_, _, _, _, b, rfl, .ty _, .base (.lst hp), kit_ty hk, h⟩
  · exact ⟨_, _, _, _, b, rfl, .ty _, .base (.frz hp), kit_ty hk, h⟩
  · exact ⟨_, _, _, _, b, rfl, .ty _, .kList h1 h2, kit_ty hk, h⟩
theorem range_put {α β : Type} (g : α → β) (A : Nat → α) (f : α) (i : Nat) : (List.range (i + 1)).map (fun s => g (if s = i then f else A s)) = (List.range i).map (fun s => g (A s)) ++ [g f] := by
  rw [range_snoc, if_pos rfl, List.map_congr_left fun s hs => by rw [if_neg (by have := List.mem_range.mp hs; omega)]]

section
variable {P : Program} {w : World} {K : PySem.W.Frag} {mg : Str → Option Value} {base : Heap} {C_Pull C_Push C_Web C_TooWide C_FloorError C_TooMany C_TooRough : Addr}
def spAsked53 (K : PySem.W.Frag) (CP CQ CW CT : Addr) (Tb : List (Addr × Str)) : Sp := fun vs H Q E => ∃ (p : Addr) (M : WebM) (which s : Nat) (g : Nat), vs = [.ref p, .int which, .int s, .int g] ∧ WebAt K CP CQ CW H p M ∧ LamX.Tabs Tb H ∧ 10 < M.T.length ∧ which < 4 ∧ E (.ref CT) none H
theorem ok_law_asked {f : Addr} {fd : FuncData} (F : Fun K "_law_asked" "_law_asked" s_law_asked f fd) (gf : mg "_law_asked" = some (.ref f)) (B : Bl mg) {C_Pull C_Push C_Web C_TooWide C_FloorError C_TooMany C_TooRough : Addr} (T : Txt K mg C_Pull C_Push C_Web C_TooWide C_FloorError C_TooMany C_TooRough) (h_falls : Has P w K mg base (L2.CX P w) 6 "falls" ["web", "start"] (spFallsX K C_Pull C_Push C_Web C_TooWide Tb)) (h_resting : Has P w K mg base (L2.CX P w) 6 "resting" ["web"] (spRest K C_Pull C_Push C_Web C_TooWide)) (h_climb : Has P w K mg base (L2.CX P w) 6 "climb" ["web", "start", "goal"] (spClimbX K C_Pull C_Push C_Web C_TooWide)) (h_shore : Has P w K mg base (L2.CX P w) 6 "shore" ["web", "start", "height"] (spShoreX K C_Pull C_Push C_Web C_TooWide Tb)) : Has P w K mg base (L2.CX P w) 7 "_law_asked" ["web", "which", "start", "goal"] (spAsked53 K C_Pull C_Push C_Web C_TooWide Tb) := by
  refine Has.mkX F gf (F.binds (ps := ["web", "which", "start", "goal"]) fun _ _ _ _ _ _ us hl => match us, hl with | [_, _, _, _], _ => rfl) sc_law_asked (by walk_at "len") (fun cdv A outer s H vs Q E hr h => ?_)
  obtain ⟨p, M, which, s, g, rfl, hW, hT, hm, hw, qe⟩ := h
  refine ⟨_, (pss_cons (ps_if (pt_cmpR op_eq (pv 1) pe_int (nomark _)) (pss_one (ps_ret (pe_fnS (takes_of rfl rfl rfl rfl) h_resting (hr.mono (by decide)) (by rfl) (pa_cons (pv 0) pa_nil)))) pss_nil)
 (pss_cons (ps_if (pt_cmpR op_eq (pv 1) pe_int (nomark _)) (pss_one (ps_ret (pe_fnS (takes_of rfl rfl rfl rfl) h_climb (hr.mono (by decide)) (by rfl) (pa_cons (pv 0) (pa_cons (pv 2) (pa_cons (pv 3) pa_nil)))))) pss_nil)
 (pss_cons (ps_if (pt_cmpR op_eq (pv 1) pe_int (nomark _)) (pss_one (ps_ret (pe_fnS (takes_of rfl rfl rfl rfl) h_shore (hr.mono (by decide)) (by rfl) (pa_cons (pv 0) (pa_cons (pv 2) (pa_cons (pv 3) pa_nil)))))) pss_nil)
 (pss_one (ps_ret (pe_fnS (takes_of rfl rfl rfl rfl) h_falls (hr.mono (by decide)) (by rfl) (pa_cons (pv 0) (pa_cons (pv 2) pa_nil)))))))), ?_⟩
  walk_at "sts"
  refine ifd (fun h0 => ?_) (fun h0 => ?_)
  · walk_at "sts"
    exact ⟨p, M, rfl, hW, fun _ => qe, fun _ _ z => absurd z (by omega)⟩
  walk_at "sts"
  refine ifd (fun h1 => ?_) (fun h1 => ?_)
  · walk_at "sts"
    exact ⟨p, M, s, g, rfl, hW, fun _ => qe, fun z => absurd z (by omega), fun _ _ _ _ _ z => absurd z (by omega)⟩
  walk_at "sts"
  refine ifd (fun h2 => ?_) (fun h2 => ?_)
  · walk_at "sts"
    exact ⟨p, M, s, (g : Nat), rfl, hW, fun _ => qe, fun z => absurd z (by omega), hT, fun _ _ _ z => absurd z (by omega)⟩
  walk_at "sts"
  exact ⟨p, M, s, rfl, hW, fun _ => qe, fun z => absurd z (by omega), hT, fun _ _ _ z => absurd z (by omega)⟩
def spWide53 (K : PySem.W.Frag) (CP CQ CW : Addr) (Tb : List (Addr × Str)) : Sp := fun vs H Q _ => ∃ (p : Addr) (M : WebM) (which s : Nat) (g : Nat), vs = [.ref p, .int which, .int s, .int g] ∧ WebAt K CP CQ CW H p M ∧ LamX.Tabs Tb H ∧ 10 < M.T.length ∧ which < 4 ∧ ∀ H', Same H H' → Q (.bl true) H'
theorem ok_law_too_wide {f : Addr} {fd : FuncData} (F : Fun K "_law_too_wide" "_law_too_wide" s_law_too_wide f fd) (gf : mg "_law_too_wide" = some (.ref f)) (B : Bl mg) {C_Pull C_Push C_Web C_TooWide C_FloorError C_TooMany C_TooRough : Addr} (T : Txt K mg C_Pull C_Push C_Web C_TooWide C_FloorError C_TooMany C_TooRough) (h_law_asked : Has P w K mg base (L2.CX P w) 7 "_law_asked" ["web", "which", "start", "goal"] (spAsked53 K C_Pull C_Push C_Web C_TooWide Tb)) : Has P w K mg base CX0 8 "_law_too_wide" ["web", "which", "start", "goal"] (spWide53 K C_Pull C_Push C_Web Tb) := by
  refine Has.mk' F gf (F.binds (ps := ["web", "which", "start", "goal"]) fun _ _ _ _ _ _ us hl => match us, hl with | [_, _, _, _], _ => rfl) sc_law_too_wide (by walk_at "len") (fun cdv A outer s H vs Q E hr h => ?_)
  obtain ⟨p, M, which, s, g, rfl, hW, hT, hm, hw, q⟩ := h
  refine ⟨_, (pss_cons (ps_set (i := 4) sc_law_too_wide.nd rfl (.inl rfl) pe_non)
 (pss_cons (ps_try_keep (i := 5) rfl rfl sc_law_too_wide.nd rfl rfl ⟨rfl, by decide, .inl T.g_FloorError⟩ takes0 (fun W pn xe tk pw => (pss_one (ps_expr (pe_fnS tk h_law_asked (hr.mono (by decide)) (by rfl) (pa_cons (pv 0) (pa_cons (pv 1) (pa_cons (pv 2) (pa_cons (pv 3) pa_nil)))))))) (fun a oe cls d pn hz hf => (pss_one (ps_set (i := 4) sc_law_too_wide.nd rfl (.inl rfl) (pv 5)))))
 (pss_cons (ps_if (PW.pt (pw_or (pt_not (pt_val (pe_callB (call_isKp K) (by rfl) B.isinstance (by decide +kernel) (pa_cons (pv 4) (pa_cons (pe_glob (v := .ref C_TooWide) (by rfl) T.g_TooWide rfl) pa_nil))))) (pw_or1 (pt_not (pt_val (pe_callB (call_isKp K) (by rfl) B.isinstance (by decide +kernel) (pa_cons (pv 4) (pa_cons (pe_bltn (v := .ty "ValueError") (by rfl) B.ValueError (by decide +kernel) rfl) pa_nil)))))))) (pss_one (ps_ret pe_bl)) pss_nil)
 (pss_one (ps_ret (pe_and (pe_not (pe_callB (call_isKp K) (by rfl) B.isinstance (by decide +kernel) (pa_cons (pv 4) (pa_cons (pe_glob (v := .ref C_TooMany) (by rfl) T.g_TooMany rfl) pa_nil)))) (pe_one (pe_not (pe_callB (call_isKp K) (by rfl) B.isinstance (by decide +kernel) (pa_cons (pv 4) (pa_cons (pe_glob (v := .ref C_TooRough) (by rfl) T.g_TooRough rfl) pa_nil))))))))))), ?_⟩
  walk_at "sts"
  refine ⟨p, M, which, s, g, rfl, hW, hT, hm, hw, ⟨true, T.xf_FloorError.exm T.sb_TooWide_FloorError, fun _ x nx => ?_, fun z => by cases z⟩⟩
  walk_at "sts"
  refine fun nx' => ?_
  walk_at "sts"
  refine w_isKp T.xf_TooWide T.xf_TooWide T.sb_TooWide_TooWide ⟨upd_same, .inl rfl⟩ ?_
  walk_at "sts"
  refine w_isKpV T.xf_TooWide ⟨upd_same, .inl rfl⟩ ?_
  walk_at "sts"
  refine w_isKp T.xf_TooWide T.xf_TooMany T.sb_TooWide_TooMany ⟨upd_same, .inl rfl⟩ ?_
  walk_at "sts"
  refine w_isKp T.xf_TooWide T.xf_TooRough T.sb_TooWide_TooRough ⟨upd_same, .inl rfl⟩ ?_
  walk_at "sts"
  exact q _ (same_upd nx')
def spRowW (K : PySem.W.Frag) (CP CQ CW : Addr) : Sp := fun vs H Q _ => ∃ (n : Nat) (c : Int), vs = [.int (n + 2 : Nat), .int c] ∧ n ≤ 100 ∧ ∀ p H' R, Same H H' → New H p → WebOk ⟨rowTs c (n + 1), rowTn (n + 1), R⟩ → WebAt K CP CQ CW H' p ⟨rowTs c (n + 1), rowTn (n + 1), R⟩ → Q (.ref p) H'
theorem ok_law_row_of_places {f : Addr} {fd : FuncData} (F : Fun K "_law_row_of_places" "_law_row_of_places" s_law_row_of_places f fd) (gf : mg "_law_row_of_places" = some (.ref f)) (B : Bl mg) {C_Pull C_Push C_Web C_TooWide C_FloorError C_TooMany C_TooRough : Addr} (T : Txt K mg C_Pull C_Push C_Web C_TooWide C_FloorError C_TooMany C_TooRough) (h_mk_Web : HasMk P w K mg base CX0 5 "Web" C_Web ["self", "many", "ties", "turns"] (spWeb K C_Pull C_Push C_Web)) (h_mk_Pull : HasMk P w K mg base CX0 1 "Pull" C_Pull ["self", "one", "two", "strength"] (spTInit C_Pull C_Push)) : Has P w K mg base CX0 7 "_law_row_of_places" ["many", "cell"] (spRowW K C_Pull C_Push C_Web) := by
  refine Has.mk' F gf (F.binds (ps := ["many", "cell"]) fun _ _ _ _ _ _ us hl => match us, hl with | [_, _], _ => rfl) sc_law_row_of_places (by walk_at "len") (fun cdv A outer s H vs Q E hr h => ?_)
  obtain ⟨n, c, rfl, hn, q⟩ := h
  refine ⟨_, (pss_cons (ps_set (i := 2) sc_law_row_of_places.nd rfl (.inl rfl) (pe_lst pa_nil))
 (pss_cons (ps_for PassesOwn.never rfl (pi_range1 (by rfl) B.range (pa_cons (pe_op op_sub (pv 0) pe_int) pa_nil)) (pg_name (i := 3) sc_law_row_of_places.nd rfl (.inl rfl)) (pss_one (ps_expr (pe_bmK K (pe_bm PySem.F.plainAttrs_list PySem.F.slot_list_append PySem.F.type_list_append mt_append (pv 2) (pa_cons (pe_mk h_mk_Pull (hr.mono (by decide)) (by rfl) (pa_cons (pv 3) (pa_cons (pe_op op_add (pv 3) pe_int) (pa_cons (pe_op op_add pe_int (pe_op op_mod (pe_op op_add (pv 1) (pv 3)) pe_int)) pa_nil)))) pa_nil))))))
 (pss_cons (ps_set (i := 4) sc_law_row_of_places.nd rfl (.inl rfl) (pe_op op_cat (pe_op op_catE (pe_lst (pa_cons (pe_lst (pa_cons pe_int pa_nil)) pa_nil)) (pe_lc (own := [("k", 3)]) rfl sc_law_row_of_places.nd (pi_range1 (by rfl) B.range (pa_cons (pe_op op_sub (pv 0) pe_int) pa_nil)) (blkOk_by (own := [("k", 3)]) (N := ["many", "cell", "ties", "k", "turns"]) (sc := defScope s_law_row_of_places) (by decide +kernel)) (fun _ _ _ _ _ => pg_name (i := 3) sc_law_row_of_places.nd rfl (Or.inl rfl)) (fun _ _ _ _ _ => pts_nil) (fun _ _ _ _ _ => (pe_lst (pa_cons (pv 3) (pa_cons (pe_op op_add (pv 3) pe_int) pa_nil)))))) (pe_lst (pa_cons (pe_lst (pa_cons (pe_op op_sub (pv 0) pe_int) pa_nil)) pa_nil))))
 (pss_one (ps_ret (pe_mk h_mk_Web (hr.mono (by decide)) (by rfl) (pa_cons (pv 0) (pa_cons (pv 2) (pa_cons (pv 4) pa_nil))))))))), ?_⟩
  walk_at "sts"
  refine w_new fun pT nT => ?_
  walk_at "sts"
  refine for_r0 (n := n + 1) (by omega) (fun i σ' H' => ∃ (y4 y5 : Option V) (ps : List Addr), σ' = [some (.int (n + 2 : Nat)), some (.int c), some (.ref pT), y4, y5] ∧ Same H H' ∧ H' pT = some (.lst (ps.map V.ref)) ∧ TiesIn C_Pull C_Push H' ps (rowTs c i)) ?_ ?_ ?_
  · exact ⟨_, _, [], rfl, same_upd nT, upd_same, .nil⟩
  · rintro i σ' H' hi ⟨y4, y5, ps, rfl, s1, l1, t1⟩
    have hpl : ps.length = i := by have := t1.1; rw [rowTs_len] at this; exact this
    have hsl : (ps.map V.ref).length < sizeLine := szlt (by rw [List.length_map]; omega)
    have hs := rowTi_s c i
    have hsI := rowTi_sI c i
    walk_at "sts"
    intro x dx nx nd hxd
    refine ⟨x, dx, rowTi c i, ?_, upd_same, by show i ≠ i + 1; omega, rfl, ?_⟩
    · rw [hsI]; rfl
    rw [upd_upd]
    have sm : Same H' (upd (upd H' dx (.own x)) x (.ins (clsOf C_Pull C_Push false) dx (tf (rowTi c i).one (rowTi c i).two (rowTi c i).s))) := made_same nx nd hxd
    have l2 := sm _ _ l1
    have hpx := ne_new l1 nx
    walk_at "sts"
    refine ⟨_, _, ps ++ [x], rfl, (s1.trans sm).mut nT, by rw [upd_same, List.map_append]; rfl, ?_⟩
    unfold rowTs
    rw [List.range_succ, List.map_append]
    exact ((t1.same sm).push ⟨dx, upd_same⟩).lst l2
  rintro σ' H1 ⟨y4, y5, ps, rfl, s1, l1, t1⟩
  walk_at "sts"
  refine w_new fun q0 n0 => ?_
  have s2 := same_upd (o := .lst [.int 0]) n0
  have l2 : upd H1 q0 (.lst [.int 0]) q0 = some (.lst (iv [0])) := upd_same
  generalize upd H1 q0 (.lst [.int 0]) = H2 at s2 l2 ⊢
  walk_at "sts"
  refine w_new fun a0 m0 => ?_
  have s3 := same_upd (o := .lst [.ref q0]) m0
  have l3 : upd H2 a0 (.lst [.ref q0]) a0 = some (.lst [.ref q0]) := upd_same
  generalize upd H2 a0 (.lst [.ref q0]) = H3 at s3 l3 ⊢
  walk_at "sts"
  intro D nD
  refine lc_r0 (n := n) (by omega) (fun k H' => GrD K H' D ((List.range k).map fun k => dRow [k, k + 1]) ∧ Same H3 H') ?_ ?_ ?_
  · exact ⟨.new, same_upd nD⟩
  · rintro k H' hk ⟨⟨xs, lx, hx⟩, s4⟩
    have hxl := dpaLen hx
    rw [List.length_map, List.length_range] at hxl
    walk_at "sts"
    refine w_new fun t nt => ?_
    have hDt := ne_new lx nt
    refine ⟨xs, by rw [upd_ne hDt]; exact lx, szlt (by omega), ?_, (s4.new nt).mut nD⟩
    rw [range_snoc]
    refine GrD.push hx (same_upd nt) (dpRow (r := [k, k + 1]) (SqL.of (wo_get upd_same (Ne.symm hDt))))
  rintro H4 ⟨⟨xs, lx, hx⟩, s4⟩
  have hxl := dpaLen hx
  rw [List.length_map, List.length_range] at hxl
  refine w_catE (LsE.of (s4 _ _ l3)) (LsE.of lx) (by rw [sizeLine_eq]; show 1 + _ ≤ _; omega) fun p1 np1 => ?_
  have hx4 := hx.same wo_same
  have s5 := same_upd (o := .lst ([V.ref q0] ++ xs)) np1
  have l5 : upd H4 p1 (.lst ([V.ref q0] ++ xs)) p1 = some (.lst ([V.ref q0] ++ xs)) := upd_same
  generalize upd H4 p1 (.lst ([V.ref q0] ++ xs)) = H5 at s5 l5 ⊢
  walk_at "sts"
  refine w_new fun q1 n1 => ?_
  have e1 : ((n + 2 : Nat) : Int) - 2 = (n : Nat) := by omega
  rw [e1]
  have s6 := same_upd (o := .lst [.int (n : Nat)]) n1
  have l6 : upd H5 q1 (.lst [.int (n : Nat)]) q1 = some (.lst (iv [n])) := upd_same
  generalize upd H5 q1 (.lst [.int (n : Nat)]) = H6 at s6 l6 ⊢
  walk_at "sts"
  refine w_new fun a1 m1 => ?_
  have s7 := same_upd (o := .lst [.ref q1]) m1
  have l7 : upd H6 a1 (.lst [.ref q1]) a1 = some (.lst [.ref q1]) := upd_same
  generalize upd H6 a1 (.lst [.ref q1]) = H7 at s7 l7 ⊢
  walk_at "sts"
  refine ⟨p1, a1, _, _, rfl, rfl, s7 _ _ (s6 _ _ l5), l7, by rw [sizeLine_eq, List.length_append]; show 1 + _ + 1 ≤ _; omega, fun p2 np2 => ?_⟩
  have s8 := same_upd (o := .lst ([V.ref q0] ++ xs ++ [.ref q1])) np2
  have l8 : upd H7 p2 (.lst ([V.ref q0] ++ xs ++ [.ref q1])) p2 = some (.lst ([V.ref q0] ++ xs ++ [.ref q1])) := upd_same
  generalize upd H7 p2 (.lst ([V.ref q0] ++ xs ++ [.ref q1])) = H8 at s8 l8 ⊢
  have s58 := s5.trans (s6.trans (s7.trans s8))
  have s18 : Same H1 H8 := s2.trans (s3.trans (s4.trans s58))
  have hD8 : Dp K H8 (.ref p2) (dRows (rowTn (n + 1))) := by
    refine .lst (SqL.of l8) ?_
    have h0 := (s3.trans (s4.trans s58)) _ _ l2
    have h1 := (s7.trans s8) _ _ l6
    have := dpaApp (dpaApp (.cons (dpRow (r := [0]) (SqL.of h0)) .nil) (hx4.same s58)) (.cons (dpRow (r := [n]) (SqL.of h1)) .nil)
    unfold rowTn
    rw [Nat.add_sub_cancel, List.map_cons, List.map_append, List.map_map]
    exact this
  have l18 := s18 _ _ l1
  have t18 := t1.same s18
  walk_at "sts"
  intro x dx nx nd hxd
  have sm : Same H8 (upd (upd H8 dx (.own x)) x (.ins C_Web dx [])) := made_same nx nd hxd
  have sw : Same H8 (wo (upd (upd H8 dx (.own x)) x (.ins C_Web dx [])) x) := same_wo sm nx
  refine ⟨x, dx, pT, p2, rowTs c (n + 1), rowTn (n + 1), ?_, upd_same, ⟨ps, SqL.of (sw _ _ l18), t18.same sw⟩, hD8.same sw, row_flat c n, ?_, ?_, ?_, fun H' R s5 w1 w2 => ?_⟩
  · rw [rowTn_len (by omega)]
  · rw [rowTn_len (by omega)]; omega
  · rw [rowTs_len]; omega
  · rw [rowTn_len (by omega)]; omega
  · refine ⟨rfl, ?_⟩
    walk_at "sts"
    exact q x H' R ((s1.trans s18).trans (sw.trans s5)) (nx.of (s1.trans s18)) w1 w2
end

theorem inV_iv (x : Nat) (r : List Nat) : inV (.int (x : Int)) (iv r) = decide (x ∈ r) := by
  unfold inV iv
  induction r with
  | nil => rfl
  | cons a r ih =>
    rw [List.map_cons, List.any_cons, ih]
    have : eqV (.int (a : Int)) (.int (x : Int)) = decide (a = x) := by
      show decide _ = _
      by_cases h : a = x
      · simp [h]
      · simp [h]; omega
    rw [this]
    by_cases h : x = a
    · subst h; simp
    · simp [h, Ne.symm h]
theorem w_notin {K : PySem.W.Frag} {H : Hp} {Q : VK} {p : Addr} {r : List Nat} {x : Nat} (hs : SqL K H p (iv r)) (h : Q (.bl (!decide (x ∈ r))) H) : rIn K true (.int (x : Int)) (.ref p) H Q :=
  ⟨p, iv r, rfl, .inl hs, rfl, iv_flat r, by rw [inV_iv]; exact h⟩
theorem w_in {K : PySem.W.Frag} {H : Hp} {Q : VK} {p : Addr} {r : List Nat} {x : Nat} (hs : SqL K H p (iv r)) (h : Q (.bl (decide (x ∈ r))) H) : rIn K false (.int (x : Int)) (.ref p) H Q :=
  ⟨p, iv r, rfl, .inl hs, rfl, iv_flat r, by rw [inV_iv]; exact h⟩

theorem w_lrg {te : L2.St → Hp → (Int → Int → Hp → Prop) → Prop} {σ : L2.St} {H : Hp} {Q : VK} (h : te σ H fun a b H1 => RgOk a b ∧ ∀ q, H1 q = none → Q (.ref q) (upd H1 q (.lst (rgV a b)))) : tLstRg te σ H Q := h
theorem w_rg1 {ta : TE} {σ : L2.St} {H : Hp} {Q : Int → Int → Hp → Prop} (h : ta σ H fun x H1 => ∃ n, x = .int n ∧ Q 0 n H1) : tRg1 ta σ H Q := h
theorem rgV_iv (n : Nat) : rgV 0 ((n : Nat) : Int) = iv (List.range n) := by
  unfold rgV iv
  rw [show (((n : Nat) : Int) - 0).toNat = n by omega]
  refine List.map_congr_left fun d _ => ?_
  show V.int (0 + (d : Int)) = V.int (d : Int)
  rw [Int.zero_add]
theorem sum_cast (l : List Nat) : (l.map fun x : Nat => (x : Int)).sum = ((l.sum : Nat) : Int) := by
  induction l with
  | nil => rfl
  | cons a l ih => rw [List.map_cons, List.sum_cons, List.sum_cons, ih]; omega

section
variable {P : Program} {w : World} {K : PySem.W.Frag} {mg : Str → Option Value} {base : Heap} {C_Pull C_Push C_Web C_TooWide C_FloorError C_TooMany C_TooRough : Addr}
def stillTs (ts : List Ti) : List Ti := ts.map fun t => ⟨false, t.one, t.two, 0⟩
theorem still_ends (ts : List Ti) : endsOf (stillTs ts) = endsOf ts := by
  unfold endsOf stillTs
  rw [List.map_map]
  rfl
theorem still_wm (ts : List Ti) (l : Nat) : ∀ n, wm (stillTs ts) l n = 0
  | 0 => rfl
  | n + 1 => by
    unfold wm
    rw [still_wm ts l n]
    have e : (ti (stillTs ts) n).s = 0 := by
      unfold ti stillTs
      rw [List.getD_eq_getElem?_getD, List.getElem?_map]
      cases ts[n]? <;> rfl
    rw [e]
    split <;> rfl
theorem goodRowD {K : PySem.W.Frag} {H : Hp} {Q : VK} {p e : Addr} {ys : List Nat} (h1 : SqL K H p (iv ys)) (he : SqL K H e (iv ys)) (h : Q (.bl true) H) : rEqD K (.ref p) (.ref e) H Q :=
  w_eqD (dpRow h1) (dpRow he) (goodRow ys) (by decide) h
theorem rests_zero {c : Int} {n m : Nat} : 0 ∈ rests (rowTs c n) m (2 ^ m) := by
  unfold rests
  rw [List.mem_filter, List.mem_range, List.all_eq_true]
  refine ⟨Nat.two_pow_pos m, fun k hk => decide_eq_true ?_⟩
  rw [rowTs_len, row_wm0 c n n (Nat.le_refl n)]
  exact Nat.zero_le _
def spShort (K : PySem.W.Frag) (Tb : List (Addr × Str)) : Sp := fun vs H Q _ => ∃ (pl : Nat) (c : Int), vs = [.int pl, .int c] ∧ 7 ≤ pl ∧ pl ≤ 10 ∧ LamX.Tabs Tb H ∧ ∀ H', Same (noT H) H' → LamX.Tabs Tb H' → Q (.bl true) H'
theorem ok_law_short_row {f : Addr} {fd : FuncData} (F : Fun K "_law_short_row" "_law_short_row" s_law_short_row f fd) (gf : mg "_law_short_row" = some (.ref f)) (B : Bl mg) {C_Pull C_Push C_Web C_TooWide C_FloorError C_TooMany C_TooRough : Addr} (T : Txt K mg C_Pull C_Push C_Web C_TooWide C_FloorError C_TooMany C_TooRough) (h_law_row_of_places : Has P w K mg base CX0 7 "_law_row_of_places" ["many", "cell"] (spRowW K C_Pull C_Push C_Web)) (h_resting : Has P w K mg base (L2.CX P w) 6 "resting" ["web"] (spRest K C_Pull C_Push C_Web C_TooWide)) (h_falls : Has P w K mg base (L2.CX P w) 6 "falls" ["web", "start"] (spFallsX K C_Pull C_Push C_Web C_TooWide Tb)) (h_shore : Has P w K mg base (L2.CX P w) 6 "shore" ["web", "start", "height"] (spShoreX K C_Pull C_Push C_Web C_TooWide Tb)) (h_climb : Has P w K mg base (L2.CX P w) 6 "climb" ["web", "start", "goal"] (spClimbX K C_Pull C_Push C_Web C_TooWide)) (h_law_worth : Has P w K mg base CX0 1 "_law_worth" ["ends", "kinds", "laying"] (spWorthB K)) (h_mk_Web : HasMk P w K mg base CX0 5 "Web" C_Web ["self", "many", "ties", "turns"] (spWeb K C_Pull C_Push C_Web)) (h_mk_Pull : HasMk P w K mg base CX0 1 "Pull" C_Pull ["self", "one", "two", "strength"] (spTInit C_Pull C_Push)) : Has P w K mg base CX0 8 "_law_short_row" ["places", "cell"] (spShort K Tb) := by
  refine Has.mk' F gf (F.binds (ps := ["places", "cell"]) fun _ _ _ _ _ _ us hl => match us, hl with | [_, _], _ => rfl) sc_law_short_row (by walk_at "len") (fun cdv A outer s H vs Q E hr h => ?_)
  obtain ⟨pl, c, rfl, h7, h10, hTb, q⟩ := h
  refine ⟨_, (pss_cons (ps_set (i := 2) sc_law_short_row.nd rfl (.inl rfl) (pv 0))
 (pss_cutX (ps_if (pt_cmpR op_eq (pe_op op_mod (pv 1) pe_int) pe_int (nomark _)) (pss_one (ps_set (i := 2) sc_law_short_row.nd rfl (.inl rfl) (pe_callB (call_min2 rfl) (by rfl) B.min (by decide +kernel) (pa_cons (pv 0) (pa_cons pe_int pa_nil))))) pss_nil)
 (pss_cons (ps_set (i := 3) sc_law_short_row.nd rfl (.inl rfl) (pe_fn h_law_row_of_places (hr.mono (by decide)) (by rfl) (pa_cons (pv 2) (pa_cons (pe_op op_fdivW (pv 1) pe_int) pa_nil))))
 (pss_cons (ps_if (pt_cmpR op_eq (pe_op op_mod (pv 1) pe_int) pe_int (nomark _)) (pss_one (ps_ret (pe_cmpR (op_inK K) pe_int (pe_fnL h_resting (hr.mono (by decide)) (by rfl) (pa_cons (pv 3) pa_nil)) (by rfl)))) pss_nil)
 (pss_cons (ps_if (pt_cmpR op_eq (pe_op op_mod (pv 1) pe_int) pe_int (nomark _)) (pss_one (ps_ret (pe_cmpR (op_eqDK K hr.units) (pe_fnL h_falls (hr.mono (by decide)) (by rfl) (pa_cons (pv 3) (pa_cons pe_int pa_nil))) (pe_lst (pa_cons pe_int pa_nil)) (nomark _)))) pss_nil)
 (pss_cons (ps_set (i := 4) sc_law_short_row.nd rfl (.inl rfl) (pe_op op_mod (pe_op op_fdivW (pv 1) pe_int) (pe_op op_shlW pe_int (pv 2))))
 (pss_cons (ps_if (pt_cmpR op_eq (pe_op op_mod (pv 1) pe_int) pe_int (nomark _)) (pss_one (ps_ret (pe_cmpR (op_eqDK K hr.units) (pe_fnL h_shore (hr.mono (by decide)) (by rfl) (pa_cons (pv 3) (pa_cons pe_int (pa_cons pe_int pa_nil)))) (pe_lst (pa_cons pe_int pa_nil)) (nomark _)))) pss_nil)
 (pss_cons (ps_if (pt_cmpR op_eq (pe_op op_mod (pv 1) pe_int) pe_int (nomark _)) (pss_cons (ps_set (i := 5) sc_law_short_row.nd rfl (.inl rfl) (pe_callB (cr_sumK K rfl) (by rfl) B.sum (by decide +kernel) (pa_cons (pe_lc (own := [("tie", 10)]) rfl sc_law_short_row.nd (pi_listK K (pe_fldK K (pv 3) rfl)) (blkOk_by (own := [("tie", 10)]) (N := ["places", "cell", "many", "web", "start", "most", "still", "goal", "ends", "kinds", "tie", "row"]) (sc := defScope s_law_short_row) (by decide +kernel)) (fun _ _ _ _ _ => pg_name (i := 10) sc_law_short_row.nd rfl (Or.inl rfl)) (fun _ _ _ _ _ => pts_nil) (fun _ _ _ _ _ => (pe_fldK K (pv 10) rfl))) pa_nil)))
 (pss_one (ps_ret (pe_cmpR (op_eqDK K hr.units) (pe_fnL h_shore (hr.mono (by decide)) (by rfl) (pa_cons (pv 3) (pa_cons (pv 4) (pa_cons (pe_op op_add (pv 5) pe_int) pa_nil)))) (pe_listRg rfl (by rfl) B.list (prg_1 (by rfl) B.range (pe_op op_shlW pe_int (pv 2)))) (nomark _))))) pss_nil)
 (pss_cons (ps_if (pt_cmpR op_eq (pe_op op_mod (pv 1) pe_int) pe_int (nomark _)) (pss_cons (ps_set (i := 6) sc_law_short_row.nd rfl (.inl rfl) (pe_mk h_mk_Web (hr.mono (by decide)) (by rfl) (pa_cons (pv 2) (pa_cons (pe_lc (own := [("tie", 10)]) rfl sc_law_short_row.nd (pi_listK K (pe_fldK K (pv 3) rfl)) (blkOk_by (own := [("tie", 10)]) (N := ["places", "cell", "many", "web", "start", "most", "still", "goal", "ends", "kinds", "tie", "row"]) (sc := defScope s_law_short_row) (by decide +kernel)) (fun _ _ _ _ _ => pg_name (i := 10) sc_law_short_row.nd rfl (Or.inl rfl)) (fun _ _ _ _ _ => pts_nil) (fun _ _ _ _ _ => (pe_mk h_mk_Pull (hr.mono (by decide)) (by rfl) (pa_cons (pe_fldK K (pv 10) rfl) (pa_cons (pe_fldK K (pv 10) rfl) (pa_cons pe_int pa_nil)))))) (pa_cons (pe_lc (own := [("row", 11)]) rfl sc_law_short_row.nd (pi_listK K (pe_fldK K (pv 3) rfl)) (blkOk_by (own := [("row", 11)]) (N := ["places", "cell", "many", "web", "start", "most", "still", "goal", "ends", "kinds", "tie", "row"]) (sc := defScope s_law_short_row) (by decide +kernel)) (fun _ _ _ _ _ => pg_name (i := 11) sc_law_short_row.nd rfl (Or.inl rfl)) (fun _ _ _ _ _ => pts_nil) (fun _ _ _ _ _ => (pe_callTy (call_listK K) (by rfl) B.list (by decide +kernel) (pa_cons (pv 11) pa_nil)))) pa_nil)))))
 (pss_one (ps_ret (pe_cmpR (op_eqDK K hr.units) (pe_fnL h_falls (hr.mono (by decide)) (by rfl) (pa_cons (pv 6) (pa_cons (pv 4) pa_nil))) (pe_listRg rfl (by rfl) B.list (prg_1 (by rfl) B.range (pe_op op_shlW pe_int (pv 2)))) (nomark _))))) pss_nil)
 (pss_cons (ps_if (pt_cmpR op_eq (pe_op op_mod (pv 1) pe_int) pe_int (nomark _)) (pss_one (ps_ret (pe_cmpR (op_eqDK K hr.units) (pe_fnL h_shore (hr.mono (by decide)) (by rfl) (pa_cons (pv 3) (pa_cons (pv 4) (pa_cons (pe_op op_sub pe_int (pe_op op_mod (pe_op op_fdivW (pv 1) pe_int) (pe_op op_pow pe_int pe_int))) pa_nil)))) (pe_lst pa_nil) (nomark _)))) pss_nil)
 (pss_cons (ps_set (i := 7) sc_law_short_row.nd rfl (.inl rfl) (pe_op op_xor (pv 4) (pe_op op_shlW pe_int (pe_op op_mod (pe_op op_fdivW (pv 1) pe_int) (pv 2)))))
 (pss_cons (ps_setLc (i := 8) (own := [("tie", 10)]) rfl sc_law_short_row.nd rfl rfl (sw_true rfl rfl rfl (by decide +kernel)) (pi_listK K (pe_fldK K (pv 3) rfl)) (blkOk_by (own := [("tie", 10)]) (N := ["places", "cell", "many", "web", "start", "most", "still", "goal", "ends", "kinds", "tie", "row"]) (sc := defScope s_law_short_row) (by decide +kernel)) (fun _ _ _ _ _ => pg_name (i := 10) sc_law_short_row.nd rfl (Or.inl rfl)) (fun _ _ _ _ _ => pts_nil) (fun _ _ _ _ _ => (pe_tup (pa_cons (pe_fldK K (pv 10) rfl) (pa_cons (pe_fldK K (pv 10) rfl) pa_nil)))))
 (pss_cons (ps_setLc (i := 9) (own := [("tie", 10)]) rfl sc_law_short_row.nd rfl rfl (sw_true rfl rfl rfl (by decide +kernel)) (pi_listK K (pe_fldK K (pv 3) rfl)) (blkOk_by (own := [("tie", 10)]) (N := ["places", "cell", "many", "web", "start", "most", "still", "goal", "ends", "kinds", "tie", "row"]) (sc := defScope s_law_short_row) (by decide +kernel)) (fun _ _ _ _ _ => pg_name (i := 10) sc_law_short_row.nd rfl (Or.inl rfl)) (fun _ _ _ _ _ => pts_nil) (fun _ _ _ _ _ => (pe_tup (pa_cons pe_int (pa_cons (pe_fldK K (pv 10) rfl) pa_nil)))))
 (pss_one (ps_ret (pe_cmpR op_eq (pe_ix (ix_tupK K) (pe_fnL h_climb (hr.mono (by decide)) (by rfl) (pa_cons (pv 3) (pa_cons (pv 4) (pa_cons (pv 7) pa_nil)))) pe_int (fun _ _ => rfl)) (pe_callB (call_max2 rfl) (by rfl) B.max (by decide +kernel) (pa_cons (pe_fn h_law_worth (hr.mono (by decide)) (by rfl) (pa_cons (pv 8) (pa_cons (pv 9) (pa_cons (pv 4) pa_nil)))) (pa_cons (pe_fn h_law_worth (hr.mono (by decide)) (by rfl) (pa_cons (pv 8) (pa_cons (pv 9) (pa_cons (pv 7) pa_nil)))) pa_nil))) (nomark _))))))))))))))))), ?_⟩
  walk_at "sts"
  try dsimp only
  refine w_cut (fun σ' H' => ∃ n : Nat, σ' = [some (.int pl), some (.int c), some (.int (n + 2 : Nat)), none, none, none, none, none, none, none, none, none] ∧ H' = H ∧ n ≤ 8 ∧ 5 ≤ n) ?_ ?_
  · walk_at "sts"
    refine ifd (fun h3 => ?_) (fun h3 => ?_)
    · walk_at "sts"
      have e1 : (if (8 : Int) < ((pl : Nat) : Int) then (8 : Int) else ((pl : Nat) : Int)) = (((if 8 < pl then 8 else pl) - 2 + 2 : Nat) : Int) := by
        split <;> split <;> omega
      rw [e1]
      refine ⟨(if 8 < pl then 8 else pl) - 2, rfl, rfl, ?_, ?_⟩
      · split <;> omega
      · split <;> omega
    · walk_at "sts"
      have e1 : ((pl : Nat) : Int) = ((pl - 2 + 2 : Nat) : Int) := by omega
      exact ⟨pl - 2, by rw [← e1]; rfl, rfl, by omega, by omega⟩
  rintro σ' H' ⟨n, rfl, rfl, hn8, hn5⟩
  obtain ⟨N, hN, hN2⟩ : ∃ N : Nat, 2 ^ (n + 2) = N ∧ N ≤ 1024 := ⟨_, rfl, Nat.le_trans (Nat.pow_le_pow_right (by decide) (show n + 2 ≤ 10 by omega)) (by decide)⟩
  have hNp : 0 < N := by rw [← hN]; exact Nat.two_pow_pos _
  walk_at "sts"
  refine ⟨n, c / 4, rfl, by omega, fun p H1 R s1 n1 w1 hW => ?_⟩
  have hT1 := hTb.ext s1
  have g1 := noT_same s1
  have hTl : (rowTn (n + 1)).length = n + 2 := rowTn_len (by omega)
  walk_at "sts"
  refine ifd (fun h0 => ?_) (fun h0 => ?_)
  · walk_at "sts"
    refine ⟨p, _, rfl, hW, fun z => absurd z (by show ¬ 10 < (rowTn (n + 1)).length; omega), fun q2 H2 _ s2 _ l2 => ?_⟩
    walk_at "sts"
    refine w_in (x := 0) (SqL.of l2) ?_
    rw [decide_eq_true rests_zero]
    walk_at "sts"
    exact q _ (g1.trans (noT_le.trans s2)) (hT1.ext s2)
  walk_at "sts"
  refine ifd (fun h1 => ?_) (fun h1 => ?_)
  · walk_at "sts"
    refine ⟨p, _, 0, rfl, hW, fun z => absurd z (by show ¬ 10 < (rowTn (n + 1)).length; omega), fun _ => Nat.two_pow_pos _, hT1, fun q2 H2 ys _ s2 _ hT2 l2 ok => ?_⟩
    have e := ok.one fun k hk => by
      have hk : k < (rowTn (n + 1)).length := hk
      have := row_turn (c / 4) (n := n + 1) (k := k) (by omega) (by omega)
      refine decide_eq_false ?_
      show ¬ wm (rowTs (c / 4) (n + 1)) (0 ^^^ 2 ^ k) (rowTs (c / 4) (n + 1)).length ≤ wm (rowTs (c / 4) (n + 1)) 0 (rowTs (c / 4) (n + 1)).length
      rw [rowTs_len, row_wm0 _ _ _ (Nat.le_refl _)]
      omega
    subst e
    walk_at "sts"
    refine w_new fun e0 ne0 => ?_
    refine goodRowD (ys := [0]) (SqL.of (same_upd ne0 _ _ l2)) (SqL.of upd_same) ?_
    walk_at "sts"
    exact q _ (g1.trans (s2.trans (same_upd ne0))) (hT2.ext (same_upd ne0))
  walk_at "sts"
  rw [shl_one, hN]
  obtain ⟨st, hst, hst2⟩ := modN (c / 36) hNp
  walk_at "sts"
  rw [hst]
  refine ifd (fun h2 => ?_) (fun h2 => ?_)
  · walk_at "sts"
    refine ⟨p, _, 0, 1, rfl, hW, fun z => absurd z (by show ¬ 10 < (rowTn (n + 1)).length; omega), fun _ => Nat.two_pow_pos _, hT1, fun q2 H2 ys _ s2 _ hT2 l2 ok1 ok2 => ?_⟩
    have e0 : wm (rowTs (c / 4) (n + 1)) 0 (rowTs (c / 4) (n + 1)).length = 0 := by rw [rowTs_len, row_wm0 _ _ _ (Nat.le_refl _)]
    have ok := ok2 (by show ((wm (rowTs (c / 4) (n + 1)) 0 (rowTs (c / 4) (n + 1)).length : Nat) : Int) < 1; rw [e0]; decide)
    have e := ok.one fun k hk => by
      have hk : k < (rowTn (n + 1)).length := hk
      have := row_turn (c / 4) (n := n + 1) (k := k) (by omega) (by omega)
      refine decide_eq_false ?_
      show ¬ ((wm (rowTs (c / 4) (n + 1)) (0 ^^^ 2 ^ k) (rowTs (c / 4) (n + 1)).length : Nat) : Int) < 1
      rw [rowTs_len]
      omega
    subst e
    walk_at "sts"
    refine w_new fun e0 ne0 => ?_
    refine goodRowD (ys := [0]) (SqL.of (same_upd ne0 _ _ l2)) (SqL.of upd_same) ?_
    walk_at "sts"
    exact q _ (g1.trans (s2.trans (same_upd ne0))) (hT2.ext (same_upd ne0))
  obtain ⟨dx, a, b, c0, d, xs, hp, ⟨ps, hA, hTi⟩, hTu, _⟩ := id hW.at_
  have hTi2 := hTi.2
  walk_at "sts"
  refine ifd (fun h3 => ?_) (fun h3 => ?_)
  · walk_at "sts"
    refine w_fld hp T.cl_Web T.n_Web_ties (wf_ties _ _ _ _ _) ?_
    walk_at "sts"
    intro D nD
    refine lc_list (K := K) (xs := ps.map V.ref) (fun k H' => H' D = some (.lst ((((rowTs (c / 4) (n + 1)).take k).map fun t => V.int ((t.s : Nat) : Int)))) ∧ Same H1 H') ?_ ?_ ?_ ?_
    · exact ⟨upd_same, same_upd nD⟩
    · rintro k H' _ ⟨_, s2⟩
      exact s2.seq hA
    · rintro k v H' hv ⟨l2, s2⟩
      have hk : k < n + 1 := by
        have := (List.getElem?_eq_some_iff.mp hv).1
        rw [List.length_map, hTi.1] at this
        exact (rowTs_len (c / 4) (n + 1)) ▸ this
      obtain ⟨pt, e1, e2⟩ := (hTi.same s2).get (ti_at (ts := rowTs (c / 4) (n + 1)) (i := k) (by rw [rowTs_len]; exact hk))
      rw [hv] at e1
      cases e1
      walk_at "sts"
      refine w_t3 T.tie e2 ?_
      refine ⟨_, l2, szlt (by rw [List.length_map, List.length_take, rowTs_len]; omega), ?_, s2.mut nD⟩
      rw [upd_same, List.take_add_one, ti_at (ts := rowTs (c / 4) (n + 1)) (by rw [rowTs_len]; exact hk), List.map_append]
      rfl
    rintro H2 ⟨l2, s2⟩
    rw [List.length_map, hTi.1, List.take_length] at l2
    walk_at "sts"
    refine ⟨D, ((rowTs (c / 4) (n + 1)).map (·.s)).map fun x : Nat => (x : Int), rfl, SqL.of (by rw [l2, List.map_map, List.map_map]; rfl), ?_⟩
    rw [sum_cast]
    walk_at "sts"
    refine ⟨p, _, st, _, rfl, hW.same s2, fun z => absurd z (by show ¬ 10 < (rowTn (n + 1)).length; omega), fun _ => by show st < 2 ^ (rowTn (n + 1)).length; rw [hTl]; omega, hT1.ext s2, fun q2 H3 ys _ s3 _ hT3 l3 ok1 ok2 => ?_⟩
    have hle : ∀ l, wm (rowTs (c / 4) (n + 1)) l (rowTs (c / 4) (n + 1)).length ≤ ((rowTs (c / 4) (n + 1)).map (·.s)).sum := fun l => by
      have := wm_sum (rowTs (c / 4) (n + 1)) l _ (Nat.le_refl _)
      rwa [List.take_length] at this
    have ok := ok2 (by have := hle st; show ((wm (rowTs (c / 4) (n + 1)) st (rowTs (c / 4) (n + 1)).length : Nat) : Int) < _; omega)
    have e := ok.all (by show st < 2 ^ (rowTn (n + 1)).length; rw [hTl]; omega) fun x y _ _ => decide_eq_true (by
      have := hle y
      show ((wm (rowTs (c / 4) (n + 1)) y (rowTs (c / 4) (n + 1)).length : Nat) : Int) < _
      omega)
    have e : ys = List.range N := by rw [e]; show List.range (2 ^ (rowTn (n + 1)).length) = _; rw [hTl, hN]
    subst e
    walk_at "sts"
    refine w_lrg ?_
    refine w_rg1 ?_
    walk_at "sts"
    rw [shl_one, hN]
    refine ⟨RgOk.of_le (by omega) (by omega) (by omega) (by omega), fun e0 ne0 => ?_⟩
    rw [rgV_iv]
    refine goodRowD (SqL.of (same_upd ne0 _ _ l3)) (SqL.of upd_same) ?_
    walk_at "sts"
    exact q _ ((g1.trans (noT_same s2)).trans (s3.trans (same_upd ne0))) (hT3.ext (same_upd ne0))
  walk_at "sts"
  refine ifd (fun h4 => ?_) (fun h4 => ?_)
  · obtain ⟨us, hu, hTs⟩ := dpLstA hTu
    have hul : us.length = n + 2 := by have := dpaLen hTs; rw [List.length_map] at this; rw [this]; exact hTl
    walk_at "sts"
    refine w_fld hp T.cl_Web T.n_Web_ties (wf_ties _ _ _ _ _) ?_
    walk_at "sts"
    intro D nD
    refine lc_list (K := K) (xs := ps.map V.ref) (fun k H' => ∃ qs : List Addr, H' D = some (.lst (qs.map V.ref)) ∧ TiesIn C_Pull C_Push H' qs (stillTs ((rowTs (c / 4) (n + 1)).take k)) ∧ Same H1 H') ?_ ?_ ?_ ?_
    · exact ⟨[], upd_same, .nil, same_upd nD⟩
    · rintro k H' _ ⟨_, _, _, s2⟩
      exact s2.seq hA
    · rintro k v H' hv ⟨qs, l2, t2, s2⟩
      have hk : k < n + 1 := by
        have := (List.getElem?_eq_some_iff.mp hv).1
        rw [List.length_map, hTi.1] at this
        exact (rowTs_len (c / 4) (n + 1)) ▸ this
      have hat := ti_at (ts := rowTs (c / 4) (n + 1)) (i := k) (by rw [rowTs_len]; exact hk)
      obtain ⟨pt, e1, e2⟩ := (hTi.same s2).get hat
      rw [hv] at e1
      cases e1
      have hql : qs.length = k := by have := t2.1; unfold stillTs at this; rw [List.length_map, List.length_take, rowTs_len] at this; omega
      walk_at "sts"
      refine w_t1 T.tie e2 ?_
      walk_at "sts"
      refine w_t2 T.tie e2 ?_
      walk_at "sts"
      intro x dx nx nd hxd
      have sm : Same H' (upd (upd H' dx (.own x)) x (.ins (clsOf C_Pull C_Push false) dx (tf (ti (rowTs (c / 4) (n + 1)) k).one (ti (rowTs (c / 4) (n + 1)) k).two (0 : Nat)))) := made_same nx nd hxd
      have l3 := sm _ _ l2
      refine ⟨x, dx, ⟨false, (ti (rowTs (c / 4) (n + 1)) k).one, (ti (rowTs (c / 4) (n + 1)) k).two, 0⟩, rfl, upd_same, by rw [rowTs_at _ hk]; show k ≠ k + 1; omega, rfl, ?_⟩
      rw [upd_upd]
      refine ⟨_, l3, szlt (by rw [List.length_map]; omega), qs ++ [x], by rw [upd_same, List.map_append]; rfl, ?_, (s2.trans sm).mut nD⟩
      have ek : stillTs ((rowTs (c / 4) (n + 1)).take (k + 1)) = stillTs ((rowTs (c / 4) (n + 1)).take k) ++ [⟨false, (ti (rowTs (c / 4) (n + 1)) k).one, (ti (rowTs (c / 4) (n + 1)) k).two, 0⟩] := by
        rw [List.take_add_one, hat]
        unfold stillTs
        rw [List.map_append]
        rfl
      rw [ek]
      exact ((t2.same sm).push ⟨dx, upd_same⟩).lst l3
    rintro H2 ⟨qs, l2, t2, s2⟩
    rw [List.length_map, hTi.1, List.take_length] at t2
    have hu2 := s2.seq hu
    walk_at "sts"
    refine w_fld (s2 _ _ hp) T.cl_Web T.n_Web_turns (wf_turns _ _ _ _ _) ?_
    walk_at "sts"
    intro D2 nD2
    refine lc_list (K := K) (xs := us) (fun k H' => GrD K H' D2 (((rowTn (n + 1)).take k).map dRow) ∧ Same H2 H') ?_ ?_ ?_ ?_
    · exact ⟨.new, same_upd nD2⟩
    · rintro k H' _ ⟨_, s3⟩
      exact s3.seq hu2
    · rintro k v H' hv ⟨⟨ys, ly, hy⟩, s3⟩
      have hk : k < n + 2 := by rw [← hul]; exact (List.getElem?_eq_some_iff.mp hv).1
      obtain ⟨q1, e1, e2⟩ := dpRowsAt hTs (show k < (rowTn (n + 1)).length by omega)
      rw [hv] at e1
      cases e1
      have e3 := (s2.trans s3).seq e2
      have hyl := dpaLen hy
      rw [List.length_map, List.length_take, hTl] at hyl
      walk_at "sts"
      refine w_new fun t nt => ?_
      have hDt := ne_new ly nt
      refine ⟨ys, by rw [upd_ne hDt]; exact ly, szlt (by omega), ?_, (s3.new nt).mut nD2⟩
      have et : (rowTn (n + 1)).take (k + 1) = (rowTn (n + 1)).take k ++ [row (rowTn (n + 1)) k] := by
        rw [List.take_add_one, List.getElem?_eq_getElem (show k < (rowTn (n + 1)).length by omega)]
        unfold row
        rw [List.getD_eq_getElem?_getD, List.getElem?_eq_getElem (show k < (rowTn (n + 1)).length by omega)]
        rfl
      rw [et, List.map_append]
      refine GrD.push hy (same_upd nt) (dpRow (SqL.of (wo_get upd_same (Ne.symm hDt))))
    rintro H3 ⟨gD, s3⟩
    rw [hul, show n + 2 = (rowTn (n + 1)).length from hTl.symm, List.take_length] at gD
    have s13 := s2.trans s3
    walk_at "sts"
    intro x dx nx nd hxd
    have sm : Same H3 (upd (upd H3 dx (.own x)) x (.ins C_Web dx [])) := made_same nx nd hxd
    have sw : Same H3 (wo (upd (upd H3 dx (.own x)) x (.ins C_Web dx [])) x) := same_wo sm nx
    have hsl : (stillTs (rowTs (c / 4) (n + 1))).length = n + 1 := by unfold stillTs; rw [List.length_map, rowTs_len]
    refine ⟨x, dx, D, D2, stillTs (rowTs (c / 4) (n + 1)), rowTn (n + 1), ?_, upd_same, ⟨qs, SqL.of (sw _ _ (s3 _ _ l2)), (t2.same s3).same sw⟩, gD.dp.same sw, by rw [still_ends]; exact row_flat _ n, by omega, by omega, by omega, fun H4 R2 s5 w1 hW4 => ?_⟩
    · rw [hTl]
    refine ⟨rfl, ?_⟩
    have s14 := s13.trans (sw.trans s5)
    walk_at "sts"
    refine ⟨x, _, st, rfl, hW4, fun z => absurd z (by show ¬ 10 < (rowTn (n + 1)).length; omega), fun _ => by show st < 2 ^ (rowTn (n + 1)).length; rw [hTl]; omega, hT1.ext s14, fun q2 H5 ys _ s6 _ hT5 l5 ok => ?_⟩
    have e := ok.all (by show st < 2 ^ (rowTn (n + 1)).length; rw [hTl]; omega) fun x y _ _ => decide_eq_true (by
      show wm (stillTs (rowTs (c / 4) (n + 1))) _ _ ≤ _
      rw [still_wm]; exact Nat.zero_le _)
    have e : ys = List.range N := by rw [e]; show List.range (2 ^ (rowTn (n + 1)).length) = _; rw [hTl, hN]
    subst e
    walk_at "sts"
    refine w_lrg ?_
    refine w_rg1 ?_
    walk_at "sts"
    rw [shl_one, hN]
    refine ⟨RgOk.of_le (by omega) (by omega) (by omega) (by omega), fun e0 ne0 => ?_⟩
    rw [rgV_iv]
    refine goodRowD (SqL.of (same_upd ne0 _ _ l5)) (SqL.of upd_same) ?_
    walk_at "sts"
    exact q _ ((g1.trans (noT_same s14)).trans (s6.trans (same_upd ne0))) (hT5.ext (same_upd ne0))
  walk_at "sts"
  refine ifd (fun h5 => ?_) (fun h5 => ?_)
  · walk_at "sts"
    refine ⟨p, _, st, _, rfl, hW, fun z => absurd z (by show ¬ 10 < (rowTn (n + 1)).length; omega), fun _ => by show st < 2 ^ (rowTn (n + 1)).length; rw [hTl]; omega, hT1, fun q2 H3 ys _ s3 _ hT3 l3 ok1 ok2 => ?_⟩
    have e := ok1 (by
      have : 0 ≤ c / 7 % 10 ^ Int.toNat 30 := Int.emod_nonneg _ (by decide)
      show 0 - c / 7 % 10 ^ Int.toNat 30 ≤ ((wm (rowTs (c / 4) (n + 1)) st (rowTs (c / 4) (n + 1)).length : Nat) : Int)
      omega)
    subst e
    walk_at "sts"
    refine w_new fun e0 ne0 => ?_
    refine goodRowD (ys := []) (SqL.of (same_upd ne0 _ _ l3)) (SqL.of upd_same) ?_
    walk_at "sts"
    exact q _ (g1.trans (s3.trans (same_upd ne0))) (hT3.ext (same_upd ne0))
  obtain ⟨j, hj, hj2⟩ := modN (c / 5) (show 0 < n + 2 by omega)
  walk_at "sts"
  rw [hj]
  walk_at "sts"
  rw [shl_one, xor_nat]
  have hg : st ^^^ 2 ^ j < 2 ^ (n + 2) := turn_lt (by omega) hj2
  have hatR : ∀ k, k < n + 1 → (rowTs (c / 4) (n + 1))[k]? = some (ti (rowTs (c / 4) (n + 1)) k) := fun k hk => ti_at (by rw [rowTs_len]; exact hk)
  have hE : ∀ k, k < n + 1 → (endsOf (rowTs (c / 4) (n + 1))).take (k + 1) = (endsOf (rowTs (c / 4) (n + 1))).take k ++ [((ti (rowTs (c / 4) (n + 1)) k).one, (ti (rowTs (c / 4) (n + 1)) k).two)] := fun k hk => by
    unfold endsOf
    rw [List.take_add_one, List.getElem?_map, hatR k hk]
    rfl
  have hK : ∀ k, k < n + 1 → (rowTs (c / 4) (n + 1)).take (k + 1) = (rowTs (c / 4) (n + 1)).take k ++ [ti (rowTs (c / 4) (n + 1)) k] := fun k hk => by
    rw [List.take_add_one, hatR k hk]
    rfl
  refine w_fld hp T.cl_Web T.n_Web_ties (wf_ties _ _ _ _ _) ?_
  walk_at "sts"
  intro D nD
  refine lc_list (K := K) (xs := ps.map V.ref) (fun k H' => GrD K H' D (((endsOf (rowTs (c / 4) (n + 1))).take k).map dEnd) ∧ Same H1 H') ?_ ?_ ?_ ?_
  · exact ⟨.new, same_upd nD⟩
  · rintro k H' _ ⟨_, s2⟩
    exact s2.seq hA
  · rintro k v H' hv ⟨⟨ys, ly, hy⟩, s2⟩
    have hk : k < n + 1 := by
      have := (List.getElem?_eq_some_iff.mp hv).1
      rw [List.length_map, hTi.1] at this
      exact (rowTs_len (c / 4) (n + 1)) ▸ this
    obtain ⟨pt, e1, e2⟩ := (hTi.same s2).get (hatR k hk)
    rw [hv] at e1
    cases e1
    have hyl := dpaLen hy
    rw [List.length_map, List.length_take, endsOf_len, rowTs_len] at hyl
    walk_at "sts"
    refine w_t1 T.tie e2 ?_
    walk_at "sts"
    refine w_t2 T.tie e2 ?_
    walk_at "sts"
    refine w_new fun t nt => ?_
    have hDt := ne_new ly nt
    refine ⟨ys, by rw [upd_ne hDt]; exact ly, szlt (by omega), ?_, (s2.new nt).mut nD⟩
    rw [hE k hk, List.map_append]
    refine GrD.push hy (same_upd nt) (.tup (SqT.of (wo_get upd_same (Ne.symm hDt))) (dpInts [_, _]))
  rintro H2 ⟨gD, s2⟩
  rw [List.length_map, hTi.1, ← endsOf_len, List.take_length] at gD
  have hp2 := s2 _ _ hp
  have hA2 := s2.seq hA
  walk_at "sts"
  refine w_fld hp2 T.cl_Web T.n_Web_ties (wf_ties _ _ _ _ _) ?_
  walk_at "sts"
  intro D2 nD2
  refine lc_list (K := K) (xs := ps.map V.ref) (fun k H' => GrD K H' D2 (((rowTs (c / 4) (n + 1)).take k).map dTi) ∧ Same H2 H') ?_ ?_ ?_ ?_
  · exact ⟨.new, same_upd nD2⟩
  · rintro k H' _ ⟨_, s3⟩
    exact s3.seq hA2
  · rintro k v H' hv ⟨⟨ys, ly, hy⟩, s3⟩
    have hk : k < n + 1 := by
      have := (List.getElem?_eq_some_iff.mp hv).1
      rw [List.length_map, hTi.1] at this
      exact (rowTs_len (c / 4) (n + 1)) ▸ this
    obtain ⟨pt, e1, e2⟩ := (hTi.same (s2.trans s3)).get (hatR k hk)
    rw [hv] at e1
    cases e1
    have hyl := dpaLen hy
    rw [List.length_map, List.length_take, rowTs_len] at hyl
    walk_at "sts"
    refine w_t3 T.tie e2 ?_
    walk_at "sts"
    refine w_new fun t nt => ?_
    have hDt := ne_new ly nt
    refine ⟨ys, by rw [upd_ne hDt]; exact ly, szlt (by omega), ?_, (s3.new nt).mut nD2⟩
    have hpu : (if (ti (rowTs (c / 4) (n + 1)) k).push = true then 1 else 0 : Int) = 0 := by rw [rowTs_at _ hk]; rfl
    have hdt : dTi (ti (rowTs (c / 4) (n + 1)) k) = .tuple ([0, ((ti (rowTs (c / 4) (n + 1)) k).s : Int)].map PyData.int) := by unfold dTi; rw [hpu]
    rw [hK k hk, List.map_append, List.map_cons, List.map_nil, hdt]
    refine GrD.push hy (same_upd nt) (.tup (SqT.of (wo_get upd_same (Ne.symm hDt))) (dpInts [_, _]))
  rintro H3 ⟨gK, s3⟩
  rw [List.length_map, hTi.1, List.take_length] at gK
  have s13 := s2.trans s3
  have dE := gD.dp.same s3
  have dK := gK.dp
  walk_at "sts"
  refine ⟨p, _, st, st ^^^ 2 ^ j, rfl, hW.same s13, fun z => absurd z (by show ¬ 10 < (rowTn (n + 1)).length; omega), fun _ => by show st < 2 ^ (rowTn (n + 1)).length ∧ _ < 2 ^ (rowTn (n + 1)).length; rw [hTl]; exact ⟨by omega, hg⟩, fun q2 q3 H4 ht l _ s4 _ l4 _ ok => ?_⟩
  have e := ok.step (by show j < (rowTn (n + 1)).length; omega)
  have l4t := SqT.of (K := K) l4
  walk_at "sts"
  refine ⟨D, D2, rowTs (c / 4) (n + 1), st, rfl, dE.same s4, dK.same s4, by rw [rowTs_len]; omega, ?_⟩
  walk_at "sts"
  refine ⟨D, D2, rowTs (c / 4) (n + 1), st ^^^ 2 ^ j, rfl, dE.same s4, dK.same s4, by rw [rowTs_len]; omega, ?_⟩
  walk_at "sts"
  rw [maxI]
  have e : ht = max (wm (rowTs (c / 4) (n + 1)) st (rowTs (c / 4) (n + 1)).length) (wm (rowTs (c / 4) (n + 1)) (st ^^^ 2 ^ j) (rowTs (c / 4) (n + 1)).length) := e
  rw [← e, decide_eq_true rfl]
  exact q _ ((g1.trans (noT_same s13)).trans (noT_le.trans s4)) ((hT1.ext s13).ext s4)
end

section
variable {P : Program} {w : World} {K : PySem.W.Frag} {mg : Str → Option Value} {base : Heap} {C_Pull C_Push C_Web C_TooWide C_FloorError C_TooMany C_TooRough : Addr}
theorem w_eqNilI {H : Hp} {Q : VK} {p e : Addr} {ys : List Nat} (h1 : SqL K H p (iv ys)) (he : H e = some (.lst [])) (h : Q (.bl (decide (ys = []))) H) : rEqD K (.ref p) (.ref e) H Q := by
  refine ⟨dRow ys, .list [], dpRow h1, .lst (SqL.of he) .nil, (goodRow ys).shaped (by decide), (goodLst (n := 0) (ds := []) fun d hd => (by cases hd)).shaped (by decide), ?_⟩
  cases ys with
  | nil => exact h
  | cons t l => exact h
end

theorem tab_mem {cs : List (Addr × Addr)} {p : Addr × Addr} (h : p ∈ cs) : p.2 ∈ cs.map (·.2) := List.mem_map.mpr ⟨p, h, rfl⟩
theorem tabs_nil {cs : List (Addr × Addr)} {T : List (Addr × Str)} {H : Hp} (h : ∀ p ∈ cs, H p.2 = some (.tbl #[])) (e : ∀ p ∈ T, p.1 ∈ cs.map (·.2)) : LamX.Tabs T H := fun p hp => by
  obtain ⟨r, hr, e2⟩ := List.mem_map.mp (e p hp)
  exact LamX.TabS.nil (by rw [← e2]; exact h r hr)
/-- the law's end with tables of code objects -/
theorem walk_ofT {l : PySem.W.OpenLaw} {n k : Nat} {q : Program} {loose : List Str} {XP : (Str → Option Value) → Heap → Prop} {YP : World → Heap → Prop} {d : DefRec} {K : Params → PySem.W.Frag} {sp : PySem.W.Frag → Sp} {cs : List (Addr × Addr)}
    (hn : l.most = some n) (hn2 : n ≤ sizeLine) (hdf : d.params.defaults = []) (hr : Room k callerA) (hY : ∀ (w : World) (h : Heap), YP w h → (K w.params).In h)
    (hT : ∀ (w : World) (h : Heap), YP w h → ∀ p ∈ cs, h.get? p.2 = some { cls := .none, data := .fields #[] }) (nT : ∀ (w : World), ∀ p ∈ cs, (K w.params).lookup p.2 = none) (hC : ∀ (w : World), ∀ p ∈ cs, PySem.W.codeHdIn (K w.params) p.1 p.2 = true)
    (F : ∀ (w : World) (mg : Str → Option Value) (fa : Addr) (h : Heap), (K w.params).In h → h.Ns mainGlobals mg → mg d.name = some (.ref fa) →
      ∃ fd : FuncData, (∀ (s : Shared) (u : Value), BindsTo s fd ⟨[u], []⟩ [("script", u)]) ∧ ∀ base : Heap, (K w.params).In base → base.Ns mainGlobals mg → (∀ p ∈ cs, LamX.TabB base mg p.1 p.2) → FnOk l.prog w (K w.params) mg base CX0 k fa fd ["script"] (sp (K w.params)))
    (hsp : ∀ (K : PySem.W.Frag) (H : Hp) (a : Addr) (ns : List Int), ns.length ≤ n → (∀ z ∈ ns, Builtin.Int.intBits z ≤ 1048576) → (∀ p ∈ cs, H p.2 = some (.tbl #[])) → LsE K H a (ns.map V.int) → sp K [.ref a] H (fun v _ => v = .bl true) fun _ _ _ => False) :
    PySem.W.WalkO q loose XP YP l.row.toRowW d [] (fun f vs => PySem.call f vs) := by
  refine Att.attach_callB hn hdf fun w s₀ s₁ mg mb fa o pm cd doc a vs ns G Y ho hd hcd hmg hobj hints hlen hbits hg => ?_
  obtain ⟨fd, hb, hF⟩ := F w mg fa _ (hY w _ Y) G.T.g hmg
  refine LamX.law_callTs (hY w _ Y) G.T.g G.T.b G.T.builtins G.T.nolimit hg (hT w _ Y) (nT w) (fun p hp => PySem.W.codeHd_of_K (hY w _ Y) (hC w p hp)) G.T.bmain hobj hints (Nat.le_trans hlen hn2) hr hF hb (fun H hH hS => hsp _ H a ns hlen hbits hH ?_) fun H e s' h => h
  rcases hS with h | ⟨ob, its, m, hk, h1, h2, h3, h4, h5⟩
  · exact .inl h
  · have e := (hY w _ Y) a ob hk
    rw [hobj] at e
    cases e
    cases h3
    exact .inr ⟨vs, _, hk, by simpa using h5, by rw [List.length_map]; exact Nat.le_trans hlen hn2⟩
section
variable {P : Program} {w : World} {K : PySem.W.Frag} {mg : Str → Option Value} {base : Heap} {C_Pull C_Push C_Web C_TooWide C_FloorError C_TooMany C_TooRough : Addr}
def spLawT (K : PySem.W.Frag) (Tb : List (Addr × Str)) : Sp := fun vs H Q _ => ∃ (a : Addr) (ns : List Int), vs = [.ref a] ∧ LsE K H a (ns.map V.int) ∧ ns.length ≤ 63 ∧ (∀ z ∈ ns, Builtin.Int.intBits z ≤ 1048576) ∧ LamX.Tabs Tb H ∧ ∀ H', Q (.bl true) H'
end

section
variable {P : Program} {w : World} {K : PySem.W.Frag} {mg : Str → Option Value} {base : Heap} {C_Pull C_Push C_Web C_TooWide C_FloorError C_TooMany C_TooRough : Addr}
def spListed (K : PySem.W.Frag) : Sp := fun vs H Q _ => ∃ (f d : Addr) (xs : List Nat), vs = [.ref f, .ref d] ∧ H f = some (.lst (iv xs)) ∧ SqL K H d (iv xs) ∧ xs.length ≤ 100000 ∧ Q (.bl true) H
theorem ok_law_listed {f : Addr} {fd : FuncData} (F : Fun K "_law_listed" "_law_listed" s_law_listed f fd) (gf : mg "_law_listed" = some (.ref f)) (B : Bl mg) {C_Pull C_Push C_Web C_TooWide C_FloorError C_TooMany C_TooRough : Addr} (T : Txt K mg C_Pull C_Push C_Web C_TooWide C_FloorError C_TooMany C_TooRough) (h_law_number : Has P w K mg base CX0 1 "_law_number" ["found"] spNumI) : Has P w K mg base CX0 2 "_law_listed" ["found", "due"] (spListed K) := by
  refine Has.mk' F gf (F.binds (ps := ["found", "due"]) fun _ _ _ _ _ _ us hl => match us, hl with | [_, _], _ => rfl) sc_law_listed (by walk_at "len") (fun cdv A outer s H vs Q E hr h => ?_)
  obtain ⟨f, d, xs, rfl, hf, hd, hl, q⟩ := h
  have hfs := SqL.of (K := K) hf
  refine ⟨_, (pss_cons (ps_if (PW.pt (pw_or (pt_not (pt_val (pe_callB (call_isiK' K) (by rfl) B.isinstance (by decide +kernel) (pa_cons (pv 0) (pa_cons (pe_bltn (v := .ty "list") (by rfl) B.list (by decide +kernel) rfl) pa_nil))))) (pw_or1 (pt_cmpR op_ne (pe_callB (call_lenK K) (by rfl) B.len (by decide +kernel) (pa_cons (pv 0) pa_nil)) (pe_callB (call_lenK K) (by rfl) B.len (by decide +kernel) (pa_cons (pv 1) pa_nil)) (nomark _))))) (pss_one (ps_ret pe_bl)) pss_nil)
 (pss_cons (ps_for PassesOwn.never rfl (pi_range1 (by rfl) B.range (pa_cons (pe_callB (call_lenK K) (by rfl) B.len (by decide +kernel) (pa_cons (pv 1) pa_nil)) pa_nil)) (pg_name (i := 2) sc_law_listed.nd rfl (.inl rfl)) (pss_one (ps_if (PW.pt (pw_or (pt_not (pt_val (pe_fn h_law_number (hr.mono (by decide)) (by rfl) (pa_cons (pe_ix (ix_listK K) (pv 0) (pv 2) (fun _ _ => rfl)) pa_nil)))) (pw_or1 (pt_cmpR op_ne (pe_ix (ix_listK K) (pv 0) (pv 2) (fun _ _ => rfl)) (pe_ix (ix_listK K) (pv 1) (pv 2) (fun _ _ => rfl)) (nomark _))))) (pss_one (ps_ret pe_bl)) pss_nil)))
 (pss_one (ps_ret pe_bl)))), ?_⟩
  walk_at "sts"
  rw [iv_len]
  refine ⟨by omega, by omega, ?_⟩
  refine for_r0 (n := xs.length) rfl (fun i σ H' => ∃ (y2 : Option V), σ = [some (.ref f), some (.ref d), y2] ∧ H' = H) ?_ ?_ ?_
  · exact ⟨_, rfl, rfl⟩
  · rintro i σ H' hi ⟨y2, rfl, rfl⟩
    have a1 := iv_at hi
    walk_at "sts"
    refine ⟨_, rfl, ?_⟩
    walk_at "sts"
    exact ⟨_, rfl, rfl⟩
  · rintro σ H' ⟨y2, rfl, rfl⟩
    walk_at "sts"
    exact q
end

section
variable {P : Program} {w : World} {K : PySem.W.Frag} {mg : Str → Option Value} {base : Heap} {C_Pull C_Push C_Web C_TooWide C_FloorError C_TooMany C_TooRough : Addr}
theorem any_lower {ts : List Ti} {m x : Nat} : (((List.range m).filter fun k => decide (wm ts (x ^^^ 2 ^ k) ts.length < wm ts x ts.length)) = []) ↔ ((List.range m).all fun k => decide (wm ts x ts.length ≤ wm ts (x ^^^ 2 ^ k) ts.length)) = true := by
  rw [List.filter_eq_nil_iff, List.all_eq_true]
  constructor
  · intro h k hk
    have := h k hk
    exact decide_eq_true (by
      have h2 : ¬ wm ts (x ^^^ 2 ^ k) ts.length < wm ts x ts.length := fun z => this (decide_eq_true z)
      omega)
  · intro h k hk z
    have h1 := of_decide_eq_true (h k hk)
    have h2 := of_decide_eq_true z
    omega
theorem ok_law {f : Addr} {fd : FuncData} (F : Fun K "law" "law" s_law f fd) (B : Bl mg) {C_Pull C_Push C_Web C_TooWide C_FloorError C_TooMany C_TooRough : Addr} (T : Txt K mg C_Pull C_Push C_Web C_TooWide C_FloorError C_TooMany C_TooRough) (h_law_cell : Has P w K mg base CX0 1 "_law_cell" ["script", "k"] (spCell K)) (h_law_renumbered : Has P w K mg base CX0 2 "_law_renumbered" ["grown", "cell"] (spRenumB K)) (h_law_kinds : Has P w K mg base CX0 2 "_law_kinds" ["script", "many", "limits"] (spKindsB K)) (h_law_costs : Has P w K mg base CX0 2 "_law_costs" ["grown", "kinds"] (spCostsB K)) (h_law_listed : Has P w K mg base CX0 2 "_law_listed" ["found", "due"] (spListed K)) (h_law_row_of_places : Has P w K mg base CX0 7 "_law_row_of_places" ["many", "cell"] (spRowW K C_Pull C_Push C_Web)) (h_law_grown : Has P w K mg base CX0 3 "_law_grown" ["cells", "places"] (spGrownB K)) (h_resting : Has P w K mg base (L2.CX P w) 6 "resting" ["web"] (spRest K C_Pull C_Push C_Web C_TooWide)) (h_law_short_row : Has P w K mg base CX0 8 "_law_short_row" ["places", "cell"] (spShort K Tb)) (h_law_web : Has P w K mg base CX0 7 "_law_web" ["grown", "kinds"] (spLWebB K C_Pull C_Push C_Web)) (h_law_too_wide : Has P w K mg base CX0 8 "_law_too_wide" ["web", "which", "start", "goal"] (spWide53 K C_Pull C_Push C_Web Tb)) : FnOk P w K mg base CX0 9 f fd ["script"] (spLawT K Tb) := by
  refine F.ok sc_law (by walk_at "len") (fun cdv A outer s H vs Q E hr h => ?_)
  obtain ⟨a, ns, rfl, hS, hlen, _, hTb, q⟩ := h
  have hS0 := hS.sq
  have hcut : cutV (ns.map V.int) (some 2) (some 10) = ((ns.drop 2).take 8).map V.int := by
    rw [List.map_take, List.map_drop]
    exact cutV_nat _ 2 10
  have hcl : ((ns.drop 2).take 8).length ≤ 8 := by rw [List.length_take]; omega
  refine ⟨_, (pss_cons (ps_set (i := 1) sc_law.nd rfl (.inl rfl) (pe_fn h_law_cell (hr.mono (by decide)) (by rfl) (pa_cons (pv 0) (pa_cons pe_int pa_nil))))
 (pss_cutX (ps_if (PW.pt (pw_and (pt_cmpR op_eq (pe_op op_mod (pv 1) pe_int) pe_int (nomark _)) (pw_and1 (pt_not (pt_val (pe_fn h_law_short_row (hr.mono (by decide)) (by rfl) (pa_cons (pe_op op_add pe_int (pe_op op_mod (pe_op op_fdivW (pv 1) pe_int) pe_int)) (pa_cons (pe_op op_fdivW (pv 1) pe_int) pa_nil)))))))) (pss_one (ps_ret pe_bl)) pss_nil)
 (pss_cutX (ps_if (pt_cmpR op_eq (pe_op op_mod (pv 1) pe_int) pe_int (nomark _)) (pss_cons (ps_set (i := 2) sc_law.nd rfl (.inl rfl) (pe_fn h_law_row_of_places (hr.mono (by decide)) (by rfl) (pa_cons (pe_op op_add pe_int (pe_op op_mod (pe_op op_fdivW (pv 1) pe_int) pe_int)) (pa_cons (pe_op op_fdivW (pv 1) pe_int) pa_nil))))
 (pss_one (ps_for PassesOwn.never rfl (pi_range1 (by rfl) B.range (pa_cons pe_int pa_nil)) (pg_name (i := 3) sc_law.nd rfl (.inl rfl)) (pss_one (ps_if (pt_not (pt_val (pe_fn h_law_too_wide (hr.mono (by decide)) (by rfl) (pa_cons (pv 2) (pa_cons (pv 3) (pa_cons (pe_op op_mod (pe_op op_fdivW (pv 1) pe_int) pe_int) (pa_cons (pe_op op_mod (pe_op op_fdivW (pv 1) pe_int) pe_int) pa_nil))))))) (pss_one (ps_ret pe_bl)) pss_nil))))) pss_nil)
 (pss_cons (ps_set (i := 4) sc_law.nd rfl (.inl rfl) (pe_fn h_law_renumbered (hr.mono (by decide)) (by rfl) (pa_cons (pe_fn h_law_grown (hr.mono (by decide)) (by rfl) (pa_cons (pe_slice (sl_listK K) (pv 0) (po_some pe_int) (po_some pe_int)) (pa_cons pe_int pa_nil))) (pa_cons (pv 1) pa_nil))))
 (pss_cons (ps_set (i := 5) sc_law.nd rfl (.inl rfl) (pe_fn h_law_kinds (hr.mono (by decide)) (by rfl) (pa_cons (pv 0) (pa_cons (pe_callB (call_lenK K) (by rfl) B.len (by decide +kernel) (pa_cons (pe_ix (ix_tupK K) (pv 4) pe_int (fun _ _ => rfl)) pa_nil)) (pa_cons (pe_lst (pa_cons pe_int (pa_cons pe_int (pa_cons (pe_op op_add (pe_op op_pow pe_int pe_int) pe_int) pa_nil)))) pa_nil)))))
 (pss_cons (ps_set (i := 6) sc_law.nd rfl (.inr rfl) (pe_fn h_law_costs (hr.mono (by decide)) (by rfl) (pa_cons (pv 4) (pa_cons (pv 5) pa_nil))))
 (pss_cons (ps_set (i := 7) sc_law.nd rfl (.inl rfl) (pe_lst pa_nil))
 (pss_cons (ps_for PassesOwn.never rfl (pi_range1 (by rfl) B.range (pa_cons (pe_callB (call_lenK K) (by rfl) B.len (by decide +kernel) (pa_cons (pv 6) pa_nil)) pa_nil)) (pg_name (i := 8) sc_law.nd rfl (.inr rfl)) (pss_cons (ps_setLc (i := 9) (own := [("p", 10)]) rfl sc_law.nd rfl rfl (sw_true rfl rfl rfl (by decide +kernel)) (pi_range1 (by rfl) B.range (pa_cons (pe_callB (call_lenK K) (by rfl) B.len (by decide +kernel) (pa_cons (pe_ix (ix_tupK K) (pv 4) pe_int (fun _ _ => rfl)) pa_nil)) pa_nil)) (blkOk_by (own := [("p", 10)]) (N := ["script", "cell", "wide", "which", "grown", "kinds", "costs", "due", "laying", "lower", "p"]) (sc := defScope s_law) (by decide +kernel)) (fun _ _ _ _ _ => pg_name (i := 10) sc_law.nd rfl (Or.inl rfl)) (fun _ _ _ _ _ => (pts_one (pt_cmpR op_lt (pe_ix (ix_listK K) (pv 6) (pe_op op_xor (pv 8) (pe_op op_shlW pe_int (pv 10))) (fun _ _ => rfl)) (pe_ix (ix_listK K) (pv 6) (pv 8) (fun _ _ => rfl)) (nomark _)))) (fun _ _ _ _ _ => (pv 10)))
 (pss_one (ps_if (pt_cmpR (op_eqDK K hr.units) (pv 9) (pe_lst pa_nil) (nomark _)) (pss_one (ps_expr (pe_bmK K (pe_bm PySem.F.plainAttrs_list PySem.F.slot_list_append PySem.F.type_list_append mt_append (pv 7) (pa_cons (pv 8) pa_nil))))) pss_nil))))
 (pss_one (ps_ret (pe_fn h_law_listed (hr.mono (by decide)) (by rfl) (pa_cons (pe_fnL h_resting (hr.mono (by decide)) (by rfl) (pa_cons (pe_fn h_law_web (hr.mono (by decide)) (by rfl) (pa_cons (pv 4) (pa_cons (pv 5) pa_nil))) pa_nil)) (pa_cons (pv 7) pa_nil))))))))))))), ?_⟩
  walk_at "sts"
  refine ⟨a, ns, 0, rfl, hS0, ?_⟩
  walk_at "sts"
  try dsimp only
  generalize ns.getD 0 0 = c0
  refine w_cut (fun σ' H' => σ' = [some (.ref a), some (.int c0), none, none, none, none, none, none, none, none, none] ∧ Same (noT H) H' ∧ LamX.Tabs Tb H') ?_ ?_
  · walk_at "sts"
    refine ifd (fun h1 => ?_) (fun h1 => ?_)
    · walk_at "sts"
      obtain ⟨pl, hpl, h7, h10⟩ : ∃ pl : Nat, 7 + c0 / 10 % 4 = (pl : Nat) ∧ 7 ≤ pl ∧ pl ≤ 10 := ⟨(7 + c0 / 10 % 4).toNat, by omega, by omega, by omega⟩
      rw [hpl]
      refine ⟨pl, _, rfl, h7, h10, hTb, fun H1 s1 hT1 => ?_⟩
      walk_at "sts"
      exact ⟨rfl, s1, hT1⟩
    · walk_at "sts"
      exact ⟨rfl, noT_le, hTb⟩
  rintro σ' H1 ⟨rfl, s1, hT1⟩
  have hS1 := s1.seq (noT_seqL hS0)
  walk_at "sts"
  try dsimp only
  refine w_cut (fun σ' H' => ∃ y2 y3 : Option V, σ' = [some (.ref a), some (.int c0), y2, y3, none, none, none, none, none, none, none] ∧ Same H1 H') ?_ ?_
  · walk_at "sts"
    refine ifd (fun h1 => ?_) (fun h1 => ?_)
    · walk_at "sts"
      obtain ⟨n, hn, hn2, hn3⟩ : ∃ n : Nat, 11 + c0 / 5 % 30 = ((n + 2 : Nat) : Int) ∧ 9 ≤ n ∧ n ≤ 38 := ⟨(9 + c0 / 5 % 30).toNat, by omega, by omega, by omega⟩
      rw [hn]
      refine ⟨n, _, rfl, by omega, fun p H2 R s2 n2 w2 hW2 => ?_⟩
      walk_at "sts"
      refine for_r0 (n := 4) rfl (fun i σ H' => ∃ y3 : Option V, σ = [some (.ref a), some (.int c0), some (.ref p), y3, none, none, none, none, none, none, none] ∧ Same H2 H') ?_ ?_ ?_
      · exact ⟨_, rfl, Same.refl _⟩
      · rintro i σ H' hi ⟨y3, rfl, s3⟩
        obtain ⟨st, hst, _⟩ := modN (c0 / 11) (show 0 < 2048 by decide)
        obtain ⟨gl, hgl, _⟩ := modN (c0 / 13) (show 0 < 2048 by decide)
        have hst : c0 / 11 % 2048 = (st : Nat) := hst
        have hgl : c0 / 13 % 2048 = (gl : Nat) := hgl
        walk_at "sts"
        rw [hst, hgl]
        refine ⟨p, _, i, st, gl, rfl, hW2.same s3, hT1.ext (s2.trans s3), ?_, by omega, fun H3 s4 => ?_⟩
        · show 10 < (rowTn (n + 1)).length
          rw [rowTn_len (by omega)]; omega
        walk_at "sts"
        exact ⟨_, rfl, s3.trans s4⟩
      · rintro σ H' ⟨y3, rfl, s3⟩
        exact ⟨_, _, rfl, s2.trans s3⟩
    · walk_at "sts"
      exact ⟨_, _, rfl, Same.refl _⟩
  rintro σ' H2 ⟨y2, y3, rfl, s2⟩
  have hS2 := s2.seq hS1
  walk_at "sts"
  refine w_new fun pc nc => ?_
  rw [hcut]
  have s3 := same_upd (o := .lst (((ns.drop 2).take 8).map V.int)) nc
  have lc : upd H2 pc (.lst (((ns.drop 2).take 8).map V.int)) pc = some (.lst (((ns.drop 2).take 8).map V.int)) := upd_same
  generalize upd H2 pc (.lst (((ns.drop 2).take 8).map V.int)) = H3 at s3 lc ⊢
  walk_at "sts"
  refine ⟨pc, _, 6, rfl, SqL.of lc, by omega, by decide, by decide, fun p4 H4 E4 T4 R4 s4 n4 hg4 hG4 z1 z2 z3 z4 => ?_⟩
  have hS4 := (s3.trans s4).seq hS2
  walk_at "sts"
  refine ⟨p4, c0, E4, T4, R4, rfl, hg4, hG4, by omega, by omega, z3, fun p5 H5 E5 T5 R5 s5 n5 hg5 hG5 w1 w2 => ?_⟩
  have hS5 := s5.seq hS4
  obtain ⟨e, t, r, hA, hE, hT, hR⟩ := id hg5
  obtain ⟨es, he, hEs⟩ := dpLstA hE
  have hel : es.length = E5.length := by have := dpaLen hEs; simpa using this
  walk_at "sts"
  rw [hel]
  refine w_new fun pl nl => ?_
  have sl := same_upd (o := .lst [.int 2, .int 4, .int (10 ^ Int.toNat 30 + 1)]) nl
  have hll : SqL K (upd H5 pl (.lst [.int 2, .int 4, .int (10 ^ Int.toNat 30 + 1)])) pl (([2, 4, 10 ^ 30 + 1] : List Int).map V.int) := SqL.of upd_same
  have hS6 := sl.seq hS5
  generalize upd H5 pl (.lst [.int 2, .int 4, .int (10 ^ Int.toNat 30 + 1)]) = H6 at sl hll hS6 ⊢
  refine ⟨a, pl, ns, [2, 4, 10 ^ 30 + 1], E5, rfl, hS6, by omega, hll, by decide, by decide, by omega, by omega, fun p7 H7 ts s7 n7 hd7 hen hs30 => ?_⟩
  subst hen
  have hel2 : ts.length = (endsOf ts).length := by rw [endsOf_len]
  have hg7 := hg5.same (sl.trans s7)
  have hR5l := hG5.rlen
  have hR5p := hG5.rpos (by omega)
  have hBt : Built ts T5 100 := ⟨hG5.flat, by omega, by omega, by omega, by omega, hs30⟩
  walk_at "sts"
  refine ⟨p5, p7, ts, T5, R5, rfl, hg7, hd7, by omega, by omega, fun pk H8 s8 nk lk => ?_⟩
  have hg8 := hg7.same s8
  have hd8 := hd7.same s8
  obtain ⟨N, hN, hN2⟩ : ∃ N : Nat, 2 ^ T5.length = N ∧ N ≤ 1024 := ⟨_, rfl, Nat.le_trans (Nat.pow_le_pow_right (by decide) (show T5.length ≤ 10 by omega)) (by decide)⟩
  walk_at "sts"
  refine w_new fun D nD => ?_
  have s9 := same_upd (o := .lst ([] : List V)) nD
  have lD : upd H8 D (.lst []) D = some (.lst (iv (rests ts T5.length 0))) := upd_same
  generalize upd H8 D (.lst []) = H9 at s9 lD ⊢
  have lk9 := SqL.of (K := K) (s9 _ _ lk)
  walk_at "sts"
  rw [wms_len, hN]
  refine ⟨by omega, by omega, ?_⟩
  refine for_r0 (n := N) rfl (fun i σ H' => ∃ (z2 z3 z8 z9 z10 : Option V), σ = [some (.ref a), some (.int c0), z2, z3, some (.ref p5), some (.ref p7), some (.ref pk), some (.ref D), z8, z9, z10] ∧ Same H8 H' ∧ H' D = some (.lst (iv (rests ts T5.length i)))) ?_ ?_ ?_
  · exact ⟨_, _, _, _, _, rfl, s9, lD⟩
  · rintro i σ H' hi ⟨z2, z3, z8, z9, z10, rfl, sH, lD⟩
    have lk' := SqL.of (K := K) (sH _ _ lk)
    obtain ⟨e', t', r', hA', hE', hT', hR'⟩ := id (hg8.same sH)
    obtain ⟨us, hu, hus⟩ := dpLstA hT'
    have hul : us.length = T5.length := by have := dpaLen hus; simpa using this
    have a1 := wms_at (ts := ts) (n := 2 ^ T5.length) (l := i) (by omega)
    have hrl := rests_len ts T5.length i
    have hrs := rests_succ ts T5.length i
    walk_at "sts"
    rw [hul]
    intro D2 nD2
    refine lc_r0 (n := T5.length) rfl (fun k H2 => Same H' H2 ∧ H2 D2 = some (.lst (iv ((List.range k).filter fun k => decide (wm ts (i ^^^ 2 ^ k) ts.length < wm ts i ts.length))))) ?_ ?_ ?_
    · exact ⟨same_upd nD2, upd_same⟩
    · rintro k H2 hk ⟨s2, l2⟩
      have a2 := wms_at (ts := ts) (n := 2 ^ T5.length) (l := i ^^^ 2 ^ k) (turn_lt (by omega) hk)
      have lk2 := s2.seq lk'
      have hfs := filter_snoc (fun k => decide (wm ts (i ^^^ 2 ^ k) ts.length < wm ts i ts.length)) k
      have hfl : ((List.range k).filter fun k => decide (wm ts (i ^^^ 2 ^ k) ts.length < wm ts i ts.length)).length ≤ k := by
        have := List.length_filter_le (fun k => decide (wm ts (i ^^^ 2 ^ k) ts.length < wm ts i ts.length)) (List.range k)
        rwa [List.length_range] at this
      walk_at "sts"
      rw [shl_one, xor_nat]
      walk_at "sts"
      refine ifd (fun h1 => ?_) (fun h1 => ?_)
      · rw [if_pos (decide_eq_true (by omega))] at hfs
        walk_at "sts"
        refine ⟨_, l2, szlt (by rw [iv_len]; omega), s2.mut nD2, ?_⟩
        rw [upd_same, hfs, iv_app]; rfl
      · rw [if_neg (fun z => h1 (by have := of_decide_eq_true z; omega))] at hfs
        exact ⟨s2, by rw [hfs]; exact l2⟩
    rintro H3 ⟨s3, l3⟩
    have sA := sH.trans s3
    have lD3 := s3 _ _ lD
    walk_at "sts"
    refine w_new fun e0 ne0 => ?_
    refine w_eqNilI (SqL.of (same_upd ne0 _ _ l3)) upd_same ?_
    have sE := same_upd (o := .lst ([] : List V)) ne0
    have lDE := sE _ _ lD3
    walk_at "sts"
    refine ifd (fun h1 => ?_) (fun h1 => ?_)
    · rw [if_pos (any_lower.mp h1)] at hrs
      have hsz : (iv (rests ts T5.length i)).length < sizeLine := szlt (by rw [iv_len]; omega)
      walk_at "sts"
      exact ⟨_, _, _, _, _, rfl, (sA.trans sE).mut nD, by rw [upd_same, hrs, iv_app]; rfl⟩
    · rw [if_neg (fun z => h1 (any_lower.mpr z))] at hrs
      walk_at "sts"
      exact ⟨_, _, _, _, _, rfl, sA.trans sE, by rw [hrs]; exact lDE⟩
  rintro σ H' ⟨z2, z3, z8, z9, z10, rfl, sH, lD⟩
  walk_at "sts"
  refine ⟨p5, p7, ts, T5, R5, rfl, hg8.same sH, hd8.same sH, hBt, fun p6 H6 R s6 n6 w6 hw6 => ?_⟩
  walk_at "sts"
  refine ⟨p6, _, rfl, hw6, fun z => absurd z (by show ¬ 10 < T5.length; omega), fun q2 H10 _ s10 _ l10 => ?_⟩
  walk_at "sts"
  refine ⟨q2, D, rests ts T5.length N, rfl, by rw [← hN]; exact l10, SqL.of ((s6.trans s10) _ _ lD), by have := rests_len ts T5.length N; omega, ?_⟩
  walk_at "sts"
  exact q _
end

theorem all_mk {l : PySem.W.OpenLaw} {w : World} {K : PySem.W.Frag} {h : Heap} {mg : Str → Option Value} {fa f0 f1 f2 f3 f4 f5 f6 f7 f8 f9 f10 f11 f12 f13 f14 f15 f16 f17 f18 f19 f20 f21 f22 f23 f24 f25 f26 f27 f28 f29 f30 f31 f32 f33 f34 f35 f36 f37 f38 f39 f40 f41 C_Pull C_Push C_Web C_TooWide C_FloorError C_TooMany C_TooRough : Addr} (X : K.In h) (G : h.Ns mainGlobals mg) (hfa : mg "law" = some (.ref fa))
    {t_MOST_PLACES : Tok}
    {od0 an0 od1 an1 od2 an2 od3 an3 od4 an4 od5 an5 od6 an6 od7 an7 od8 an8 od9 an9 od10 an10 od11 an11 od12 an12 od13 an13 od14 an14 od15 an15 od16 an16 od17 an17 od18 an18 od19 an19 od20 an20 od21 an21 od22 an22 od23 an23 od24 an24 od25 an25 od26 an26 od27 an27 od28 an28 od29 an29 od30 an30 od31 an31 od32 an32 od33 an33 od34 an34 od35 an35 od36 an36 od37 an37 od38 an38 od39 an39 od40 an40 od41 an41 : Option Addr} {sl0 sl1 sl2 sl3 sl4 sl5 sl6 sl7 sl8 sl9 sl10 sl11 sl12 sl13 sl14 sl15 sl16 sl17 sl18 sl19 sl20 sl21 sl22 sl23 sl24 sl25 sl26 sl27 sl28 sl29 sl30 sl31 sl32 sl33 sl34 sl35 sl36 sl37 sl38 sl39 sl40 sl41 : Array (Option Value)} {oc0 kV0 dc0 pm0 ct0 cd0 oc1 kV1 dc1 pm1 ct1 cd1 oc2 kV2 dc2 pm2 ct2 cd2 oc3 kV3 dc3 pm3 ct3 cd3 oc4 kV4 dc4 pm4 ct4 cd4 oc5 kV5 dc5 pm5 ct5 cd5 oc6 kV6 dc6 pm6 ct6 cd6 oc7 kV7 dc7 pm7 ct7 cd7 oc8 kV8 dc8 pm8 ct8 cd8 oc9 kV9 dc9 pm9 ct9 cd9 oc10 kV10 dc10 pm10 ct10 cd10 oc11 kV11 dc11 pm11 ct11 oc12 kV12 dc12 pm12 ct12 oc13 kV13 dc13 pm13 ct13 cd13 oc14 kV14 dc14 pm14 ct14 cd14 oc15 kV15 dc15 pm15 ct15 cd15 oc16 kV16 dc16 pm16 ct16 cd16 oc17 kV17 dc17 pm17 ct17 cd17 oc18 kV18 dc18 pm18 ct18 cd18 oc19 kV19 dc19 pm19 ct19 cd19 oc20 kV20 dc20 pm20 ct20 cd20 oc21 kV21 dc21 pm21 ct21 cd21 oc22 kV22 dc22 pm22 ct22 cd22 oc23 kV23 dc23 pm23 ct23 cd23 oc24 kV24 dc24 pm24 ct24 cd24 oc25 kV25 dc25 pm25 ct25 cd25 oc26 kV26 dc26 pm26 ct26 cd26 oc27 kV27 dc27 pm27 ct27 cd27 oc28 kV28 dc28 pm28 ct28 cd28 oc29 kV29 dc29 pm29 ct29 cd29 oc30 kV30 dc30 pm30 ct30 cd30 oc31 kV31 dc31 pm31 ct31 cd31 oc32 kV32 dc32 pm32 ct32 cd32 oc33 kV33 dc33 pm33 ct33 cd33 oc34 kV34 dc34 pm34 ct34 cd34 oc35 kV35 dc35 pm35 ct35 cd35 oc36 kV36 dc36 pm36 ct36 cd36 oc37 kV37 dc37 pm37 ct37 cd37 oc38 kV38 dc38 pm38 ct38 cd38 oc39 kV39 dc39 pm39 ct39 cd39 oc40 kV40 dc40 pm40 ct40 cd40 oc41 kV41 dc41 pm41 ct41 cd41 : Value}
    {cc11 PP11 cc12 PP12 : Addr}
    (g_Pull : PySem.W.nsIn K mainGlobals "Pull" = some (some (.ref C_Pull)))
    (g_Push : PySem.W.nsIn K mainGlobals "Push" = some (some (.ref C_Push)))
    (g_Web : PySem.W.nsIn K mainGlobals "Web" = some (some (.ref C_Web)))
    (g_TooWide : PySem.W.nsIn K mainGlobals "TooWide" = some (some (.ref C_TooWide)))
    (g_FloorError : PySem.W.nsIn K mainGlobals "FloorError" = some (some (.ref C_FloorError)))
    (g_TooMany : PySem.W.nsIn K mainGlobals "TooMany" = some (some (.ref C_TooMany)))
    (g_TooRough : PySem.W.nsIn K mainGlobals "TooRough" = some (some (.ref C_TooRough)))
    (r0_Pull : PySem.W.findIn K (.ref C_Pull) "wish" = some (some (.ref f0)))
    (i0 : PySem.W.isFn K (.ref f0) = true)
    (l0 : K.lookup f0 = some ⟨oc0, od0, .func (PySem.W.fnOf "wish" "Pull.wish" (defArgs s_Pull_wish) (defBody s_Pull_wish) (defScope s_Pull_wish) .none kV0 dc0 pm0 an0 cd0 ct0), sl0⟩)
    (c0 : PySem.W.codeIn K cd0 "Pull.wish" = true)
    (k0 : PySem.W.keepIn K (.ref f0) = true)
    (r1_Push : PySem.W.findIn K (.ref C_Push) "wish" = some (some (.ref f1)))
    (i1 : PySem.W.isFn K (.ref f1) = true)
    (l1 : K.lookup f1 = some ⟨oc1, od1, .func (PySem.W.fnOf "wish" "Push.wish" (defArgs s_Push_wish) (defBody s_Push_wish) (defScope s_Push_wish) .none kV1 dc1 pm1 an1 cd1 ct1), sl1⟩)
    (c1 : PySem.W.codeIn K cd1 "Push.wish" = true)
    (k1 : PySem.W.keepIn K (.ref f1) = true)
    (r2_Pull : PySem.W.findIn K (.ref C_Pull) "unpleased" = some (some (.ref f2)))
    (r2_Push : PySem.W.findIn K (.ref C_Push) "unpleased" = some (some (.ref f2)))
    (i2 : PySem.W.isFn K (.ref f2) = true)
    (l2 : K.lookup f2 = some ⟨oc2, od2, .func (PySem.W.fnOf "unpleased" "Tie.unpleased" (defArgs s_Tie_unpleased) (defBody s_Tie_unpleased) (defScope s_Tie_unpleased) .none kV2 dc2 pm2 an2 cd2 ct2), sl2⟩)
    (c2 : PySem.W.codeIn K cd2 "Tie.unpleased" = true)
    (k2 : PySem.W.keepIn K (.ref f2) = true)
    (r3_Pull : PySem.W.findIn K (.ref C_Pull) "price" = some (some (.ref f3)))
    (r3_Push : PySem.W.findIn K (.ref C_Push) "price" = some (some (.ref f3)))
    (i3 : PySem.W.isFn K (.ref f3) = true)
    (l3 : K.lookup f3 = some ⟨oc3, od3, .func (PySem.W.fnOf "price" "Tie.price" (defArgs s_Tie_price) (defBody s_Tie_price) (defScope s_Tie_price) .none kV3 dc3 pm3 an3 cd3 ct3), sl3⟩)
    (c3 : PySem.W.codeIn K cd3 "Tie.price" = true)
    (k3 : PySem.W.keepIn K (.ref f3) = true)
    (a4 : PySem.W.nsIn K mainGlobals "worth" = some (some (.ref f4)))
    (l4 : K.lookup f4 = some ⟨oc4, od4, .func (PySem.W.fnOf "worth" "worth" (defArgs s_worth) (defBody s_worth) (defScope s_worth) .none kV4 dc4 pm4 an4 cd4 ct4), sl4⟩)
    (c4 : PySem.W.codeIn K cd4 "worth" = true)
    (k4 : PySem.W.keepIn K (.ref f4) = true)
    (a5 : PySem.W.nsIn K mainGlobals "worths_told" = some (some (.ref f5)))
    (l5 : K.lookup f5 = some ⟨oc5, od5, .func (PySem.W.fnOf "worths_told" "worths_told" (defArgs s_worths_told) (defBody s_worths_told) (defScope s_worths_told) .none kV5 dc5 pm5 an5 cd5 ct5), sl5⟩)
    (c5 : PySem.W.codeIn K cd5 "worths_told" = true)
    (k5 : PySem.W.keepIn K (.ref f5) = true)
    (a6 : PySem.W.nsIn K mainGlobals "steps_from" = some (some (.ref f6)))
    (l6 : K.lookup f6 = some ⟨oc6, od6, .func (PySem.W.fnOf "steps_from" "steps_from" (defArgs s_steps_from) (defBody s_steps_from) (defScope s_steps_from) .none kV6 dc6 pm6 an6 cd6 ct6), sl6⟩)
    (c6 : PySem.W.codeIn K cd6 "steps_from" = true)
    (k6 : PySem.W.keepIn K (.ref f6) = true)
    (a7 : PySem.W.nsIn K mainGlobals "least_at" = some (some (.ref f7)))
    (l7 : K.lookup f7 = some ⟨oc7, od7, .func (PySem.W.fnOf "least_at" "least_at" (defArgs s_least_at) (defBody s_least_at) (defScope s_least_at) .none kV7 dc7 pm7 an7 cd7 ct7), sl7⟩)
    (c7 : PySem.W.codeIn K cd7 "least_at" = true)
    (k7 : PySem.W.keepIn K (.ref f7) = true)
    (a8 : PySem.W.nsIn K mainGlobals "way_back" = some (some (.ref f8)))
    (l8 : K.lookup f8 = some ⟨oc8, od8, .func (PySem.W.fnOf "way_back" "way_back" (defArgs s_way_back) (defBody s_way_back) (defScope s_way_back) .none kV8 dc8 pm8 an8 cd8 ct8), sl8⟩)
    (c8 : PySem.W.codeIn K cd8 "way_back" = true)
    (k8 : PySem.W.keepIn K (.ref f8) = true)
    (a9 : PySem.W.nsIn K mainGlobals "climb" = some (some (.ref f9)))
    (l9 : K.lookup f9 = some ⟨oc9, od9, .func (PySem.W.fnOf "climb" "climb" (defArgs s_climb) (defBody s_climb) (defScope s_climb) .none kV9 dc9 pm9 an9 cd9 ct9), sl9⟩)
    (c9 : PySem.W.codeIn K cd9 "climb" = true)
    (k9 : PySem.W.keepIn K (.ref f9) = true)
    (a10 : PySem.W.nsIn K mainGlobals "spread" = some (some (.ref f10)))
    (l10 : K.lookup f10 = some ⟨oc10, od10, .func (PySem.W.fnOf "spread" "spread" (defArgs s_spread) (defBody s_spread) (defScope s_spread) .none kV10 dc10 pm10 an10 cd10 ct10), sl10⟩)
    (c10 : PySem.W.codeIn K cd10 "spread" = true)
    (k10 : PySem.W.keepIn K (.ref f10) = true)
    (a11 : PySem.W.nsIn K mainGlobals "shore" = some (some (.ref f11)))
    (l11 : K.lookup f11 = some ⟨oc11, od11, .func (PySem.W.fnOf "shore" "shore" (defArgs s_shore) (defBody s_shore) (defScope s_shore) .none kV11 dc11 pm11 an11 (.ref cc11) ct11), sl11⟩)
    (c11 : PySem.W.codeIn K (.ref cc11) "shore" = true)
    (k11 : PySem.W.keepIn K (.ref f11) = true)
    (a12 : PySem.W.nsIn K mainGlobals "falls" = some (some (.ref f12)))
    (l12 : K.lookup f12 = some ⟨oc12, od12, .func (PySem.W.fnOf "falls" "falls" (defArgs s_falls) (defBody s_falls) (defScope s_falls) .none kV12 dc12 pm12 an12 (.ref cc12) ct12), sl12⟩)
    (c12 : PySem.W.codeIn K (.ref cc12) "falls" = true)
    (k12 : PySem.W.keepIn K (.ref f12) = true)
    (a13 : PySem.W.nsIn K mainGlobals "resting" = some (some (.ref f13)))
    (l13 : K.lookup f13 = some ⟨oc13, od13, .func (PySem.W.fnOf "resting" "resting" (defArgs s_resting) (defBody s_resting) (defScope s_resting) .none kV13 dc13 pm13 an13 cd13 ct13), sl13⟩)
    (c13 : PySem.W.codeIn K cd13 "resting" = true)
    (k13 : PySem.W.keepIn K (.ref f13) = true)
    (r14_Pull : PySem.W.findIn K (.ref C_Pull) "__init__" = some (some (.ref f14)))
    (r14_Push : PySem.W.findIn K (.ref C_Push) "__init__" = some (some (.ref f14)))
    (i14 : PySem.W.isFn K (.ref f14) = true)
    (l14 : K.lookup f14 = some ⟨oc14, od14, .func (PySem.W.fnOf "__init__" "Tie.__init__" (defArgs s_Tie___init__) (defBody s_Tie___init__) (defScope s_Tie___init__) .none kV14 dc14 pm14 an14 cd14 ct14), sl14⟩)
    (c14 : PySem.W.codeIn K cd14 "Tie.__init__" = true)
    (k14 : PySem.W.keepIn K (.ref f14) = true)
    (a15 : PySem.W.nsIn K mainGlobals "head" = some (some (.ref f15)))
    (l15 : K.lookup f15 = some ⟨oc15, od15, .func (PySem.W.fnOf "head" "head" (defArgs s_head) (defBody s_head) (defScope s_head) .none kV15 dc15 pm15 an15 cd15 ct15), sl15⟩)
    (c15 : PySem.W.codeIn K cd15 "head" = true)
    (k15 : PySem.W.keepIn K (.ref f15) = true)
    (a16 : PySem.W.nsIn K mainGlobals "follower" = some (some (.ref f16)))
    (l16 : K.lookup f16 = some ⟨oc16, od16, .func (PySem.W.fnOf "follower" "follower" (defArgs s_follower) (defBody s_follower) (defScope s_follower) .none kV16 dc16 pm16 an16 cd16 ct16), sl16⟩)
    (c16 : PySem.W.codeIn K cd16 "follower" = true)
    (k16 : PySem.W.keepIn K (.ref f16) = true)
    (a17 : PySem.W.nsIn K mainGlobals "round_from" = some (some (.ref f17)))
    (l17 : K.lookup f17 = some ⟨oc17, od17, .func (PySem.W.fnOf "round_from" "round_from" (defArgs s_round_from) (defBody s_round_from) (defScope s_round_from) .none kV17 dc17 pm17 an17 cd17 ct17), sl17⟩)
    (c17 : PySem.W.codeIn K cd17 "round_from" = true)
    (k17 : PySem.W.keepIn K (.ref f17) = true)
    (a18 : PySem.W.nsIn K mainGlobals "rounds_of" = some (some (.ref f18)))
    (l18 : K.lookup f18 = some ⟨oc18, od18, .func (PySem.W.fnOf "rounds_of" "rounds_of" (defArgs s_rounds_of) (defBody s_rounds_of) (defScope s_rounds_of) .none kV18 dc18 pm18 an18 cd18 ct18), sl18⟩)
    (c18 : PySem.W.codeIn K cd18 "rounds_of" = true)
    (k18 : PySem.W.keepIn K (.ref f18) = true)
    (a19 : PySem.W.nsIn K mainGlobals "sides_of" = some (some (.ref f19)))
    (l19 : K.lookup f19 = some ⟨oc19, od19, .func (PySem.W.fnOf "sides_of" "sides_of" (defArgs s_sides_of) (defBody s_sides_of) (defScope s_sides_of) .none kV19 dc19 pm19 an19 cd19 ct19), sl19⟩)
    (c19 : PySem.W.codeIn K cd19 "sides_of" = true)
    (k19 : PySem.W.keepIn K (.ref f19) = true)
    (a20 : PySem.W.nsIn K mainGlobals "ends_are_places" = some (some (.ref f20)))
    (l20 : K.lookup f20 = some ⟨oc20, od20, .func (PySem.W.fnOf "ends_are_places" "ends_are_places" (defArgs s_ends_are_places) (defBody s_ends_are_places) (defScope s_ends_are_places) .none kV20 dc20 pm20 an20 cd20 ct20), sl20⟩)
    (c20 : PySem.W.codeIn K cd20 "ends_are_places" = true)
    (k20 : PySem.W.keepIn K (.ref f20) = true)
    (a21 : PySem.W.nsIn K mainGlobals "turns_are_right" = some (some (.ref f21)))
    (l21 : K.lookup f21 = some ⟨oc21, od21, .func (PySem.W.fnOf "turns_are_right" "turns_are_right" (defArgs s_turns_are_right) (defBody s_turns_are_right) (defScope s_turns_are_right) .none kV21 dc21 pm21 an21 cd21 ct21), sl21⟩)
    (c21 : PySem.W.codeIn K cd21 "turns_are_right" = true)
    (k21 : PySem.W.keepIn K (.ref f21) = true)
    (a22 : PySem.W.nsIn K mainGlobals "hangs_together" = some (some (.ref f22)))
    (l22 : K.lookup f22 = some ⟨oc22, od22, .func (PySem.W.fnOf "hangs_together" "hangs_together" (defArgs s_hangs_together) (defBody s_hangs_together) (defScope s_hangs_together) .none kV22 dc22 pm22 an22 cd22 ct22), sl22⟩)
    (c22 : PySem.W.codeIn K cd22 "hangs_together" = true)
    (k22 : PySem.W.keepIn K (.ref f22) = true)
    (r23_Web : PySem.W.findIn K (.ref C_Web) "__init__" = some (some (.ref f23)))
    (i23 : PySem.W.isFn K (.ref f23) = true)
    (l23 : K.lookup f23 = some ⟨oc23, od23, .func (PySem.W.fnOf "__init__" "Web.__init__" (defArgs s_Web___init__) (defBody s_Web___init__) (defScope s_Web___init__) .none kV23 dc23 pm23 an23 cd23 ct23), sl23⟩)
    (c23 : PySem.W.codeIn K cd23 "Web.__init__" = true)
    (k23 : PySem.W.keepIn K (.ref f23) = true)
    (a24 : PySem.W.nsIn K mainGlobals "_law_cell" = some (some (.ref f24)))
    (l24 : K.lookup f24 = some ⟨oc24, od24, .func (PySem.W.fnOf "_law_cell" "_law_cell" (defArgs s_law_cell) (defBody s_law_cell) (defScope s_law_cell) .none kV24 dc24 pm24 an24 cd24 ct24), sl24⟩)
    (c24 : PySem.W.codeIn K cd24 "_law_cell" = true)
    (k24 : PySem.W.keepIn K (.ref f24) = true)
    (a25 : PySem.W.nsIn K mainGlobals "_law_head" = some (some (.ref f25)))
    (l25 : K.lookup f25 = some ⟨oc25, od25, .func (PySem.W.fnOf "_law_head" "_law_head" (defArgs s_law_head) (defBody s_law_head) (defScope s_law_head) .none kV25 dc25 pm25 an25 cd25 ct25), sl25⟩)
    (c25 : PySem.W.codeIn K cd25 "_law_head" = true)
    (k25 : PySem.W.keepIn K (.ref f25) = true)
    (a26 : PySem.W.nsIn K mainGlobals "_law_put" = some (some (.ref f26)))
    (l26 : K.lookup f26 = some ⟨oc26, od26, .func (PySem.W.fnOf "_law_put" "_law_put" (defArgs s_law_put) (defBody s_law_put) (defScope s_law_put) .none kV26 dc26 pm26 an26 cd26 ct26), sl26⟩)
    (c26 : PySem.W.codeIn K cd26 "_law_put" = true)
    (k26 : PySem.W.keepIn K (.ref f26) = true)
    (a27 : PySem.W.nsIn K mainGlobals "_law_step" = some (some (.ref f27)))
    (l27 : K.lookup f27 = some ⟨oc27, od27, .func (PySem.W.fnOf "_law_step" "_law_step" (defArgs s_law_step) (defBody s_law_step) (defScope s_law_step) .none kV27 dc27 pm27 an27 cd27 ct27), sl27⟩)
    (c27 : PySem.W.codeIn K cd27 "_law_step" = true)
    (k27 : PySem.W.keepIn K (.ref f27) = true)
    (a28 : PySem.W.nsIn K mainGlobals "_law_grown" = some (some (.ref f28)))
    (l28 : K.lookup f28 = some ⟨oc28, od28, .func (PySem.W.fnOf "_law_grown" "_law_grown" (defArgs s_law_grown) (defBody s_law_grown) (defScope s_law_grown) .none kV28 dc28 pm28 an28 cd28 ct28), sl28⟩)
    (c28 : PySem.W.codeIn K cd28 "_law_grown" = true)
    (k28 : PySem.W.keepIn K (.ref f28) = true)
    (a29 : PySem.W.nsIn K mainGlobals "_law_order" = some (some (.ref f29)))
    (l29 : K.lookup f29 = some ⟨oc29, od29, .func (PySem.W.fnOf "_law_order" "_law_order" (defArgs s_law_order) (defBody s_law_order) (defScope s_law_order) .none kV29 dc29 pm29 an29 cd29 ct29), sl29⟩)
    (c29 : PySem.W.codeIn K cd29 "_law_order" = true)
    (k29 : PySem.W.keepIn K (.ref f29) = true)
    (a30 : PySem.W.nsIn K mainGlobals "_law_renumbered" = some (some (.ref f30)))
    (l30 : K.lookup f30 = some ⟨oc30, od30, .func (PySem.W.fnOf "_law_renumbered" "_law_renumbered" (defArgs s_law_renumbered) (defBody s_law_renumbered) (defScope s_law_renumbered) .none kV30 dc30 pm30 an30 cd30 ct30), sl30⟩)
    (c30 : PySem.W.codeIn K cd30 "_law_renumbered" = true)
    (k30 : PySem.W.keepIn K (.ref f30) = true)
    (a31 : PySem.W.nsIn K mainGlobals "_law_kinds" = some (some (.ref f31)))
    (l31 : K.lookup f31 = some ⟨oc31, od31, .func (PySem.W.fnOf "_law_kinds" "_law_kinds" (defArgs s_law_kinds) (defBody s_law_kinds) (defScope s_law_kinds) .none kV31 dc31 pm31 an31 cd31 ct31), sl31⟩)
    (c31 : PySem.W.codeIn K cd31 "_law_kinds" = true)
    (k31 : PySem.W.keepIn K (.ref f31) = true)
    (a32 : PySem.W.nsIn K mainGlobals "_law_web" = some (some (.ref f32)))
    (l32 : K.lookup f32 = some ⟨oc32, od32, .func (PySem.W.fnOf "_law_web" "_law_web" (defArgs s_law_web) (defBody s_law_web) (defScope s_law_web) .none kV32 dc32 pm32 an32 cd32 ct32), sl32⟩)
    (c32 : PySem.W.codeIn K cd32 "_law_web" = true)
    (k32 : PySem.W.keepIn K (.ref f32) = true)
    (a33 : PySem.W.nsIn K mainGlobals "_law_worth" = some (some (.ref f33)))
    (l33 : K.lookup f33 = some ⟨oc33, od33, .func (PySem.W.fnOf "_law_worth" "_law_worth" (defArgs s_law_worth) (defBody s_law_worth) (defScope s_law_worth) .none kV33 dc33 pm33 an33 cd33 ct33), sl33⟩)
    (c33 : PySem.W.codeIn K cd33 "_law_worth" = true)
    (k33 : PySem.W.keepIn K (.ref f33) = true)
    (a34 : PySem.W.nsIn K mainGlobals "_law_costs" = some (some (.ref f34)))
    (l34 : K.lookup f34 = some ⟨oc34, od34, .func (PySem.W.fnOf "_law_costs" "_law_costs" (defArgs s_law_costs) (defBody s_law_costs) (defScope s_law_costs) .none kV34 dc34 pm34 an34 cd34 ct34), sl34⟩)
    (c34 : PySem.W.codeIn K cd34 "_law_costs" = true)
    (k34 : PySem.W.keepIn K (.ref f34) = true)
    (a35 : PySem.W.nsIn K mainGlobals "_law_number" = some (some (.ref f35)))
    (l35 : K.lookup f35 = some ⟨oc35, od35, .func (PySem.W.fnOf "_law_number" "_law_number" (defArgs s_law_number) (defBody s_law_number) (defScope s_law_number) .none kV35 dc35 pm35 an35 cd35 ct35), sl35⟩)
    (c35 : PySem.W.codeIn K cd35 "_law_number" = true)
    (k35 : PySem.W.keepIn K (.ref f35) = true)
    (a36 : PySem.W.nsIn K mainGlobals "_law_listed" = some (some (.ref f36)))
    (l36 : K.lookup f36 = some ⟨oc36, od36, .func (PySem.W.fnOf "_law_listed" "_law_listed" (defArgs s_law_listed) (defBody s_law_listed) (defScope s_law_listed) .none kV36 dc36 pm36 an36 cd36 ct36), sl36⟩)
    (c36 : PySem.W.codeIn K cd36 "_law_listed" = true)
    (k36 : PySem.W.keepIn K (.ref f36) = true)
    (a37 : PySem.W.nsIn K mainGlobals "_law_asked" = some (some (.ref f37)))
    (l37 : K.lookup f37 = some ⟨oc37, od37, .func (PySem.W.fnOf "_law_asked" "_law_asked" (defArgs s_law_asked) (defBody s_law_asked) (defScope s_law_asked) .none kV37 dc37 pm37 an37 cd37 ct37), sl37⟩)
    (c37 : PySem.W.codeIn K cd37 "_law_asked" = true)
    (k37 : PySem.W.keepIn K (.ref f37) = true)
    (a38 : PySem.W.nsIn K mainGlobals "_law_too_wide" = some (some (.ref f38)))
    (l38 : K.lookup f38 = some ⟨oc38, od38, .func (PySem.W.fnOf "_law_too_wide" "_law_too_wide" (defArgs s_law_too_wide) (defBody s_law_too_wide) (defScope s_law_too_wide) .none kV38 dc38 pm38 an38 cd38 ct38), sl38⟩)
    (c38 : PySem.W.codeIn K cd38 "_law_too_wide" = true)
    (k38 : PySem.W.keepIn K (.ref f38) = true)
    (a39 : PySem.W.nsIn K mainGlobals "_law_row_of_places" = some (some (.ref f39)))
    (l39 : K.lookup f39 = some ⟨oc39, od39, .func (PySem.W.fnOf "_law_row_of_places" "_law_row_of_places" (defArgs s_law_row_of_places) (defBody s_law_row_of_places) (defScope s_law_row_of_places) .none kV39 dc39 pm39 an39 cd39 ct39), sl39⟩)
    (c39 : PySem.W.codeIn K cd39 "_law_row_of_places" = true)
    (k39 : PySem.W.keepIn K (.ref f39) = true)
    (a40 : PySem.W.nsIn K mainGlobals "_law_short_row" = some (some (.ref f40)))
    (l40 : K.lookup f40 = some ⟨oc40, od40, .func (PySem.W.fnOf "_law_short_row" "_law_short_row" (defArgs s_law_short_row) (defBody s_law_short_row) (defScope s_law_short_row) .none kV40 dc40 pm40 an40 cd40 ct40), sl40⟩)
    (c40 : PySem.W.codeIn K cd40 "_law_short_row" = true)
    (k40 : PySem.W.keepIn K (.ref f40) = true)
    (a41 : PySem.W.nsIn K mainGlobals "law" = some (some (.ref f41)))
    (l41 : K.lookup f41 = some ⟨oc41, od41, .func (PySem.W.fnOf "law" "law" (defArgs s_law) (defBody s_law) (defScope s_law) .none kV41 dc41 pm41 an41 cd41 ct41), sl41⟩)
    (c41 : PySem.W.codeIn K cd41 "law" = true)
    (k41 : PySem.W.keepIn K (.ref f41) = true)
    (z_range : PySem.W.nsIn K mainGlobals "range" = some none)
    (z_len : PySem.W.nsIn K mainGlobals "len" = some none)
    (z_list : PySem.W.nsIn K mainGlobals "list" = some none)
    (z_reversed : PySem.W.nsIn K mainGlobals "reversed" = some none)
    (z_max : PySem.W.nsIn K mainGlobals "max" = some none)
    (z_sorted : PySem.W.nsIn K mainGlobals "sorted" = some none)
    (z_other : PySem.W.nsIn K mainGlobals "other" = some none)
    (z_laying : PySem.W.nsIn K mainGlobals "laying" = some none)
    (z_all : PySem.W.nsIn K mainGlobals "all" = some none)
    (z_enumerate : PySem.W.nsIn K mainGlobals "enumerate" = some none)
    (z_isinstance : PySem.W.nsIn K mainGlobals "isinstance" = some none)
    (z_int : PySem.W.nsIn K mainGlobals "int" = some none)
    (z_bool : PySem.W.nsIn K mainGlobals "bool" = some none)
    (z_ValueError : PySem.W.nsIn K mainGlobals "ValueError" = some none)
    (z_min : PySem.W.nsIn K mainGlobals "min" = some none)
    (z_sum : PySem.W.nsIn K mainGlobals "sum" = some none)
    (pg_Pull : PySem.W.plainGet K C_Pull Str.empty = true)
    (hd_Pull : PySem.W.hasDictIn K C_Pull = true)
    (po_Pull : PySem.W.plainOver K C_Pull = true)
    (sa_Pull : PySem.W.findIn K (.ref C_Pull) "__setattr__" = some (some (.builtin "object.__setattr__")))
    (mk_Pull : PySem.W.makesIn K C_Pull = true)
    (kp_Pull : PySem.W.keepIn K (.ref C_Pull) = true)
    (n_Pull_one : PySem.W.findIn K (.ref C_Pull) "one" = some none)
    (n_Pull_two : PySem.W.findIn K (.ref C_Pull) "two" = some none)
    (n_Pull_strength : PySem.W.findIn K (.ref C_Pull) "strength" = some none)
    (pg_Push : PySem.W.plainGet K C_Push Str.empty = true)
    (hd_Push : PySem.W.hasDictIn K C_Push = true)
    (po_Push : PySem.W.plainOver K C_Push = true)
    (sa_Push : PySem.W.findIn K (.ref C_Push) "__setattr__" = some (some (.builtin "object.__setattr__")))
    (mk_Push : PySem.W.makesIn K C_Push = true)
    (kp_Push : PySem.W.keepIn K (.ref C_Push) = true)
    (n_Push_one : PySem.W.findIn K (.ref C_Push) "one" = some none)
    (n_Push_two : PySem.W.findIn K (.ref C_Push) "two" = some none)
    (n_Push_strength : PySem.W.findIn K (.ref C_Push) "strength" = some none)
    (pg_Web : PySem.W.plainGet K C_Web Str.empty = true)
    (hd_Web : PySem.W.hasDictIn K C_Web = true)
    (po_Web : PySem.W.plainOver K C_Web = true)
    (sa_Web : PySem.W.findIn K (.ref C_Web) "__setattr__" = some (some (.builtin "object.__setattr__")))
    (mk_Web : PySem.W.makesIn K C_Web = true)
    (kp_Web : PySem.W.keepIn K (.ref C_Web) = true)
    (n_Web_many : PySem.W.findIn K (.ref C_Web) "many" = some none)
    (n_Web_ties : PySem.W.findIn K (.ref C_Web) "ties" = some none)
    (n_Web_turns : PySem.W.findIn K (.ref C_Web) "turns" = some none)
    (n_Web_rounds : PySem.W.findIn K (.ref C_Web) "rounds" = some none)
    (n_Web_sides : PySem.W.findIn K (.ref C_Web) "sides" = some none)
    (kk_MOST_PLACES : PySem.W.nsIn K mainGlobals "MOST_PLACES" = some (some (.int 10 t_MOST_PLACES)))
    (x_og : PySem.W.specialIn K (.builtin "object.__class__") "__get__" = some (some (.builtin "getset_descriptor.__get__")))
    (x_ot : PySem.W.takesIn K (.builtin "object.__class__") = some true)
    (x_kp_TooWide : PySem.W.keepIn K (.ref C_TooWide) = true)
    (x_be_TooWide : PySem.W.subIn K (.ref C_TooWide) (.type "BaseException") = some true)
    (x_ty_TooWide : PySem.W.typeIn K (.ref C_TooWide) = some (.type "type"))
    (x_cl_TooWide : PySem.W.isClsIn K C_TooWide = true)
    (x_hd_TooWide : PySem.W.hasDictIn K C_TooWide = true)
    (x_ga_TooWide : PySem.W.findIn K (.ref C_TooWide) "__getattribute__" = some (some (.builtin "BaseException.__getattribute__")))
    (x_gg_TooWide : PySem.W.findIn K (.ref C_TooWide) "__getattr__" = some none)
    (x_oc_TooWide : PySem.W.findIn K (.ref C_TooWide) "__class__" = some (some (.builtin "object.__class__")))
    (x_om_TooWide : PySem.W.mroIn K C_TooWide (.type "object") = some true)
    (x_sv_TooWide : PySem.W.subIn K (.ref C_TooWide) (.type "ValueError") = some true)
    (x_sb_TooWide_TooWide : PySem.W.subIn K (.ref C_TooWide) (.ref C_TooWide) = some true)
    (x_kp_FloorError : PySem.W.keepIn K (.ref C_FloorError) = true)
    (x_be_FloorError : PySem.W.subIn K (.ref C_FloorError) (.type "BaseException") = some true)
    (x_ty_FloorError : PySem.W.typeIn K (.ref C_FloorError) = some (.type "type"))
    (x_cl_FloorError : PySem.W.isClsIn K C_FloorError = true)
    (x_hd_FloorError : PySem.W.hasDictIn K C_FloorError = true)
    (x_ga_FloorError : PySem.W.findIn K (.ref C_FloorError) "__getattribute__" = some (some (.builtin "BaseException.__getattribute__")))
    (x_gg_FloorError : PySem.W.findIn K (.ref C_FloorError) "__getattr__" = some none)
    (x_oc_FloorError : PySem.W.findIn K (.ref C_FloorError) "__class__" = some (some (.builtin "object.__class__")))
    (x_om_FloorError : PySem.W.mroIn K C_FloorError (.type "object") = some true)
    (x_sv_FloorError : PySem.W.subIn K (.ref C_FloorError) (.type "ValueError") = some true)
    (x_sb_FloorError_FloorError : PySem.W.subIn K (.ref C_FloorError) (.ref C_FloorError) = some true)
    (x_kp_TooMany : PySem.W.keepIn K (.ref C_TooMany) = true)
    (x_be_TooMany : PySem.W.subIn K (.ref C_TooMany) (.type "BaseException") = some true)
    (x_ty_TooMany : PySem.W.typeIn K (.ref C_TooMany) = some (.type "type"))
    (x_cl_TooMany : PySem.W.isClsIn K C_TooMany = true)
    (x_hd_TooMany : PySem.W.hasDictIn K C_TooMany = true)
    (x_ga_TooMany : PySem.W.findIn K (.ref C_TooMany) "__getattribute__" = some (some (.builtin "BaseException.__getattribute__")))
    (x_gg_TooMany : PySem.W.findIn K (.ref C_TooMany) "__getattr__" = some none)
    (x_oc_TooMany : PySem.W.findIn K (.ref C_TooMany) "__class__" = some (some (.builtin "object.__class__")))
    (x_om_TooMany : PySem.W.mroIn K C_TooMany (.type "object") = some true)
    (x_sv_TooMany : PySem.W.subIn K (.ref C_TooMany) (.type "ValueError") = some true)
    (x_sb_TooMany_TooMany : PySem.W.subIn K (.ref C_TooMany) (.ref C_TooMany) = some true)
    (x_kp_TooRough : PySem.W.keepIn K (.ref C_TooRough) = true)
    (x_be_TooRough : PySem.W.subIn K (.ref C_TooRough) (.type "BaseException") = some true)
    (x_ty_TooRough : PySem.W.typeIn K (.ref C_TooRough) = some (.type "type"))
    (x_cl_TooRough : PySem.W.isClsIn K C_TooRough = true)
    (x_hd_TooRough : PySem.W.hasDictIn K C_TooRough = true)
    (x_ga_TooRough : PySem.W.findIn K (.ref C_TooRough) "__getattribute__" = some (some (.builtin "BaseException.__getattribute__")))
    (x_gg_TooRough : PySem.W.findIn K (.ref C_TooRough) "__getattr__" = some none)
    (x_oc_TooRough : PySem.W.findIn K (.ref C_TooRough) "__class__" = some (some (.builtin "object.__class__")))
    (x_om_TooRough : PySem.W.mroIn K C_TooRough (.type "object") = some true)
    (x_sv_TooRough : PySem.W.subIn K (.ref C_TooRough) (.type "ValueError") = some true)
    (x_sb_TooRough_TooRough : PySem.W.subIn K (.ref C_TooRough) (.ref C_TooRough) = some true)
    (x_xn_TooWide : PySem.W.excIn K C_TooWide [.type "ValueError", .type "Exception", .type "BaseException", .type "object"] "ValueError.__new__" = true)
    (x_sb_TooWide_FloorError : PySem.W.subIn K (.ref C_TooWide) (.ref C_FloorError) = some true)
    (x_sb_TooWide_TooMany : PySem.W.subIn K (.ref C_TooWide) (.ref C_TooMany) = some false)
    (x_sb_TooWide_TooRough : PySem.W.subIn K (.ref C_TooWide) (.ref C_TooRough) = some false)
    (ne_PP : PP11 ≠ PP12)
    : ∃ fd : FuncData, (∀ (s : Shared) (v : Value), BindsTo s fd ⟨[v], []⟩ [("script", v)]) ∧ ∀ base : Heap, K.In base → base.Ns mainGlobals mg → (∀ p ∈ [(cc11, PP11), (cc12, PP12)], LamX.TabB base mg p.1 p.2) → FnOk l.prog w K mg base CX0 9 fa fd ["script"] (spLawT K [(PP11, qLam "shore"), (PP12, qLam "falls")]) := by
  have e := hfa.symm.trans (PySem.W.mg_of X G a41)
  cases e
  have B : Bl mg := ⟨PySem.W.mg_none_of X G z_range, PySem.W.mg_none_of X G z_len, PySem.W.mg_none_of X G z_list, PySem.W.mg_none_of X G z_reversed, PySem.W.mg_none_of X G z_max, PySem.W.mg_none_of X G z_sorted, PySem.W.mg_none_of X G z_other, PySem.W.mg_none_of X G z_laying, PySem.W.mg_none_of X G z_all, PySem.W.mg_none_of X G z_enumerate, PySem.W.mg_none_of X G z_isinstance, PySem.W.mg_none_of X G z_int, PySem.W.mg_none_of X G z_bool, PySem.W.mg_none_of X G z_ValueError, PySem.W.mg_none_of X G z_min, PySem.W.mg_none_of X G z_sum⟩
  have T : Txt K mg C_Pull C_Push C_Web C_TooWide C_FloorError C_TooMany C_TooRough := ⟨PySem.W.mg_of X G g_Pull, PySem.W.mg_of X G g_Push, PySem.W.mg_of X G g_Web, PySem.W.mg_of X G g_TooWide, PySem.W.mg_of X G g_FloorError, PySem.W.mg_of X G g_TooMany, PySem.W.mg_of X G g_TooRough, ⟨pg_Pull, hd_Pull, po_Pull, sa_Pull⟩, mk_Pull, kp_Pull, n_Pull_one, n_Pull_two, n_Pull_strength, ⟨pg_Push, hd_Push, po_Push, sa_Push⟩, mk_Push, kp_Push, n_Push_one, n_Push_two, n_Push_strength, ⟨pg_Web, hd_Web, po_Web, sa_Web⟩, mk_Web, kp_Web, n_Web_many, n_Web_ties, n_Web_turns, n_Web_rounds, n_Web_sides, ⟨_, PySem.W.mg_of X G kk_MOST_PLACES⟩, x_og, x_ot, x_kp_TooWide, x_be_TooWide, x_ty_TooWide, x_cl_TooWide, x_hd_TooWide, x_ga_TooWide, x_gg_TooWide, x_oc_TooWide, x_om_TooWide, x_sv_TooWide, x_sb_TooWide_TooWide, x_kp_FloorError, x_be_FloorError, x_ty_FloorError, x_cl_FloorError, x_hd_FloorError, x_ga_FloorError, x_gg_FloorError, x_oc_FloorError, x_om_FloorError, x_sv_FloorError, x_sb_FloorError_FloorError, x_kp_TooMany, x_be_TooMany, x_ty_TooMany, x_cl_TooMany, x_hd_TooMany, x_ga_TooMany, x_gg_TooMany, x_oc_TooMany, x_om_TooMany, x_sv_TooMany, x_sb_TooMany_TooMany, x_kp_TooRough, x_be_TooRough, x_ty_TooRough, x_cl_TooRough, x_hd_TooRough, x_ga_TooRough, x_gg_TooRough, x_oc_TooRough, x_om_TooRough, x_sv_TooRough, x_sb_TooRough_TooRough, x_xn_TooWide, x_sb_TooWide_FloorError, x_sb_TooWide_TooMany, x_sb_TooWide_TooRough⟩
  refine ⟨PySem.W.fnOf "law" "law" (defArgs s_law) (defBody s_law) (defScope s_law) .none kV41 dc41 pm41 an41 cd41 ct41, fun s v => .of_eq rfl, fun base _ _ hTabs => ?_⟩
  have hf_Pull_wish := ok_Pull_wish (P := l.prog) (w := w) (base := base) (fun_mk (st := s_Pull_wish) l0 c0 k0) B T 
  have h_Pull_wish := hf_Pull_wish.meth T.cl_Pull ⟨r0_Pull, i0, k0⟩
  have hf_Push_wish := ok_Push_wish (P := l.prog) (w := w) (base := base) (fun_mk (st := s_Push_wish) l1 c1 k1) B T 
  have h_Push_wish := hf_Push_wish.meth T.cl_Push ⟨r1_Push, i1, k1⟩
  have hf_Tie_unpleased := ok_Tie_unpleased (P := l.prog) (w := w) (base := base) (fun_mk (st := s_Tie_unpleased) l2 c2 k2) B T h_Pull_wish h_Push_wish
  have h_Pull_unpleased := hf_Tie_unpleased.meth T.cl_Pull ⟨r2_Pull, i2, k2⟩
  have h_Push_unpleased := hf_Tie_unpleased.meth T.cl_Push ⟨r2_Push, i2, k2⟩
  have hf_Tie_price := ok_Tie_price (P := l.prog) (w := w) (base := base) (fun_mk (st := s_Tie_price) l3 c3 k3) B T h_Pull_unpleased h_Push_unpleased
  have h_Pull_price := hf_Tie_price.meth T.cl_Pull ⟨r3_Pull, i3, k3⟩
  have h_Push_price := hf_Tie_price.meth T.cl_Push ⟨r3_Push, i3, k3⟩
  have h_worth := ok_worth (P := l.prog) (w := w) (base := base) (fun_mk (st := s_worth) l4 c4 k4) (PySem.W.mg_of X G a4) B T h_Pull_price h_Push_price
  have h_worths_told := ok_worths_told (P := l.prog) (w := w) (base := base) (fun_mk (st := s_worths_told) l5 c5 k5) (PySem.W.mg_of X G a5) B T h_worth
  have h_steps_from := ok_steps_from (P := l.prog) (w := w) (base := base) (fun_mk (st := s_steps_from) l6 c6 k6) (PySem.W.mg_of X G a6) B T 
  have h_least_at := ok_least_at (P := l.prog) (w := w) (base := base) (fun_mk (st := s_least_at) l7 c7 k7) (PySem.W.mg_of X G a7) B T 
  have h_way_back := ok_way_back (P := l.prog) (w := w) (base := base) (fun_mk (st := s_way_back) l8 c8 k8) (PySem.W.mg_of X G a8) B T 
  have h_climb := ok_climb (P := l.prog) (w := w) (base := base) (fun_mk (st := s_climb) l9 c9 k9) (PySem.W.mg_of X G a9) B T h_worths_told h_steps_from h_way_back h_least_at
  have F_spread := (fun_mk (st := s_spread) l10 c10 k10)
  have m_spread := PySem.W.mg_of X G a10
  have h_spread := gv_spread (P := l.prog) (w := w) (base := base) B h_steps_from (C_Pull := C_Pull)  (C_Push := C_Push)  (C_Web := C_Web)
  have h_shore := ok_shore (P := l.prog) (w := w) (base := base) T h_worths_told F_spread m_spread h_spread (hTabs (cc11, PP11) (by simp)) (Tb := [(PP11, qLam "shore"), (PP12, qLam "falls")]) (by simp) (by simp [ne_PP, ne_PP.symm, Ne.symm ne_PP]) (funL_mk (st := s_shore) l11 c11 k11) (PySem.W.mg_of X G a11) B
  have h_falls := ok_falls (P := l.prog) (w := w) (base := base) T h_worths_told F_spread m_spread h_spread (hTabs (cc12, PP12) (by simp)) (Tb := [(PP11, qLam "shore"), (PP12, qLam "falls")]) (by simp) (by simp [ne_PP, ne_PP.symm, Ne.symm ne_PP]) (funL_mk (st := s_falls) l12 c12 k12) (PySem.W.mg_of X G a12) B
  have h_resting := ok_resting (P := l.prog) (w := w) (base := base) (fun_mk (st := s_resting) l13 c13 k13) (PySem.W.mg_of X G a13) B T h_worths_told h_steps_from
  have hf_Tie___init__ := ok_Tie___init__ (P := l.prog) (w := w) (base := base) (fun_mk (st := s_Tie___init__) l14 c14 k14) B T 
  have h_mk_Pull := hf_Tie___init__.mkOf ⟨mk_Pull, r14_Pull, i14, kp_Pull⟩ (PySem.W.mg_of X G g_Pull)
  have h_mk_Push := hf_Tie___init__.mkOf ⟨mk_Push, r14_Push, i14, kp_Push⟩ (PySem.W.mg_of X G g_Push)
  have h_head := ok_head (P := l.prog) (w := w) (base := base) (fun_mk (st := s_head) l15 c15 k15) (PySem.W.mg_of X G a15) B T 
  have h_follower := ok_follower (P := l.prog) (w := w) (base := base) (fun_mk (st := s_follower) l16 c16 k16) (PySem.W.mg_of X G a16) B T h_head
  have h_round_from := ok_round_from (P := l.prog) (w := w) (base := base) (fun_mk (st := s_round_from) l17 c17 k17) (PySem.W.mg_of X G a17) B T h_follower
  have h_rounds_of := ok_rounds_of (P := l.prog) (w := w) (base := base) (fun_mk (st := s_rounds_of) l18 c18 k18) (PySem.W.mg_of X G a18) B T h_round_from
  have h_sides_of := ok_sides_of (P := l.prog) (w := w) (base := base) (fun_mk (st := s_sides_of) l19 c19 k19) (PySem.W.mg_of X G a19) B T 
  have h_ends_are_places := ok_ends_are_places (P := l.prog) (w := w) (base := base) (fun_mk (st := s_ends_are_places) l20 c20 k20) (PySem.W.mg_of X G a20) B T 
  have h_turns_are_right := ok_turns_are_right (P := l.prog) (w := w) (base := base) (fun_mk (st := s_turns_are_right) l21 c21 k21) (PySem.W.mg_of X G a21) B T 
  have h_hangs_together := ok_hangs_together (P := l.prog) (w := w) (base := base) (fun_mk (st := s_hangs_together) l22 c22 k22) (PySem.W.mg_of X G a22) B T 
  have hf_Web___init__ := ok_Web___init__ (P := l.prog) (w := w) (base := base) (fun_mk (st := s_Web___init__) l23 c23 k23) B T h_rounds_of h_sides_of h_ends_are_places h_turns_are_right h_hangs_together
  have h_mk_Web := hf_Web___init__.mkOf ⟨mk_Web, r23_Web, i23, kp_Web⟩ (PySem.W.mg_of X G g_Web)
  have h_law_cell := ok_law_cell (P := l.prog) (w := w) (base := base) (fun_mk (st := s_law_cell) l24 c24 k24) (PySem.W.mg_of X G a24) B T 
  have h_law_head := ok_law_head (P := l.prog) (w := w) (base := base) (fun_mk (st := s_law_head) l25 c25 k25) (PySem.W.mg_of X G a25) B T 
  have h_law_put := ok_law_put (P := l.prog) (w := w) (base := base) (fun_mk (st := s_law_put) l26 c26 k26) (PySem.W.mg_of X G a26) B T 
  have h_law_step := ok_law_step (P := l.prog) (w := w) (base := base) (fun_mk (st := s_law_step) l27 c27 k27) (PySem.W.mg_of X G a27) B T h_law_head h_law_put
  have h_law_grown := ok_law_grown (P := l.prog) (w := w) (base := base) (fun_mk (st := s_law_grown) l28 c28 k28) (PySem.W.mg_of X G a28) B T h_law_step
  have h_law_order := ok_law_order (P := l.prog) (w := w) (base := base) (fun_mk (st := s_law_order) l29 c29 k29) (PySem.W.mg_of X G a29) B T 
  have h_law_renumbered := ok_law_renumbered (P := l.prog) (w := w) (base := base) (fun_mk (st := s_law_renumbered) l30 c30 k30) (PySem.W.mg_of X G a30) B T h_law_order
  have h_law_kinds := ok_law_kinds (P := l.prog) (w := w) (base := base) (fun_mk (st := s_law_kinds) l31 c31 k31) (PySem.W.mg_of X G a31) B T h_law_cell
  have h_law_web := ok_law_web (P := l.prog) (w := w) (base := base) (fun_mk (st := s_law_web) l32 c32 k32) (PySem.W.mg_of X G a32) B T h_mk_Web h_mk_Push h_mk_Pull
  have h_law_worth := ok_law_worth (P := l.prog) (w := w) (base := base) (fun_mk (st := s_law_worth) l33 c33 k33) (PySem.W.mg_of X G a33) B T 
  have h_law_costs := ok_law_costs (P := l.prog) (w := w) (base := base) (fun_mk (st := s_law_costs) l34 c34 k34) (PySem.W.mg_of X G a34) B T h_law_worth
  have h_law_number := ok_law_number (P := l.prog) (w := w) (base := base) (fun_mk (st := s_law_number) l35 c35 k35) (PySem.W.mg_of X G a35) B T 
  have h_law_listed := ok_law_listed (P := l.prog) (w := w) (base := base) (fun_mk (st := s_law_listed) l36 c36 k36) (PySem.W.mg_of X G a36) B T h_law_number
  have h_law_asked := ok_law_asked (P := l.prog) (w := w) (base := base) (fun_mk (st := s_law_asked) l37 c37 k37) (PySem.W.mg_of X G a37) B T h_falls h_resting h_climb h_shore
  have h_law_too_wide := ok_law_too_wide (P := l.prog) (w := w) (base := base) (fun_mk (st := s_law_too_wide) l38 c38 k38) (PySem.W.mg_of X G a38) B T h_law_asked
  have h_law_row_of_places := ok_law_row_of_places (P := l.prog) (w := w) (base := base) (fun_mk (st := s_law_row_of_places) l39 c39 k39) (PySem.W.mg_of X G a39) B T h_mk_Web h_mk_Pull
  have h_law_short_row := ok_law_short_row (P := l.prog) (w := w) (base := base) (fun_mk (st := s_law_short_row) l40 c40 k40) (PySem.W.mg_of X G a40) B T h_law_row_of_places h_resting h_falls h_shore h_climb h_law_worth h_mk_Web h_mk_Pull
  exact ok_law (P := l.prog) (w := w) (base := base) (fun_mk (st := s_law) l41 c41 k41) B T h_law_cell h_law_renumbered h_law_kinds h_law_costs h_law_listed h_law_row_of_places h_law_grown h_resting h_law_short_row h_law_web h_law_too_wide
end Sf
open PySem PySem.W PyProof.Rows
set_option maxRecDepth 100000 in
set_option maxHeartbeats 0 in
theorem PySem.Challenge.cw_spinfloor_k53_what_rests_holds : PySem.Challenge.rw_spinfloor_k53_what_rests.Holds := by
  w_on; o_law; k_head; (case hw => w_witness2)
  k_fill
  refine Sf.walk_ofT (l := PySem.Challenge.rw_spinfloor_k53_what_rests) (n := 63) (k := 9) (cs := [(169, 165), (176, 172)]) (sp := fun K => Sf.spLawT K [(165, Sf.qLam "shore"), (172, Sf.qLam "falls")]) rfl (by decide) rfl ⟨rfl, by decide, by decide⟩ (fun w h Y => PySem.W.km_in_of Y) (fun w h Y => List.forall_mem_cons.mpr ⟨PySem.W.km_tabs_of Y _ (by k_mem), List.forall_mem_cons.mpr ⟨PySem.W.km_tabs_of Y _ (by k_mem), fun _ h => nomatch h⟩⟩) (fun w => List.forall_mem_cons.mpr ⟨by kernel_rfl, List.forall_mem_cons.mpr ⟨by kernel_rfl, fun _ h => nomatch h⟩⟩) (fun w => List.forall_mem_cons.mpr ⟨by kernel_rfl, List.forall_mem_cons.mpr ⟨by kernel_rfl, fun _ h => nomatch h⟩⟩) ?F (fun _ _ a ns hl hb hT hS => ⟨a, ns, rfl, hS, hl, hb, Sf.tabs_nil hT (by simp), fun _ => rfl⟩)
  case F =>
    intro w mg fa h KX G hmg
    refine' Sf.all_mk KX G hmg ?g_Pull ?g_Push ?g_Web ?g_TooWide ?g_FloorError ?g_TooMany ?g_TooRough ?r0_Pull ?i0 ?l0 ?c0 ?k0 ?r1_Push ?i1 ?l1 ?c1 ?k1 ?r2_Pull ?r2_Push ?i2 ?l2 ?c2 ?k2 ?r3_Pull ?r3_Push ?i3 ?l3 ?c3 ?k3 ?a4 ?l4 ?c4 ?k4 ?a5 ?l5 ?c5 ?k5 ?a6 ?l6 ?c6 ?k6 ?a7 ?l7 ?c7 ?k7 ?a8 ?l8 ?c8 ?k8 ?a9 ?l9 ?c9 ?k9 ?a10 ?l10 ?c10 ?k10 ?a11 ?l11 ?c11 ?k11 ?a12 ?l12 ?c12 ?k12 ?a13 ?l13 ?c13 ?k13 ?r14_Pull ?r14_Push ?i14 ?l14 ?c14 ?k14 ?a15 ?l15 ?c15 ?k15 ?a16 ?l16 ?c16 ?k16 ?a17 ?l17 ?c17 ?k17 ?a18 ?l18 ?c18 ?k18 ?a19 ?l19 ?c19 ?k19 ?a20 ?l20 ?c20 ?k20 ?a21 ?l21 ?c21 ?k21 ?a22 ?l22 ?c22 ?k22 ?r23_Web ?i23 ?l23 ?c23 ?k23 ?a24 ?l24 ?c24 ?k24 ?a25 ?l25 ?c25 ?k25 ?a26 ?l26 ?c26 ?k26 ?a27 ?l27 ?c27 ?k27 ?a28 ?l28 ?c28 ?k28 ?a29 ?l29 ?c29 ?k29 ?a30 ?l30 ?c30 ?k30 ?a31 ?l31 ?c31 ?k31 ?a32 ?l32 ?c32 ?k32 ?a33 ?l33 ?c33 ?k33 ?a34 ?l34 ?c34 ?k34 ?a35 ?l35 ?c35 ?k35 ?a36 ?l36 ?c36 ?k36 ?a37 ?l37 ?c37 ?k37 ?a38 ?l38 ?c38 ?k38 ?a39 ?l39 ?c39 ?k39 ?a40 ?l40 ?c40 ?k40 ?a41 ?l41 ?c41 ?k41 ?z_range ?z_len ?z_list ?z_reversed ?z_max ?z_sorted ?z_other ?z_laying ?z_all ?z_enumerate ?z_isinstance ?z_int ?z_bool ?z_ValueError ?z_min ?z_sum ?pg_Pull ?hd_Pull ?po_Pull ?sa_Pull ?mk_Pull ?kp_Pull ?n_Pull_one ?n_Pull_two ?n_Pull_strength ?pg_Push ?hd_Push ?po_Push ?sa_Push ?mk_Push ?kp_Push ?n_Push_one ?n_Push_two ?n_Push_strength ?pg_Web ?hd_Web ?po_Web ?sa_Web ?mk_Web ?kp_Web ?n_Web_many ?n_Web_ties ?n_Web_turns ?n_Web_rounds ?n_Web_sides ?kk_MOST_PLACES ?x_og ?x_ot ?x_kp_TooWide ?x_be_TooWide ?x_ty_TooWide ?x_cl_TooWide ?x_hd_TooWide ?x_ga_TooWide ?x_gg_TooWide ?x_oc_TooWide ?x_om_TooWide ?x_sv_TooWide ?x_sb_TooWide_TooWide ?x_kp_FloorError ?x_be_FloorError ?x_ty_FloorError ?x_cl_FloorError ?x_hd_FloorError ?x_ga_FloorError ?x_gg_FloorError ?x_oc_FloorError ?x_om_FloorError ?x_sv_FloorError ?x_sb_FloorError_FloorError ?x_kp_TooMany ?x_be_TooMany ?x_ty_TooMany ?x_cl_TooMany ?x_hd_TooMany ?x_ga_TooMany ?x_gg_TooMany ?x_oc_TooMany ?x_om_TooMany ?x_sv_TooMany ?x_sb_TooMany_TooMany ?x_kp_TooRough ?x_be_TooRough ?x_ty_TooRough ?x_cl_TooRough ?x_hd_TooRough ?x_ga_TooRough ?x_gg_TooRough ?x_oc_TooRough ?x_om_TooRough ?x_sv_TooRough ?x_sb_TooRough_TooRough ?x_xn_TooWide ?x_sb_TooWide_FloorError ?x_sb_TooWide_TooMany ?x_sb_TooWide_TooRough ?ne_PP
    (case g_Pull => k_is); (case g_Push => k_is); (case g_Web => k_is); (case g_TooWide => k_is); (case g_FloorError => k_is); (case g_TooMany => k_is); (case g_TooRough => k_is); (case r0_Pull => k_is); (case i0 => k_is); (case l0 => k_is); (case c0 => k_is); (case k0 => k_is); (case r1_Push => k_is); (case i1 => k_is); (case l1 => k_is); (case c1 => k_is); (case k1 => k_is); (case r2_Pull => k_is); (case r2_Push => k_is); (case i2 => k_is); (case l2 => k_is); (case c2 => k_is); (case k2 => k_is); (case r3_Pull => k_is); (case r3_Push => k_is); (case i3 => k_is); (case l3 => k_is); (case c3 => k_is); (case k3 => k_is); (case a4 => k_is); (case l4 => k_is); (case c4 => k_is); (case k4 => k_is); (case a5 => k_is); (case l5 => k_is); (case c5 => k_is); (case k5 => k_is); (case a6 => k_is); (case l6 => k_is); (case c6 => k_is); (case k6 => k_is); (case a7 => k_is); (case l7 => k_is); (case c7 => k_is); (case k7 => k_is); (case a8 => k_is); (case l8 => k_is); (case c8 => k_is); (case k8 => k_is); (case a9 => k_is); (case l9 => k_is); (case c9 => k_is); (case k9 => k_is); (case a10 => k_is); (case l10 => k_is); (case c10 => k_is); (case k10 => k_is); (case a11 => k_is); (case l11 => k_is); (case c11 => k_is); (case k11 => k_is); (case a12 => k_is); (case l12 => k_is); (case c12 => k_is); (case k12 => k_is); (case a13 => k_is); (case l13 => k_is); (case c13 => k_is); (case k13 => k_is); (case r14_Pull => k_is); (case r14_Push => k_is); (case i14 => k_is); (case l14 => k_is); (case c14 => k_is); (case k14 => k_is); (case a15 => k_is); (case l15 => k_is); (case c15 => k_is); (case k15 => k_is); (case a16 => k_is); (case l16 => k_is); (case c16 => k_is); (case k16 => k_is); (case a17 => k_is); (case l17 => k_is); (case c17 => k_is); (case k17 => k_is); (case a18 => k_is); (case l18 => k_is); (case c18 => k_is); (case k18 => k_is); (case a19 => k_is); (case l19 => k_is); (case c19 => k_is); (case k19 => k_is); (case a20 => k_is); (case l20 => k_is); (case c20 => k_is); (case k20 => k_is); (case a21 => k_is); (case l21 => k_is); (case c21 => k_is); (case k21 => k_is); (case a22 => k_is); (case l22 => k_is); (case c22 => k_is); (case k22 => k_is); (case r23_Web => k_is); (case i23 => k_is); (case l23 => k_is); (case c23 => k_is); (case k23 => k_is); (case a24 => k_is); (case l24 => k_is); (case c24 => k_is); (case k24 => k_is); (case a25 => k_is); (case l25 => k_is); (case c25 => k_is); (case k25 => k_is); (case a26 => k_is); (case l26 => k_is); (case c26 => k_is); (case k26 => k_is); (case a27 => k_is); (case l27 => k_is); (case c27 => k_is); (case k27 => k_is); (case a28 => k_is); (case l28 => k_is); (case c28 => k_is); (case k28 => k_is); (case a29 => k_is); (case l29 => k_is); (case c29 => k_is); (case k29 => k_is); (case a30 => k_is); (case l30 => k_is); (case c30 => k_is); (case k30 => k_is); (case a31 => k_is); (case l31 => k_is); (case c31 => k_is); (case k31 => k_is); (case a32 => k_is); (case l32 => k_is); (case c32 => k_is); (case k32 => k_is); (case a33 => k_is); (case l33 => k_is); (case c33 => k_is); (case k33 => k_is); (case a34 => k_is); (case l34 => k_is); (case c34 => k_is); (case k34 => k_is); (case a35 => k_is); (case l35 => k_is); (case c35 => k_is); (case k35 => k_is); (case a36 => k_is); (case l36 => k_is); (case c36 => k_is); (case k36 => k_is); (case a37 => k_is); (case l37 => k_is); (case c37 => k_is); (case k37 => k_is); (case a38 => k_is); (case l38 => k_is); (case c38 => k_is); (case k38 => k_is); (case a39 => k_is); (case l39 => k_is); (case c39 => k_is); (case k39 => k_is); (case a40 => k_is); (case l40 => k_is); (case c40 => k_is); (case k40 => k_is); (case a41 => k_is); (case l41 => k_is); (case c41 => k_is); (case k41 => k_is); (case z_range => k_is); (case z_len => k_is); (case z_list => k_is); (case z_reversed => k_is); (case z_max => k_is); (case z_sorted => k_is); (case z_other => k_is); (case z_laying => k_is); (case z_all => k_is); (case z_enumerate => k_is); (case z_isinstance => k_is); (case z_int => k_is); (case z_bool => k_is); (case z_ValueError => k_is); (case z_min => k_is); (case z_sum => k_is); (case pg_Pull => k_is); (case hd_Pull => k_is); (case po_Pull => k_is); (case sa_Pull => k_is); (case mk_Pull => k_is); (case kp_Pull => k_is); (case n_Pull_one => k_is); (case n_Pull_two => k_is); (case n_Pull_strength => k_is); (case pg_Push => k_is); (case hd_Push => k_is); (case po_Push => k_is); (case sa_Push => k_is); (case mk_Push => k_is); (case kp_Push => k_is); (case n_Push_one => k_is); (case n_Push_two => k_is); (case n_Push_strength => k_is); (case pg_Web => k_is); (case hd_Web => k_is); (case po_Web => k_is); (case sa_Web => k_is); (case mk_Web => k_is); (case kp_Web => k_is); (case n_Web_many => k_is); (case n_Web_ties => k_is); (case n_Web_turns => k_is); (case n_Web_rounds => k_is); (case n_Web_sides => k_is); (case kk_MOST_PLACES => k_is); (case x_og => k_is); (case x_ot => k_is); (case x_kp_TooWide => k_is); (case x_be_TooWide => k_is); (case x_ty_TooWide => k_is); (case x_cl_TooWide => k_is); (case x_hd_TooWide => k_is); (case x_ga_TooWide => k_is); (case x_gg_TooWide => k_is); (case x_oc_TooWide => k_is); (case x_om_TooWide => k_is); (case x_sv_TooWide => k_is); (case x_sb_TooWide_TooWide => first | rfl | k_is); (case x_kp_FloorError => k_is); (case x_be_FloorError => k_is); (case x_ty_FloorError => k_is); (case x_cl_FloorError => k_is); (case x_hd_FloorError => k_is); (case x_ga_FloorError => k_is); (case x_gg_FloorError => k_is); (case x_oc_FloorError => k_is); (case x_om_FloorError => k_is); (case x_sv_FloorError => k_is); (case x_sb_FloorError_FloorError => first | rfl | k_is); (case x_kp_TooMany => k_is); (case x_be_TooMany => k_is); (case x_ty_TooMany => k_is); (case x_cl_TooMany => k_is); (case x_hd_TooMany => k_is); (case x_ga_TooMany => k_is); (case x_gg_TooMany => k_is); (case x_oc_TooMany => k_is); (case x_om_TooMany => k_is); (case x_sv_TooMany => k_is); (case x_sb_TooMany_TooMany => first | rfl | k_is); (case x_kp_TooRough => k_is); (case x_be_TooRough => k_is); (case x_ty_TooRough => k_is); (case x_cl_TooRough => k_is); (case x_hd_TooRough => k_is); (case x_ga_TooRough => k_is); (case x_gg_TooRough => k_is); (case x_oc_TooRough => k_is); (case x_om_TooRough => k_is); (case x_sv_TooRough => k_is); (case x_sb_TooRough_TooRough => first | rfl | k_is); (case x_xn_TooWide => k_exc); (case x_sb_TooWide_FloorError => first | rfl | k_is); (case x_sb_TooWide_TooMany => first | rfl | k_is); (case x_sb_TooWide_TooRough => first | rfl | k_is); (case ne_PP => first | decide | k_is)

