
import PyProof.Rows.All
import Wide.All
import OpenK.AllK
import Wide.FinOn
import HandS.ForMost
import HandS.Wide
import HandS.WideBits
import HandS.IsInst
import HandS.More
import HandS.EndBits
import HandS.SortInts
import KE.SortData
import HandS.TupLe
import HandS.Exc
import HandS.ExcOwn
import HandS.WordsExc
import HandS.ExcInit
import HandS.ExcField
import HandS.ExcIs
import HandS.TryOnly
import HandS.Small
import KE.KExcIs
import HandS.SetFor
import HandS.Replace
import PyProof.StrBlock2
import KE.DataMinMax
import KE.KStateDown
import HandS.Defaults
import HandS.Head0
import HandS.Head1
import HandS.Head2
import HandS.HeadHook1
import HandS.HeadHook2
import PySem.Challenge.RW_spinfloor_k64_deeds_refused
set_option Elab.async false
set_option linter.all false
set_option pp.deepTerms false
set_option pp.deepTerms.threshold 4
set_option maxRecDepth 100000
set_option maxHeartbeats 2000000
namespace Sf
open PySem PySem.Spec PyProof.Rows L2

/-! ### lists as sets -/
theorem perm_of_nodup {α : Type} [DecidableEq α] {xs ys : List α} (hx : xs.Nodup) (hy : ys.Nodup) (h : ∀ a, a ∈ xs ↔ a ∈ ys) : xs.Perm ys := by
  rw [List.perm_iff_count]
  intro a
  rw [List.Nodup.count hx, List.Nodup.count hy]
  by_cases e : a ∈ xs
  · rw [if_pos e, if_pos ((h a).mp e)]
  · rw [if_neg e, if_neg (fun z => e ((h a).mpr z))]
theorem len_of_nodup {α : Type} [DecidableEq α] {xs ys : List α} (hx : xs.Nodup) (hy : ys.Nodup) (h : ∀ a, a ∈ xs ↔ a ∈ ys) : xs.length = ys.length := (perm_of_nodup hx hy h).length_eq
theorem nodup_sub_len {α : Type} [DecidableEq α] : ∀ {xs ys : List α}, xs.Nodup → (∀ a ∈ xs, a ∈ ys) → xs.length ≤ ys.length
  | [], _, _, _ => Nat.zero_le _
  | x :: xs, ys, hx, h => by
    have hx' := List.nodup_cons.mp hx
    have ih := nodup_sub_len (ys := ys.erase x) hx'.2 fun a ha => by
      have : a ≠ x := fun e => hx'.1 (e ▸ ha)
      exact (List.mem_erase_of_ne this).mpr (h a (List.mem_cons_of_mem _ ha))
    have hm := h x List.mem_cons_self
    have := List.length_erase_of_mem hm
    have hp : 0 < ys.length := List.length_pos_of_mem hm
    rw [List.length_cons]
    omega
/-- as many as there are: all -/
theorem nodup_full {α : Type} [DecidableEq α] {xs ys : List α} (hx : xs.Nodup) (hs : ∀ a ∈ xs, a ∈ ys) (hl : ys.length ≤ xs.length) : ∀ a ∈ ys, a ∈ xs := fun a ha => by
  by_cases e : a ∈ xs
  · exact e
  · have : (a :: xs).Nodup := List.nodup_cons.mpr ⟨e, hx⟩
    have h2 := nodup_sub_len this (fun b hb => by rcases List.mem_cons.mp hb with r | r; exact r ▸ ha; exact hs b r)
    rw [List.length_cons] at h2
    omega
/-! ### the next one in a list that goes round -/

def nxt (r : List Nat) (x : Nat) : Nat := r.getD ((r.idxOf x + 1) % r.length) 0
theorem idx_at {r : List Nat} (h : r.Nodup) {i x : Nat} (e : r[i]? = some x) : r.idxOf x = i := by
  obtain ⟨hi, rfl⟩ := List.getElem?_eq_some_iff.mp e
  exact h.idxOf_getElem i hi
theorem nxt_at {r : List Nat} (h : r.Nodup) {i x y : Nat} (e : r[i]? = some x) (e2 : r[(i + 1) % r.length]? = some y) : nxt r x = y := by
  unfold nxt
  rw [idx_at h e, List.getD_eq_getElem?_getD, e2]
  rfl
theorem nxt_mem {r : List Nat} {x : Nat} (h : x ∈ r) : nxt r x ∈ r := by
  unfold nxt
  have hl : 0 < r.length := List.length_pos_of_mem h
  have h2 : (r.idxOf x + 1) % r.length < r.length := Nat.mod_lt _ hl
  rw [List.getD_eq_getElem?_getD, List.getElem?_eq_getElem h2]
  exact List.getElem_mem h2
theorem nxt_inj {r : List Nat} (h : r.Nodup) {x y : Nat} (hx : x ∈ r) (hy : y ∈ r) (e : nxt r x = nxt r y) : x = y := by
  obtain ⟨i, hi, rfl⟩ := List.mem_iff_getElem.mp hx
  obtain ⟨j, hj, rfl⟩ := List.mem_iff_getElem.mp hy
  have hl : 0 < r.length := by omega
  have m1 : (i + 1) % r.length < r.length := Nat.mod_lt _ hl
  have m2 : (j + 1) % r.length < r.length := Nat.mod_lt _ hl
  rw [nxt_at h (List.getElem?_eq_getElem hi) (List.getElem?_eq_getElem m1), nxt_at h (List.getElem?_eq_getElem hj) (List.getElem?_eq_getElem m2)] at e
  have e2 := (List.getElem_inj h).mp e
  have e3 : i = j := by
    by_cases a : i + 1 = r.length <;> by_cases b : j + 1 = r.length
    · omega
    · rw [a, Nat.mod_self, Nat.mod_eq_of_lt (by omega)] at e2; omega
    · rw [b, Nat.mod_self, Nat.mod_eq_of_lt (by omega)] at e2; omega
    · rw [Nat.mod_eq_of_lt (by omega), Nat.mod_eq_of_lt (by omega)] at e2; omega
  subst e3
  rfl
/-- x put in behind the k-th -/
def putAt (r : List Nat) (k x : Nat) : List Nat := r.take k ++ [x] ++ r.drop k
theorem putAt_len (r : List Nat) (k x : Nat) : (putAt r k x).length = r.length + 1 := by
  unfold putAt
  simp
  omega
theorem putAt_get (r : List Nat) (k x i : Nat) (hk : k ≤ r.length) : (putAt r k x)[i]? = if i < k then r[i]? else if i = k then some x else r[i - 1]? := by
  unfold putAt
  by_cases h : i < k
  · rw [if_pos h, List.append_assoc, List.getElem?_append_left (by simp; omega), List.getElem?_take, if_pos h]
  · rw [if_neg h, List.append_assoc, List.getElem?_append_right (by simp; omega)]
    have e : (r.take k).length = k := by simp; omega
    rw [e]
    by_cases h2 : i = k
    · rw [if_pos h2, h2, Nat.sub_self]; rfl
    · rw [if_neg h2]
      obtain ⟨j, hj⟩ : ∃ j, i - k = j + 1 := ⟨i - k - 1, by omega⟩
      rw [hj]
      show (r.drop k)[j]? = r[i - 1]?
      rw [List.getElem?_drop]
      congr 1
      omega
theorem putAt_perm (r : List Nat) (k x : Nat) : (putAt r k x).Perm (x :: r) := by
  unfold putAt
  rw [List.append_assoc]
  refine (List.perm_append_comm_assoc _ _ _).trans ?_
  rw [List.take_append_drop]
  exact List.Perm.refl _
theorem putAt_mem {r : List Nat} {k x y : Nat} : y ∈ putAt r k x ↔ y = x ∨ y ∈ r := by
  rw [(putAt_perm r k x).mem_iff, List.mem_cons]
theorem putAt_nodup {r : List Nat} {k x : Nat} (h : r.Nodup) (hx : x ∉ r) : (putAt r k x).Nodup := by
  rw [(putAt_perm r k x).nodup_iff]
  exact List.nodup_cons.mpr ⟨hx, h⟩
/-- behind x stands the new one, behind it what stood behind x -/
theorem nxt_put {r : List Nat} (h : r.Nodup) {x y : Nat} (hx : x ∈ r) (hy : y ∉ r) :
    nxt (putAt r (r.idxOf x + 1) y) x = y ∧ nxt (putAt r (r.idxOf x + 1) y) y = nxt r x ∧ ∀ z ∈ r, z ≠ x → nxt (putAt r (r.idxOf x + 1) y) z = nxt r z := by
  obtain ⟨i, hi, rfl⟩ := List.mem_iff_getElem.mp hx
  have ei : r.idxOf r[i] = i := h.idxOf_getElem i hi
  rw [ei]
  have hn := putAt_nodup (k := i + 1) h hy
  have hl := putAt_len r (i + 1) y
  have g := fun j => putAt_get r (i + 1) y j (by omega)
  have hl0 : 0 < r.length := by omega
  refine ⟨?_, ?_, fun z hz hne => ?_⟩
  · refine nxt_at (i := i) hn ?_ ?_
    · rw [g, if_pos (by omega), List.getElem?_eq_getElem hi]
    · rw [hl, Nat.mod_eq_of_lt (by omega), g, if_neg (by omega), if_pos rfl]
  · have m1 : (i + 1) % r.length < r.length := Nat.mod_lt _ hl0
    rw [nxt_at h (List.getElem?_eq_getElem hi) (List.getElem?_eq_getElem m1)]
    refine nxt_at (i := i + 1) hn ?_ ?_
    · rw [g, if_neg (by omega), if_pos rfl]
    · rw [hl, g]
      by_cases e : i + 1 = r.length
      · have e1 : (i + 1 + 1) % (r.length + 1) = 0 := by rw [e, Nat.mod_self]
        have e2 : (i + 1) % r.length = 0 := by rw [e, Nat.mod_self]
        rw [e1, if_pos (by omega)]
        simp only [e2]
        exact List.getElem?_eq_getElem hl0
      · have e1 : (i + 1 + 1) % (r.length + 1) = i + 2 := Nat.mod_eq_of_lt (by omega)
        have e2 : (i + 1) % r.length = i + 1 := Nat.mod_eq_of_lt (by omega)
        rw [e1, if_neg (by omega), if_neg (by omega)]
        simp only [e2]
        exact List.getElem?_eq_getElem (by omega)
  · obtain ⟨j, hj, rfl⟩ := List.mem_iff_getElem.mp hz
    have hij : j ≠ i := fun e => hne (by subst e; rfl)
    have m1 : (j + 1) % r.length < r.length := Nat.mod_lt _ hl0
    rw [nxt_at h (List.getElem?_eq_getElem hj) (List.getElem?_eq_getElem m1)]
    by_cases hlt : j < i
    · have e2 : (j + 1) % r.length = j + 1 := Nat.mod_eq_of_lt (by omega)
      refine nxt_at (i := j) hn ?_ ?_
      · rw [g, if_pos (by omega), List.getElem?_eq_getElem hj]
      · rw [hl, Nat.mod_eq_of_lt (by omega), g, if_pos (by omega)]
        simp only [e2]
        exact List.getElem?_eq_getElem (by omega)
    · refine nxt_at (i := j + 1) hn ?_ ?_
      · rw [g, if_neg (by omega), if_neg (by omega)]
        exact List.getElem?_eq_getElem (by omega)
      · rw [hl, g]
        by_cases e : j + 1 = r.length
        · have e1 : (j + 1 + 1) % (r.length + 1) = 0 := by rw [e, Nat.mod_self]
          have e2 : (j + 1) % r.length = 0 := by rw [e, Nat.mod_self]
          rw [e1, if_pos (by omega)]
          simp only [e2]
          exact List.getElem?_eq_getElem hl0
        · have e1 : (j + 1 + 1) % (r.length + 1) = j + 2 := Nat.mod_eq_of_lt (by omega)
          have e2 : (j + 1) % r.length = j + 1 := Nat.mod_eq_of_lt (by omega)
          rw [e1, if_neg (by omega), if_neg (by omega)]
          simp only [e2]
          exact List.getElem?_eq_getElem (by omega)

/-! ### going round by f -/
def Path (f : Nat → Nat) : Nat → List Nat → Nat → Prop
  | x, [], y => f x = y
  | x, z :: l, y => f x = z ∧ Path f z l y
theorem Path.app {f : Nat → Nat} : ∀ {x y z : Nat} {l1 l2 : List Nat}, Path f x (l1 ++ y :: l2) z ↔ Path f x l1 y ∧ Path f y l2 z
  | x, y, z, [], l2 => Iff.rfl
  | x, y, z, a :: l1, l2 => by
    show (f x = a ∧ Path f a (l1 ++ y :: l2) z) ↔ (f x = a ∧ Path f a l1 y) ∧ Path f y l2 z
    rw [Path.app, and_assoc]
theorem Path.other {f g : Nat → Nat} : ∀ {x x' y : Nat} {l : List Nat}, Path f x l y → g x' = f x → (∀ z ∈ l, g z = f z) → Path g x' l y
  | x, x', y, [], h, e, _ => e.trans h
  | x, x', y, a :: l, h, e, hl => ⟨e.trans h.1, Path.other h.2 (hl a List.mem_cons_self) fun z hz => hl z (List.mem_cons_of_mem _ hz)⟩
/-- the rings of f: every dart below m in just one -/
structure Rings (f : Nat → Nat) (m : Nat) (R : List (List Nat)) : Prop where
  all : R.flatten.Perm (List.range m)
  ok : ∀ r ∈ R, ∃ x l, r = x :: l ∧ Path f x l x
theorem Rings.nd {f : Nat → Nat} {m : Nat} {R : List (List Nat)} (h : Rings f m R) : R.flatten.Nodup := h.all.nodup_iff.mpr List.nodup_range
theorem Rings.mem {f : Nat → Nat} {m : Nat} {R : List (List Nat)} (h : Rings f m R) {d : Nat} : d ∈ R.flatten ↔ d < m := by rw [h.all.mem_iff, List.mem_range]
theorem Rings.congr {f g : Nat → Nat} {m : Nat} {R : List (List Nat)} (h : Rings f m R) (e : ∀ d, d < m → g d = f d) : Rings g m R := by
  refine ⟨h.all, fun r hr => ?_⟩
  obtain ⟨x, l, rfl, p⟩ := h.ok r hr
  have hm : ∀ z ∈ x :: l, g z = f z := fun z hz => e z (h.mem.mp (List.mem_flatten.mpr ⟨_, hr, hz⟩))
  exact ⟨x, l, rfl, p.other (hm x List.mem_cons_self) fun z hz => hm z (List.mem_cons_of_mem _ hz)⟩
/-- the ring of x, begun at x -/
theorem Rings.at {f : Nat → Nat} {m : Nat} {R : List (List Nat)} (h : Rings f m R) {x : Nat} (hx : x < m) :
    ∃ A r B l, R = A ++ r :: B ∧ (x :: l).Perm r ∧ Path f x l x := by
  obtain ⟨r, hr, hxr⟩ := List.mem_flatten.mp (h.mem.mpr hx)
  obtain ⟨A, B, e⟩ := List.append_of_mem hr
  obtain ⟨y, l, rfl, p⟩ := h.ok r hr
  rcases List.mem_cons.mp hxr with rfl | hl
  · exact ⟨A, _, B, l, e, List.Perm.refl _, p⟩
  · obtain ⟨u, v, rfl⟩ := List.append_of_mem hl
    obtain ⟨p1, p2⟩ := Path.app.mp p
    refine ⟨A, _, B, v ++ y :: u, e, ?_, Path.app.mpr ⟨p2, p1⟩⟩
    show (x :: v ++ y :: u).Perm (y :: u ++ x :: v)
    exact List.perm_append_comm
theorem range_two (m : Nat) : (List.range (m + 2)).Perm (m :: (m + 1) :: List.range m) := by
  rw [List.range_succ, List.range_succ, List.append_assoc]
  refine List.perm_append_comm.trans ?_
  exact List.Perm.refl _
/-- a leaf: the new dart out goes behind left, back behind it -/
theorem Rings.leaf {f g : Nat → Nat} {m left out back : Nat} {R : List (List Nat)} (h : Rings f m R) (hl : left < m) (ho : (out = m ∧ back = m + 1) ∨ (out = m + 1 ∧ back = m))
    (g1 : g left = out) (g2 : g out = back) (g3 : g back = f left) (g4 : ∀ z, z < m → z ≠ left → g z = f z) : ∃ R', Rings g (m + 2) R' ∧ R'.length = R.length := by
  obtain ⟨A, r, B, l, e, hp, p⟩ := h.at hl
  have hn := h.nd
  have hm : ∀ z ∈ R.flatten, z < m := fun z hz => h.mem.mp hz
  rw [e] at hn hm
  have hs : r.Sublist (A ++ r :: B).flatten := by
    rw [List.flatten_append, List.flatten_cons]
    exact ((List.sublist_append_left r B.flatten)).trans (List.sublist_append_right _ _)
  have hnr : (left :: l).Nodup := (hp.nodup_iff).mpr (hn.sublist hs)
  have hml : ∀ z ∈ l, z < m ∧ z ≠ left := fun z hz => ⟨hm z (hs.subset (hp.mem_iff.mp (List.mem_cons_of_mem _ hz))), fun q => (List.nodup_cons.mp hnr).1 (q ▸ hz)⟩
  refine ⟨A ++ (left :: out :: back :: l) :: B, ⟨?_, ?_⟩, by rw [e]; simp⟩
  · have q1 : (A ++ (left :: out :: back :: l) :: B).flatten.Perm (out :: back :: (A ++ r :: B).flatten) := by
      rw [List.flatten_append, List.flatten_append, List.flatten_cons, List.flatten_cons]
      have q2 : (left :: out :: back :: l).Perm (out :: back :: r) := by
        refine (List.Perm.swap _ _ _).trans (List.Perm.cons _ ((List.Perm.swap _ _ _).trans (List.Perm.cons _ hp)))
      refine (List.Perm.append_left _ (List.Perm.append_right _ q2)).trans ?_
      show (A.flatten ++ ([out, back] ++ (r ++ B.flatten))).Perm ([out, back] ++ (A.flatten ++ (r ++ B.flatten)))
      exact List.perm_append_comm_assoc _ _ _
    rw [← e] at q1
    refine q1.trans (((h.all.cons _).cons _).trans ?_)
    refine List.Perm.trans ?_ (range_two m).symm
    rcases ho with ⟨rfl, rfl⟩ | ⟨rfl, rfl⟩
    · exact List.Perm.refl _
    · exact List.Perm.swap _ _ _
  · intro r' hr'
    have hold : ∀ s ∈ A ++ B, ∃ x l, s = x :: l ∧ Path g x l x := fun s hsm => by
      have hsR : s ∈ R := by rw [e]; rcases List.mem_append.mp hsm with a | a; exact List.mem_append_left _ a; exact List.mem_append_right _ (List.mem_cons_of_mem _ a)
      obtain ⟨x, l', rfl, p'⟩ := h.ok s hsR
      have nl : left ∉ x :: l' := fun hin => by
        have hlr : left ∈ r := hp.mem_iff.mp List.mem_cons_self
        rw [List.flatten_append, List.flatten_cons] at hn
        rcases List.mem_append.mp hsm with a | a
        · exact (List.nodup_append.mp hn).2.2 left (List.mem_flatten.mpr ⟨_, a, hin⟩) left (List.mem_append_left _ hlr) rfl
        · exact (List.nodup_append.mp (List.nodup_append.mp hn).2.1).2.2 left hlr left (List.mem_flatten.mpr ⟨_, a, hin⟩) rfl
      have hz : ∀ z ∈ x :: l', g z = f z := fun z hz => g4 z (h.mem.mp (List.mem_flatten.mpr ⟨_, hsR, hz⟩)) fun q => nl (q ▸ hz)
      exact ⟨x, l', rfl, p'.other (hz x List.mem_cons_self) fun z q => hz z (List.mem_cons_of_mem _ q)⟩
    rcases List.mem_append.mp hr' with a | a
    · exact hold r' (List.mem_append_left _ a)
    · rcases List.mem_cons.mp a with rfl | a
      · exact ⟨left, _, rfl, g1, g2, p.other g3 fun z hz => g4 z (hml z hz).1 (hml z hz).2⟩
      · exact hold r' (List.mem_append_right _ a)
/-- a chord: the ring falls in two -/
theorem Rings.chord {f g : Nat → Nat} {m left right out back : Nat} {R : List (List Nat)} {r0 : List Nat} (h : Rings f m R) (hl : left < m) (hne : left ≠ right) (hp0 : Path f left r0 left) (hn0 : (left :: r0).Nodup) (hr0 : right ∈ r0) (ho : (out = m ∧ back = m + 1) ∨ (out = m + 1 ∧ back = m))
    (g1 : g left = out) (g2 : g out = f right) (g3 : g right = back) (g4 : g back = f left) (g5 : ∀ z, z < m → z ≠ left → z ≠ right → g z = f z) : ∃ R', Rings g (m + 2) R' ∧ R'.length = R.length + 1 := by
  obtain ⟨A, r, B, l, e, hp, p⟩ := h.at hl
  have hn := h.nd
  have hm : ∀ z ∈ R.flatten, z < m := fun z hz => h.mem.mp hz
  rw [e] at hn hm
  have hs : r.Sublist (A ++ r :: B).flatten := by
    rw [List.flatten_append, List.flatten_cons]
    exact ((List.sublist_append_left r B.flatten)).trans (List.sublist_append_right _ _)
  have hnr : (left :: l).Nodup := (hp.nodup_iff).mpr (hn.sublist hs)
  -- the same row
  have same : ∀ {x : Nat} {l1 l2 : List Nat}, Path f x l1 left → Path f x l2 left → left ∉ l1 → left ∉ l2 → l1 = l2 := by
    intro x l1
    induction l1 generalizing x with
    | nil =>
      intro l2 a b _ nb
      cases l2 with
      | nil => rfl
      | cons z t => exact absurd (show left ∈ z :: t by rw [← b.1, show f x = left from a]; exact List.mem_cons_self) nb
    | cons z t ih =>
      intro l2 a b na nb
      cases l2 with
      | nil => exact absurd (show left ∈ z :: t by rw [← a.1, show f x = left from b]; exact List.mem_cons_self) na
      | cons z2 t2 =>
        have e1 : z = z2 := a.1.symm.trans b.1
        subst e1
        rw [ih a.2 b.2 (fun q => na (List.mem_cons_of_mem _ q)) fun q => nb (List.mem_cons_of_mem _ q)]
  have el : r0 = l := same hp0 p (List.nodup_cons.mp hn0).1 (List.nodup_cons.mp hnr).1
  subst el
  have hml : ∀ z ∈ r0, z < m ∧ z ≠ left := fun z hz => ⟨hm z (hs.subset (hp.mem_iff.mp (List.mem_cons_of_mem _ hz))), fun q => (List.nodup_cons.mp hnr).1 (q ▸ hz)⟩
  obtain ⟨u, v, rfl⟩ := List.append_of_mem hr0
  obtain ⟨p1, p2⟩ := Path.app.mp p
  have hnr2 := (List.nodup_cons.mp hnr).2
  have nu : ∀ z ∈ u, z ≠ right := fun z hz q => (List.nodup_append.mp hnr2).2.2 z hz right List.mem_cons_self q
  have nv : ∀ z ∈ v, z ≠ right := fun z hz q => (List.nodup_cons.mp (List.nodup_append.mp hnr2).2.1).1 (q ▸ hz)
  refine ⟨A ++ (left :: out :: v) :: (right :: back :: u) :: B, ⟨?_, ?_⟩, by rw [e]; simp; omega⟩
  · have q1 : (A ++ (left :: out :: v) :: (right :: back :: u) :: B).flatten.Perm (out :: back :: (A ++ r :: B).flatten) := by
      rw [List.flatten_append, List.flatten_append, List.flatten_cons, List.flatten_cons, List.flatten_cons, ← List.append_assoc (left :: out :: v)]
      have q2 : ((left :: out :: v) ++ (right :: back :: u)).Perm (out :: back :: r) := by
        refine List.Perm.trans ?_ ((hp.cons back).cons out)
        rw [List.perm_iff_count]
        intro a
        simp only [List.count_append, List.count_cons]
        omega
      refine (List.Perm.append_left _ (List.Perm.append_right _ q2)).trans ?_
      show (A.flatten ++ ([out, back] ++ (r ++ B.flatten))).Perm ([out, back] ++ (A.flatten ++ (r ++ B.flatten)))
      exact List.perm_append_comm_assoc _ _ _
    rw [← e] at q1
    refine q1.trans (((h.all.cons _).cons _).trans ?_)
    refine List.Perm.trans ?_ (range_two m).symm
    rcases ho with ⟨rfl, rfl⟩ | ⟨rfl, rfl⟩
    · exact List.Perm.refl _
    · exact List.Perm.swap _ _ _
  · intro r' hr'
    have hold : ∀ s ∈ A ++ B, ∃ x l, s = x :: l ∧ Path g x l x := fun s hsm => by
      have hsR : s ∈ R := by rw [e]; rcases List.mem_append.mp hsm with a | a; exact List.mem_append_left _ a; exact List.mem_append_right _ (List.mem_cons_of_mem _ a)
      obtain ⟨x, l', rfl, p'⟩ := h.ok s hsR
      have nl : ∀ z ∈ r, z ∉ x :: l' := fun z hlr hin => by
        rw [List.flatten_append, List.flatten_cons] at hn
        rcases List.mem_append.mp hsm with a | a
        · exact (List.nodup_append.mp hn).2.2 z (List.mem_flatten.mpr ⟨_, a, hin⟩) z (List.mem_append_left _ hlr) rfl
        · exact (List.nodup_append.mp (List.nodup_append.mp hn).2.1).2.2 z hlr z (List.mem_flatten.mpr ⟨_, a, hin⟩) rfl
      have nl1 := nl left (hp.mem_iff.mp List.mem_cons_self)
      have nl2 := nl right (hp.mem_iff.mp (List.mem_cons_of_mem _ hr0))
      have hz : ∀ z ∈ x :: l', g z = f z := fun z hz => g5 z (h.mem.mp (List.mem_flatten.mpr ⟨_, hsR, hz⟩)) (fun q => nl1 (q ▸ hz)) fun q => nl2 (q ▸ hz)
      exact ⟨x, l', rfl, p'.other (hz x List.mem_cons_self) fun z q => hz z (List.mem_cons_of_mem _ q)⟩
    rcases List.mem_append.mp hr' with a | a
    · exact hold r' (List.mem_append_left _ a)
    · rcases List.mem_cons.mp a with rfl | a
      · exact ⟨left, _, rfl, g1, p2.other g2 fun z hz => g5 z (hml z (by simp [hz])).1 (hml z (by simp [hz])).2 (nv z hz)⟩
      · rcases List.mem_cons.mp a with rfl | a
        · exact ⟨right, _, rfl, g3, p1.other g4 fun z hz => g5 z (hml z (by simp [hz])).1 (hml z (by simp [hz])).2 (nu z hz)⟩
        · exact hold r' (List.mem_append_right _ a)
/-! ### as many rings, however they are told -/
def lmin : List Nat → Nat
  | [] => 0
  | [x] => x
  | x :: y :: r => min x (lmin (y :: r))
theorem lmin_mem : ∀ {r : List Nat}, r ≠ [] → lmin r ∈ r
  | [], h => absurd rfl h
  | [x], _ => List.mem_cons_self
  | x :: y :: r, _ => by
    have ih := lmin_mem (r := y :: r) (by simp)
    unfold lmin
    rcases Nat.le_total x (lmin (y :: r)) with h | h
    · rw [Nat.min_eq_left h]; exact List.mem_cons_self
    · rw [Nat.min_eq_right h]; exact List.mem_cons_of_mem _ ih
theorem lmin_le : ∀ {r : List Nat} {x : Nat}, x ∈ r → lmin r ≤ x
  | [x], y, h => by
    have e : y = x := by simpa using h
    rw [e]
    exact Nat.le_refl _
  | x :: y :: r, z, h => by
    unfold lmin
    rcases List.mem_cons.mp h with rfl | h
    · exact Nat.min_le_left _ _
    · exact Nat.le_trans (Nat.min_le_right _ _) (lmin_le h)
def iter (f : Nat → Nat) : Nat → Nat → Nat
  | 0, x => x
  | k + 1, x => iter f k (f x)
def Reach (f : Nat → Nat) (x y : Nat) : Prop := ∃ k, iter f k x = y
theorem Path.reach {f : Nat → Nat} : ∀ {x y : Nat} {l : List Nat}, Path f x l y → ∀ z ∈ l ++ [y], Reach f x z
  | x, y, [], h, z, hz => ⟨1, by rw [show z = y by simpa using hz]; exact h⟩
  | x, y, a :: l, h, z, hz => by
    rcases List.mem_cons.mp hz with rfl | hz
    · exact ⟨1, h.1⟩
    · obtain ⟨k, e⟩ := Path.reach h.2 z hz
      refine ⟨k + 1, ?_⟩
      show iter f k (f x) = z
      rw [h.1]
      exact e
theorem Path.step {f : Nat → Nat} : ∀ {x y : Nat} {l : List Nat}, Path f x l y → ∀ z ∈ x :: l, f z ∈ l ++ [y]
  | x, y, [], h, z, hz => by rw [show z = x by simpa using hz, show f x = y from h]; simp
  | x, y, a :: l, h, z, hz => by
    rcases List.mem_cons.mp hz with rfl | hz
    · rw [h.1]; simp
    · exact List.mem_cons_of_mem _ (Path.step h.2 z hz)
theorem Path.ring {f : Nat → Nat} {x : Nat} {l : List Nat} (h : Path f x l x) {z w : Nat} (hz : z ∈ x :: l) : w ∈ x :: l ↔ Reach f z w := by
  have cl : ∀ z ∈ x :: l, f z ∈ x :: l := fun z hz => by
    have := h.step z hz
    simp at this ⊢
    exact this.symm
  constructor
  · intro hw
    -- from z to x, from x to w
    have toX : Reach f z x := by
      rcases List.mem_cons.mp hz with rfl | hz
      · exact ⟨0, rfl⟩
      · obtain ⟨u, v, rfl⟩ := List.append_of_mem hz
        exact (Path.app.mp h).2.reach x (by simp)
    have toW : Reach f x w := by
      rcases List.mem_cons.mp hw with rfl | hw
      · exact ⟨0, rfl⟩
      · exact h.reach w (by simp [hw])
    obtain ⟨a, ea⟩ := toX
    obtain ⟨b, eb⟩ := toW
    have it : ∀ a z, iter f b (iter f a z) = iter f (a + b) z := by
      intro a
      induction a with
      | zero => intro z; rw [Nat.zero_add]; rfl
      | succ a ih => intro z; rw [Nat.add_right_comm]; exact ih (f z)
    exact ⟨a + b, by rw [← it, ea, eb]⟩
  · rintro ⟨k, e⟩
    subst e
    induction k generalizing z with
    | zero => exact hz
    | succ k ih => exact ih (cl z hz)
theorem Rings.leaders {f : Nat → Nat} {m : Nat} {R : List (List Nat)} (h : Rings f m R) : (R.map lmin).Nodup ∧ ∀ a, a ∈ R.map lmin ↔ a < m ∧ ∀ y, Reach f a y → a ≤ y := by
  constructor
  · have hn := h.nd
    have hne : ∀ r ∈ R, r ≠ [] := fun r hr => by obtain ⟨x, l, rfl, _⟩ := h.ok r hr; simp
    clear h
    induction R with
    | nil => exact List.nodup_nil
    | cons r R ih =>
      rw [List.flatten_cons] at hn
      obtain ⟨n1, n2, n3⟩ := List.nodup_append.mp hn
      refine List.nodup_cons.mpr ⟨fun hin => ?_, ih n2 fun s hs => hne s (List.mem_cons_of_mem _ hs)⟩
      obtain ⟨s, hs, es⟩ := List.mem_map.mp hin
      have h1 := lmin_mem (hne r List.mem_cons_self)
      have h2 := lmin_mem (hne s (List.mem_cons_of_mem _ hs))
      exact n3 _ h1 _ (List.mem_flatten.mpr ⟨s, hs, h2⟩) es.symm
  · intro a
    constructor
    · intro ha
      obtain ⟨r, hr, rfl⟩ := List.mem_map.mp ha
      obtain ⟨x, l, e, p⟩ := h.ok r hr
      have hm := lmin_mem (r := r) (by rw [e]; simp)
      refine ⟨h.mem.mp (List.mem_flatten.mpr ⟨r, hr, hm⟩), fun y hy => lmin_le ?_⟩
      rw [e] at hm ⊢
      rw [e] at hy
      exact (p.ring hm).mpr hy
    · rintro ⟨ha, hl⟩
      obtain ⟨r, hr, har⟩ := List.mem_flatten.mp (h.mem.mpr ha)
      obtain ⟨x, l, e, p⟩ := h.ok r hr
      refine List.mem_map.mpr ⟨r, hr, ?_⟩
      have hm := lmin_mem (r := r) (by rw [e]; simp)
      have h1 := lmin_le har
      have h2 := hl (lmin r) (by rw [e] at hm har ⊢; exact (p.ring har).mp hm)
      omega
theorem Rings.count {f : Nat → Nat} {m : Nat} {R S : List (List Nat)} (h : Rings f m R) (k : Rings f m S) : R.length = S.length := by
  have a := h.leaders
  have b := k.leaders
  have := len_of_nodup a.1 b.1 fun x => (a.2 x).trans (b.2 x).symm
  simpa using this

/-! ### webs: the ends of the ties, the turns of the places -/
abbrev EdgL := List (Nat × Nat)
abbrev Turns := List (List Nat)
def en (E : EdgL) (i : Nat) : Nat × Nat := E.getD i (0, 0)
def row (T : Turns) (p : Nat) : List Nat := T.getD p []
def hd (E : EdgL) (d : Nat) : Nat := if d % 2 = 0 then (en E (d / 2)).2 else (en E (d / 2)).1
def tl (E : EdgL) (d : Nat) : Nat := if d % 2 = 0 then (en E (d / 2)).1 else (en E (d / 2)).2
/-- the dart of tie j that leaves p -/
def outOf (E : EdgL) (p j : Nat) : Nat := 2 * j + if (en E j).1 = p then 0 else 1
def fol (E : EdgL) (T : Turns) (d : Nat) : Nat := outOf E (hd E d) (nxt (row T (hd E d)) (d / 2))
structure Ok (E : EdgL) (T : Turns) : Prop where
  ends : ∀ i, i < E.length → (en E i).1 ≠ (en E i).2 ∧ (en E i).1 < T.length ∧ (en E i).2 < T.length
  nd : ∀ p, p < T.length → (row T p).Nodup
  mem : ∀ p, p < T.length → ∀ i, i ∈ row T p ↔ i < E.length ∧ ((en E i).1 = p ∨ (en E i).2 = p)
section
variable {E : EdgL} {T : Turns}
theorem Ok.hd_lt (h : Ok E T) {d : Nat} (hd' : d < 2 * E.length) : hd E d < T.length := by
  have := h.ends (d / 2) (by omega)
  unfold hd
  split <;> omega
theorem Ok.hd_mem (h : Ok E T) {d : Nat} (hd' : d < 2 * E.length) : d / 2 ∈ row T (hd E d) := by
  refine (h.mem _ (h.hd_lt hd') _).mpr ⟨by omega, ?_⟩
  unfold hd
  split
  · exact .inr rfl
  · exact .inl rfl
theorem outOf_half (E : EdgL) (p j : Nat) : outOf E p j / 2 = j := by unfold outOf; split <;> omega
theorem outOf_tl {E : EdgL} {p j : Nat} (h : (en E j).1 = p ∨ (en E j).2 = p) : tl E (outOf E p j) = p := by
  unfold tl
  rw [outOf_half]
  unfold outOf
  by_cases e : (en E j).1 = p
  · rw [if_pos e, if_pos (by omega)]; exact e
  · rw [if_neg e, if_neg (by omega)]
    rcases h with h | h
    · exact absurd h e
    · exact h
theorem Ok.nxt_mem' (h : Ok E T) {d : Nat} (hd' : d < 2 * E.length) : nxt (row T (hd E d)) (d / 2) < E.length ∧ ((en E (nxt (row T (hd E d)) (d / 2))).1 = hd E d ∨ (en E (nxt (row T (hd E d)) (d / 2))).2 = hd E d) :=
  (h.mem _ (h.hd_lt hd') _).mp (nxt_mem (h.hd_mem hd'))
theorem Ok.fol_lt (h : Ok E T) {d : Nat} (hd' : d < 2 * E.length) : fol E T d < 2 * E.length := by
  have := (h.nxt_mem' hd').1
  unfold fol outOf
  split <;> omega
theorem Ok.fol_tl (h : Ok E T) {d : Nat} (hd' : d < 2 * E.length) : tl E (fol E T d) = hd E d := outOf_tl (h.nxt_mem' hd').2
theorem dart_eq {E : EdgL} {d e : Nat} (hne : (en E (d / 2)).1 ≠ (en E (d / 2)).2) (h1 : d / 2 = e / 2) (h2 : hd E d = hd E e) : d = e := by
  unfold hd at h2
  rw [← h1] at h2
  by_cases a : d % 2 = 0 <;> by_cases b : e % 2 = 0
  · omega
  · rw [if_pos a, if_neg b] at h2; exact absurd h2.symm hne
  · rw [if_neg a, if_pos b] at h2; exact absurd h2 hne
  · omega
theorem Ok.fol_inj (h : Ok E T) {d e : Nat} (h1 : d < 2 * E.length) (h2 : e < 2 * E.length) (q : fol E T d = fol E T e) : d = e := by
  have t1 := h.fol_tl h1
  have t2 := h.fol_tl h2
  rw [q, t2] at t1
  have q2 : fol E T d / 2 = fol E T e / 2 := by rw [q]
  unfold fol at q2
  rw [outOf_half, outOf_half, t1] at q2
  have m1 := h.hd_mem h1
  have m2 := h.hd_mem h2
  rw [t1] at m2
  have := nxt_inj (h.nd _ (h.hd_lt h1)) m1 m2 q2
  exact dart_eq (h.ends (d / 2) (by omega)).1 this t1.symm
end
/-- in one piece -/
def Whole (E : EdgL) (many : Nat) : Prop := ∀ S : Nat → Bool, (∀ i, i < E.length → S (en E i).1 = S (en E i).2) → ∀ p q, p < many → q < many → S p = S q
/-- a flat web -/
structure Flat (E : EdgL) (T : Turns) : Prop where
  ok : Ok E T
  whole : Whole E T.length
  euler : ∃ R, Rings (fol E T) (2 * E.length) R ∧ T.length + R.length = E.length + 2
theorem en_push (E : EdgL) (x : Nat × Nat) (i : Nat) : en (E ++ [x]) i = if i = E.length then x else en E i := by
  unfold en
  rw [List.getD_eq_getElem?_getD, List.getD_eq_getElem?_getD]
  by_cases h : i = E.length
  · subst h
    rw [if_pos rfl, List.getElem?_append_right (Nat.le_refl _)]
    simp
  · rw [if_neg h]
    by_cases h2 : i < E.length
    · rw [List.getElem?_append_left h2]
    · rw [List.getElem?_eq_none (by simp; omega), List.getElem?_eq_none (by omega)]
theorem row_set (T : Turns) {p : Nat} (r : List Nat) (hp : p < T.length) (q : Nat) : row (T.set p r) q = if q = p then r else row T q := by
  unfold row
  rw [List.getD_eq_getElem?_getD, List.getD_eq_getElem?_getD]
  by_cases h : q = p
  · subst h
    rw [if_pos rfl, List.getElem?_set_self hp]
    rfl
  · rw [if_neg h, List.getElem?_set_ne (Ne.symm h)]
theorem row_push (T : Turns) (r : List Nat) (q : Nat) : row (T ++ [r]) q = if q = T.length then r else row T q := by
  unfold row
  rw [List.getD_eq_getElem?_getD, List.getD_eq_getElem?_getD]
  by_cases h : q = T.length
  · subst h
    rw [if_pos rfl, List.getElem?_append_right (Nat.le_refl _)]
    simp
  · rw [if_neg h]
    by_cases h2 : q < T.length
    · rw [List.getElem?_append_left h2]
    · rw [List.getElem?_eq_none (by simp; omega), List.getElem?_eq_none (by omega)]
theorem nxt_one (x : Nat) : nxt [x] x = x := by simp [nxt, Nat.mod_one]
/-- behind tie x in p's list -/
def putBehind (T : Turns) (p x y : Nat) : Turns := T.set p (putAt (row T p) ((row T p).idxOf x + 1) y)
theorem putBehind_len (T : Turns) (p x y : Nat) : (putBehind T p x y).length = T.length := by unfold putBehind; simp
theorem putBehind_row (T : Turns) {p : Nat} (x y : Nat) (hp : p < T.length) (q : Nat) : row (putBehind T p x y) q = if q = p then putAt (row T p) ((row T p).idxOf x + 1) y else row T q := row_set T _ hp q
/-- the first web: two places and a tie -/
theorem flat0 : Flat [(0, 1)] [[0], [0]] := by
  refine ⟨⟨?_, ?_, ?_⟩, ?_, [[0, 1]], ⟨by decide, ?_⟩, rfl⟩
  · intro i hi
    have : i = 0 := by simpa using hi
    subst this
    decide
  · intro p hp
    have : p = 0 ∨ p = 1 := by simp at hp; omega
    rcases this with rfl | rfl <;> decide
  · intro p hp i
    have : p = 0 ∨ p = 1 := by simp at hp; omega
    rcases this with rfl | rfl
    · show i ∈ [0] ↔ _
      constructor
      · intro h
        have : i = 0 := by simpa using h
        subst this
        exact ⟨by decide, .inl rfl⟩
      · rintro ⟨h, _⟩
        have : i = 0 := by simpa using h
        subst this
        decide
    · show i ∈ [0] ↔ _
      constructor
      · intro h
        have : i = 0 := by simpa using h
        subst this
        exact ⟨by decide, .inr rfl⟩
      · rintro ⟨h, _⟩
        have : i = 0 := by simpa using h
        subst this
        decide
  · intro S hS p q hp hq
    have h := hS 0 (by decide)
    have h' : S 0 = S 1 := h
    have a : p = 0 ∨ p = 1 := by simp at hp; omega
    have b : q = 0 ∨ q = 1 := by simp at hq; omega
    rcases a with rfl | rfl <;> rcases b with rfl | rfl
    · rfl
    · exact h'
    · exact h'.symm
    · rfl
  · intro r hr
    have : r = [0, 1] := by simpa using hr
    subst this
    exact ⟨0, [1], rfl, by decide, by show fol [(0, 1)] [[0], [0]] 1 = 0; decide⟩
section
variable {E : EdgL} {T : Turns}
theorem hd_old {x : Nat × Nat} {d : Nat} (h : d < 2 * E.length) : hd (E ++ [x]) d = hd E d := by
  have e : en (E ++ [x]) (d / 2) = en E (d / 2) := by rw [en_push, if_neg (by omega)]
  unfold hd
  rw [e]
theorem outOf_old {x : Nat × Nat} {p j : Nat} (h : j < E.length) : outOf (E ++ [x]) p j = outOf E p j := by
  have e : en (E ++ [x]) j = en E j := by rw [en_push, if_neg (by omega)]
  unfold outOf
  rw [e]
/-- the new tie's dart that leaves its end a (the other one b) -/
def newD (E : EdgL) (flip : Bool) : Nat := 2 * E.length + if flip = true then 1 else 0
def newE (flip : Bool) (a b : Nat) : Nat × Nat := if flip = true then (b, a) else (a, b)
theorem newE_or (flip : Bool) (a b p : Nat) : ((newE flip a b).1 = p ∨ (newE flip a b).2 = p) ↔ (p = a ∨ p = b) := by
  unfold newE
  cases flip <;> simp <;> omega
theorem out_new {flip : Bool} {a b : Nat} (hab : a ≠ b) : outOf (E ++ [newE flip a b]) a E.length = newD E flip ∧ outOf (E ++ [newE flip a b]) b E.length = newD E (!flip) := by
  unfold outOf newD
  rw [en_push, if_pos rfl]
  unfold newE
  cases flip <;> simp [hab, Ne.symm hab]
theorem hd_new {flip : Bool} {a b : Nat} : hd (E ++ [newE flip a b]) (newD E flip) = b ∧ hd (E ++ [newE flip a b]) (newD E (!flip)) = a := by
  have h1 : (2 * E.length + 1) / 2 = E.length := by omega
  have h2 : (2 * E.length) / 2 = E.length := by omega
  have h3 : (2 * E.length + 1) % 2 = 1 := by omega
  have h4 : (2 * E.length) % 2 = 0 := by omega
  unfold hd newD
  cases flip <;> simp [h1, h2, h3, h4, en_push, newE]
theorem newD_half (flip : Bool) : newD E flip / 2 = E.length := by unfold newD; split <;> omega
theorem newD_or (flip : Bool) : (newD E flip = 2 * E.length ∧ newD E (!flip) = 2 * E.length + 1) ∨ (newD E flip = 2 * E.length + 1 ∧ newD E (!flip) = 2 * E.length) := by
  unfold newD
  cases flip <;> simp
/-- a leaf at the corner behind left -/
theorem Flat.leaf (h : Flat E T) {left : Nat} (hl : left < 2 * E.length) (flip : Bool) :
    Flat (E ++ [newE flip (hd E left) T.length]) (putBehind T (hd E left) (left / 2) E.length ++ [[E.length]]) := by
  obtain ⟨ok, wh, R, hR, hE⟩ := h
  have hp := ok.hd_lt hl
  have hin := ok.hd_mem hl
  have hout : E.length ∉ row T (hd E left) := fun z => by have := ((ok.mem _ hp _).mp z).1; omega
  have hab : hd E left ≠ T.length := by omega
  have len2 : (putBehind T (hd E left) (left / 2) E.length ++ [[E.length]]).length = T.length + 1 := by simp [putBehind_len]
  have rows : ∀ q, row (putBehind T (hd E left) (left / 2) E.length ++ [[E.length]]) q = if q = T.length then [E.length] else if q = hd E left then putAt (row T (hd E left)) ((row T (hd E left)).idxOf (left / 2) + 1) E.length else row T q := fun q => by
    rw [row_push, putBehind_len, putBehind_row T _ _ hp]
  obtain ⟨n1, n2, n3⟩ := nxt_put (ok.nd _ hp) hin hout
  have nok : Ok (E ++ [newE flip (hd E left) T.length]) (putBehind T (hd E left) (left / 2) E.length ++ [[E.length]]) := by
    refine ⟨fun i hi => ?_, fun p hp' => ?_, fun p hp' i => ?_⟩
    · rw [len2, en_push]
      rw [List.length_append, List.length_singleton] at hi
      by_cases e : i = E.length
      · rw [if_pos e]
        unfold newE
        cases flip <;> simp <;> omega
      · rw [if_neg e]
        have := ok.ends i (by omega)
        omega
    · rw [rows]
      split
      · exact List.nodup_cons.mpr ⟨by simp, List.nodup_nil⟩
      · split
        · exact putAt_nodup (ok.nd _ hp) hout
        · exact ok.nd p (by rw [len2] at hp'; omega)
    · rw [rows, List.length_append, List.length_singleton, en_push]
      rw [len2] at hp'
      by_cases e : i = E.length
      · subst e
        rw [if_pos rfl, newE_or]
        by_cases e2 : p = T.length
        · rw [if_pos e2]; simp [e2]
        · rw [if_neg e2]
          by_cases e3 : p = hd E left
          · rw [if_pos e3, putAt_mem]; simp [e3]
          · rw [if_neg e3]
            constructor
            · intro z; have := ((ok.mem p (by omega) _).mp z).1; omega
            · rintro ⟨_, z | z⟩ <;> omega
      · rw [if_neg e]
        by_cases e2 : p = T.length
        · rw [if_pos e2]
          constructor
          · intro z; exact absurd (by simpa using z) e
          · rintro ⟨z1, z2⟩
            have := ok.ends i (by omega)
            omega
        · rw [if_neg e2]
          by_cases e3 : p = hd E left
          · rw [if_pos e3, putAt_mem, e3, ok.mem _ hp]
            constructor
            · rintro (z | ⟨z1, z2⟩)
              · exact absurd z e
              · exact ⟨by omega, z2⟩
            · rintro ⟨z1, z2⟩; exact .inr ⟨by omega, z2⟩
          · rw [if_neg e3, ok.mem p (by omega)]
            constructor
            · rintro ⟨z1, z2⟩; exact ⟨by omega, z2⟩
            · rintro ⟨z1, z2⟩; exact ⟨by omega, z2⟩
  refine ⟨nok, ?_, ?_⟩
  · intro S hS
    rw [len2]
    have hS' : ∀ i, i < E.length → S (en E i).1 = S (en E i).2 := fun i hi => by
      have := hS i (by simp; omega)
      rw [en_push, if_neg (by omega)] at this
      exact this
    have hnew : S (hd E left) = S T.length := by
      have := hS E.length (by simp)
      rw [en_push, if_pos rfl] at this
      unfold newE at this
      cases flip
      · exact this
      · exact this.symm
    have base := wh S hS'
    have all : ∀ p, p < T.length + 1 → S p = S (hd E left) := fun p hp' => by
      by_cases e : p = T.length
      · rw [e, hnew]
      · exact base p _ (by omega) hp
    intro p q hp' hq
    rw [all p hp', all q hq]
  · have f4 : ∀ z, z < 2 * E.length → z ≠ left → fol (E ++ [newE flip (hd E left) T.length]) (putBehind T (hd E left) (left / 2) E.length ++ [[E.length]]) z = fol E T z := fun z hz hne => by
      unfold fol
      rw [hd_old hz, rows, if_neg (by have := ok.hd_lt hz; omega)]
      by_cases e : hd E z = hd E left
      · rw [if_pos e]
        have hz2 : z / 2 ≠ left / 2 := fun q => hne (dart_eq (ok.ends _ (by omega)).1 q e)
        have hzm := ok.hd_mem hz
        rw [e] at hzm
        rw [n3 _ hzm hz2, e, outOf_old]
        have := (ok.nxt_mem' hz).1
        rw [e] at this
        exact this
      · rw [if_neg e, outOf_old (ok.nxt_mem' hz).1]
    have f1 : fol (E ++ [newE flip (hd E left) T.length]) (putBehind T (hd E left) (left / 2) E.length ++ [[E.length]]) left = newD E flip := by
      unfold fol
      rw [hd_old hl, rows, if_neg hab, if_pos rfl, n1, (out_new hab).1]
    have f2 : fol (E ++ [newE flip (hd E left) T.length]) (putBehind T (hd E left) (left / 2) E.length ++ [[E.length]]) (newD E flip) = newD E (!flip) := by
      unfold fol
      rw [hd_new.1, rows, if_pos rfl, newD_half, nxt_one, (out_new hab).2]
    have f3 : fol (E ++ [newE flip (hd E left) T.length]) (putBehind T (hd E left) (left / 2) E.length ++ [[E.length]]) (newD E (!flip)) = fol E T left := by
      unfold fol
      rw [hd_new.2, rows, if_neg hab, if_pos rfl, newD_half, n2, outOf_old (ok.nxt_mem' hl).1]
    obtain ⟨R', hR', hl'⟩ := hR.leaf hl (newD_or flip) f1 f2 f3 f4
    refine ⟨R', ?_, ?_⟩
    · have : 2 * (E ++ [newE flip (hd E left) T.length]).length = 2 * E.length + 2 := by simp; omega
      rw [this]
      exact hR'
    · rw [len2, List.length_append, List.length_singleton]; omega
/-- a chord between the corners behind left and right, darts of one ring -/
theorem Flat.chord (h : Flat E T) {left right : Nat} {l : List Nat} (hl : left < 2 * E.length) (hr : right < 2 * E.length) (hab : hd E left ≠ hd E right) (hp0 : Path (fol E T) left l left) (hn0 : (left :: l).Nodup) (hin0 : right ∈ l) (flip : Bool) :
    Flat (E ++ [newE flip (hd E left) (hd E right)]) (putBehind (putBehind T (hd E left) (left / 2) E.length) (hd E right) (right / 2) E.length) := by
  obtain ⟨ok, wh, R, hR, hE⟩ := h
  have hp := ok.hd_lt hl
  have hq := ok.hd_lt hr
  have hinp := ok.hd_mem hl
  have hinq := ok.hd_mem hr
  have hne : left ≠ right := fun e => hab (by rw [e])
  have outp : E.length ∉ row T (hd E left) := fun z => by have := ((ok.mem _ hp _).mp z).1; omega
  have outq : E.length ∉ row T (hd E right) := fun z => by have := ((ok.mem _ hq _).mp z).1; omega
  have len2 : (putBehind (putBehind T (hd E left) (left / 2) E.length) (hd E right) (right / 2) E.length).length = T.length := by rw [putBehind_len, putBehind_len]
  have rows : ∀ z, row (putBehind (putBehind T (hd E left) (left / 2) E.length) (hd E right) (right / 2) E.length) z = if z = hd E right then putAt (row T (hd E right)) ((row T (hd E right)).idxOf (right / 2) + 1) E.length else if z = hd E left then putAt (row T (hd E left)) ((row T (hd E left)).idxOf (left / 2) + 1) E.length else row T z := fun z => by
    rw [putBehind_row _ _ _ (by rw [putBehind_len]; exact hq), putBehind_row _ _ _ hp (hd E right), if_neg (Ne.symm hab), putBehind_row _ _ _ hp z]
  obtain ⟨n1, n2, n3⟩ := nxt_put (ok.nd _ hp) hinp outp
  obtain ⟨m1, m2, m3⟩ := nxt_put (ok.nd _ hq) hinq outq
  have nok : Ok (E ++ [newE flip (hd E left) (hd E right)]) (putBehind (putBehind T (hd E left) (left / 2) E.length) (hd E right) (right / 2) E.length) := by
    refine ⟨fun i hi => ?_, fun p hp' => ?_, fun p hp' i => ?_⟩
    · rw [len2, en_push]
      rw [List.length_append, List.length_singleton] at hi
      by_cases e : i = E.length
      · rw [if_pos e]
        unfold newE
        cases flip <;> simp <;> omega
      · rw [if_neg e]
        exact ok.ends i (by omega)
    · rw [rows]
      rw [len2] at hp'
      split
      · exact putAt_nodup (ok.nd _ hq) outq
      · split
        · exact putAt_nodup (ok.nd _ hp) outp
        · exact ok.nd p hp'
    · rw [rows, List.length_append, List.length_singleton, en_push]
      rw [len2] at hp'
      by_cases e : i = E.length
      · subst e
        rw [if_pos rfl, newE_or]
        by_cases e2 : p = hd E right
        · rw [if_pos e2, putAt_mem]; simp [e2]
        · rw [if_neg e2]
          by_cases e3 : p = hd E left
          · rw [if_pos e3, putAt_mem]; simp [e3]
          · rw [if_neg e3]
            constructor
            · intro z; have := ((ok.mem p hp' _).mp z).1; omega
            · rintro ⟨_, z | z⟩ <;> omega
      · rw [if_neg e]
        have fin : i ∈ row T p ↔ i < E.length + 1 ∧ ((en E i).1 = p ∨ (en E i).2 = p) := by
          rw [ok.mem p hp']
          constructor
          · rintro ⟨z1, z2⟩; exact ⟨by omega, z2⟩
          · rintro ⟨z1, z2⟩; exact ⟨by omega, z2⟩
        by_cases e2 : p = hd E right
        · rw [if_pos e2, putAt_mem, ← e2, ← fin]
          constructor
          · rintro (z | z)
            · exact absurd z e
            · exact z
          · exact .inr
        · rw [if_neg e2]
          by_cases e3 : p = hd E left
          · rw [if_pos e3, putAt_mem, ← e3, ← fin]
            constructor
            · rintro (z | z)
              · exact absurd z e
              · exact z
            · exact .inr
          · rw [if_neg e3, fin]
  refine ⟨nok, ?_, ?_⟩
  · intro S hS
    rw [len2]
    exact wh S fun i hi => by
      have := hS i (by simp; omega)
      rw [en_push, if_neg (by omega)] at this
      exact this
  · have f5 : ∀ z, z < 2 * E.length → z ≠ left → z ≠ right → fol (E ++ [newE flip (hd E left) (hd E right)]) (putBehind (putBehind T (hd E left) (left / 2) E.length) (hd E right) (right / 2) E.length) z = fol E T z := fun z hz hne1 hne2 => by
      unfold fol
      rw [hd_old hz, rows]
      by_cases e : hd E z = hd E right
      · rw [if_pos e]
        have hz2 : z / 2 ≠ right / 2 := fun q => hne2 (dart_eq (ok.ends _ (by omega)).1 q e)
        have hzm := ok.hd_mem hz
        rw [e] at hzm
        rw [m3 _ hzm hz2, e, outOf_old]
        have := (ok.nxt_mem' hz).1
        rw [e] at this
        exact this
      · rw [if_neg e]
        by_cases e2 : hd E z = hd E left
        · rw [if_pos e2]
          have hz2 : z / 2 ≠ left / 2 := fun q => hne1 (dart_eq (ok.ends _ (by omega)).1 q e2)
          have hzm := ok.hd_mem hz
          rw [e2] at hzm
          rw [n3 _ hzm hz2, e2, outOf_old]
          have := (ok.nxt_mem' hz).1
          rw [e2] at this
          exact this
        · rw [if_neg e2, outOf_old (ok.nxt_mem' hz).1]
    have f1 : fol (E ++ [newE flip (hd E left) (hd E right)]) (putBehind (putBehind T (hd E left) (left / 2) E.length) (hd E right) (right / 2) E.length) left = newD E flip := by
      unfold fol
      rw [hd_old hl, rows, if_neg hab, if_pos rfl, n1, (out_new hab).1]
    have f2 : fol (E ++ [newE flip (hd E left) (hd E right)]) (putBehind (putBehind T (hd E left) (left / 2) E.length) (hd E right) (right / 2) E.length) (newD E flip) = fol E T right := by
      unfold fol
      rw [hd_new.1, rows, if_pos rfl, newD_half, m2, outOf_old (ok.nxt_mem' hr).1]
    have f3 : fol (E ++ [newE flip (hd E left) (hd E right)]) (putBehind (putBehind T (hd E left) (left / 2) E.length) (hd E right) (right / 2) E.length) right = newD E (!flip) := by
      unfold fol
      rw [hd_old hr, rows, if_pos rfl, m1, (out_new hab).2]
    have f4 : fol (E ++ [newE flip (hd E left) (hd E right)]) (putBehind (putBehind T (hd E left) (left / 2) E.length) (hd E right) (right / 2) E.length) (newD E (!flip)) = fol E T left := by
      unfold fol
      rw [hd_new.2, rows, if_neg hab, if_pos rfl, newD_half, n2, outOf_old (ok.nxt_mem' hl).1]
    obtain ⟨R', hR', hl'⟩ := hR.chord hl hne hp0 hn0 hin0 (newD_or flip) f1 f2 f3 f4 f5
    refine ⟨R', ?_, ?_⟩
    · have : 2 * (E ++ [newE flip (hd E left) (hd E right)]).length = 2 * E.length + 2 := by simp; omega
      rw [this]
      exact hR'
    · rw [len2, List.length_append, List.length_singleton]; omega
end

/-! ### numbered anew -/
def pm (π : List Nat) (i : Nat) : Nat := π.getD i 0
section
variable {π : List Nat} {m : Nat}
theorem pm_at (h : π.Perm (List.range m)) {i : Nat} (hi : i < m) : π[i]? = some (pm π i) := by
  have hl : π.length = m := by rw [h.length_eq, List.length_range]
  unfold pm
  rw [List.getD_eq_getElem?_getD, List.getElem?_eq_getElem (by omega)]
  rfl
theorem pm_lt (h : π.Perm (List.range m)) {i : Nat} (hi : i < m) : pm π i < m := by
  have := List.mem_of_getElem? (pm_at h hi)
  rw [h.mem_iff, List.mem_range] at this
  exact this
theorem pm_inj (h : π.Perm (List.range m)) {i j : Nat} (hi : i < m) (hj : j < m) (e : pm π i = pm π j) : i = j := by
  have hl : π.length = m := by rw [h.length_eq, List.length_range]
  have hn : π.Nodup := h.nodup_iff.mpr List.nodup_range
  have a := pm_at h hi
  have b := pm_at h hj
  rw [List.getElem?_eq_getElem (by omega)] at a b
  have e2 : π[i]'(by omega) = π[j]'(by omega) := by rw [Option.some.inj a, Option.some.inj b, e]
  exact (List.getElem_inj hn).mp e2
theorem pm_surj (h : π.Perm (List.range m)) {x : Nat} (hx : x < m) : ∃ i, i < m ∧ pm π i = x := by
  have hm : x ∈ π := h.mem_iff.mpr (List.mem_range.mpr hx)
  obtain ⟨i, hi, e⟩ := List.mem_iff_getElem.mp hm
  have hl : π.length = m := by rw [h.length_eq, List.length_range]
  refine ⟨i, by omega, ?_⟩
  have := pm_at h (i := i) (by omega)
  rw [List.getElem?_eq_getElem hi] at this
  rw [← Option.some.inj this, e]
end
def rot (c : Nat) (r : List Nat) : List Nat := r.drop c ++ r.take c
theorem rot_perm (c : Nat) (r : List Nat) : (rot c r).Perm r := by
  unfold rot
  refine List.perm_append_comm.trans ?_
  rw [List.take_append_drop]
theorem nxt_split {a b : List Nat} {x y : Nat} (h : (a ++ x :: y :: b).Nodup) : nxt (a ++ x :: y :: b) x = y := by
  refine nxt_at (i := a.length) h ?_ ?_
  · rw [List.getElem?_append_right (Nat.le_refl _), Nat.sub_self]; rfl
  · rw [Nat.mod_eq_of_lt (by simp), List.getElem?_append_right (by omega), show a.length + 1 - a.length = 1 by omega]; rfl
theorem nxt_end {a : List Nat} {x y : Nat} (h : (y :: (a ++ [x])).Nodup) : nxt (y :: (a ++ [x])) x = y := by
  refine nxt_at (i := a.length + 1) h ?_ ?_
  · show (a ++ [x])[a.length]? = some x
    rw [List.getElem?_append_right (Nat.le_refl _), Nat.sub_self]; rfl
  · have : (a.length + 1 + 1) % (y :: (a ++ [x])).length = 0 := by
      rw [show (y :: (a ++ [x])).length = a.length + 1 + 1 by simp, Nat.mod_self]
    rw [this]
    rfl
theorem nxt_rot1 {x : Nat} {r : List Nat} (h : (x :: r).Nodup) {z : Nat} (hz : z ∈ x :: r) : nxt (r ++ [x]) z = nxt (x :: r) z := by
  have h2 : (r ++ [x]).Nodup := (List.perm_append_comm (l₁ := r) (l₂ := [x])).nodup_iff.mpr h
  rcases List.mem_cons.mp hz with rfl | hz
  · cases r with
    | nil => rfl
    | cons y t =>
      have e : nxt (z :: y :: t) z = y := nxt_split (a := []) (b := t) h
      rw [e]
      exact nxt_end h2
  · obtain ⟨u, v, rfl⟩ := List.append_of_mem hz
    cases v with
    | nil =>
      rw [nxt_end h]
      have h3 : (u ++ z :: x :: []).Nodup := by
        have e : u ++ [z] ++ [x] = u ++ z :: x :: [] := by simp
        rw [← e]; exact h2
      have e : u ++ [z] ++ [x] = u ++ z :: x :: [] := by simp
      rw [e]
      exact nxt_split h3
    | cons y t =>
      have e1 : (x :: (u ++ z :: y :: t)) = (x :: u) ++ z :: y :: t := rfl
      have e2 : (u ++ z :: y :: t) ++ [x] = u ++ z :: y :: (t ++ [x]) := by simp
      rw [e1] at h
      rw [e2] at h2
      rw [e1, e2, nxt_split h, nxt_split h2]
theorem nxt_rot {z : Nat} : ∀ (c : Nat) {r : List Nat}, r.Nodup → z ∈ r → nxt (rot c r) z = nxt r z
  | 0, r, _, _ => by unfold rot; simp
  | c + 1, [], _, hz => by simp at hz
  | c + 1, x :: r, h, hz => by
    have h2 : (r ++ [x]).Nodup := (List.perm_append_comm (l₁ := r) (l₂ := [x])).nodup_iff.mpr h
    have hz2 : z ∈ r ++ [x] := (List.perm_append_comm (l₁ := r) (l₂ := [x])).mem_iff.mpr hz
    rw [← nxt_rot1 h hz]
    by_cases hc : c ≤ r.length
    · rw [← nxt_rot c h2 hz2]
      congr 1
      unfold rot
      rw [List.drop_succ_cons, List.take_succ_cons, List.drop_append_of_le_length hc, List.take_append_of_le_length hc]
      simp
    · unfold rot
      rw [List.drop_of_length_le (by simp; omega), List.take_of_length_le (by simp; omega), List.nil_append, nxt_rot1 h hz]
theorem nxt_map {f : Nat → Nat} {r : List Nat} {x : Nat} (hr : r.Nodup) (hi : ∀ a ∈ r, ∀ b ∈ r, f a = f b → a = b) (hx : x ∈ r) : nxt (r.map f) (f x) = f (nxt r x) := by
  obtain ⟨i, hi', rfl⟩ := List.mem_iff_getElem.mp hx
  have hl : 0 < r.length := by omega
  have m1 : (i + 1) % r.length < r.length := Nat.mod_lt _ hl
  rw [nxt_at hr (List.getElem?_eq_getElem hi') (List.getElem?_eq_getElem m1)]
  have hn : (r.map f).Nodup := by
    rw [List.Nodup, List.pairwise_map]
    refine List.Pairwise.imp_of_mem ?_ hr
    intro a b ha hb hne e
    exact hne (hi a ha b hb e)
  refine nxt_at (i := i) hn ?_ ?_
  · rw [List.getElem?_map, List.getElem?_eq_getElem hi']; rfl
  · rw [List.length_map, List.getElem?_map, List.getElem?_eq_getElem m1]; rfl
theorem Path.map {f g φ : Nat → Nat} : ∀ {x y : Nat} {l : List Nat}, Path f x l y → (∀ z ∈ x :: l, g (φ z) = φ (f z)) → Path g (φ x) (l.map φ) (φ y)
  | x, y, [], h, e => by
    show g (φ x) = φ y
    rw [e x List.mem_cons_self, show f x = y from h]
  | x, y, a :: l, h, e => by
    refine ⟨?_, Path.map h.2 fun z hz => e z (List.mem_cons_of_mem _ hz)⟩
    rw [e x List.mem_cons_self, h.1]
/-- the dart d in the new numbers -/
def dm (τ : List Nat) (d : Nat) : Nat := 2 * pm τ (d / 2) + d % 2
theorem dm_perm {τ : List Nat} {n : Nat} (h : τ.Perm (List.range n)) : ((List.range (2 * n)).map (dm τ)).Perm (List.range (2 * n)) := by
  have lt : ∀ d, d < 2 * n → dm τ d < 2 * n := fun d hd => by
    have := pm_lt h (i := d / 2) (by omega)
    unfold dm
    omega
  have inj : ∀ d e, d < 2 * n → e < 2 * n → dm τ d = dm τ e → d = e := fun d e hd he q => by
    unfold dm at q
    have := pm_inj h (i := d / 2) (j := e / 2) (by omega) (by omega) (by omega)
    omega
  have hn : ((List.range (2 * n)).map (dm τ)).Nodup := by
    rw [List.Nodup, List.pairwise_map]
    refine List.Pairwise.imp_of_mem ?_ List.nodup_range
    intro a b ha hb hne e
    exact hne (inj a b (List.mem_range.mp ha) (List.mem_range.mp hb) e)
  refine perm_of_nodup hn List.nodup_range fun a => ?_
  have hs : ∀ a ∈ (List.range (2 * n)).map (dm τ), a ∈ List.range (2 * n) := fun a ha => by
    obtain ⟨d, hd, rfl⟩ := List.mem_map.mp ha
    exact List.mem_range.mpr (lt d (List.mem_range.mp hd))
  exact ⟨hs a, nodup_full hn hs (by simp) a⟩
structure Renum (E : EdgL) (T : Turns) (σ τ : List Nat) (E' : EdgL) (T' : Turns) : Prop where
  ps : σ.Perm (List.range T.length)
  pt : τ.Perm (List.range E.length)
  le : E'.length = E.length
  lt : T'.length = T.length
  ends : ∀ k, k < E.length → en E' (pm τ k) = (pm σ (en E k).1, pm σ (en E k).2)
  rows : ∀ p, p < T.length → ∃ c, row T' (pm σ p) = rot c ((row T p).map (pm τ))
section
variable {E E' : EdgL} {T T' : Turns} {σ τ : List Nat}
theorem Renum.hd (h : Renum E T σ τ E' T') {d : Nat} (hd' : d < 2 * E.length) : hd E' (dm τ d) = pm σ (Sf.hd E d) := by
  have e1 : dm τ d / 2 = pm τ (d / 2) := by unfold dm; omega
  have e2 : dm τ d % 2 = d % 2 := by unfold dm; omega
  unfold Sf.hd
  rw [e1, e2, h.ends _ (by omega)]
  split <;> rfl
theorem Renum.fol (h : Renum E T σ τ E' T') (ok : Ok E T) {d : Nat} (hd' : d < 2 * E.length) : fol E' T' (dm τ d) = dm τ (Sf.fol E T d) := by
  have hp := ok.hd_lt hd'
  have hm := ok.hd_mem hd'
  obtain ⟨hj, hor⟩ := ok.nxt_mem' hd'
  have inj : ∀ a ∈ row T (Sf.hd E d), ∀ b ∈ row T (Sf.hd E d), pm τ a = pm τ b → a = b := fun a ha b hb e => pm_inj h.pt ((ok.mem _ hp a).mp ha).1 ((ok.mem _ hp b).mp hb).1 e
  have hn2 : ((row T (Sf.hd E d)).map (pm τ)).Nodup := by
    rw [List.Nodup, List.pairwise_map]
    refine List.Pairwise.imp_of_mem ?_ (ok.nd _ hp)
    intro a b ha hb hne e
    exact hne (inj a ha b hb e)
  obtain ⟨c, hc⟩ := h.rows _ hp
  have e1 : dm τ d / 2 = pm τ (d / 2) := by unfold dm; omega
  unfold Sf.fol
  rw [h.hd hd', e1, hc, nxt_rot c hn2 (List.mem_map.mpr ⟨_, hm, rfl⟩), nxt_map (ok.nd _ hp) inj hm]
  generalize nxt (row T (Sf.hd E d)) (d / 2) = j at hj hor
  have hends := ok.ends j hj
  unfold outOf dm
  rw [h.ends j hj]
  by_cases e : (en E j).1 = Sf.hd E d
  · rw [if_pos e, if_pos (by rw [e])]
    have : (2 * j + 0) / 2 = j := by omega
    rw [this]
    omega
  · rw [if_neg e, if_neg (fun q => e (pm_inj h.ps (by omega) hp q))]
    have : (2 * j + 1) / 2 = j := by omega
    rw [this]
    omega
theorem Renum.flat (h : Renum E T σ τ E' T') (F : Flat E T) : Flat E' T' := by
  obtain ⟨ok, wh, R, hR, hE⟩ := F
  have rowsP : ∀ p, p < T.length → (row T' (pm σ p)).Perm ((row T p).map (pm τ)) := fun p hp => by
    obtain ⟨c, hc⟩ := h.rows p hp
    rw [hc]
    exact rot_perm _ _
  refine ⟨⟨fun i hi => ?_, fun p hp => ?_, fun p hp i => ?_⟩, ?_, ?_⟩
  · rw [h.le] at hi
    obtain ⟨k, hk, rfl⟩ := pm_surj h.pt hi
    rw [h.ends k hk, h.lt]
    obtain ⟨a, b, c⟩ := ok.ends k hk
    exact ⟨fun q => a (pm_inj h.ps b c q), pm_lt h.ps b, pm_lt h.ps c⟩
  · rw [h.lt] at hp
    obtain ⟨q, hq, rfl⟩ := pm_surj h.ps hp
    rw [(rowsP q hq).nodup_iff, List.Nodup, List.pairwise_map]
    refine List.Pairwise.imp_of_mem ?_ (ok.nd q hq)
    intro a b ha hb hne e
    exact hne (pm_inj h.pt ((ok.mem q hq a).mp ha).1 ((ok.mem q hq b).mp hb).1 e)
  · rw [h.lt] at hp
    obtain ⟨q, hq, rfl⟩ := pm_surj h.ps hp
    rw [(rowsP q hq).mem_iff, List.mem_map, h.le]
    constructor
    · rintro ⟨k, hk, rfl⟩
      obtain ⟨k1, k2⟩ := (ok.mem q hq k).mp hk
      refine ⟨pm_lt h.pt k1, ?_⟩
      rw [h.ends k k1]
      rcases k2 with z | z
      · exact .inl (by rw [z])
      · exact .inr (by rw [z])
    · rintro ⟨hi, ho⟩
      obtain ⟨k, hk, rfl⟩ := pm_surj h.pt hi
      refine ⟨k, (ok.mem q hq k).mpr ⟨hk, ?_⟩, rfl⟩
      rw [h.ends k hk] at ho
      have := ok.ends k hk
      rcases ho with z | z
      · exact .inl (pm_inj h.ps (by omega) hq z)
      · exact .inr (pm_inj h.ps (by omega) hq z)
  · intro S hS
    rw [h.lt]
    have base := wh (fun p => S (pm σ p)) fun i hi => by
      have := hS (pm τ i) (by rw [h.le]; exact pm_lt h.pt hi)
      rw [h.ends i hi] at this
      exact this
    intro p q hp hq
    obtain ⟨p', hp', rfl⟩ := pm_surj h.ps hp
    obtain ⟨q', hq', rfl⟩ := pm_surj h.ps hq
    exact base p' q' hp' hq'
  · refine ⟨R.map (List.map (dm τ)), ⟨?_, ?_⟩, ?_⟩
    · rw [h.le, ← List.map_flatten]
      exact (hR.all.map _).trans (dm_perm h.pt)
    · intro r hr
      obtain ⟨s, hs, rfl⟩ := List.mem_map.mp hr
      obtain ⟨x, l, rfl, p⟩ := hR.ok s hs
      refine ⟨dm τ x, l.map (dm τ), rfl, p.map fun z hz => ?_⟩
      exact h.fol ok (hR.mem.mp (List.mem_flatten.mpr ⟨_, hs, hz⟩))
    · rw [h.lt, h.le, List.length_map]
      exact hE
end
theorem Path.get {f : Nat → Nat} : ∀ {x y : Nat} {l : List Nat}, Path f x l y → ∀ i, i ≤ l.length → f ((x :: l).getD i 0) = (l ++ [y]).getD i 0
  | x, y, [], h, i, hi => by
    have : i = 0 := by simpa using hi
    subst this
    exact h
  | x, y, a :: l, h, 0, _ => h.1
  | x, y, a :: l, h, i + 1, hi => Path.get h.2 i (by simpa using hi)

/-! ### the rings in the order of their least darts -/
structure Canon (f : Nat → Nat) (m : Nat) (R : List (List Nat)) : Prop where
  rings : Rings f m R
  least : ∀ r ∈ R, ∃ x l, r = x :: l ∧ ∀ z ∈ l, x < z
  order : R.Pairwise fun r s => r.headD 0 < s.headD 0
structure Pre (f : Nat → Nat) (m i : Nat) (R : List (List Nat)) : Prop where
  ok : ∀ r ∈ R, ∃ x l, r = x :: l ∧ Path f x l x ∧ (∀ z ∈ l, x < z) ∧ x < i
  nd : R.flatten.Nodup
  lt : ∀ d ∈ R.flatten, d < m
  cov : ∀ d, d < i → d ∈ R.flatten
  order : R.Pairwise fun r s => r.headD 0 < s.headD 0
section
variable {f : Nat → Nat} {m i : Nat} {R : List (List Nat)}
theorem Pre.zero : Pre f m 0 [] := ⟨fun r h => by simp at h, List.nodup_nil, fun d h => by simp at h, fun d h => absurd h (by omega), List.Pairwise.nil⟩
theorem Pre.skip (h : Pre f m i R) (hi : i ∈ R.flatten) : Pre f m (i + 1) R :=
  ⟨fun r hr => by obtain ⟨x, l, a, b, c, d⟩ := h.ok r hr; exact ⟨x, l, a, b, c, by omega⟩, h.nd, h.lt, fun d hd => by
    by_cases e : d = i
    · rw [e]; exact hi
    · exact h.cov d (by omega), h.order⟩
theorem Pre.add (h : Pre f m i R) (ni : i ∉ R.flatten) {l : List Nat} (p : Path f i l i) (hn : (i :: l).Nodup) (hlt : ∀ z ∈ i :: l, z < m) : Pre f m (i + 1) (R ++ [i :: l]) ∧ ∀ z ∈ i :: l, z ∉ R.flatten := by
  have dis : ∀ z ∈ i :: l, z ∉ R.flatten := fun z hz hin => by
    obtain ⟨r, hr, hzr⟩ := List.mem_flatten.mp hin
    obtain ⟨x, l', rfl, p', _, _⟩ := h.ok r hr
    have h1 : Reach f z i := (p.ring hz).mp List.mem_cons_self
    exact ni (List.mem_flatten.mpr ⟨_, hr, (p'.ring hzr).mpr h1⟩)
  have big : ∀ z ∈ l, i < z := fun z hz => by
    have h1 : z ≠ i := fun e => (List.nodup_cons.mp hn).1 (e ▸ hz)
    have h2 : ¬ z < i := fun e => dis z (List.mem_cons_of_mem _ hz) (h.cov z e)
    omega
  refine ⟨⟨fun r hr => ?_, ?_, fun d hd => ?_, fun d hd => ?_, ?_⟩, dis⟩
  · rcases List.mem_append.mp hr with a | a
    · obtain ⟨x, l', a, b, c, d⟩ := h.ok r a; exact ⟨x, l', a, b, c, by omega⟩
    · have : r = i :: l := by simpa using a
      exact ⟨i, l, this, p, big, by omega⟩
  · rw [List.flatten_append, List.flatten_singleton]
    exact List.nodup_append.mpr ⟨h.nd, hn, fun a ha b hb e => dis b hb (e ▸ ha)⟩
  · rw [List.flatten_append, List.flatten_singleton] at hd
    rcases List.mem_append.mp hd with a | a
    · exact h.lt d a
    · exact hlt d a
  · rw [List.flatten_append, List.flatten_singleton]
    by_cases e : d = i
    · rw [e]; exact List.mem_append_right _ List.mem_cons_self
    · exact List.mem_append_left _ (h.cov d (by omega))
  · refine List.pairwise_append.mpr ⟨h.order, List.pairwise_singleton _ _, fun r hr s hs => ?_⟩
    have : s = i :: l := by simpa using hs
    subst this
    obtain ⟨x, l', rfl, _, _, hx⟩ := h.ok r hr
    exact hx
theorem Pre.done (h : Pre f m m R) : Canon f m R := by
  refine ⟨⟨perm_of_nodup h.nd List.nodup_range fun a => ?_, fun r hr => ?_⟩, fun r hr => ?_, h.order⟩
  · rw [List.mem_range]
    exact ⟨h.lt a, h.cov a⟩
  · obtain ⟨x, l, a, b, _, _⟩ := h.ok r hr; exact ⟨x, l, a, b⟩
  · obtain ⟨x, l, a, _, c, _⟩ := h.ok r hr; exact ⟨x, l, a, c⟩
end
/-- the ring that d is in -/
def sideOf (R : List (List Nat)) (d : Nat) : Nat := R.findIdx fun r => r.contains d
theorem sideOf_at : ∀ {R : List (List Nat)} {i d : Nat} {r : List Nat}, R.flatten.Nodup → R[i]? = some r → d ∈ r → sideOf R d = i
  | [], i, d, r, _, h, _ => by simp at h
  | s :: R, 0, d, r, _, h, hd => by
    have e : s = r := by simpa using h
    subst e
    unfold sideOf
    rw [List.findIdx_cons]
    simp [hd]
  | s :: R, i + 1, d, r, hn, h, hd => by
    rw [List.flatten_cons] at hn
    obtain ⟨_, n2, n3⟩ := List.nodup_append.mp hn
    have h' : R[i]? = some r := by simpa using h
    have hns : d ∉ s := fun z => n3 d z d (List.mem_flatten.mpr ⟨r, List.mem_of_getElem? h', hd⟩) rfl
    have ih := sideOf_at n2 h' hd
    unfold sideOf at ih ⊢
    have e : s.contains d = false := by simpa using hns
    rw [List.findIdx_cons, e]
    show List.findIdx (fun r => r.contains d) R + 1 = i + 1
    rw [ih]
theorem flatten_ge : ∀ {R : List (List Nat)}, (∀ r ∈ R, 1 ≤ r.length) → R.length ≤ R.flatten.length
  | [], _ => Nat.le_refl _
  | r :: R, h => by
    have h1 := h r List.mem_cons_self
    have h2 := flatten_ge fun s hs => h s (List.mem_cons_of_mem _ hs)
    rw [List.flatten_cons, List.length_append, List.length_cons]
    omega

/-! ### defs by name -/
structure Has (P : Program) (w : World) (K : PySem.W.Frag) (mg : Str → Option Value) (base : Heap) (CX : CXT) (k : Nat) (x : Str) (ps : List Str) (sp : Sp) : Prop where
  ex : ∃ f fd, FnOk P w K mg base CX k f fd ps sp ∧ mg x = some (.ref f) ∧ PySem.W.keepIn K (.ref f) = true ∧ Binds K fd ps []
section
variable {P : Program} {w : World} {K : PySem.W.Frag} {mg : Str → Option Value} {base : Heap} {x qual : Str} {ps N : List Str} {sp : Sp} {k : Nat}
theorem Has.mk' {st : Stmt} {f : Addr} {fd : FuncData} (F : Fun K x qual st f fd) (gf : mg x = some (.ref f)) (b : Binds K fd ps []) (S : FnScope N ps (defScope st)) (len : ∀ vs H Q E, sp vs H Q E → vs.length = ps.length)
    (hbody : ∀ (cdv : Value) (A : Around) (outer : List Env) (s : Shared) (H : Hp) (vs : List V) (Q : VK) (E : XK), Room k (A.deeper (envOfC qual (defScope st) s.heap.objs.size f cdv)) → sp vs H Q E →
      ∃ t, PSs (cxOf CX0 P w K mg base N qual (defScope st) f cdv A outer s H E).nox (defBody st) t ∧ t { nx := fun _ H' => Q .non H', rt := Q } (start N vs) H) : Has P w K mg base CX0 (k + 1) x ps sp :=
  ⟨f, fd, F.ok S len hbody, gf, F.kp, b⟩
end
section
variable {X : Cx} {k : Nat} {ps : List Str} {sp : Sp} {x : Str} {p pos : Pos} {e : Expr} {es : List Expr} {t : TA}
theorem pe_fn (h : Has X.prog X.w X.K X.mg X.base CX0 k x ps sp) (hr : Room k X.A) (hg : Gl X x) (ha : PA X (e :: es) t) (hdb : (x == ("__debug__" : Str)) = false := by decide) (he : starEach (e :: es) X.env = (false, eval e X.env) :: starEach es X.env := by rfl) (hpl : (backTo pos (starEach es X.env)).any (·.1) = false := by rfl) :
    PE X (.Call (.Name x p) (e :: es) [] pos) (tCall sp [] E0 t) := by
  obtain ⟨f, fd, F, gf, kp, b⟩ := h.ex
  exact pe_call F hr hg gf kp b .nil pass0 ha hdb he hpl
theorem pe_fn0 (h : Has X.prog X.w X.K X.mg X.base CX0 k x ps sp) (hr : Room k X.A) (hg : Gl X x) (hdb : (x == ("__debug__" : Str)) = false := by decide) :
    PE X (.Call (.Name x p) [] [] pos) (tCall sp [] E0 tNil) := by
  obtain ⟨f, fd, F, gf, kp, b⟩ := h.ex
  exact pe_call0 F hr hg gf kp b .nil pass0 hdb
end
/-! ### lists whose object is known to the sign; the sum of two -/
def LsE (K : PySem.W.Frag) (H : Hp) (a : Addr) (xs : List V) : Prop :=
  Rd H a (.lst xs) ∨ ∃ (its : List Value) (n : Nat), K.lookup a = some { cls := .type "list", data := .seq its.toArray n } ∧ Vals xs its ∧ xs.length ≤ sizeLine
theorem LsE.sq {K : PySem.W.Frag} {H : Hp} {a : Addr} {xs : List V} (h : LsE K H a xs) : SqL K H a xs := by
  rcases h with h | ⟨its, n, h1, h2, h3⟩
  · exact .inl h
  · exact .inr ⟨_, its.toArray, n, h1, rfl, rfl, rfl, by rw [List.size_toArray, ← h2.length]; exact h3, by simpa using h2⟩
theorem LsE.of {K : PySem.W.Frag} {H : Hp} {a : Addr} {xs : List V} (h : H a = some (.lst xs)) : LsE K H a xs := .inl (.inl h)
theorem LsE.same {K : PySem.W.Frag} {H H' : Hp} {a : Addr} {xs : List V} (e : Same H H') (h : LsE K H a xs) : LsE K H' a xs := by
  rcases h with (h | ⟨o, h⟩) | h
  · exact .inl (.inl (e _ _ h))
  · exact .inl (.inr ⟨o, e _ _ h⟩)
  · exact .inr h
section
variable {X : Cx}
theorem LsE.obj {pins : List (Addr × Obj)} {σ : L2.St} {H : Hp} {s : Shared} {a : Addr} {xs : List V} (I : Inv X pins σ H s) (h : LsE X.K H a xs) :
    ∃ (its : List Value) (n : Nat), Vals xs its ∧ s.heap.get? a = some { cls := .type "list", data := .seq its.toArray n } := by
  rcases h with h | ⟨its, n, h1, h2, _⟩
  · obtain ⟨_, its, n, r, e⟩ := h.ok I.hok
    exact ⟨its, n, r, e⟩
  · exact ⟨its, n, h2, I.kIn a _ h1⟩
def rCatE (K : PySem.W.Frag) : R2 := fun x y H Q => ∃ l b xs zs, x = .ref l ∧ y = .ref b ∧ LsE K H l xs ∧ LsE K H b zs ∧ xs.length + zs.length ≤ sizeLine ∧ ∀ p, H p = none → Q (.ref p) (upd H p (.lst (xs ++ zs)))
theorem op_catE : OpR X (binaryOp .Add) (rCatE X.K) := by
  intro pins s σ H x y v u Q I rx ry h
  obtain ⟨l, b, xs, zs, rfl, rfl, hl, hb, hz, q⟩ := h
  cases rx
  cases ry
  obtain ⟨ix, n, rl, el⟩ := hl.obj I
  obtain ⟨iz, m, rb, eb⟩ := hb.obj I
  refine PySem.P.add_list el eb ?_ (by simp only [List.size_toArray, ← rl.length, ← rb.length]; exact hz)
  have join : ix.toArray ++ iz.toArray = (ix ++ iz).toArray := by simp
  rw [join]
  exact ⟨.ref s.heap.objs.size, _, I.lnew (t' := s.toks) (rl.append rb) (by simpa using hz), rfl, q _ I.fresh⟩
end
/-! ### tests -/
theorem ifd {c A B : Prop} [Decidable c] (h1 : c → A) (h2 : ¬ c → B) : if decide c = true then A else B := by
  by_cases h : c
  · simp only [h, decide_true, if_true]; exact h1 h
  · simp only [h, decide_false, Bool.false_eq_true, if_false]; exact h2 h
theorem ifnd {c A B : Prop} [Decidable c] (h1 : ¬ c → A) (h2 : c → B) : if (!decide c) = true then A else B := by
  by_cases h : c
  · simp only [h, decide_true, Bool.not_true, Bool.false_eq_true, if_false]; exact h2 h
  · simp only [h, decide_false, Bool.not_false, if_true]; exact h1 h
theorem ifb {b : Bool} {A B : Prop} (h1 : b = true → A) (h2 : b = false → B) : if b = true then A else B := by
  cases b with
  | true => exact h1 rfl
  | false => exact h2 rfl
theorem ifT {b : Bool} {A B : Prop} (hb : b = true) (h : A) : if b = true then A else B := by rw [if_pos hb]; exact h
theorem ifF {b : Bool} {A B : Prop} (hb : b = false) (h : B) : if b = true then A else B := by rw [hb]; exact h
theorem int_eq {i j : Int} : (V.int i = V.int j) = (i = j) := by simp
theorem same_upd {H : Hp} {p : Addr} {o : HO} (h : H p = none) : Same H (upd H p o) := fun b x e => by
  rw [upd_ne (ne_of_none e h)]
  exact e
/-- a place that is free -/
def New (H : Hp) (p : Addr) : Prop := H p = none
theorem w_new {H : Hp} {R : Addr → Prop} (h : ∀ p, New H p → R p) : ∀ p, H p = none → R p := h
theorem ne_new {H : Hp} {a b : Addr} {o : HO} (h : H a = some o) (n : New H b) : a ≠ b := ne_of_none h n
/-- one more object over what was tracked at H -/
theorem _root_.L2.Same.new {H H' : Hp} {p : Addr} {o : HO} (e : Same H H') (h : New H' p) : Same H (upd H' p o) := e.trans (same_upd h)
theorem _root_.L2.Same.get {H H' : Hp} {p : Addr} {o : HO} (e : Same H H') (h : H p = some o) : H' p = some o := e p o h
theorem New.of {H H' : Hp} {p : Addr} (n : New H' p) (e : Same H H') : New H p := e.free n
/-- an object that H does not track is changed -/
theorem _root_.L2.Same.mut {H H' : Hp} {p : Addr} {o : HO} (e : Same H H') (h : New H p) : Same H (upd H' p o) := fun b x hb => by
  rw [upd_ne (ne_of_none hb h)]
  exact e b x hb
/-! ### isinstance of ints and bools -/
theorem kb_ii : kitB "int" "int" = some true := by decide +kernel
theorem kb_ib : kitB "int" "bool" = some false := by decide +kernel
theorem kb_bb : kitB "bool" "bool" = some true := by decide +kernel
theorem kb_bi : kitB "bool" "int" = some true := by decide +kernel
theorem kb_ll : kitB "list" "list" = some true := by decide +kernel
theorem kb_tt : kitB "tuple" "tuple" = some true := by decide +kernel
theorem kb_ni : kitB "NoneType" "int" = some false := by decide +kernel
theorem kb_nb : kitB "NoneType" "bool" = some false := by decide +kernel
theorem kb_tl : kitB "tuple" "list" = some false := by decide +kernel
theorem kb_lt : kitB "list" "tuple" = some false := by decide +kernel
/-! ### the law's end, the script's list known to the sign, its bits told -/
theorem walk_ofE {l : PySem.W.OpenLaw} {n k : Nat} {q : Program} {loose : List Str} {XP : (Str → Option Value) → Heap → Prop} {YP : World → Heap → Prop} {d : DefRec} {K : Params → PySem.W.Frag} {sp : PySem.W.Frag → Sp}
    (hn : l.most = some n) (hn2 : n ≤ sizeLine) (hdf : d.params.defaults = []) (hr : Room k callerA) (hY : ∀ (w : World) (h : Heap), YP w h → (K w.params).In h)
    (F : ∀ (w : World) (mg : Str → Option Value) (fa : Addr) (h : Heap), (K w.params).In h → h.Ns mainGlobals mg → mg d.name = some (.ref fa) →
      ∃ fd : FuncData, (∀ (s : Shared) (u : Value), BindsTo s fd ⟨[u], []⟩ [("script", u)]) ∧ ∀ base : Heap, (K w.params).In base → base.Ns mainGlobals mg → FnOk l.prog w (K w.params) mg base CX0 k fa fd ["script"] (sp (K w.params)))
    (hsp : ∀ (K : PySem.W.Frag) (H : Hp) (a : Addr) (ns : List Int), ns.length ≤ n → (∀ z ∈ ns, Builtin.Int.intBits z ≤ 1048576) → LsE K H a (ns.map V.int) → sp K [.ref a] H (fun v _ => v = .bl true) fun _ _ _ => False) :
    PySem.W.WalkO q loose XP YP l.row.toRowW d [] (fun f vs => PySem.call f vs) := by
  refine Att.attach_callB hn hdf fun w s₀ s₁ mg mb fa o pm cd doc a vs ns G Y ho hd hcd hmg hobj hints hlen hbits hg => ?_
  obtain ⟨fd, hb, hF⟩ := F w mg fa _ (hY w _ Y) G.T.g hmg
  refine law_call (hY w _ Y) G.T.g G.T.b G.T.builtins G.T.nolimit hg hobj hints (Nat.le_trans hlen hn2) hr hF hb (fun H _ hS => hsp _ H a ns hlen hbits ?_) fun _ _ _ h => h
  rcases hS with h | ⟨ob, its, m, hk, h1, h2, h3, h4, h5⟩
  · exact .inl h
  · have e := (hY w _ Y) a ob hk
    rw [hobj] at e
    cases e
    cases h3
    exact .inr ⟨vs, _, hk, by simpa using h5, by rw [List.length_map]; exact Nat.le_trans hlen hn2⟩
/-! ### bounds of operators -/
theorem cdivw_small {i j : Int} (h : 0 < j) (h2 : j < 2 ^ 200) : CDivW i j := wide_div (b := 200) h (by omega) (by decide) (by decide)
theorem nab_lt {i : Int} {a : Nat} (h1 : -(2 ^ a) < i) (h2 : i < 2 ^ a) : i.natAbs < 2 ^ a := by
  have e : ((2 ^ a : Nat) : Int) = (2 : Int) ^ a := by simp
  omega
theorem cmulx_small {i j : Int} (h1 : -(2 ^ 200) < i) (h2 : i < 2 ^ 200) (h3 : -(2 ^ 200) < j) (h4 : j < 2 ^ 200) : CMulX i j := mulx_ok (nab_lt h1 h2) (nab_lt h3 h4) (by decide)
theorem cshl_one {j : Int} (h : 0 ≤ j) (h2 : j ≤ 100000) : CShl 1 j := by
  have e : ((j.toNat : Nat) : Int) = j := Int.toNat_of_nonneg h
  rw [← e]
  exact shl_ok (n := 1) (by decide) (by omega)
theorem cshl_small {i j : Int} (h0 : -(2 ^ 200) < i) (h1 : i < 2 ^ 200) (h : 0 ≤ j) (h2 : j ≤ 100000) : CShl i j := by
  have e : ((j.toNat : Nat) : Int) = j := Int.toNat_of_nonneg h
  rw [← e]
  exact shl_ok (n := 200) (nab_lt h0 h1) (by omega)
theorem szle {α : Type} {xs : List α} (h : Nat.ble xs.length 1000 = true) : xs.length ≤ sizeLine := Nat.le_trans (Nat.le_of_ble_eq_true h) (by decide)
theorem szlt {α : Type} {xs : List α} (h : xs.length < 1000000) : xs.length < sizeLine := Nat.lt_of_lt_of_le h (by decide)
theorem atI_get {α : Type} {xs : List α} {i : Int} {j : Nat} (e : i = j) (h : j < xs.length) : atI xs i = some xs[j] := by
  subst e
  exact atI_nat (List.getElem?_eq_getElem h)
theorem atI_map {α β : Type} {f : α → β} {xs : List α} {i : Int} {j : Nat} (e : i = j) (h : j < xs.length) : atI (xs.map f) i = some (f xs[j]) := by
  subst e
  exact atI_nat (by rw [List.getElem?_map, List.getElem?_eq_getElem h]; rfl)
/-! ### the readings, one at a time -/
section
variable {σ : L2.St} {H : Hp} {Q : VK} {QT : Bool → Hp → Prop} {QA : List V → Hp → Prop} {D : Ends} {v x y z : V} {ta tb tc te tv : TE} {t u c : TT} {ts us : TS} {tl tr : TA} {r : R2} {g : TG} {gs : TGs} {i j : Nat} {m n : Int} {K : PySem.W.Frag} {a p q C dx : Addr} {f : Str} {xs ys : List V} {fs : List (Str × V)}
theorem w_seq (h : ts { D with nx := us D } σ H) : tSeq ts us D σ H := h
theorem w_next (h : D.nx σ H) : tNext D σ H := h
theorem w_var (h : ∃ v, σ[i]? = some (some v) ∧ Q v H) : tVar i σ H Q := h
theorem w_c (h : Q v H) : tC v σ H Q := h
theorem w_op (h : ta σ H fun x H1 => tb σ H1 fun y H2 => r x y H2 Q) : tOp r ta tb σ H Q := h
theorem w_un {r : V → Hp → VK → Prop} (h : ta σ H fun x H1 => r x H1 Q) : tUn r ta σ H Q := h
theorem w_rI0 {g : Int → Int → V} (h : Q (g m n) H) : rI0 g (.int m) (.int n) H Q := ⟨m, n, rfl, rfl, h⟩
theorem w_mod (h0 : 0 < n) (h : Q (.int (m % n)) H) : rI (fun _ j => 0 < j) (fun i j => .int (i % j)) (.int m) (.int n) H Q := ⟨m, n, rfl, rfl, h0, h⟩
theorem w_div (h0 : 0 < n) (h1 : n < 2 ^ 200) (h : Q (.int (m / n)) H) : rI CDivW (fun i j => .int (i / j)) (.int m) (.int n) H Q := ⟨m, n, rfl, rfl, cdivw_small h0 h1, h⟩
theorem w_shr (h0 : 0 ≤ n) (h : Q (.int (m / 2 ^ n.toNat)) H) : rI (fun _ j => 0 ≤ j) (fun i j => .int (i / 2 ^ j.toNat)) (.int m) (.int n) H Q := ⟨m, n, rfl, rfl, h0, h⟩
theorem w_mul (h1 : -(2 ^ 200) < m) (h2 : m < 2 ^ 200) (h3 : -(2 ^ 200) < n) (h4 : n < 2 ^ 200) (h : Q (.int (m * n)) H) : rI CMulX (fun i j => .int (i * j)) (.int m) (.int n) H Q := ⟨m, n, rfl, rfl, cmulx_small h1 h2 h3 h4, h⟩
theorem w_shl1 (h1 : 0 ≤ n) (h2 : n ≤ 100000) (h : Q (.int (1 * 2 ^ n.toNat)) H) : rI CShl (fun i j => .int (i * 2 ^ j.toNat)) (.int 1) (.int n) H Q := ⟨1, n, rfl, rfl, cshl_one h1 h2, h⟩
theorem w_shl (h1 : -(2 ^ 200) < m) (h2 : m < 2 ^ 200) (h3 : 0 ≤ n) (h4 : n ≤ 100000) (h : Q (.int (m * 2 ^ n.toNat)) H) : rI CShl (fun i j => .int (i * 2 ^ j.toNat)) (.int m) (.int n) H Q := ⟨m, n, rfl, rfl, cshl_small h1 h2 h3 h4, h⟩
theorem w_pow (h0 : CPow m n) (h : Q (.int (m ^ n.toNat)) H) : rI CPow (fun i j => .int (i ^ j.toNat)) (.int m) (.int n) H Q := ⟨m, n, rfl, rfl, h0, h⟩
theorem w_rU {g : Int → V} (h : Q (g m) H) : rU g (.int m) H Q := ⟨m, rfl, h⟩
theorem dec_ii : decide (V.int m = V.int n) = decide (m = n) := by
  by_cases h : m = n
  · rw [h]; simp
  · simp [h]
theorem dec_bb {a b : Bool} : decide (V.bl a = V.bl b) = decide (a = b) := by cases a <;> cases b <;> decide
theorem dec_ss {a b : Str} : decide (V.str a = V.str b) = decide (a = b) := by
  by_cases h : a = b
  · rw [h]; simp
  · simp [h]
theorem w_eqI (h : Q (.bl (decide (m = n))) H) : rEq (.int m) (.int n) H Q := ⟨rfl, by rw [dec_ii]; exact h⟩
theorem w_eqB {a b : Bool} (h : Q (.bl (decide (a = b))) H) : rEq (.bl a) (.bl b) H Q := ⟨rfl, by rw [dec_bb]; exact h⟩
theorem w_eqS {a b : Str} (h : Q (.bl (decide (a = b))) H) : rEq (.str a) (.str b) H Q := ⟨rfl, by rw [dec_ss]; exact h⟩
theorem w_eqNI (h : Q (.bl false) H) : rEq .non (.int n) H Q := ⟨rfl, by rw [decide_eq_false (by simp)]; exact h⟩
theorem w_eqIN (h : Q (.bl false) H) : rEq (.int n) .non H Q := ⟨rfl, by rw [decide_eq_false (by simp)]; exact h⟩
theorem w_neI (h : Q (.bl (!decide (m = n))) H) : rNe (.int m) (.int n) H Q := ⟨rfl, by rw [dec_ii]; exact h⟩
theorem w_neB {a b : Bool} (h : Q (.bl (!decide (a = b))) H) : rNe (.bl a) (.bl b) H Q := ⟨rfl, by rw [dec_bb]; exact h⟩
theorem w_neS {a b : Str} (h : Q (.bl (!decide (a = b))) H) : rNe (.str a) (.str b) H Q := ⟨rfl, by rw [dec_ss]; exact h⟩
theorem w_ixL (hs : SqL K H p xs) (ha : atI xs m = some v) (h : Q v H) : rIxL K (.ref p) (.int m) H Q := ⟨p, xs, m, v, rfl, rfl, hs, ha, h⟩
theorem w_ixT (hs : SqT K H p xs) (ha : atI xs m = some v) (h : Q v H) : rIxT K (.ref p) (.int m) H Q := ⟨p, xs, m, v, rfl, rfl, hs, ha, h⟩
theorem w_ixl (hs : SqL K H p xs) (ha : atI xs m = some v) (h : Q v H) : rIx K (.ref p) (.int m) H Q := .inl ⟨p, xs, m, v, rfl, rfl, hs, ha, h⟩
theorem w_ixt (hs : SqT K H p xs) (ha : atI xs m = some v) (h : Q v H) : rIx K (.ref p) (.int m) H Q := .inr (.inl ⟨p, xs, m, v, rfl, rfl, hs, ha, h⟩)
theorem w_catE (h1 : LsE K H p xs) (h2 : LsE K H q ys) (hz : xs.length + ys.length ≤ sizeLine) (h : ∀ p, H p = none → Q (.ref p) (upd H p (.lst (xs ++ ys)))) : rCatE K (.ref p) (.ref q) H Q := ⟨p, q, xs, ys, rfl, rfl, h1, h2, hz, h⟩
theorem w_rep (h1 : H p = some (.lst xs)) (h2 : -(2 ^ 63) ≤ n) (h3 : n < 2 ^ 63) (h4 : xs.length * n.toNat ≤ sizeLine) (h : ∀ p, H p = none → Q (.ref p) (upd H p (.lst (List.replicate n.toNat xs).flatten))) : rRep (.ref p) (.int n) H Q := ⟨p, n, xs, rfl, rfl, h1, h2, h3, h4, h⟩
theorem w_test (h : te σ H fun x H' => ∃ k, x = .bl k ∧ QT k H') : tTest te σ H QT := h
theorem w_tB (h : te σ H fun x H' => ∃ k, x = .bl k ∧ QT k H') : tB te σ H QT := h
theorem w_bl {b : Bool} {R : Bool → Prop} (h : R b) : ∃ k, V.bl b = .bl k ∧ R k := ⟨b, rfl, h⟩
theorem w_and (h : t σ H fun c H1 => if c = true then u σ H1 QT else QT false H1) : tAnd t u σ H QT := h
theorem w_or (h : t σ H fun c H1 => if c = true then QT true H1 else u σ H1 QT) : tOr t u σ H QT := h
theorem w_not (h : t σ H fun c H1 => QT (!c) H1) : tNot t σ H QT := h
theorem w_andV (h : ta σ H fun x H1 => ∃ c, x = .bl c ∧ if c = true then tb σ H1 Q else Q (.bl false) H1) : tAndV ta tb σ H Q := h
theorem w_orV (h : ta σ H fun x H1 => ∃ c, x = .bl c ∧ if c = true then Q (.bl true) H1 else tb σ H1 Q) : tOrV ta tb σ H Q := h
theorem w_notV (h : ta σ H fun x H1 => ∃ c, x = .bl c ∧ Q (.bl (!c)) H1) : tNotV ta σ H Q := h
theorem w_ifE (h : t σ H fun c H1 => if c = true then ta σ H1 Q else tb σ H1 Q) : tIf t ta tb σ H Q := h
theorem w_asg (h : te σ H fun x H1 => g x σ H1 D.nx) : tAsg te g D σ H := h
theorem w_gn {R : L2.St → Hp → Prop} (h : R (σ.set i (some v)) H) : gName i v σ H R := h
theorem w_gt {R : L2.St → Hp → Prop} {k : Nat} (hs : SqT K H p xs) (hl : xs.length = k) (h : gs xs σ H R) : gTup K k gs (.ref p) σ H R := ⟨p, xs, rfl, hs, hl, h⟩
theorem w_gc {R : L2.St → Hp → Prop} (h : g v σ H fun σ' H' => gs xs σ' H' R) : gCons g gs (v :: xs) σ H R := ⟨v, xs, rfl, h⟩
theorem w_g0 {R : L2.St → Hp → Prop} (h : R σ H) : gNil [] σ H R := ⟨rfl, h⟩
theorem w_gs {R : L2.St → Hp → Prop} {tt : TSet} (h : ta σ H fun o H1 => tb σ H1 fun i H2 => tt o i v H2 fun H3 => R σ H3) : gSub ta tb tt v σ H R := h
theorem w_setL {R : Hp → Prop} (hp : H p = some (.lst xs)) (hj : ixN xs.length m = some j) (h : R (upd H p (.lst (xs.set j v)))) : rSetL (.ref p) (.int m) v H R := ⟨p, xs, m, j, rfl, rfl, hp, hj, h⟩
theorem w_drop (h : te σ H fun _ H1 => D.nx σ H1) : tDrop te D σ H := h
theorem w_ret (h : te σ H D.rt) : tRet te D σ H := h
theorem w_retN (h : D.rt .non H) : tRetN D σ H := h
theorem w_if (h : t σ H fun b H1 => if b = true then ts D σ H1 else us D σ H1) : tIfS t ts us D σ H := h
theorem w_break (h : D.bk σ H) : tBreak D σ H := h
theorem w_cont (h : D.ct σ H) : tCont D σ H := h
theorem w_aug {ti : TIp} (h : ∃ x, σ[i]? = some (some x) ∧ te σ H fun y H1 => ti x y H1 fun z H2 => D.nx (σ.set i (some z)) H2) : tAug i te ti D σ H := h
theorem w_ip {f : Int → Int → Int} (h : Q (.int (f m n)) H) : ipI f (.int m) (.int n) H Q := ⟨m, n, rfl, rfl, h⟩
theorem w_par (h : tl σ H fun vs H1 => ∃ v w, vs = [v, w] ∧ D.nx ((σ.set i (some v)).set j (some w)) H1) : tPar i j tl D σ H := h
theorem w_par2 {R : V → V → Prop} (h : R v x) : ∃ a b, [v, x] = [a, b] ∧ R a b := ⟨v, x, rfl, h⟩
theorem w_nil (h : QA [] H) : tNil σ H QA := h
theorem w_cons (h : ta σ H fun x H1 => tl σ H1 fun xs H2 => QA (x :: xs) H2) : tCons ta tl σ H QA := h
theorem w_call {sp : Sp} {E : XK} (h : tl σ H fun vs H1 => sp vs H1 Q E) : tCall sp [] E tl σ H Q := by
  unfold tCall
  simp only [List.append_nil]
  exact h
theorem w_cb {r : List V → Hp → VK → Prop} (h : tl σ H fun vs H1 => r vs H1 Q) : tCB r tl σ H Q := h
theorem w_tup (h : tl σ H fun xs H1 => xs.length ≤ sizeLine ∧ ∀ p, H1 p = none → Q (.ref p) (upd H1 p (.tup xs))) : tTup tl σ H Q := h
theorem w_lst (h : tl σ H fun xs H1 => xs.length ≤ sizeLine ∧ ∀ p, H1 p = none → Q (.ref p) (upd H1 p (.lst xs))) : tLst tl σ H Q := h
theorem w_sl {r : V → Option Int → Option Int → Hp → VK → Prop} {to tu : TO} (h : te σ H fun x H1 => to σ H1 fun l H2 => tu σ H2 fun u H3 => r x l u H3 Q) : tSl r te to tu σ H Q := h
theorem w_np {R : Option Int → Hp → Prop} (h : R none H) : tNoPart σ H R := h
theorem w_part {R : Option Int → Hp → Prop} (h : te σ H fun x H1 => ∃ i, x = .int i ∧ R (some i) H1) : tPart te σ H R := h
theorem w_partI {R : Int → Prop} (h : R m) : ∃ i, V.int m = .int i ∧ R i := ⟨m, rfl, h⟩
theorem w_slL {lo hi : Option Int} (hs : SqL K H p xs) (h : ∀ q, H q = none → Q (.ref q) (upd H q (.lst (cutV xs lo hi)))) : rSlL K (.ref p) lo hi H Q := ⟨p, xs, rfl, hs, h⟩
theorem w_bm {T : String} {r : V → List V → Hp → VK → Prop} (h : ta σ H fun x H1 => tyV K T x H1 ∧ tl σ H1 fun xs H2 => r x xs H2 Q) : tBM K T r ta tl σ H Q := h
theorem w_bm0 {T : String} {r : V → List V → Hp → VK → Prop} (h : ta σ H fun x H1 => tyV K T x H1 ∧ r x [] H1 Q) : tBM0 K T r ta σ H Q := h
theorem w_tyl {R : Prop} (hs : SqL K H p xs) (h : R) : tyV K "list" (.ref p) H ∧ R := ⟨.inl ⟨rfl, xs, hs⟩, h⟩
theorem w_app (hp : H p = some (.lst xs)) (hl : xs.length < sizeLine) (h : Q .non (upd H p (.lst (xs ++ [v])))) : rAppend (.ref p) [v] H Q := ⟨p, xs, v, rfl, rfl, hp, hl, h⟩
theorem w_rev (hp : H p = some (.lst xs)) (h : Q .non (upd H p (.lst xs.reverse))) : rReverse (.ref p) [] H Q := ⟨p, xs, rfl, rfl, hp, h⟩
theorem w_len {R : List V → Prop} (hs : SqL K H p xs) (h : R xs) : ∃ p' ys, [V.ref p] = [.ref p'] ∧ (SqL K H p' ys ∨ SqT K H p' ys) ∧ R ys := ⟨p, xs, rfl, .inl hs, h⟩
theorem w_lenT {R : List V → Prop} (hs : SqT K H p xs) (h : R xs) : ∃ p' ys, [V.ref p] = [.ref p'] ∧ (SqL K H p' ys ∨ SqT K H p' ys) ∧ R ys := ⟨p, xs, rfl, .inr hs, h⟩
theorem w_isi {s : String} {b : Bool} (hk : kitB "int" s = some b) (h : Q (.bl b) H) : rIsi K [.int m, .ty s] H Q := ⟨_, _, _, _, b, rfl, .ty _, .base (.int _), kit_ty hk, h⟩
theorem w_isb {k : Bool} {s : String} {b : Bool} (hk : kitB "bool" s = some b) (h : Q (.bl b) H) : rIsi K [.bl k, .ty s] H Q := ⟨_, _, _, _, b, rfl, .ty _, .base (.bl _), kit_ty hk, h⟩
theorem w_isn {s : String} {b : Bool} (hk : kitB "NoneType" s = some b) (h : Q (.bl b) H) : rIsi K [.non, .ty s] H Q := ⟨_, _, _, _, b, rfl, .ty _, .base .non, kit_ty hk, h⟩
theorem w_isl {s : String} {b : Bool} (hp : H p = some (.lst xs)) (hk : kitB "list" s = some b) (h : Q (.bl b) H) : rIsi K [.ref p, .ty s] H Q := ⟨_, _, _, _, b, rfl, .ty _, .base (.lst hp), kit_ty hk, h⟩
theorem w_ist {s : String} {b : Bool} (hp : H p = some (.tup xs)) (hk : kitB "tuple" s = some b) (h : Q (.bl b) H) : rIsi K [.ref p, .ty s] H Q := ⟨_, _, _, _, b, rfl, .ty _, .base (.tup hp), kit_ty hk, h⟩
theorem w_2i {R : Int → Int → Prop} (h : R m n) : ∃ i j, [V.int m, V.int n] = [.int i, .int j] ∧ R i j := ⟨m, n, rfl, h⟩
theorem w_1i {R : Int → Prop} (h : R m) : ∃ i, [V.int m] = [.int i] ∧ R i := ⟨m, rfl, h⟩
theorem w_int1 {R : Int → Prop} {S : Prop} (h : R m) : (∃ i, [V.int m] = [.int i] ∧ R i) ∨ S := .inl ⟨m, rfl, h⟩
theorem w_intb {b : Bool} {R : Bool → Prop} {S : Prop} (h : R b) : S ∨ ∃ k, [V.bl b] = [.bl k] ∧ R k := .inr ⟨b, rfl, h⟩
theorem w_isN {R : Prop} (h : R) : V.non = .non ∧ R := ⟨rfl, h⟩
theorem w_fld {v : V} {R : V → Prop} (hp : H p = some (.ins C dx fs)) (hc : Cls K C) (hn : NoAttr K C f) (hl : fs.lookup f = some v) (h : R v) : ∃ a C' dx' fs' v', V.ref p = .ref a ∧ H a = some (.ins C' dx' fs') ∧ Cls K C' ∧ NoAttr K C' f ∧ fs'.lookup f = some v' ∧ R v' := ⟨p, C, dx, fs, v, rfl, hp, hc, hn, hl, h⟩
theorem w_fl (h : ta σ H fun x H1 => ∃ a C dx fs v, x = .ref a ∧ H1 a = some (.ins C dx fs) ∧ Cls K C ∧ NoAttr K C f ∧ fs.lookup f = some v ∧ Q v H1) : tFld K ta f σ H Q := h
theorem w_for {wi : TI} {tu : TS} (h : wi σ H fun J H1 => ∃ W : Nat → Nat → L2.St → Hp → Prop, (∃ m, W 0 m σ H1) ∧ ∀ i m σ H, W i m σ H →
  (J.stop i H ∧ D.nx σ H) ∨ (J.go i H ∧ ∃ N : L2.St → Hp → Prop, (∀ σ' H', N σ' H' → ∃ m', m' < m ∧ W (i + 1) m' σ' H') ∧ ∀ x H', J.yld i H x H' → g x σ H' fun σ2 H2 => tu { D with nx := N, ct := N, bk := D.nx } σ2 H2)) : tFor wi g tu D σ H := h
theorem w_iL {R : It → Hp → Prop} (h : te σ H fun x H1 => ∃ a, x = .ref a ∧ (∃ xs, SqL K H1 a xs) ∧ R (Itl K a) H1) : iList K te σ H R := h
theorem w_iLq {R : Addr → Prop} (hs : SqL K H p xs) (h : R p) : ∃ a, V.ref p = .ref a ∧ (∃ xs, SqL K H a xs) ∧ R a := ⟨p, rfl, ⟨xs, hs⟩, h⟩
theorem w_iTu {R : It → Hp → Prop} (h : te σ H fun x H1 => ∃ a, x = .ref a ∧ (∃ xs, SqT K H1 a xs) ∧ R (Itt K a) H1) : iTup K te σ H R := h
theorem w_iTq {R : Addr → Prop} (hs : SqT K H p xs) (h : R p) : ∃ a, V.ref p = .ref a ∧ (∃ xs, SqT K H a xs) ∧ R a := ⟨p, rfl, ⟨xs, hs⟩, h⟩
theorem w_r1 {R : It → Hp → Prop} (h : tl σ H fun vs H1 => ∃ j : Int, vs = [.int j] ∧ -(2 ^ 62) ≤ j ∧ j < 2 ^ 62 ∧ R (Itr 0 j.toNat) H1) : iRng1 tl σ H R := h
theorem w_r1q {R : Int → Prop} (h1 : -(2 ^ 62) ≤ m) (h2 : m < 2 ^ 62) (h : R m) : ∃ j : Int, [V.int m] = [.int j] ∧ -(2 ^ 62) ≤ j ∧ j < 2 ^ 62 ∧ R j := ⟨m, rfl, h1, h2, h⟩
theorem w_r2 {R : It → Hp → Prop} (h : tl σ H fun vs H1 => ∃ i j : Int, vs = [.int i, .int j] ∧ (-(2 ^ 62) ≤ i ∧ i < 2 ^ 62 ∧ -(2 ^ 62) ≤ j ∧ j < 2 ^ 62) ∧ R (Itr i (j - i).toNat) H1) : iRng2 tl σ H R := h
theorem w_r2q {R : Int → Int → Prop} (h1 : -(2 ^ 62) ≤ m) (h2 : m < 2 ^ 62) (h3 : -(2 ^ 62) ≤ n) (h4 : n < 2 ^ 62) (h : R m n) : ∃ i j : Int, [V.int m, V.int n] = [.int i, .int j] ∧ (-(2 ^ 62) ≤ i ∧ i < 2 ^ 62 ∧ -(2 ^ 62) ≤ j ∧ j < 2 ^ 62) ∧ R i j := ⟨m, n, rfl, ⟨h1, h2, h3, h4⟩, h⟩
theorem w_len1 {R : Prop} (hl : Nat.ble xs.length 1000 = true) (h : R) : xs.length ≤ sizeLine ∧ R := ⟨szle hl, h⟩
end
theorem same_read {K : PySem.W.Frag} {H H' : Hp} {a : Addr} {xs : List V} (e : Same H H') (h : SqT K H a xs) : SqT K H' a xs := by
  rcases h with (h | ⟨o, h⟩) | h
  · exact .inl (.inl (e _ _ h))
  · exact .inl (.inr ⟨o, e _ _ h⟩)
  · exact .inr h
theorem w_iT {A B : Prop} (h : A) : if true = true then A else B := by rw [if_pos rfl]; exact h
theorem w_iF {A B : Prop} (h : B) : if false = true then A else B := by rw [if_neg Bool.false_ne_true]; exact h
theorem w_iNT {A B : Prop} (h : B) : if (!true) = true then A else B := by rw [Bool.not_true, if_neg Bool.false_ne_true]; exact h
theorem w_iNF {A B : Prop} (h : A) : if (!false) = true then A else B := by rw [Bool.not_false, if_pos rfl]; exact h
theorem w_iNN {A B : Prop} {b : Bool} (h : if b = true then A else B) : if (!!b) = true then A else B := by rw [Bool.not_not]; exact h

/-! ### data -/
mutual
theorem dpSame {K : PySem.W.Frag} {H H' : Hp} (e : Same H H') : ∀ (d : PyData) (v : V), Dp K H v d → Dp K H' v d
  | .none, _, h => by cases h; exact .non
  | .bool _, _, h => by cases h; exact .bl _
  | .int _, _, h => by cases h; exact .int _
  | .str _, _, h => by cases h; exact .str _
  | .list ds, _, h => by
    cases h with
    | lst hs ha => exact .lst (e.seq hs) (dpSameAll e ds _ ha)
  | .tuple ds, _, h => by
    cases h with
    | tup hs ha => exact .tup (same_read e hs) (dpSameAll e ds _ ha)
  | .dict _, _, h => by cases h
theorem dpSameAll {K : PySem.W.Frag} {H H' : Hp} (e : Same H H') : ∀ (ds : List PyData) (xs : List V), DpAll K H xs ds → DpAll K H' xs ds
  | [], _, h => by cases h; exact .nil
  | d :: ds, _, h => by
    cases h with
    | cons h1 h2 => exact .cons (dpSame e d _ h1) (dpSameAll e ds _ h2)
end
section
variable {K : PySem.W.Frag} {H H' : Hp} {xs ys : List V} {ds es : List PyData} {v : V} {d : PyData} {a : Addr}
theorem _root_.L2.Dp.same (e : Same H H') (h : Dp K H v d) : Dp K H' v d := dpSame e d v h
theorem _root_.L2.DpAll.same (e : Same H H') (h : DpAll K H xs ds) : DpAll K H' xs ds := dpSameAll e ds xs h
theorem dpaLen : ∀ {xs : List V} {ds : List PyData}, DpAll K H xs ds → xs.length = ds.length
  | _, _, .nil => rfl
  | _, _, .cons _ t => by rw [List.length_cons, List.length_cons, dpaLen t]
theorem dpaGet : ∀ {xs : List V} {ds : List PyData} {i : Nat} {d : PyData}, DpAll K H xs ds → ds[i]? = some d → ∃ v, xs[i]? = some v ∧ Dp K H v d
  | _, _, _, _, .nil, e => by simp at e
  | _, _, 0, _, .cons h _, e => by simp at e; subst e; exact ⟨_, rfl, h⟩
  | _, _, i + 1, _, .cons _ t, e => by
    obtain ⟨v, h1, h2⟩ := dpaGet (i := i) t (by simpa using e)
    exact ⟨v, by simpa using h1, h2⟩
theorem dpaApp : ∀ {xs ys : List V} {ds es : List PyData}, DpAll K H xs ds → DpAll K H ys es → DpAll K H (xs ++ ys) (ds ++ es)
  | _, _, _, _, .nil, h => h
  | _, _, _, _, .cons h t, s => .cons h (dpaApp t s)
theorem dpInts : ∀ ns : List Int, DpAll K H (ns.map V.int) (ns.map PyData.int)
  | [] => .nil
  | n :: r => .cons (.int n) (dpInts r)
theorem dpAll_ints : ∀ {ns : List Int} {xs : List V}, DpAll K H xs (ns.map PyData.int) → xs = ns.map V.int
  | [], _, h => by cases h; rfl
  | n :: r, _, h => by
    cases h with
    | cons h t => cases h; rw [dpAll_ints t]; rfl
theorem dpInt {i : Int} (h : Dp K H v (.int i)) : v = .int i := by cases h; rfl
theorem dpTup (h : Dp K H v (.tuple ds)) : ∃ a xs, v = .ref a ∧ SqT K H a xs ∧ DpAll K H xs ds := by cases h with | tup h1 h2 => exact ⟨_, _, rfl, h1, h2⟩
theorem dpLst (h : Dp K H v (.list ds)) : ∃ a xs, v = .ref a ∧ SqL K H a xs ∧ DpAll K H xs ds := by cases h with | lst h1 h2 => exact ⟨_, _, rfl, h1, h2⟩
theorem dpLstA (h : Dp K H (.ref a) (.list ds)) : ∃ xs, SqL K H a xs ∧ DpAll K H xs ds := by cases h with | lst h1 h2 => exact ⟨_, h1, h2⟩
theorem dpTupA (h : Dp K H (.ref a) (.tuple ds)) : ∃ xs, SqT K H a xs ∧ DpAll K H xs ds := by cases h with | tup h1 h2 => exact ⟨_, h1, h2⟩
end
/-- data that == serves: no dicts, no deeper than n -/
def Good (n : Nat) (d : PyData) : Prop := d.canLay0 = true ∧ d.depth ≤ n
theorem goodInt {n : Nat} {i : Int} : Good n (.int i) := ⟨rfl, Nat.zero_le _⟩
theorem goodBool {n : Nat} {b : Bool} : Good n (.bool b) := ⟨rfl, Nat.zero_le _⟩
theorem goodNone {n : Nat} : Good n .none := ⟨rfl, Nat.zero_le _⟩
theorem goodAll {n : Nat} : ∀ {ds : List PyData}, (∀ d ∈ ds, Good n d) → PyData.canLayAll0 ds = true ∧ PyData.depthAll ds ≤ n
  | [], _ => ⟨rfl, Nat.zero_le _⟩
  | d :: ds, h => by
    obtain ⟨h1, h2⟩ := h d List.mem_cons_self
    obtain ⟨h3, h4⟩ := goodAll fun e he => h e (List.mem_cons_of_mem _ he)
    exact ⟨by simp [PyData.canLayAll0, h1, h3], by simp only [PyData.depthAll]; omega⟩
theorem goodLst {n : Nat} {ds : List PyData} (h : ∀ d ∈ ds, Good n d) : Good (n + 1) (.list ds) := ⟨(goodAll h).1, Nat.succ_le_succ (goodAll h).2⟩
theorem goodTup {n : Nat} {ds : List PyData} (h : ∀ d ∈ ds, Good n d) : Good (n + 1) (.tuple ds) := ⟨(goodAll h).1, Nat.succ_le_succ (goodAll h).2⟩
theorem goodMap {α : Type} {n : Nat} {f : α → PyData} {xs : List α} (h : ∀ x, Good n (f x)) : ∀ d ∈ xs.map f, Good n d := by
  intro d hd
  obtain ⟨x, _, rfl⟩ := List.mem_map.mp hd
  exact h x
theorem Good.mono {n m : Nat} {d : PyData} (h : Good n d) (e : n ≤ m) : Good m d := ⟨h.1, Nat.le_trans h.2 e⟩
theorem Good.shaped {n : Nat} {d : PyData} (h : Good n d) (e : n ≤ 64) : SeqAt.shaped d = true := by
  unfold SeqAt.shaped
  rw [h.1, decide_eq_true (Nat.le_trans h.2 e)]
  rfl
theorem Good.eqv {n : Nat} {d : PyData} (h : Good n d) : PyData.eqv d d = true := SeqAt.eqv_refl d h.1
section
variable {K : PySem.W.Frag} {H : Hp} {x y : V} {d : PyData} {Q : VK} {n : Nat}
/-- two things of the same data are equal -/
theorem w_eqD (h1 : Dp K H x d) (h2 : Dp K H y d) (g : Good n d) (hn : n ≤ 64) (h : Q (.bl true) H) : rEqD K x y H Q := ⟨d, d, h1, h2, g.shaped hn, g.shaped hn, by rw [g.eqv]; exact h⟩
theorem w_neD (h1 : Dp K H x d) (h2 : Dp K H y d) (g : Good n d) (hn : n ≤ 64) (h : Q (.bl false) H) : rNeD K x y H Q := ⟨d, d, h1, h2, g.shaped hn, g.shaped hn, by rw [g.eqv]; exact h⟩
end
/-! ### xs[i] op= e -/
def rGetL (K : PySem.W.Frag) : V → V → Hp → VK → Prop := fun x y H Q => ∃ (p : Addr) (xs : List V) (j : Nat) (v : V), x = .ref p ∧ y = .int j ∧ SqL K H p xs ∧ xs[j]? = some v ∧ Q v H
theorem get_list {X : Cx} : PGet X (rGetL X.K) := by
  intro pins s σ H o i ov iv Q I ro ri h
  obtain ⟨p, xs, j, v, rfl, rfl, hq, he, q⟩ := h
  cases ro
  obtain ⟨t, rfl⟩ := ri
  obtain ⟨its, r, pl, hz⟩ := I.list hq
  obtain ⟨u, eu, ru⟩ := r.get he
  have hj : j < xs.length := (List.getElem?_eq_some_iff.mp he).1
  have hn := line63
  exact wpAny_getItem_list pl.isList (Int.natCast_nonneg j) (by omega) (by simpa using eu) ⟨v, H, I, ru, q⟩
theorem ps_augL {X : Cx} {o i e : Expr} {to ti te : TE} {tip : TIp} {op : Operator} {tpos pos : Pos} (ho : PE X o to) (hi : PE X i ti) (he : PE X e te) (hp : PIp X op tip)
    (ha : ∀ ov iv new, augStore i ov iv new = (do holding [new, ov, iv] (setItem ov iv new); release [new, ov, iv] []; pure .next) := by intros; rfl) : PS X (.AugAssign (.Subscript o i tpos) op e pos) (tAugS to ti te (rGetL X.K) tip rSetL) :=
  ps_augS ho hi get_list he hp set_list ha
section
variable {σ : L2.St} {H : Hp} {Q : VK} {D : Ends} {K : PySem.W.Frag} {p : Addr} {xs : List V} {v : V} {j : Nat}
theorem w_augS {to ti te : TE} {tget : V → V → Hp → VK → Prop} {tip : TIp} {tset : TSet} (h : to σ H fun o H1 => ti σ H1 fun i H2 => tget o i H2 fun x H3 => te σ H3 fun y H4 => tip x y H4 fun z H5 => tset o i z H5 fun H6 => D.nx σ H6) : tAugS to ti te tget tip tset D σ H := h
theorem w_getL (hs : SqL K H p xs) (he : xs[j]? = some v) (h : Q v H) : rGetL K (.ref p) (.int (j : Int)) H Q := ⟨p, xs, j, v, rfl, rfl, hs, he, h⟩
theorem ixN_nat {n j : Nat} (h : j < n) : ixN n (j : Int) = some j := by
  unfold ixN
  rw [if_pos (Int.natCast_nonneg j), if_pos (by omega)]
  simp
end
/-! ### range from nought -/
theorem for_r0 {m : Int} {n : Nat} {g : TG} {tb : TS} {D : Ends} {σ : L2.St} {H : Hp} (hm : m = n) (Pv : Nat → L2.St → Hp → Prop) (h0 : Pv 0 σ H)
    (hs : ∀ i σ H, i < n → Pv i σ H → g (.int (i : Nat)) σ H fun σ2 H2 => tb { D with nx := Pv (i + 1), ct := Pv (i + 1), bk := D.nx } σ2 H2) (hd : ∀ σ H, Pv n σ H → D.nx σ H) :
    ∃ W : Nat → Nat → L2.St → Hp → Prop, (∃ m, W 0 m σ H) ∧ ∀ i k σ H, W i k σ H →
      ((Itr 0 m.toNat).stop i H ∧ D.nx σ H) ∨ ((Itr 0 m.toNat).go i H ∧ ∃ N : L2.St → Hp → Prop, (∀ σ' H', N σ' H' → ∃ m', m' < k ∧ W (i + 1) m' σ' H') ∧ ∀ x H', (Itr 0 m.toNat).yld i H x H' → g x σ H' fun σ2 H2 => tb { D with nx := N, ct := N, bk := D.nx } σ2 H2) := by
  subst hm
  rw [Int.toNat_natCast]
  exact for_range (lo := 0) Pv h0 (fun i σ H hi hp => by rw [Int.zero_add]; exact hs i σ H hi hp) hd
/-! ### bits of numbers from nought on -/
theorem shr_nat (m k : Nat) : (m : Int) / 2 ^ (Int.toNat (k : Int)) = ((m >>> k : Nat) : Int) := by
  rw [Int.toNat_natCast, Nat.shiftRight_eq_div_pow]
  simp
theorem shl_nat (m k : Nat) : (m : Int) * 2 ^ (Int.toNat (k : Int)) = ((m <<< k : Nat) : Int) := by
  rw [Int.toNat_natCast, Nat.shiftLeft_eq]
  simp
theorem shl_one (k : Nat) : (1 : Int) * 2 ^ (Int.toNat (k : Int)) = ((2 ^ k : Nat) : Int) := by
  rw [Int.toNat_natCast, Int.one_mul]
  simp
theorem xor_nat (m n : Nat) : Builtin.bitXor (m : Int) (n : Int) = ((m ^^^ n : Nat) : Int) := by
  have h := Bits.bitXor_pp (x := (m : Int)) (y := (n : Int)) (Int.natCast_nonneg m) (Int.natCast_nonneg n)
  rw [Int.toNat_natCast, Int.toNat_natCast] at h
  exact h
theorem or_nat (m n : Nat) : Builtin.bitOr (m : Int) (n : Int) = ((m ||| n : Nat) : Int) := by
  have h := Bits.bitOr_pp (x := (m : Int)) (y := (n : Int)) (Int.natCast_nonneg m) (Int.natCast_nonneg n)
  rw [Int.toNat_natCast, Int.toNat_natCast] at h
  exact h
theorem and_one (m : Int) (h : 0 ≤ m) : Builtin.bitAnd m 1 = m % 2 := by
  have e := Bits.bitAnd_mask (x := m) 1 h
  simpa using e
theorem bit_nat (m k : Nat) : Builtin.bitAnd ((m : Int) / 2 ^ (Int.toNat (k : Int))) 1 = (((m.testBit k).toNat : Nat) : Int) := by
  rw [shr_nat, and_one _ (Int.natCast_nonneg _), Nat.testBit_eq_decide_div_mod_eq, Nat.shiftRight_eq_div_pow]
  have h : m / 2 ^ k % 2 < 2 := Nat.mod_lt _ (by decide)
  generalize m / 2 ^ k = z at h
  have e : z % 2 = 0 ∨ z % 2 = 1 := by omega
  rcases e with e | e
  · rw [e]; simp; omega
  · rw [e]; simp; omega
theorem bit_dec (m k : Nat) : decide (Builtin.bitAnd ((m : Int) / 2 ^ (Int.toNat (k : Int))) 1 = 1) = m.testBit k := by
  rw [bit_nat]
  cases m.testBit k <;> simp
/-! ### tables by number -/
theorem map_set {α : Type} {f : Nat → α} {m j : Nat} {y : α} : ((List.range m).map f).set j y = (List.range m).map fun r => if r = j then y else f r := by
  apply List.ext_getElem
  · simp
  · intro i h1 h2
    simp only [List.length_set, List.length_map, List.length_range] at h1
    simp only [List.getElem_set, List.getElem_map, List.getElem_range]
    by_cases e : j = i
    · subst e; simp
    · rw [if_neg e, if_neg (Ne.symm e)]
theorem map_at {α : Type} {f : Nat → α} {m j : Nat} (h : j < m) : ((List.range m).map f)[j]? = some (f j) := by
  rw [List.getElem?_map, List.getElem?_range h]
  rfl
theorem map_len {α : Type} {f : Nat → α} {m : Nat} : ((List.range m).map f).length = m := by simp
theorem map_setI {f : Nat → Int} {m j : Nat} {y : Int} : ((List.range m).map fun r => V.int (f r)).set j (V.int y) = (List.range m).map fun r => V.int (if r = j then y else f r) := by
  rw [map_set]
  congr 1
  funext r
  split <;> rfl
/-! ### comprehensions, slices -/
section
variable {σ σ' : L2.St} {H : Hp} {Q : VK} {QT : Bool → Hp → Prop}
theorem w_lc {wi : TI} {g : TG} {tt : TT} {te : TE} {vs : List Nat} (h : wi σ H fun J H1 => ∀ D, New H1 D → ∃ W : Nat → Nat → Hp → Prop, (∃ m, W 0 m (upd H1 D (.lst []))) ∧ ∀ i m H, W i m H →
  (J.stop i H ∧ Q (.ref D) H) ∨ (J.go i H ∧ ∃ Nx : Hp → Prop, (∀ H', Nx H' → ∃ m', m' < m ∧ W (i + 1) m' H') ∧ ∀ x H', J.yld i H x H' → g x (wipe σ vs) H' fun σ2 H2 => wipe σ2 vs = wipe σ vs ∧ tt σ2 H2 fun b H3 =>
    if b = true then te σ2 H3 fun y H4 => ∃ acc, H4 D = some (.lst acc) ∧ acc.length < sizeLine ∧ Nx (upd H4 D (.lst (acc ++ [y]))) else Nx H3)) : tLc wi g tt te vs σ H Q := h
theorem w_wipe {vs : List Nat} {R : Prop} (e : wipe σ vs = wipe σ' vs) (h : R) : wipe σ vs = wipe σ' vs ∧ R := ⟨e, h⟩
theorem w_yes (h : QT true H) : tYes σ H QT := h
theorem cutV_nat (xs : List V) (a b : Nat) : cutV xs (some (a : Int)) (some (b : Int)) = (xs.drop a).take (b - a) := by
  unfold cutV
  rw [HT.sIx_nat, HT.sIx_nat]
  apply List.ext_getElem?
  intro i
  simp only [List.getElem?_take, List.getElem?_drop]
  by_cases ha : a ≤ xs.length
  · rw [Nat.min_eq_left ha]
    by_cases h : i < b - a
    · by_cases h2 : i < min b xs.length - a
      · rw [if_pos h, if_pos h2]
      · rw [if_pos h, if_neg h2, List.getElem?_eq_none (by omega)]
    · rw [if_neg h, if_neg (by omega)]
  · rw [if_neg (by omega)]
    split
    · rw [List.getElem?_eq_none (by omega)]
    · rfl
theorem cutV_from (xs : List V) (a : Nat) : cutV xs (some (a : Int)) none = xs.drop a := by
  unfold cutV
  rw [HT.sIx_nat, HT.sIx_none]
  by_cases h : a ≤ xs.length
  · rw [Nat.min_eq_left h]
    exact List.take_of_length_le (by simp)
  · rw [Nat.min_eq_right (by omega), List.drop_of_length_le (Nat.le_refl _), List.drop_of_length_le (by omega), List.take_nil]
theorem cutV_to (xs : List V) (b : Nat) : cutV xs none (some (b : Int)) = xs.take b := by
  unfold cutV
  rw [HT.sIx_nat, HT.sIx_none, List.drop_zero, Nat.sub_zero]
  by_cases h : b ≤ xs.length
  · rw [Nat.min_eq_left h]
  · rw [Nat.min_eq_right (by omega), List.take_of_length_le (Nat.le_refl _), List.take_of_length_le (by omega)]
end
theorem w_list {K : PySem.W.Frag} {H : Hp} {p : Addr} {xs : List V} {R : List V → Prop} (hs : SqL K H p xs) (h : R xs) : ∃ p' ys, [V.ref p] = [.ref p'] ∧ (SqL K H p' ys ∨ SqT K H p' ys) ∧ R ys := ⟨p, xs, rfl, .inl hs, h⟩
/-! ### a heap without one place -/
def wo (H : Hp) (D : Addr) : Hp := fun b => if b = D then none else H b
section
variable {K : PySem.W.Frag} {H H' H2 : Hp} {D p : Addr} {o : HO} {xs : List V} {ds : List PyData} {v : V} {d : PyData}
theorem wo_same : Same (wo H D) H := fun b o h => by
  unfold wo at h
  split at h
  · cases h
  · exact h
theorem wo_new : New (wo H D) D := if_pos rfl
theorem wo_get (h : H p = some o) (n : p ≠ D) : wo H D p = some o := (if_neg n).trans h
theorem wo_eq : wo (upd H D o) D = wo H D := by
  funext b
  unfold wo
  split
  · rfl
  · rw [upd_ne (by assumption)]
theorem wo_mono (e : Same H H') : Same (wo H D) (wo H' D) := fun b o h => by
  unfold wo at h ⊢
  split at h
  · cases h
  · rw [if_neg (by assumption)]; exact e b o h
theorem same_wo (e : Same H H') (n : New H D) : Same H (wo H' D) := fun b o h => wo_get (e b o h) (ne_new h n)
theorem dpaPush (h : DpAll K (wo H D) xs ds) (e : Same H H2) (hv : Dp K (wo H2 D) v d) : DpAll K (wo (upd H2 D o) D) (xs ++ [v]) (ds ++ [d]) := by
  rw [wo_eq]
  exact dpaApp (h.same (wo_mono e)) (.cons hv .nil)
theorem dpaPushI (h : DpAll K (wo H D) xs ds) {i : Int} : DpAll K (wo (upd H D o) D) (xs ++ [.int i]) (ds ++ [.int i]) := dpaPush h (Same.refl _) (.int i)
end
/-! ### while -/
theorem w_wt {W : Nat → L2.St → Hp → Prop} {tb : TS} {D : Ends} {σ : L2.St} {H : Hp} {m : Nat} (h : tb { D with nx := fun σ' H' => ∃ m', m' < m ∧ W m' σ' H', ct := fun σ' H' => ∃ m', m' < m ∧ W m' σ' H', bk := D.nx } σ H) :
    ∃ N : L2.St → Hp → Prop, (∀ σ' H', N σ' H' → ∃ m', m' < m ∧ W m' σ' H') ∧ tb { D with nx := N, ct := N, bk := D.nx } σ H := ⟨_, fun _ _ h => h, h⟩
theorem and_nat (m n : Nat) : Builtin.bitAnd (m : Int) (n : Int) = ((m &&& n : Nat) : Int) := rfl
/-! ### two ways to read -/
theorem _root_.L2.PE.or {X : Cx} {e : Expr} {t t' : TE} (h : PE X e t) (h' : PE X e t') : PE X e (fun σ H Q => t σ H Q ∨ t' σ H Q) := ⟨fun pins s σ H Q I q => by
  rcases q with q | q
  · exact h.run pins s σ H Q I q
  · exact h'.run pins s σ H Q I q⟩
/-- the same, for an item of a comprehension -/
def tOrE (t t' : TE) : TE := fun σ H Q => t σ H Q ∨ t' σ H Q
theorem _root_.L2.PE.orD {X : Cx} {e : Expr} {t t' : TE} (h : PE X e t) (h' : PE X e t') : PE X e (tOrE t t') := PE.or h h'
theorem w_orE {t t' : TE} {σ : L2.St} {H : Hp} {Q : VK} (h : t σ H Q ∨ t' σ H Q) : tOrE t t' σ H Q := h
/-! ### classes by name -/
structure HasMk (P : Program) (w : World) (K : PySem.W.Frag) (mg : Str → Option Value) (base : Heap) (CX : CXT) (k : Nat) (x : Str) (C : Addr) (ps : List Str) (sp : Sp) : Prop where
  ex : ∃ f fd, FnOk P w K mg base CX k f fd ps sp ∧ Mk K C f ∧ mg x = some (.ref C) ∧ Binds K fd ps []
structure HasMeth (P : Program) (w : World) (K : PySem.W.Frag) (mg : Str → Option Value) (base : Heap) (CX : CXT) (k : Nat) (C : Addr) (m : Str) (ps : List Str) (sp : Sp) : Prop where
  ex : ∃ f fd, FnOk P w K mg base CX k f fd ps sp ∧ Cls K C ∧ Meth K C m f ∧ Binds K fd ps []
/-- a method's body, proved once for whatever class holds it -/
structure HasFn (P : Program) (w : World) (K : PySem.W.Frag) (mg : Str → Option Value) (base : Heap) (CX : CXT) (k : Nat) (f : Addr) (ps : List Str) (sp : Sp) : Prop where
  ex : ∃ fd, FnOk P w K mg base CX k f fd ps sp ∧ Binds K fd ps []
section
variable {P : Program} {w : World} {K : PySem.W.Frag} {mg : Str → Option Value} {base : Heap} {x qual : Str} {ps N : List Str} {sp : Sp} {k : Nat}
theorem HasFn.mk' {st : Stmt} {f : Addr} {fd : FuncData} (F : Fun K x qual st f fd) (b : Binds K fd ps []) (S : FnScope N ps (defScope st)) (len : ∀ vs H Q E, sp vs H Q E → vs.length = ps.length)
    (hbody : ∀ (cdv : Value) (A : Around) (outer : List Env) (s : Shared) (H : Hp) (vs : List V) (Q : VK) (E : XK), Room k (A.deeper (envOfC qual (defScope st) s.heap.objs.size f cdv)) → sp vs H Q E →
      ∃ t, PSs (cxOf CX0 P w K mg base N qual (defScope st) f cdv A outer s H E).nox (defBody st) t ∧ t { nx := fun _ H' => Q .non H', rt := Q } (start N vs) H) : HasFn P w K mg base CX0 (k + 1) f ps sp :=
  ⟨fd, F.ok S len hbody, b⟩
theorem HasFn.mkOf {CX : CXT} {f C : Addr} (h : HasFn P w K mg base CX k f ps sp) (M : Mk K C f) (g : mg x = some (.ref C)) : HasMk P w K mg base CX k x C ps sp := by
  obtain ⟨fd, F, b⟩ := h.ex
  exact ⟨f, fd, F, M, g, b⟩
theorem HasFn.meth {CX : CXT} {f C : Addr} {m : Str} (h : HasFn P w K mg base CX k f ps sp) (c : Cls K C) (M : Meth K C m f) : HasMeth P w K mg base CX k C m ps sp := by
  obtain ⟨fd, F, b⟩ := h.ex
  exact ⟨f, fd, F, c, M, b⟩
end
section
variable {X : Cx} {k : Nat} {ps : List Str} {sp : Sp} {x m : Str} {p pos apos : Pos} {e o : Expr} {es : List Expr} {t : TA} {ta : TE} {C : Addr}
theorem pe_mk (h : HasMk X.prog X.w X.K X.mg X.base CX0 k x C ps sp) (hr : Room (k + 1) X.A) (hg : Gl X x) (ha : PA X (e :: es) t) (hdb : (x == ("__debug__" : Str)) = false := by decide) (he : starEach (e :: es) X.env = (false, eval e X.env) :: starEach es X.env := by rfl) (hpl : (backTo pos (starEach es X.env)).any (·.1) = false := by rfl) :
    PE X (.Call (.Name x p) (e :: es) [] pos) (tMake C sp [] E0 t) := by
  obtain ⟨f, fd, F, M, g, b⟩ := h.ex
  exact pe_make M F hr hg g b .nil pass0 ha hdb he hpl
theorem pe_mt {pl : Sem Bool} (h : HasMeth X.prog X.w X.K X.mg X.base CX0 k C m ps sp) (he : PE X o ta) (hr : Room k X.A) (ha : PA X (e :: es) t)
    (hst : starEach (e :: es) X.env = (false, eval e X.env) :: starEach es X.env := by rfl) (hpl : (backTo pos (starEach es X.env)).any (·.1) = false := by rfl)
    (ht : eval (.Call (.Attribute o m apos) (e :: es) [] pos) X.env = (do
      let v ← eval o X.env
      standAt apos.atName
      let (f, first) ← holding [v] (getMethod v m pl)
      callWith pos f first (backTo pos (starEach (e :: es) X.env)) (backToKw pos (keywordEach [] X.env))) := by rfl) :
    PE X (.Call (.Attribute o m apos) (e :: es) [] pos) (tMeth C m sp [] E0 ta t) := by
  obtain ⟨f, fd, F, c, M, b⟩ := h.ex
  exact pe_meth he c M F hr b .nil pass0 ha hst hpl ht
theorem pe_mt0 {pl : Sem Bool} (h : HasMeth X.prog X.w X.K X.mg X.base CX0 k C m ps sp) (he : PE X o ta) (hr : Room k X.A)
    (ht : eval (.Call (.Attribute o m apos) [] [] pos) X.env = (do
      let v ← eval o X.env
      standAt apos.atName
      let (f, first) ← holding [v] (getMethod v m pl)
      callWith pos f first (backTo pos (starEach [] X.env)) (backToKw pos (keywordEach [] X.env))) := by rfl) :
    PE X (.Call (.Attribute o m apos) [] [] pos) (tMeth C m sp [] E0 ta tNil) := by
  obtain ⟨f, fd, F, c, M, b⟩ := h.ex
  exact pe_meth0 he c M F hr b .nil pass0 ht
end
section
variable {σ : L2.St} {H : Hp} {Q : VK} {D : Ends} {K : PySem.W.Frag} {ta tv : TE} {tl : TA} {sp : Sp} {E : XK} {C p dx : Addr} {fs : List (Str × V)} {f m : Str} {v : V}
theorem w_make (h : tl σ H fun vs H1 => ∀ x dx, New H1 x → New H1 dx → dx ≠ x → sp (.ref x :: vs) (upd (upd H1 dx (.own x)) x (.ins C dx [])) (fun v H2 => v = .non ∧ Q (.ref x) H2) E) : tMake C sp [] E tl σ H Q := by
  unfold tMake
  simp only [List.append_nil]
  exact h
theorem w_meth (h : ta σ H fun x H1 => ∃ a dx fs, x = .ref a ∧ H1 a = some (.ins C dx fs) ∧ fs.lookup m = none ∧ tl σ H1 fun vs H2 => sp (x :: vs) H2 Q E) : tMeth C m sp [] E ta tl σ H Q := by
  unfold tMeth
  simp only [List.append_nil]
  exact h
theorem w_methq {R : Prop} (hp : H p = some (.ins C dx fs)) (hl : fs.lookup m = none) (h : R) : ∃ a dx fs, V.ref p = .ref a ∧ H a = some (.ins C dx fs) ∧ fs.lookup m = none ∧ R := ⟨p, dx, fs, rfl, hp, hl, h⟩
theorem w_sf (h : tv σ H fun y H1 => ta σ H1 fun x H2 => ∃ a C dx fs, x = .ref a ∧ H2 a = some (.ins C dx fs) ∧ Cls K C ∧ NoAttr K C f ∧ fs.length < 1000 ∧ D.nx σ (upd H2 a (.ins C dx (putF f y fs)))) : sFld K ta tv f D σ H := h
theorem w_sfq {R : Addr → Addr → Addr → List (Str × V) → Prop} (hp : H p = some (.ins C dx fs)) (hc : Cls K C) (hn : NoAttr K C f) (hl : fs.length < 1000) (h : R p C dx fs) : ∃ a C' dx' fs', V.ref p = .ref a ∧ H a = some (.ins C' dx' fs') ∧ Cls K C' ∧ NoAttr K C' f ∧ fs'.length < 1000 ∧ R a C' dx' fs' := ⟨p, C, dx, fs, rfl, hp, hc, hn, hl, h⟩
end
/-! ### isinstance of an object -/
structure IsoK (K : PySem.W.Frag) (C : Addr) : Prop where
  cl : Cls K C
  oc : PySem.W.findIn K (.ref C) "__class__" = some (some (.builtin "object.__class__"))
  og : PySem.W.specialIn K (.builtin "object.__class__") "__get__" = some (some (.builtin "getset_descriptor.__get__"))
  ot : PySem.W.takesIn K (.builtin "object.__class__") = some true
  om : PySem.W.mroIn K C (.type "object") = some true
theorem w_iso {K : PySem.W.Frag} {H : Hp} {Q : VK} {p C D dx : Addr} {fs : List (Str × V)} {b : Bool} (hp : H p = some (.ins C dx fs)) (I : IsoK K C) (hk : PySem.W.kitOne K (.ref C) (.ref D) = some b) (h : Q (.bl b) H) : rIsi K [.ref p, .ref D] H Q :=
  ⟨_, _, _, _, b, rfl, .own D, .base (.ins hp I.cl I.oc I.og I.ot I.om), hk, h⟩
theorem w_isoN {K : PySem.W.Frag} {H : Hp} {Q : VK} {D : Addr} {b : Bool} (hk : PySem.W.kitOne K (.type "NoneType") (.ref D) = some b) (h : Q (.bl b) H) : rIsi K [.non, .ref D] H Q :=
  ⟨_, _, _, _, b, rfl, .own D, .base .non, hk, h⟩
theorem kit_own {K : PySem.W.Frag} {C D : Addr} {b : Bool} (h1 : PySem.W.isClsIn K D = true) (h2 : PySem.W.typeIn K (.ref D) = some (.type "type")) (h3 : PySem.W.subIn K (.ref C) (.ref D) = some b) (h4 : PySem.W.subIn K (.ref C) (.ref C) = some true) : PySem.W.kitOne K (.ref C) (.ref D) = some b := by
  unfold PySem.W.kitOne
  by_cases e : C = D
  · subst e
    rw [h4] at h3
    cases h3
    rw [if_pos (by simp)]
  · have hn : ¬ ((Value.ref C == Value.ref D) = true) := by
      intro z
      rw [beq_iff_eq] at z
      cases z
      exact e rfl
    rw [if_neg hn]
    unfold PySem.W.kitCls
    have h5 : (PySem.W.clsIn K D).isSome = true := h1
    show (if ((PySem.W.clsIn K D).isSome && PySem.W.typeIn K (.ref D) == some (.type "type")) = true then PySem.W.subIn K (.ref C) (.ref D) else none) = some b
    rw [h5, h2, if_pos (by simp)]
    exact h3
/-! ### range by steps -/
theorem w_r3 {σ : L2.St} {H : Hp} {ta : TA} {R : It → Hp → Prop} (h : ta σ H fun vs H1 => ∃ (i j c : Int) (n : Nat), vs = [.int i, .int j, .int c] ∧ RgC i j c n ∧ R (Itc i c n) H1) : iRng3 ta σ H R := h
theorem w_r3q {i j c : Int} {n : Nat} {R : Int → Int → Nat → Prop} (hc : RgC i j c n) (h : R i c n) : ∃ (i' j' c' : Int) (n' : Nat), [V.int i, V.int j, V.int c] = [.int i', .int j', .int c'] ∧ RgC i' j' c' n' ∧ R i' c' n' := ⟨i, j, c, n, rfl, hc, h⟩
/-! ### ways joined behind a statement -/
def tCutX (t u : TS) : TS := fun D σ H => ∃ M : L2.St → Hp → Prop, t { D with nx := M } σ H ∧ ∀ σ' H', M σ' H' → u D σ' H'
theorem pss_cutX {X : Cx} {st : Stmt} {more : List Stmt} {t u : TS} (h1 : PS X st t) (h2 : PSs X more u) : PSs X (st :: more) (tCutX t u) := ⟨fun pins s σ H D I h => by
  obtain ⟨M, hm, hu⟩ := h
  refine wpAny_execs_cons (thn (h1.run pins s σ H { D with nx := M } I hm) fun f s1 q => ?_)
  cases f with
  | next => obtain ⟨σ1, H1, I1, q1⟩ := q; exact h2.run pins s1 σ1 H1 D I1 (hu σ1 H1 q1)
  | ret v => exact q
  | brk => exact q
  | cont => exact q⟩
theorem w_cut {t u : TS} {D : Ends} {σ : L2.St} {H : Hp} (M : L2.St → Hp → Prop) (h : t { D with nx := M } σ H) (k : ∀ σ' H', M σ' H' → u D σ' H') : tCutX t u D σ H := ⟨M, h, k⟩
/-! ### dicts with number keys; heaps that grow -/
theorem _root_.L2.Same.add {G H : Hp} {q : Addr} {o : HO} (e : Same G H) (h : H q = some o) : Same (upd G q o) H := fun b u hb => by
  by_cases e2 : b = q
  · subst e2
    rw [upd_same] at hb
    rw [h]
    exact hb
  · rw [upd_ne e2] at hb
    exact e b u hb
theorem New.upd {G : Hp} {p q : Addr} {o : HO} (n : New G p) (h : p ≠ q) : New (upd G q o) p := (upd_ne h).trans n
theorem putK_len {kvs : List (Key × V)} {k : Key} {v : V} : (putK kvs k v).length ≤ kvs.length + 1 := by
  unfold putK
  split <;> simp
theorem w_put {σ : L2.St} {H : Hp} {D : Ends} {td ty tv : TE} (h : tv σ H fun v H1 => td σ H1 fun x H2 => ty σ H2 fun y H3 => ∃ a H4, x = .ref a ∧ DPut H3 a y v H4 ∧ D.nx σ H4) : sDPut td ty tv D σ H := h
theorem w_putI {H : Hp} {a : Addr} {kvs : List (Key × V)} {i : Int} {v : V} {R : Hp → Prop} (e : H a = some (.dK kvs)) (hl : kvs.length < sizeLine) (h : R (upd H a (.dK (putK kvs (.inl i) v)))) : ∃ a' H4, V.ref a = .ref a' ∧ DPut H a' (.int i) v H4 ∧ R H4 := ⟨a, _, rfl, DPut.k (k := .inl i) e hl, h⟩
theorem w_getI {H : Hp} {a : Addr} {kvs : List (Key × V)} {i : Int} {v : V} {R : V → Prop} (e : H a = some (.dK kvs)) (hv : valV kvs (.inl i) = some v) (h : R v) : ∃ a' v', V.ref a = .ref a' ∧ DGet H a' (.int i) (some v') ∧ R v' := ⟨a, v, rfl, by rw [← hv]; exact DGet.k (k := .inl i) e, h⟩
theorem w_inI {H : Hp} {a : Addr} {kvs : List (Key × V)} {i : Int} {R : Option V → Prop} (e : H a = some (.dK kvs)) (h : R (valV kvs (.inl i))) : ∃ a' o, V.ref a = .ref a' ∧ DGet H a' (.int i) o ∧ R o := ⟨a, _, rfl, DGet.k (k := .inl i) e, h⟩
theorem w_din {σ : L2.St} {H : Hp} {Q : VK} {td ty : TE} (h : ty σ H fun y H1 => td σ H1 fun x H2 => ∃ a o, x = .ref a ∧ DGet H2 a y o ∧ Q (.bl o.isSome) H2) : tDIn ty td σ H Q := h
theorem w_dni {σ : L2.St} {H : Hp} {Q : VK} {td ty : TE} (h : ty σ H fun y H1 => td σ H1 fun x H2 => ∃ a o, x = .ref a ∧ DGet H2 a y o ∧ Q (.bl (!o.isSome)) H2) : tDNotIn ty td σ H Q := h
theorem w_dg {σ : L2.St} {H : Hp} {Q : VK} {td ty : TE} (h : td σ H fun x H1 => ty σ H1 fun y H2 => ∃ a v, x = .ref a ∧ DGet H2 a y (some v) ∧ Q v H2) : tDGet td ty σ H Q := h
theorem w_dn {σ : L2.St} {H : Hp} {Q : VK} (h : ∀ p, New H p → Q (.ref p) (upd H p (.dK []))) : tDNewK σ H Q := h
/-- a dict with number keys: what it holds -/
def Holds (kvs : List (Key × V)) (S : List Nat) (g : Nat → V) : Prop := kvs.length ≤ S.length ∧ ∀ d : Nat, valV kvs (.inl (d : Int)) = if d ∈ S then some (g d) else none
theorem Holds.nil {g : Nat → V} : Holds [] [] g := ⟨Nat.le_refl _, fun d => by simp [valV]⟩
theorem Holds.put {kvs : List (Key × V)} {S : List Nat} {g : Nat → V} (h : Holds kvs S g) (x : Nat) : Holds (putK kvs (.inl (x : Int)) (g x)) (S ++ [x]) g := by
  refine ⟨by have := putK_len (kvs := kvs) (k := .inl (x : Int)) (v := g x); have := h.1; simp; omega, fun d => ?_⟩
  rw [valV_put, h.2]
  by_cases e : d = x
  · subst e; simp
  · have : ¬ ((.inl (d : Int) : Key) = .inl (x : Int)) := fun z => e (by have := Sum.inl.inj z; omega)
    rw [if_neg this]
    simp [e]
theorem lc_r0 {m : Int} {n : Nat} {g : TG} {tt : TT} {te : TE} {vs : List Nat} {σ : L2.St} {H1 : Hp} {D : Addr} {Qd : Hp → Prop} (hm : m = n) (Pv : Nat → Hp → Prop) (h0 : Pv 0 (upd H1 D (.lst [])))
    (hs : ∀ i H, i < n → Pv i H → g (.int (i : Nat)) (wipe σ vs) H fun σ2 H2 => wipe σ2 vs = wipe σ vs ∧ tt σ2 H2 fun b H3 =>
      if b = true then te σ2 H3 fun y H4 => ∃ acc, H4 D = some (.lst acc) ∧ acc.length < sizeLine ∧ Pv (i + 1) (upd H4 D (.lst (acc ++ [y]))) else Pv (i + 1) H3) (hd : ∀ H, Pv n H → Qd H) :
    ∃ W : Nat → Nat → Hp → Prop, (∃ m, W 0 m (upd H1 D (.lst []))) ∧ ∀ i k H, W i k H →
      ((Itr 0 m.toNat).stop i H ∧ Qd H) ∨ ((Itr 0 m.toNat).go i H ∧ ∃ Nx : Hp → Prop, (∀ H', Nx H' → ∃ m', m' < k ∧ W (i + 1) m' H') ∧ ∀ x H', (Itr 0 m.toNat).yld i H x H' → g x (wipe σ vs) H' fun σ2 H2 => wipe σ2 vs = wipe σ vs ∧ tt σ2 H2 fun b H3 =>
        if b = true then te σ2 H3 fun y H4 => ∃ acc, H4 D = some (.lst acc) ∧ acc.length < sizeLine ∧ Nx (upd H4 D (.lst (acc ++ [y]))) else Nx H3) := by
  subst hm
  rw [Int.toNat_natCast]
  exact lc_range (lo := 0) Pv h0 (fun i H hi hp => by rw [Int.zero_add]; exact hs i H hi hp) hd
theorem w_acc {H : Hp} {D : Addr} {acc : List V} {R : List V → Prop} (h1 : H D = some (.lst acc)) (h2 : acc.length < sizeLine) (h : R acc) : ∃ acc', H D = some (.lst acc') ∧ acc'.length < sizeLine ∧ R acc' := ⟨acc, h1, h2, h⟩
/-! ### enumerate -/
theorem for_enumX {K : PySem.W.Frag} {a : Addr} {xs : List V} {g : TG} {tb : TS} {D : Ends} {σ : L2.St} {H : Hp} (Pv : Nat → L2.St → Hp → Prop) (h0 : Pv 0 σ H) (hl : ∀ i σ H, i ≤ xs.length → Pv i σ H → SqL K H a xs)
    (hs : ∀ i x σ H p, xs[i]? = some x → Pv i σ H → New H p → g (.ref p) σ (upd H p (.tup [.int (i : Nat), x])) fun σ2 H2 => tb { D with nx := Pv (i + 1), ct := Pv (i + 1), bk := D.nx } σ2 H2) (hd : ∀ σ H, Pv xs.length σ H → D.nx σ H) :
    ∃ W : Nat → Nat → L2.St → Hp → Prop, (∃ m, W 0 m σ H) ∧ ∀ i m σ H, W i m σ H →
      ((Ite K a).stop i H ∧ D.nx σ H) ∨ ((Ite K a).go i H ∧ ∃ N : L2.St → Hp → Prop, (∀ σ' H', N σ' H' → ∃ m', m' < m ∧ W (i + 1) m' σ' H') ∧ ∀ x H', (Ite K a).yld i H x H' → g x σ H' fun σ2 H2 => tb { D with nx := N, ct := N, bk := D.nx } σ2 H2) := by
  refine ⟨fun i m σ H => i + m = xs.length ∧ Pv i σ H, ⟨xs.length, by omega, h0⟩, fun i m σ H hW => ?_⟩
  obtain ⟨e, p⟩ := hW
  have q := hl i σ H (by omega) p
  cases m with
  | zero =>
    have e2 : i = xs.length := by omega
    subst e2
    exact .inl ⟨⟨xs, q, Nat.le_refl _⟩, hd σ H p⟩
  | succ m =>
    have hi : i < xs.length := by omega
    refine .inr ⟨⟨xs, xs[i], q, List.getElem?_eq_getElem hi⟩, Pv (i + 1), fun σ' H' h => ⟨m, by omega, by omega, h⟩, fun x H' hy => ?_⟩
    obtain ⟨T, y, rfl, nT, rfl, hx⟩ := hy
    exact hs i y σ H T (hx xs q) p nT
theorem w_enum {σ : L2.St} {H : Hp} {K : PySem.W.Frag} {ta : TA} {R : It → Hp → Prop} (h : ta σ H fun vs H1 => ∃ a xs, vs = [.ref a] ∧ SqL K H1 a xs ∧ R (Ite K a) H1) : iEnum K ta σ H R := h
theorem w_enq {H : Hp} {K : PySem.W.Frag} {p : Addr} {xs : List V} {R : Addr → Prop} (hs : SqL K H p xs) (h : R p) : ∃ a xs, [V.ref p] = [.ref a] ∧ SqL K H a xs ∧ R a := ⟨p, xs, rfl, hs, h⟩

/-! ### rules that name the written part -/
section
variable {X : Cx}
theorem ix_listK (K : PySem.W.Frag) (hK : X.K = K := by rfl) : IxR X (rIxL K) := by subst hK; exact ix_list
theorem ix_tupK (K : PySem.W.Frag) (hK : X.K = K := by rfl) : IxR X (rIxT K) := by subst hK; exact ix_tup
theorem ix_seqK (K : PySem.W.Frag) (hK : X.K = K := by rfl) : IxR X (rIx K) := by subst hK; exact ix_seq
theorem sl_listK (K : PySem.W.Frag) (hK : X.K = K := by rfl) : SlR X (rSlL K) := by subst hK; exact sl_list
def rLenK (K : PySem.W.Frag) : List V → Hp → VK → Prop := fun xs H Q => ∃ p ys, xs = [.ref p] ∧ (SqL K H p ys ∨ SqT K H p ys) ∧ Q (.int ys.length) H
theorem call_lenK (K : PySem.W.Frag) (hK : X.K = K := by rfl) : CallR X (.builtin "len") (rLenK K) := by subst hK; exact call_len_seq
def rListK (K : PySem.W.Frag) : List V → Hp → VK → Prop := fun xs H Q => ∃ p ys, xs = [.ref p] ∧ (SqL K H p ys ∨ SqT K H p ys) ∧ ∀ l, H l = none → Q (.ref l) (upd H l (.lst ys))
theorem call_listK (K : PySem.W.Frag) (hK : X.K = K := by rfl) : CallR X (.type "list") (rListK K) := by subst hK; exact call_list_of
theorem call_isiK' (K : PySem.W.Frag) (hK : X.K = K := by rfl) : CallR X (.builtin "isinstance") (rIsi K) := by subst hK; exact call_isi
theorem cr_sumK (K : PySem.W.Frag) (hc : X.calm = true) (hK : X.K = K := by rfl) : CallR X (.builtin "sum") (rSum K) := by subst hK; exact cr_sum hc
theorem cr_maxK (K : PySem.W.Frag) (hc : X.calm = true) (hK : X.K = K := by rfl) : CallR X (.builtin "max") (rMax K) := by subst hK; exact cr_max hc
theorem cr_minK (K : PySem.W.Frag) (hc : X.calm = true) (hK : X.K = K := by rfl) : CallR X (.builtin "min") (rMin K) := by subst hK; exact cr_min hc
theorem cr_allK (K : PySem.W.Frag) (hc : X.calm = true) (hK : X.K = K := by rfl) : CallR X (.builtin "all") (rAll K) := by subst hK; exact cr_all hc
theorem cr_anyK (K : PySem.W.Frag) (hc : X.calm = true) (hK : X.K = K := by rfl) : CallR X (.builtin "any") (rAny K) := by subst hK; exact cr_any hc
theorem cr_sortedIK (K : PySem.W.Frag) (hK : X.K = K := by rfl) : CallR X (.builtin "sorted") (rSortedI K) := by subst hK; exact cr_sortedI
theorem op_eqDK (K : PySem.W.Frag) (hu : X.A.units + 64 < cLine) (hK : X.K = K := by rfl) : OpR X (compareOp .Eq) (rEqD K) := by subst hK; exact op_eqD hu
theorem op_neDK (K : PySem.W.Frag) (hu : X.A.units + 64 < cLine) (hK : X.K = K := by rfl) : OpR X (compareOp .NotEq) (rNeD K) := by subst hK; exact op_neD hu
theorem op_inK (K : PySem.W.Frag) (hK : X.K = K := by rfl) : OpR X (compareOp .In) (rIn K false) := by subst hK; exact op_in_seq
theorem op_notInK (K : PySem.W.Frag) (hK : X.K = K := by rfl) : OpR X (compareOp .NotIn) (rIn K true) := by subst hK; exact op_notIn_seq
theorem mt_indexK (K : PySem.W.Frag) (hK : X.K = K := by rfl) : MtR X "list.index" (rIndex K) := by subst hK; exact mt_index
theorem w_lenK {K : PySem.W.Frag} {H : Hp} {Q : VK} {p : Addr} {xs : List V} (hs : SqL K H p xs) (h : Q (.int xs.length) H) : rLenK K [.ref p] H Q := ⟨p, xs, rfl, .inl hs, h⟩
theorem w_lenTK {K : PySem.W.Frag} {H : Hp} {Q : VK} {p : Addr} {xs : List V} (hs : SqT K H p xs) (h : Q (.int xs.length) H) : rLenK K [.ref p] H Q := ⟨p, xs, rfl, .inr hs, h⟩
theorem w_listK {K : PySem.W.Frag} {H : Hp} {Q : VK} {p : Addr} {xs : List V} (hs : SqL K H p xs) (h : ∀ l, New H l → Q (.ref l) (upd H l (.lst xs))) : rListK K [.ref p] H Q := ⟨p, xs, rfl, .inl hs, h⟩
end
section
variable {X : Cx} {e o : Expr} {f name : Str} {pos apos cpos : Pos} {ta to : TE} {t : TA} {es : List Expr}
theorem pe_fldK (K : PySem.W.Frag) (he : PE X e ta) (hb : attributeBase e f X.env (eval e X.env) = eval e X.env) (hK : X.K = K := by rfl) : PE X (.Attribute e f pos) (tFld K ta f) := by subst hK; exact pe_fld he hb
theorem pe_bmK (K : PySem.W.Frag) {T : String} {r : V → List V → Hp → VK → Prop} (h : PE X (.Call (.Attribute o name apos) es [] cpos) (tBM X.K T r to t)) (hK : X.K = K := by rfl) : PE X (.Call (.Attribute o name apos) es [] cpos) (tBM K T r to t) := by subst hK; exact h
theorem pe_bm0K (K : PySem.W.Frag) {T : String} {r : V → List V → Hp → VK → Prop} (h : PE X (.Call (.Attribute o name apos) es [] cpos) (tBM0 X.K T r to)) (hK : X.K = K := by rfl) : PE X (.Call (.Attribute o name apos) es [] cpos) (tBM0 K T r to) := by subst hK; exact h
theorem pi_listK (K : PySem.W.Frag) {tg l : Expr} {tl : TE} (hl : PE X l tl) (hK : X.K = K := by rfl) : PI X tg l (iList K tl) := by subst hK; exact pi_list hl
theorem pi_tupK (K : PySem.W.Frag) {tg l : Expr} {tl : TE} (hl : PE X l tl) (hK : X.K = K := by rfl) : PI X tg l (iTup K tl) := by subst hK; exact pi_tup hl
theorem pg_tupK (K : PySem.W.Frag) {es : List Expr} {k n : Nat} {t : TGs} (hc : X.calm = true) (h : PGs X es t) (hn : (assignEach es X.env).length = n := by rfl) (hst : (assignEach es X.env).findIdx? (·.1) = none := by rfl) (hK : X.K = K := by rfl) : PG X (.Tuple es k pos) (gTup K n t) := by subst hK; exact pg_tup hc h hn hst
end
/-! ### list.insert -/
theorem w_ins {H : Hp} {p : Addr} {xs : List V} {m : Int} {v : V} {R : Addr → List V → Int → V → Prop} (hp : H p = some (.lst xs)) (hl : xs.length < sizeLine) (h0 : 0 ≤ m) (h1 : m < 2 ^ 63) (h : R p xs m v) :
    ∃ (l : Addr) (ys : List V) (i : Int) (y : V), V.ref p = .ref l ∧ [V.int m, v] = [.int i, y] ∧ H l = some (.lst ys) ∧ ys.length < sizeLine ∧ 0 ≤ i ∧ i < 2 ^ 63 ∧ R l ys i y := ⟨p, xs, m, v, rfl, rfl, hp, hl, h0, h1, h⟩

/-! ### the head by facts: what is asked of the heap behind the top -/
section
open PySem PySem.Spec PyProof.Rows L2
def stQ (g : Addr → Option Obj) (f : Obj → List Addr) (as : List Addr) : List Addr := as.flatMap fun a => match g a with
  | some o => f o
  | none => []
def rfF (o : Obj) : List Addr := match o.data with
  | .func fd => He.refV fd.code ++ He.refV fd.defaults
  | .cls cd => [cd.ns]
  | _ => []
def rfD (o : Obj) : List Addr := match o.data with
  | .dict es _ => es.toList.flatMap fun e => He.refV e.val
  | _ => []
def asQ (g : Addr → Option Obj) : List Addr := mainGlobals :: (stQ g rfD [mainGlobals] ++ (stQ g rfF (stQ g rfD [mainGlobals]) ++ (stQ g rfD (stQ g rfF (stQ g rfD [mainGlobals])) ++ stQ g rfF (stQ g rfD (stQ g rfF (stQ g rfD [mainGlobals]))))))
def obsK (fs : PySem.W.Frag → List Bool) (fn : List He.DefD) (K : PySem.W.Frag) : He.AlD := ((fs K).all (fun b => b) && fn.all fun d => d.ok K, fn.map fun d => He.fnW K d.at_)
def valK (fn : List He.DefD) : He.AlD := (true, fn.map He.DefD.val)
def SaysK (fs : PySem.W.Frag → List Bool) (fn : List He.DefD) (K : PySem.W.Frag) : Prop := obsK fs fn K = valK fn
def obsKG (fs : PySem.W.Frag → List Bool) (fn : List He.DefD) (g : Addr → Option Obj) : He.AlD := obsK fs fn (He.frG g (asQ g))
def hookK (fs : PySem.W.Frag → List Bool) (fn : List He.DefD) : PySem.W.Hook where
  α := He.AlD
  obs := fun s => obsKG fs fn s.heap.get?
  val := fun _ => valK fn
  says := fun _ h => ∃ K : PySem.W.Frag, K.In h ∧ SaysK fs fn K
  of := fun _ _ e => ⟨_, He.frG_in, e⟩
  keeps := fun _ _ _ ⟨K, hK, c⟩ k => ⟨K, PySem.W.Frag.In.keeps hK k, c⟩
theorem obsKG_eq {fs : PySem.W.Frag → List Bool} {fn : List He.DefD} {g : Addr → Option Obj} {s : Shared} (h : ∀ a, g a = s.heap.get? a) : obsKG fs fn g = (hookK fs fn).obs s := by
  have e : g = s.heap.get? := funext h
  rw [e] <;> rfl
theorem SaysK.fact {fs : PySem.W.Frag → List Bool} {fn : List He.DefD} {K : PySem.W.Frag} (c : SaysK fs fn K) {b : Bool} (i : Nat) (h : (fs K)[i]? = some b) : b = true := by
  have c1 := (He.ba (show ((fs K).all (fun b => b) && fn.all fun d => d.ok K) = true from congrArg (fun z : He.AlD => z.1) c)).1
  exact List.all_eq_true.mp c1 b (List.mem_of_getElem? h)
theorem SaysK.is {fs : PySem.W.Frag → List Bool} {fn : List He.DefD} {K : PySem.W.Frag} (c : SaysK fs fn K) {p : Prop} [Decidable p] (i : Nat) (h : (fs K)[i]? = some (decide p)) : p := of_decide_eq_true (c.fact i h)
theorem SaysK.def_ {fs : PySem.W.Frag → List Bool} {fn : List He.DefD} {K : PySem.W.Frag} (c : SaysK fs fn K) (i : Nat) {d : He.DefD} (h : fn[i]? = some d) : ∃ fd, FunD K d.name d.qual d.params d.body d.scope (d.dvs K) (d.kws K) (He.fAd K d.at_) fd := by
  have c2 := (He.ba (show ((fs K).all (fun b => b) && fn.all fun d => d.ok K) = true from congrArg (fun z : He.AlD => z.1) c)).2
  have e : fn.map (fun d => He.fnW K d.at_) = fn.map He.DefD.val := congrArg (fun z : He.AlD => z.2) c
  have e2 : (fn.map fun d => He.fnW K d.at_)[i]? = (fn.map He.DefD.val)[i]? := by rw [e]
  rw [List.getElem?_map, List.getElem?_map, h] at e2
  exact He.DefD.funD (Option.some.inj e2) (List.all_eq_true.mp c2 d (List.mem_of_getElem? h))
theorem fnl_of {K : PySem.W.Frag} {x q : Str} {ps : Arguments} {b : List Stmt} {sc : Scope} {f : Addr} {fd : FuncData} (D : FunD K x q ps b sc [] [] f fd) :
    ∃ oc od kV doc pm an cdv ct osl, K.lookup f = some ⟨oc, od, .func (PySem.W.fnOf x q ps b sc .none kV doc pm an cdv ct), osl⟩ ∧ PySem.W.codeIn K cdv q = true ∧ PySem.W.keepIn K (.ref f) = true := by
  obtain ⟨oc, od, dV, kV, doc, pm, an, cdv, ct, osl, rfl, lk, hc, hd, _⟩ := D.ex
  rcases hd with ⟨_, rfl⟩ | ⟨z, _⟩
  · exact ⟨oc, od, kV, doc, pm, an, cdv, ct, osl, lk, hc, D.kp⟩
  · exact absurd rfl z
theorem fnd0_of {K : PySem.W.Frag} {x q : Str} {ps : Arguments} {b : List Stmt} {sc : Scope} {f : Addr} {fd : FuncData} (D : FunD K x q ps b sc [.non] [] f fd) :
    ∃ oc od T kV doc pm an cdv ct osl oc2 od2 n2 sl2, K.lookup f = some ⟨oc, od, .func (PySem.W.fnOf x q ps b sc (.ref T) kV doc pm an cdv ct), osl⟩ ∧ K.lookup T = some ⟨oc2, od2, .seq #[Value.none] n2, sl2⟩ ∧ PySem.W.codeIn K cdv q = true ∧ PySem.W.keepIn K (.ref f) = true := by
  obtain ⟨oc, od, dV, kV, doc, pm, an, cdv, ct, osl, rfl, lk, hc, hd, _⟩ := D.ex
  rcases hd with ⟨z, _⟩ | ⟨_, T, o, its, n, rfl, hT, ho, hv⟩
  · cases z
  · obtain ⟨oc2, od2, dt2, sl2⟩ := o
    cases hv with
    | cons r hv =>
      cases hv
      cases r
      simp only at ho
      subst ho
      exact ⟨oc, od, T, kV, doc, pm, an, cdv, ct, osl, oc2, od2, n, sl2, lk, hT, hc, D.kp⟩
theorem fndi_of {K : PySem.W.Frag} {x q : Str} {ps : Arguments} {b : List Stmt} {sc : Scope} {f : Addr} {fd : FuncData} {i : Int} (D : FunD K x q ps b sc [.int i] [] f fd) :
    ∃ oc od T kV doc pm an cdv ct osl oc2 od2 n2 sl2 tk, K.lookup f = some ⟨oc, od, .func (PySem.W.fnOf x q ps b sc (.ref T) kV doc pm an cdv ct), osl⟩ ∧ K.lookup T = some ⟨oc2, od2, .seq #[Value.int i tk] n2, sl2⟩ ∧ PySem.W.codeIn K cdv q = true ∧ PySem.W.keepIn K (.ref f) = true := by
  obtain ⟨oc, od, dV, kV, doc, pm, an, cdv, ct, osl, rfl, lk, hc, hd, _⟩ := D.ex
  rcases hd with ⟨z, _⟩ | ⟨_, T, o, its, n, rfl, hT, ho, hv⟩
  · cases z
  · obtain ⟨oc2, od2, dt2, sl2⟩ := o
    cases hv with
    | cons r hv =>
      cases hv
      obtain ⟨tk, rfl⟩ := r
      simp only at ho
      subst ho
      exact ⟨oc, od, T, kV, doc, pm, an, cdv, ct, osl, oc2, od2, n, sl2, tk, lk, hT, hc, D.kp⟩
theorem intK_ok {K : PySem.W.Frag} {x : Str} {i : Int} (c : (He.Fa.int x i).ok K = true) : ∃ t, PySem.W.nsIn K mainGlobals x = some (some (.int i t)) := by
  have c2 : (match PySem.W.nsIn K mainGlobals x with
    | some (some (.int j _)) => decide (j = i)
    | _ => false) = true := c
  cases e : PySem.W.nsIn K mainGlobals x with
  | none => rw [e] at c2; cases c2
  | some o =>
    rw [e] at c2
    cases o with
    | none => cases c2
    | some v =>
      cases v with
      | int j t =>
        have ej : j = i := of_decide_eq_true c2
        rw [ej]
        exact ⟨t, rfl⟩
      | _ => cases c2
theorem strK_ok {K : PySem.W.Frag} {x z : Str} (c : (He.Fa.str x z).ok K = true) : ∃ t, PySem.W.nsIn K mainGlobals x = some (some (.str z t)) := by
  have c2 : (match PySem.W.nsIn K mainGlobals x with
    | some (some (.str y _)) => decide (y = z)
    | _ => false) = true := c
  cases e : PySem.W.nsIn K mainGlobals x with
  | none => rw [e] at c2; cases c2
  | some o =>
    rw [e] at c2
    cases o with
    | none => cases c2
    | some v =>
      cases v with
      | str y t =>
        have ej : y = z := of_decide_eq_true c2
        rw [ej]
        exact ⟨t, rfl⟩
      | _ => cases c2
def slB : List (Option Value) → Bool
  | [_, _, _, _, some (.builtin n), _] => decide (n = "ValueError.__new__")
  | _ => false
theorem slB_ok {sl : List (Option Value)} (h : slB sl = true) : ∃ m0 m1 m2 m3 m5, sl = [m0, m1, m2, m3, some (.builtin "ValueError.__new__"), m5] := by
  unfold slB at h
  split at h
  · have h := of_decide_eq_true h
    subst h
    exact ⟨_, _, _, _, _, rfl⟩
  · cases h
/-- a class object of an exception -/
def excB (K : PySem.W.Frag) (C : Addr) (bm : List Value) : Bool := match K.lookup C with
  | some ⟨cl, _, .cls cd, sl⟩ => decide (cl = .type "type") && (decide (cd.mro = .ref C :: bm) && (cd.hasDict && (!cd.hasDel && slB sl.toList)))
  | _ => false
theorem excB_ok {K : PySem.W.Frag} {C : Addr} {bm : List Value} (h : excB K C bm = true) : ∃ nm q N bs sn su ab col dd m0 m1 m2 m3 m5, K.lookup C = some (excClassObj nm q C N bs bm true sn su ab col dd m0 m1 m2 m3 m5 "ValueError.__new__") := by
  unfold excB at h
  cases e : K.lookup C with
  | none => rw [e] at h; cases h
  | some o =>
    rw [e] at h
    obtain ⟨cl, dd, dt, sl⟩ := o
    cases dt with
    | cls cd =>
      obtain ⟨g1, r1⟩ := He.ba h
      obtain ⟨g2, r2⟩ := He.ba r1
      obtain ⟨g3, r3⟩ := He.ba r2
      obtain ⟨g4, g5⟩ := He.ba r3
      obtain ⟨sl⟩ := sl
      obtain ⟨m0, m1, m2, m3, m5, rfl⟩ := slB_ok g5
      obtain ⟨c1, c2, c3, c4, c5, c6, c7, c8, c9, c10, c11⟩ := cd
      have e1 : cl = .type "type" := of_decide_eq_true g1
      have e2 : c3 = .ref C :: bm := of_decide_eq_true g2
      have e3 : c6 = true := g3
      have e4 : (!c11) = true := g4
      have e4 : c11 = false := by simpa using e4
      subst e1 e2 e3 e4
      exact ⟨_, _, _, _, _, _, _, _, _, _, _, _, _, _, rfl⟩
    | _ => cases h
/-- the end, the written part told by a Hook -/
theorem walk_ofK {l : PySem.W.OpenLaw} {n k : Nat} {q : Program} {loose : List Str} {XP : (Str → Option Value) → Heap → Prop} {YP : World → Heap → Prop} {d : DefRec} {sp : PySem.W.Frag → Sp}
    (hn : l.most = some n) (hn2 : n ≤ sizeLine) (hdf : d.params.defaults = []) (hr : Room k callerA)
    (F : ∀ (w : World) (mg : Str → Option Value) (fa : Addr) (h : Heap), YP w h → h.Ns mainGlobals mg → mg d.name = some (.ref fa) → ∃ K : PySem.W.Frag, K.In h ∧
      ∃ fd : FuncData, (∀ (s : Shared) (u : Value), BindsTo s fd ⟨[u], []⟩ [("script", u)]) ∧ ∀ base : Heap, K.In base → base.Ns mainGlobals mg → FnOk l.prog w K mg base CX0 k fa fd ["script"] (sp K))
    (hsp : ∀ (K : PySem.W.Frag) (H : Hp) (a : Addr) (ns : List Int), ns.length ≤ n → (∀ z ∈ ns, Builtin.Int.intBits z ≤ 1048576) → LsE K H a (ns.map V.int) → sp K [.ref a] H (fun v _ => v = .bl true) fun _ _ _ => False) :
    PySem.W.WalkO q loose XP YP l.row.toRowW d [] (fun f vs => PySem.call f vs) := by
  refine Att.attach_callB hn hdf fun w s₀ s₁ mg mb fa o pm cd doc a vs ns G Y ho hd hcd hmg hobj hints hlen hbits hg => ?_
  obtain ⟨K, KX, fd, hb, hF⟩ := F w mg fa _ Y G.T.g hmg
  refine law_call KX G.T.g G.T.b G.T.builtins G.T.nolimit hg hobj hints (Nat.le_trans hlen hn2) hr hF hb (fun H hO hS => hsp _ H a ns hlen hbits ?_) fun _ _ _ h => h
  rcases hS with h | ⟨ob, its, m, hk, h1, h2, h3, h4, h5⟩
  · exact .inl h
  · have e := KX a ob hk
    rw [hobj] at e
    cases e
    cases h3
    exact .inr ⟨vs, _, hk, by simpa using h5, by rw [List.length_map]; exact Nat.le_trans hlen hn2⟩
end


/-! ### exceptions -/
theorem Has.mkX {P : Program} {w : World} {K : PySem.W.Frag} {mg : Str → Option Value} {base : Heap} {x qual : Str} {ps N : List Str} {sp : Sp} {k : Nat} {f : Addr} {fd : FuncData} {st : Stmt} (F : Fun K x qual st f fd) (gf : mg x = some (.ref f)) (b : Binds K fd ps []) (S : FnScope N ps (defScope st)) (len : ∀ vs H Q E, sp vs H Q E → vs.length = ps.length)
    (hbody : ∀ (cdv : Value) (A : Around) (outer : List Env) (s : Shared) (H : Hp) (vs : List V) (Q : VK) (E : XK), Room k (A.deeper (envOfC qual (defScope st) s.heap.objs.size f cdv)) → sp vs H Q E →
      ∃ t, PSs (cxOf (L2.CX P w) P w K mg base N qual (defScope st) f cdv A outer s H E) (defBody st) t ∧ t { nx := fun _ H' => Q .non H', rt := Q } (start N vs) H) : Has P w K mg base (L2.CX P w) (k + 1) x ps sp :=
  ⟨f, fd, F.okX S len hbody, gf, F.kp, b⟩
theorem pe_fnS {X : Cx} {W : WX} {k : Nat} {ps : List Str} {sp : Sp} {x : Str} {p pos : Pos} {e : Expr} {es : List Expr} {t : TA} (tk : Takes X W) (h : Has X.prog X.w X.K X.mg X.base (L2.CX X.prog X.w) k x ps sp) (hr : Room k X.A) (hg : Gl X x) (ha : PA X (e :: es) t) (hdb : (x == ("__debug__" : Str)) = false := by decide)
    (he : starEach (e :: es) X.env = (false, eval e X.env) :: starEach es X.env := by rfl) (hpl : (backTo pos (starEach es X.env)).any (·.1) = false := by rfl) :
    PE X (.Call (.Name x p) (e :: es) [] pos) (tCallS sp (WE W) t) := by
  obtain ⟨f, fd, F, gf, kp, b⟩ := h.ex
  exact pe_callS F hr hg gf kp b (fun σ => passAt tk σ) ha hdb he hpl
theorem pe_fnL {X : Cx} {k : Nat} {ps : List Str} {sp : Sp} {x : Str} {p pos : Pos} {e : Expr} {es : List Expr} {t : TA} (h : Has X.prog X.w X.K X.mg X.base (L2.CX X.prog X.w) k x ps sp) (hr : Room k X.A) (hg : Gl X x) (ha : PA X (e :: es) t) (hdb : (x == ("__debug__" : Str)) = false := by decide)
    (he : starEach (e :: es) X.env = (false, eval e X.env) :: starEach es X.env := by rfl) (hpl : (backTo pos (starEach es X.env)).any (·.1) = false := by rfl) :
    PE X (.Call (.Name x p) (e :: es) [] pos) (tCall sp [] E0 t) := by
  obtain ⟨f, fd, F, gf, kp, b⟩ := h.ex
  exact pe_call F hr hg gf kp b .nil passL ha hdb he hpl
theorem w_callS {σ : L2.St} {H : Hp} {Q : VK} {tl : TA} {sp : Sp} {E : L2.St → XK} (h : tl σ H fun vs H1 => sp vs H1 Q (E σ)) : tCallS sp E tl σ H Q := h
/-- facts of an exception class of the program's own -/
structure ExF (K : PySem.W.Frag) (C : Addr) : Prop where
  kp : PySem.W.keepIn K (.ref C) = true
  be : PySem.W.subIn K (.ref C) (.type "BaseException") = some true
  ty : PySem.W.typeIn K (.ref C) = some (.type "type")
  cl : PySem.W.isClsIn K C = true
  hd : PySem.W.hasDictIn K C = true
  ga : PySem.W.findIn K (.ref C) "__getattribute__" = some (some (.builtin "BaseException.__getattribute__"))
  gg : PySem.W.findIn K (.ref C) "__getattr__" = some none
  oc : PySem.W.findIn K (.ref C) "__class__" = some (some (.builtin "object.__class__"))
  om : PySem.W.mroIn K C (.type "object") = some true
  sv : PySem.W.subIn K (.ref C) (.type "ValueError") = some true
  ss : PySem.W.subIn K (.ref C) (.ref C) = some true
  og : PySem.W.specialIn K (.builtin "object.__class__") "__get__" = some (some (.builtin "getset_descriptor.__get__"))
  ot : PySem.W.takesIn K (.builtin "object.__class__") = some true
theorem ExF.exm {K : PySem.W.Frag} {C D : Addr} {b : Bool} (F : ExF K D) (h : PySem.W.subIn K (.ref C) (.ref D) = some b) : PySem.W.exmOne K (.ref C) (.ref D) = some b := PySem.W.exm_ref F.be F.hd F.ty h
theorem ExF.kit {K : PySem.W.Frag} {C D : Addr} {b : Bool} (F : ExF K C) (G : ExF K D) (h : PySem.W.subIn K (.ref C) (.ref D) = some b) : PySem.W.kitOne K (.ref C) (.ref D) = some b := kit_own G.cl G.ty h F.ss
theorem ExF.kitV {K : PySem.W.Frag} {C : Addr} (F : ExF K C) : PySem.W.kitOne K (.ref C) (.type "ValueError") = some true := by
  unfold PySem.W.kitOne
  rw [if_neg (by intro z; rw [beq_iff_eq] at z; cases z)]
  show (if PySem.W.kitMeta "ValueError" = true then PySem.W.subIn K (.ref C) (.type "ValueError") else none) = some true
  rw [if_pos (by decide +kernel), F.sv]
theorem ExF.xf {K : PySem.W.Frag} {C : Addr} (F : ExF K C) : XfC K C := ⟨F.ga, F.gg, F.be, F.hd⟩
/-- isinstance(e, c), e the exception that the suite holds, with its dict or without -/
def rIsX (K : PySem.W.Frag) (a : Addr) (cls : Value) (d : Option Addr) : List V → Hp → VK → Prop := fun xs H Q => ∃ (D : Addr) (c : V) (cv : Value) (b : Bool), cls = .ref D ∧ ExF K D ∧ (d = none ∨ ∃ dd fs, d = some dd ∧ H dd = some (.xd fs)) ∧ xs = [.ref a, c] ∧ (∀ u, RelV c u → u = cv) ∧ PySem.W.kitOne K (.ref D) cv = some b ∧ Q (.bl b) H
theorem call_isX {X : Cx} {a : Addr} {cls : Value} {d : Option Addr} {oe : Obj} {pn : List (Addr × Obj)} (K : PySem.W.Frag) (hz : Zc cls d oe) (hf : ∃ vs, oe.data = .fields vs) (hK : X.K = K := by rfl) : CallR (X.suite a ((a, oe) :: pn)) (.builtin "isinstance") (rIsX K a cls d) := by
  subst hK
  intro pins s σ H xs us Q I r h
  obtain ⟨D, c, cv, b, rfl, F, hd, rfl, hcv, e, q⟩ := h
  obtain _ | ⟨rx, rr⟩ := r
  obtain _ | ⟨rt, rr⟩ := rr
  cases rr
  cases rx
  have ec := hcv _ rt
  subst ec
  have hget := (I.pin (a, oe) (List.mem_append.mpr (.inl List.mem_cons_self))).1
  obtain ⟨vs, hv⟩ := hf
  have hcl : (PySem.W.clsIn X.K D).isSome = true := F.cl
  have J : ∃ od, PySem.W.InstAt s.heap a oe D od := by
    rcases hd with rfl | ⟨dd, fs, rfl, hdd⟩
    · exact ⟨none, hget, hz.1, by unfold PySem.W.notCls; rw [hv] <;> rfl, by rw [hz.2]; trivial⟩
    · obtain ⟨mA, hns, _⟩ : ObjOk X.prog X.w H s.heap dd (.xd fs) := I.hok dd _ hdd
      obtain ⟨od, ho, _⟩ := lookIn_ns hns
      exact ⟨some od, hget, hz.1, by unfold PySem.W.notCls; rw [hv] <;> rfl, by rw [hz.2]; exact ho⟩
  obtain ⟨od, J⟩ := J
  exact PySem.W.kia_one (PySem.W.kitx_exc hcl F.ga F.gg F.be F.oc F.og F.ot F.om) I.kIn J e (fun z => nomatch z) fun tk => ⟨.bl b, H, I.kept (t' := tk) fun _ _ z => z, rfl, q⟩
theorem w_isX {K : PySem.W.Frag} {H : Hp} {Q : VK} {a D E : Addr} {d : Option Addr} {b : Bool} (F : ExF K D) (G : ExF K E) (hs : PySem.W.subIn K (.ref D) (.ref E) = some b) (hd : d = none ∨ ∃ dd fs, d = some dd ∧ H dd = some (.xd fs)) (h : Q (.bl b) H) : rIsX K a (.ref D) d [.ref a, .ref E] H Q :=
  ⟨D, .ref E, .ref E, b, rfl, F, hd, rfl, fun _ r => r, F.kit G hs, h⟩
theorem w_isXV {K : PySem.W.Frag} {H : Hp} {Q : VK} {a D : Addr} {d : Option Addr} (F : ExF K D) (hd : d = none ∨ ∃ dd fs, d = some dd ∧ H dd = some (.xd fs)) (h : Q (.bl true) H) : rIsX K a (.ref D) d [.ref a, .ty "ValueError"] H Q :=
  ⟨D, .ty "ValueError", .type "ValueError", true, rfl, F, hd, rfl, fun _ r => r, F.kitV, h⟩
/-- an exception class whose __init__ is a def -/
structure HasXM (P : Program) (w : World) (K : PySem.W.Frag) (mg : Str → Option Value) (base : Heap) (k : Nat) (x : Str) (C : Addr) (ps : List Str) (sp : Sp) : Prop where
  oex : OexC K C
  ex : ∃ f fd, FnOk P w K mg base CX0 k f fd ps sp ∧ PySem.W.findIn K (.ref C) "__init__" = some (some (.ref f)) ∧ PySem.W.typeIn K (.ref f) = some (.type "function") ∧ mg x = some (.ref C) ∧ Binds K fd ps []
theorem pmk_xm {X : Cx} {x : Str} {C : Addr} {k : Nat} {ps : List Str} {sp : Sp} {e : Expr} {es : List Expr} {ta : TA} {p pos : Pos} (h : HasXM X.prog X.w X.K X.mg X.base k x C ps sp) (hr : Room (k + 1) X.A) (hg : Gl X x) (ha : PA X (e :: es) ta)
    (hdb : (x == ("__debug__" : Str)) = false := by decide) (he : starEach (e :: es) X.env = (false, eval e X.env) :: starEach es X.env := by rfl) (hpl : (backTo pos (starEach es X.env)).any (·.1) = false := by rfl) :
    PMk X (.Call (.Name x p) (e :: es) [] pos) (tMkO C sp [] ta) := by
  obtain ⟨f, fd, F, iC, tI, hm, b⟩ := h.ex
  exact pmk_oex h.oex iC tI F hr b .nil pass0 hg hm ha hdb he hpl
/-- the promise of an __init__ that keeps its argument as the field f -/
def spKeep (K : PySem.W.Frag) (C : Addr) : Sp := fun vs H Q _ => ∃ (a : Addr) (v : V), vs = [.ref a, v] ∧ OexC K C ∧ PySem.W.findIn K (.ref C) "at" = some none ∧ H a = some (exo a C none) ∧ ∀ d, H d = none → d ≠ a → Q .non (upd (upd H d (exd d [("at", v)])) a (exo a C (some d)))
/-- the raise of such an exception: its dict is new -/
theorem w_raiseK {K : PySem.W.Frag} {H : Hp} {C : Addr} {v : V} {Q : XK} (T : OexC K C) (n : PySem.W.findIn K (.ref C) "at" = some none) (h : ∀ d, New H d → Q (.ref C) (some d) (upd H d (.xd [("at", v)]))) :
    [v].length ≤ 1000 ∧ ∀ a, H a = none → spKeep K C (.ref a :: ([v] ++ [])) (upd H a (exo a C none)) (fun u H2 => u = .non ∧ ∃ (d : Addr) (fs : List (Str × V)), H2 a = some (exo a C (some d)) ∧ H2 d = some (exd d fs) ∧ H d = none ∧ Q (.ref C) (some d) (upd (del H2 a) d (.xd fs))) (fun _ _ _ => False) := by
  refine ⟨by show 1 ≤ 1000; decide, fun a na => ⟨a, v, rfl, T, n, upd_same, fun d nd hda => ⟨rfl, d, _, upd_same, by rw [upd_ne hda, upd_same], ?_, ?_⟩⟩⟩
  · rw [upd_ne hda] at nd
    exact nd
  · have nd' : H d = none := by rw [upd_ne hda] at nd; exact nd
    have e : upd (del (upd (upd (upd H a (exo a C none)) d (exd d [("at", v)])) a (exo a C (some d))) a) d (.xd [("at", v)]) = upd H d (.xd [("at", v)]) := by
      funext b
      by_cases hb : b = d
      · subst hb; rw [upd_same, upd_same]
      · rw [upd_ne hb, upd_ne hb]
        by_cases ha : b = a
        · subst ha; rw [del_same, na]
        · rw [del_ne ha, upd_ne ha, upd_ne hb, upd_ne ha]
    rw [e]
    exact h d nd'
theorem w_ost {K : PySem.W.Frag} {σ : L2.St} {H : Hp} {D : Ends} {to te : TE} {f : Str} (h : te σ H fun y H1 => to σ H1 fun x H2 => ∃ a C : Addr, x = .ref a ∧ OexC K C ∧ PySem.W.findIn K (.ref C) f = some none ∧
  ((H2 a = some (exo a C none) ∧ ∀ dx, H2 dx = none → dx ≠ a → D.nx σ (upd (upd H2 dx (exd dx [(f, y)])) a (exo a C (some dx)))) ∨
    ∃ (dx : Addr) (fs : List (Str × V)), H2 a = some (exo a C (some dx)) ∧ H2 dx = some (exd dx fs) ∧ fs.length ≤ 900 ∧ D.nx σ (upd H2 dx (exd dx ((f, y) :: fs))))) : tOst K f to te D σ H := h
theorem w_xf {σ : L2.St} {H : Hp} {Q : VK} {a C : Addr} {cls : Value} {d : Option Addr} {f : Str} {te : TE} (h : te σ H fun x H1 => x = .ref a ∧ cls = .ref C ∧ ∃ (dd : Addr) (fs : List (Str × V)) (v : V), d = some dd ∧ H1 dd = some (.xd fs) ∧ fs.lookup f = some v ∧ Q v H1) : tXf a cls d C f te σ H Q := h
theorem w_mko {σ : L2.St} {H : Hp} {C : Addr} {sp : Sp} {ta : TA} {Q : XK} (h : ta σ H fun vs H1 => vs.length ≤ 1000 ∧ ∀ a, H1 a = none → sp (.ref a :: (vs ++ [])) (upd H1 a (exo a C none))
  (fun v H2 => v = .non ∧ ∃ (d : Addr) (fs : List (Str × V)), H2 a = some (exo a C (some d)) ∧ H2 d = some (exd d fs) ∧ H1 d = none ∧ Q (.ref C) (some d) (upd (del H2 a) d (.xd fs))) (fun _ _ _ => False)) : tMkO C sp [] ta σ H Q := h

/-! ### an exception that is kept behind its suite: try: body, except x as n: .. found = n -/
/-- at a: a caught exception, of the class cls, its dict d -/
def exk (a : Addr) (cls : Value) (d : Option Addr) : HO := .ext fun h => ∃ (oe : Obj) (vs : Array Value), h.get? a = some oe ∧ Zc cls d oe ∧ oe.data = .fields vs
theorem exk_ok {P : Program} {w : World} {H : Hp} {h : Heap} {a : Addr} {cls : Value} {d : Option Addr} {oe : Obj} {vs : Array Value} (e : h.get? a = some oe) (z : Zc cls d oe) (dd : oe.data = .fields vs) : ObjOk P w H h a (exk a cls d) :=
  ⟨⟨oe, vs, e, z, dd⟩, ⟨oe, e⟩, fun _ _ ⟨o, v, q, r⟩ k => ⟨o, v, k o q, r⟩⟩
theorem exk_at {P : Program} {w : World} {H : Hp} {h : Heap} {a : Addr} {cls : Value} {d : Option Addr} (hok : HOk P w H h) (he : H a = some (exk a cls d)) : ∃ (oe : Obj) (vs : Array Value), h.get? a = some oe ∧ Zc cls d oe ∧ oe.data = .fields vs := by
  have x : ObjOk P w H h a (.ext fun h => ∃ (oe : Obj) (vs : Array Value), h.get? a = some oe ∧ Zc cls d oe ∧ oe.data = .fields vs) := hok a _ he
  exact x.1
section
variable {X : Cx} {pins : List (Addr × Obj)} {σ : L2.St} {H : Hp} {s : Shared}
/-- an object that is there, of ours, is tracked from now on -/
theorem Inv.track {a : Addr} {o : HO} (I : Inv X pins σ H s) (na : H a = none) (hx : ∀ ob, X.s_0.heap.get? a = some ob → a ∈ X.ex) (nL : a ≠ X.env.locals) (hc : ∀ x c, X.env.cells.lookup x = some c → c ≠ a) (hp : ∀ p ∈ X.pn ++ pins, p.1 ≠ a) (new : ObjOk X.prog X.w (upd H a o) s.heap a o) :
    Inv X pins σ (upd H a o) s :=
  ⟨I.ok, I.os, I.bare,
    ⟨I.base.keep, I.base.slot, fun b ob e n hb => by
      have nb : b ≠ a := fun z => by subst z; exact hb (hx ob e)
      rw [upd_ne nb]; exact I.base.free b ob e n hb, I.base.there,
      fun b xs q => by rw [upd_ne (ne_of_none (I.base.tups b xs q) na)]; exact I.base.tups b xs q,
      fun b ob u q => by rw [upd_ne (ne_of_none (I.base.frzs b ob u q) na)]; exact I.base.frzs b ob u q,
      fun b ps q => by
        obtain ⟨m, e⟩ := I.base.tbls b ps q
        exact ⟨m, by rw [upd_ne (ne_of_none e na)]; exact e⟩⟩,
    I.loc, I.cell, by rw [upd_ne nL.symm]; exact I.free, fun x c e => by rw [upd_ne (hc x c e)]; exact I.freeC x c e,
    fun p hq => by
      obtain ⟨h1, h2, h3⟩ := I.pin p hq
      exact ⟨h1, by rw [upd_ne (hp p hq)]; exact h2, h3⟩,
    fun b u e => by
      by_cases hb : b = a
      · subst hb; rw [upd_same] at e; cases e; exact new
      · rw [upd_ne hb] at e
        exact (I.hok b u e).stay (fun c v _ q => q) (fun c q => by rw [upd_ne (ne_of_none q na)]; exact q) fun c xs q => by rw [upd_ne (ne_of_none q na)]; exact q,
    I.len⟩
end
/-- what 'except x as n: suite' wishes, the exception kept behind -/
def wKeep (K : PySem.W.Frag) (c : Value) (i : Nat) (ts : Addr → Value → Option Addr → TS) (Wout : WX) (D : Ends) : WX := fun cls d σ H =>
  ∃ b, PySem.W.exmOne K cls c = some b ∧ (b = true → ∀ a, H a = none → ts a cls d { nx := fun σ' H' => H' a = none → D.nx (σ'.set i none) (upd H' a (exk a cls d)), rt := fun _ _ => False, bk := fun _ _ => False, ct := fun _ _ => False } (σ.set i (some (.ref a))) H) ∧
    (b = false → Wout cls d σ H)
section
variable {X : Cx} {x n : Str} {c : Value} {i : Nat} {body suite : List Stmt} {b₀ : Stmt} {np pos pos' : Pos} {tb : WX → TS} {ts : Addr → Value → Option Addr → TS} {Wout : WX}
theorem ps_try_keep (hs : X.stack = X.env :: X.outer) (hf : X.env.frame = some X.env.locals) (hN : X.N.Nodup) (hi : X.N[i]? = some n) (hln : X.env.kindOf n = some .local) (hc : Names X x c) (tk : Takes X Wout)
    (hb : ∀ (W : WX) (pn : List (Addr × Obj)) (xe : Value → Shared → Prop), Takes (X.tr pn xe) W → PassesOwn (model X.prog X.w) X.A X.env xe → PSs (X.tr pn xe) body (tb W))
    (hsu : ∀ (a : Addr) (oe : Obj) (cls : Value) (d : Option Addr) (pn : List (Addr × Obj)), Zc cls d oe → (∃ vs, oe.data = .fields vs) → PSs (X.suite a ((a, oe) :: pn)) (b₀ :: suite) (ts a cls d)) :
    PS X (.Try body [.ExceptHandler (some (.Name x np)) (some n) (b₀ :: suite) pos'] [] [] pos) (fun D σ H => tb (wKeep X.K c i ts Wout D) D σ H) := by
  refine ⟨fun pins s σ H D I h => ?_⟩
  have ok := I.ok
  have hfr : X.A.frames = some (X.env :: X.outer) := by rw [ok.frames, hs]
  refine wpAny_Try_except ?_
  refine wpAny_mono ((hb (wKeep X.K c i ts Wout D) (X.pn ++ pins) (fun e s₁ => wpAny (model X.prog X.w) X.A (noteFrame e X.env) (fun _ s₂ => wpAny (model X.prog X.w) X.A (setFlight e none) (fun _ s₃ =>
    wpAny (model X.prog X.w) X.A (handleBy e X.env [.ExceptHandler (some (.Name x np)) (some n) (b₀ :: suite) pos']) (SP X pins D) X.xe s₃) X.xe s₂) X.xe s₁) (fun u s' xx => ?_) PassesOwn.looking).run [] s σ H D (I.toTry _) h) (fun f s1 hsp => ?_) (fun e s1 he => he)
  · obtain ⟨a, B, sI, pins', σ', H', cls, d, rfl, J', nb, up, sky, na, os, ag, b, hb1, hyes, hno⟩ := xx
    have J : Inv X pins σ' H' sI := J'.ofTry ok
    have sky' : Sky B (X.env :: X.outer) a (Zc cls d) X.env.locals s'.heap := by rw [← hs]; exact sky
    show wpAny (model X.prog X.w) X.A (noteFrame (.ref a) X.env) _ _ _
    refine Sky.land Zc.steady hfr hf sky' fun h3 fl3 up3 => ?_
    have J3 : Inv X pins σ' H' { s' with heap := h3 } := J.landed nb fl3.1 (up.trans up3) os ag
    obtain ⟨oe3, vs3, he3, hz3, hd3⟩ := fl3.there
    have nfr : a ∉ frs (X.env :: X.outer) := fun hm => by
      obtain ⟨_, o', e', hnf⟩ := fl3.2.2.1.mem hm
      rw [he3] at e'; cases e'
      exact hnf _ hd3
    have nL : a ≠ X.env.locals := fun z => nfr (List.mem_filterMap.mpr ⟨X.env, List.mem_cons_self, by rw [hf, z]⟩)
    have nF : a ∉ X.fs := fun hm => by
      obtain ⟨e, he, q⟩ := List.mem_filterMap.mp hm
      exact nfr (List.mem_filterMap.mpr ⟨e, List.mem_cons_of_mem _ he, q⟩)
    have nI : sI.heap.get? a = none := by
      cases q : sI.heap.get? a with
      | none => rfl
      | some o =>
        have z := nb a o q (by rw [hs]; exact nfr)
        rw [fl3.2.1] at z
        cases z
    have S3 := J3.suite he3 hd3 na nL nF
    refine wpAny_handleBy_cons (codeAny_handlers_test ?_) (by intro q; cases q)
    have LT : PySem.W.Looks (model X.prog X.w) h3 (typeOf (.ref a)) cls := fun A Q E s k q => wpAny_typeOf_ref (k _ _ he3) (by rw [hz3.1]; exact q)
    have LM := PySem.W.exm_one (M := model X.prog X.w) (J3.kIn) LT hb1
    have test : ∀ {Q : Value → Shared → Prop} {E : Value → Shared → Prop}, Q c { s' with heap := h3 } → wpAny (model X.prog X.w) (X.A.mark (some (.ref a))) (eval (.Name x np) X.env) Q E { s' with heap := h3 } := fun {Q E} q => by
      obtain ⟨hg, hdbg, hm | ⟨hm, hv, hnn⟩⟩ := hc
      · exact ld_glob (X := X.suite a ((a, oe3) :: (X.pn ++ pins))) S3 hg hm q hdbg
      · exact ld_blt (X := X.suite a ((a, oe3) :: (X.pn ++ pins))) S3 hg hm hv q hnn hdbg
    refine test (LM.here ?_)
    cases b with
    | true =>
      refine codeAny_handlers_suite_as ?_
      refine HandSPX.lands_againZ fl3 fun h4 fl4 up4 => ?_
      have J4 : Inv X pins σ' H' { s' with heap := h4 } := J.landed nb fl4.1 ((up.trans up3).trans up4) os ag
      obtain ⟨oe4, vs4, he4, hz4, hd4⟩ := fl4.there
      have S4 := J4.suite he4 hd4 na nL nF
      refine store_ok (X := X.suite a ((a, oe4) :: (X.pn ++ pins))) (v := .ref a) S4 hN hi (.inl hln) rfl (fun s5 S5 => ?_) (.inr hln)
      refine wpAny_mono ((hsu a oe4 cls d (X.pn ++ pins) hz4 ⟨_, hd4⟩).run [] s5 _ H' _ S5 (hyes rfl a na)) (fun f s6 hsp => ?_) (fun _ _ z => False.elim z)
      cases f with
      | next =>
        obtain ⟨σ6, H6, S6, q6⟩ := hsp
        obtain ⟨g6, n6, _⟩ := S6.pin (a, oe4) (List.mem_append_left _ List.mem_cons_self)
        have T6 : Inv X pins σ6 (upd H6 a (exk a cls d)) s6 := Inv.track (S6.unsuite ok) n6
          (fun ob e => by
            refine Classical.byContradiction fun hx => ?_
            obtain ⟨o', e'⟩ := J.base.there a ob e hx
            rw [nI] at e'
            cases e')
          nL (fun y c' e z => by
            obtain ⟨v, hv⟩ := J.cell y c' e
            obtain ⟨o', e', _⟩ := hv
            rw [z, nI] at e'
            cases e')
          (fun p hp z => by
            have q := (J.pin p hp).1
            rw [z, nI] at q
            cases q)
          (exk_ok g6 hz4 hd4)
        exact gone_ok T6 hN hi hln fun s7 J7 => ⟨_, _, J7, q6 n6⟩
      | brk =>
        obtain ⟨_, _, _, q6⟩ := hsp
        exact False.elim q6
      | cont =>
        obtain ⟨_, _, _, q6⟩ := hsp
        exact False.elim q6
      | ret u =>
        obtain ⟨_, _, _, _, _, q6⟩ := hsp
        exact False.elim q6
    | false =>
      show wpAny _ X.A (handleBy (.ref a) X.env []) _ _ _
      refine wpAny_handleBy_nil ?_
      obtain ⟨k1, k2, k3, oe, vs, T, oT, ts', he, hz, hd, h1, hr⟩ := id fl3
      unfold PySem.passOn
      refine wpAny_bind (wpAny_field he hd h1 ?_)
      rw [if_neg (show ¬ ((Value.ref T == Value.none) = true) from by simp)]
      have fin : wpAny (model X.prog X.w) X.A (setFlight (.ref a) X.env.frame) (fun _ s4 => wpAny (model X.prog X.w) X.A (throw (.ref a) : Sem Flow) (SP X pins D) X.xe s4) X.xe { s' with heap := h3 } := by
        rw [hf]
        refine HandSPX.setFlight_upZ fl3 fun h4 hh4 up4 => wpAny_throw (tk _ _ ?_)
        exact ⟨a, B, sI, pins, σ', H', cls, d, rfl, J, nb, (up.trans up3).trans up4, .inr (.inr (by rw [hs]; exact hh4)), na, os, ag, hno rfl⟩
      first
        | exact wpAny_bind (wpAny_pure (wpAny_bind fin))
        | exact wpAny_bind fin
  · cases f with
    | next =>
      obtain ⟨σ', H', J', q⟩ := hsp
      exact wpAny_execs_nil ⟨σ', H', J'.ofTry ok, q⟩
    | brk =>
      obtain ⟨σ', H', J', q⟩ := hsp
      exact ⟨σ', H', J'.ofTry ok, q⟩
    | cont =>
      obtain ⟨σ', H', J', q⟩ := hsp
      exact ⟨σ', H', J'.ofTry ok, q⟩
    | ret u =>
      obtain ⟨v, σ', H', J', r, q⟩ := hsp
      exact ⟨v, σ', H', J'.ofTry ok, r, q⟩
end
/-- what is known of a kept exception -/
def Kept (K : PySem.W.Frag) (H : Hp) (a D : Addr) (d : Option Addr) : Prop := H a = some (exk a (.ref D) d) ∧ (d = none ∨ ∃ dd fs, d = some dd ∧ H dd = some (.xd fs))
theorem Kept.inst {X : Cx} {pins : List (Addr × Obj)} {σ : L2.St} {H : Hp} {s : Shared} {a D : Addr} {d : Option Addr} (I : Inv X pins σ H s) (k : Kept X.K H a D d) : ∃ oe od, PySem.W.InstAt s.heap a oe D od := by
  obtain ⟨ha, hd⟩ := k
  obtain ⟨oe, vs, hget, hz, hv⟩ := exk_at I.hok ha
  rcases hd with rfl | ⟨dd, fs, rfl, hdd⟩
  · exact ⟨oe, none, hget, hz.1, by unfold PySem.W.notCls; rw [hv] <;> rfl, by rw [hz.2]; trivial⟩
  · obtain ⟨mA, hns, _⟩ : ObjOk X.prog X.w H s.heap dd (.xd fs) := I.hok dd _ hdd
    obtain ⟨od, ho, _⟩ := lookIn_ns hns
    exact ⟨oe, some od, hget, hz.1, by unfold PySem.W.notCls; rw [hv] <;> rfl, by rw [hz.2]; exact ho⟩
/-- isinstance(x, c), x a kept exception or None -/
def rIsKp (K : PySem.W.Frag) : List V → Hp → VK → Prop := fun xs H Q =>
  (∃ (a D : Addr) (d : Option Addr) (c : V) (cv : Value) (b : Bool), ExF K D ∧ Kept K H a D d ∧ xs = [.ref a, c] ∧ (∀ u, RelV c u → u = cv) ∧ PySem.W.kitOne K (.ref D) cv = some b ∧ Q (.bl b) H)
theorem call_isKp {X : Cx} (K : PySem.W.Frag) (hK : X.K = K := by rfl) : CallR X (.builtin "isinstance") (rIsKp K) := by
  subst hK
  intro pins s σ H xs us Q I r h
  obtain ⟨a, D, d, c, cv, b, F, hk, rfl, hcv, e, q⟩ := h
  obtain _ | ⟨rx, rr⟩ := r
  obtain _ | ⟨rt, rr⟩ := rr
  cases rr
  cases rx
  have ec := hcv _ rt
  subst ec
  have hcl : (PySem.W.clsIn X.K D).isSome = true := F.cl
  obtain ⟨oe, od, J⟩ := hk.inst I
  exact PySem.W.kia_one (PySem.W.kitx_exc hcl F.ga F.gg F.be F.oc F.og F.ot F.om) I.kIn J e (fun z => nomatch z) fun tk => ⟨.bl b, H, I.kept (t' := tk) fun _ _ z => z, rfl, q⟩
theorem w_isKp {K : PySem.W.Frag} {H : Hp} {Q : VK} {a D E : Addr} {d : Option Addr} {b : Bool} (F : ExF K D) (G : ExF K E) (hs : PySem.W.subIn K (.ref D) (.ref E) = some b) (hk : Kept K H a D d) (h : Q (.bl b) H) : rIsKp K [.ref a, .ref E] H Q :=
  ⟨a, D, d, .ref E, .ref E, b, F, hk, rfl, fun _ r => r, F.kit G hs, h⟩
theorem w_isKpV {K : PySem.W.Frag} {H : Hp} {Q : VK} {a D : Addr} {d : Option Addr} (F : ExF K D) (hk : Kept K H a D d) (h : Q (.bl true) H) : rIsKp K [.ref a, .ty "ValueError"] H Q :=
  ⟨a, D, d, .ty "ValueError", .type "ValueError", true, F, hk, rfl, fun _ r => r, F.kitV, h⟩
theorem Kept.same {K : PySem.W.Frag} {H H' : Hp} {a D : Addr} {d : Option Addr} (k : Kept K H a D d) (e : Same H H') : Kept K H' a D d :=
  ⟨e _ _ k.1, k.2.imp_right fun ⟨dd, fs, h1, h2⟩ => ⟨dd, fs, h1, e _ _ h2⟩⟩
/-- found.f -/
def tXk (K : PySem.W.Frag) (f : Str) (te : TE) : TE := fun σ H Q => te σ H fun x H1 => ∃ (a C dd : Addr) (fs : List (Str × V)) (v : V), x = .ref a ∧ XfC K C ∧ PySem.W.findIn K (.ref C) f = some none ∧ H1 a = some (exk a (.ref C) (some dd)) ∧ H1 dd = some (.xd fs) ∧ fs.lookup f = some v ∧ Q v H1
theorem pe_xk {X : Cx} {e : Expr} {te : TE} {pos : Pos} {f : Str} (K : PySem.W.Frag) (he : PE X e te) (hb : attributeBase e f X.env (eval e X.env) = eval e X.env := by rfl) (hK : X.K = K := by rfl) : PE X (.Attribute e f pos) (tXk K f te) := by
  subst hK
  refine ⟨fun pins s σ H Q I h => ?_⟩
  refine attr_of hb (thn (he.run pins s σ H _ I h) fun u s1 hh => ?_)
  obtain ⟨x, H1, I1, rx, a, C, dd, fs, v, ex, T, hno, ha, ea, l, q⟩ := hh
  subst ex
  obtain rfl : u = Value.ref a := rx
  obtain ⟨oe, vs, hget, hz, hv⟩ := exk_at I1.hok ha
  have hx : ObjOk X.prog X.w H1 s1.heap dd (.xd fs) := I1.hok dd _ ea
  obtain ⟨mA, hns, hr⟩ := hx
  obtain ⟨od, ho, hl⟩ := lookIn_ns hns
  obtain ⟨u, hu, ru⟩ := RelO.some_of (v := v) (o := mA f) (by rw [← l]; exact hr f)
  have J : PySem.W.InstAt s1.heap a oe C (some od) := ⟨hget, hz.1, by unfold PySem.W.notCls; rw [hv] <;> rfl, by rw [hz.2]; exact ho⟩
  exact HandSPX.exc_get I1.kIn J T.ga T.gg T.exC (PySem.W.findObj_own T.hdC hno rfl (by rw [hl, hu])) (handed_of ru) ⟨v, H1, I1.tok _, ru, q⟩
theorem w_xk {K : PySem.W.Frag} {σ : L2.St} {H : Hp} {Q : VK} {f : Str} {te : TE} (h : te σ H fun x H1 => ∃ (a C dd : Addr) (fs : List (Str × V)) (v : V), x = .ref a ∧ XfC K C ∧ PySem.W.findIn K (.ref C) f = some none ∧ H1 a = some (exk a (.ref C) (some dd)) ∧ H1 dd = some (.xd fs) ∧ fs.lookup f = some v ∧ Q v H1) : tXk K f te σ H Q := h
/-! ### objects whose __init__ may raise -/
theorem HasFn.mkX {P : Program} {w : World} {K : PySem.W.Frag} {mg : Str → Option Value} {base : Heap} {x qual : Str} {ps N : List Str} {sp : Sp} {k : Nat} {st : Stmt} {f : Addr} {fd : FuncData} (F : Fun K x qual st f fd) (b : Binds K fd ps []) (S : FnScope N ps (defScope st)) (len : ∀ vs H Q E, sp vs H Q E → vs.length = ps.length)
    (hbody : ∀ (cdv : Value) (A : Around) (outer : List Env) (s : Shared) (H : Hp) (vs : List V) (Q : VK) (E : XK), Room k (A.deeper (envOfC qual (defScope st) s.heap.objs.size f cdv)) → sp vs H Q E →
      ∃ t, PSs (cxOf (L2.CX P w) P w K mg base N qual (defScope st) f cdv A outer s H E) (defBody st) t ∧ t { nx := fun _ H' => Q .non H', rt := Q } (start N vs) H) : HasFn P w K mg base (L2.CX P w) (k + 1) f ps sp :=
  ⟨fd, F.okX S len hbody, b⟩
section
variable {X : Cx} {k : Nat} {ps : List Str} {sp : Sp} {x : Str} {p pos : Pos} {e : Expr} {es : List Expr} {t : TA} {C : Addr} {E : XK}
theorem pe_mkX (tk : Takes X (fun cls d _ H => E cls d H)) (h : HasMk X.prog X.w X.K X.mg X.base (L2.CX X.prog X.w) k x C ps sp) (hr : Room (k + 1) X.A) (hg : Gl X x) (ha : PA X (e :: es) t) (hdb : (x == ("__debug__" : Str)) = false := by decide) (he : starEach (e :: es) X.env = (false, eval e X.env) :: starEach es X.env := by rfl) (hpl : (backTo pos (starEach es X.env)).any (·.1) = false := by rfl) :
    PE X (.Call (.Name x p) (e :: es) [] pos) (tMake C sp [] E t) := by
  obtain ⟨f, fd, F, M, g, b⟩ := h.ex
  exact pe_make M F hr hg g b .nil (passes_call tk fun _ _ _ _ h => h) ha hdb he hpl
theorem pe_mkL (h : HasMk X.prog X.w X.K X.mg X.base (L2.CX X.prog X.w) k x C ps sp) (hr : Room (k + 1) X.A) (hg : Gl X x) (ha : PA X (e :: es) t) (hdb : (x == ("__debug__" : Str)) = false := by decide) (he : starEach (e :: es) X.env = (false, eval e X.env) :: starEach es X.env := by rfl) (hpl : (backTo pos (starEach es X.env)).any (·.1) = false := by rfl) :
    PE X (.Call (.Name x p) (e :: es) [] pos) (tMake C sp [] E0 t) := by
  obtain ⟨f, fd, F, M, g, b⟩ := h.ex
  exact pe_make M F hr hg g b .nil passL ha hdb he hpl
end
/-- X(), X an own exception class without own __init__ -/
theorem pmk_own0 {X : Cx} {C : Addr} {bmB : List Value} {B newId initId : String} {x : Str} {p pos : Pos} (F : ExcBaseFacts B newId initId bmB) (q : PySem.W.excIn X.K C bmB newId = true) (gC : X.mg x = some (.ref C)) (kC : PySem.W.keepIn X.K (.ref C) = true) (r : Raises X (.ref C)) (hg : Gl X x)
    (hdb : (x == ("__debug__" : Str)) = false := by decide) : PMk X (.Call (.Name x p) [] [] pos) (fun _ H Q => Q (.ref C) none H) := by
  intro pins s σ H Q I h
  refine wpAny_Call_Name_kw (ld_glob I hg gC ?_ hdb)
  refine PySem.W.callWith_K0 I.kIn kC ?_
  obtain ⟨bm, N, nm, qn, bs, hdct, sn, sub, ab, col, dd, k0, k1, k2, k3, k5, mN, hC, hN, hni, T⟩ := exc_obj I.kIn q
  refine wpAny_call_exc_subT F T hC hN hni (fun h1 e hm => ?_) (by first | exact Nat.zero_le _ | decide)
  exact mk_of I hm r h (I.hok.gone hm.new)
/-- what is never reached -/
theorem pe_never {X : Cx} {e : Expr} : PE X e (fun _ _ _ => False) := ⟨fun _ _ _ _ _ _ h => h.elim⟩

/-! ### C(..) inside try, __init__ may raise -/
section
variable {X : Cx} {CX : CXT} {k : Nat} {f C : Addr} {fd : FuncData} {ps : List Str} {sp : Sp} {E : L2.St → XK} {x : Str} {p pos : Pos} {e : Expr} {es : List Expr} {t : TA}
def tMakeS (C : Addr) (sp : Sp) (E : L2.St → XK) (t : TA) : TE := fun σ H Q => t σ H fun vs H1 => ∀ x dx, H1 x = none → H1 dx = none → dx ≠ x →
  sp (.ref x :: vs) (upd (upd H1 dx (.own x)) x (.ins C dx [])) (fun v H2 => v = .non ∧ Q (.ref x) H2) (E σ)
theorem run_makeS {pins : List (Addr × Obj)} {σ : L2.St} {H : Hp} {s : Shared} {Q : VK} {us : List Value} {vs : List V} (M : Mk X.K C f) (F : FnOk X.prog X.w X.K X.mg X.base CX k f fd ps sp) (hr : Room (k + 1) X.A) (hb : Binds X.K fd ps [])
    (hx : PassesAt CX X σ (E σ)) (I : Inv X pins σ H s) (r : Vals vs us)
    (h : ∀ x dx, H x = none → H dx = none → dx ≠ x → sp (.ref x :: vs) (upd (upd H dx (.own x)) x (.ins C dx [])) (fun v H2 => v = .non ∧ Q (.ref x) H2) (E σ)) :
    wpAny (model X.prog X.w) X.A (call (.ref C) us) (EP X pins σ Q) X.xe s := by
  have hq := h (s.heap.objs.size + 1) s.heap.objs.size (I.hok.fresh (Nat.le_succ _)) (I.hok.fresh (Nat.le_refl _)) (Nat.ne_of_lt (Nat.lt_succ_self _))
  have I2 := Inv.made (C := C) I
  have r2 : Vals (V.ref (s.heap.objs.size + 1) :: vs) (Value.ref (s.heap.objs.size + 1) :: us) := .cons rfl r
  have hl : (Value.ref (s.heap.objs.size + 1) :: us ++ []).length = ps.length := by
    have e := r2.length
    rw [F.len _ _ _ _ hq] at e
    rw [List.append_nil]
    exact e.symm
  have bb := hb _ (Value.ref (s.heap.objs.size + 1) :: us) I2.kIn hl
  rw [List.append_nil] at bb
  refine wpAny_call (make_map (f := f) I.kIn M.makes M.init (beq_iff_eq.mp M.fn) (codeAny_mono (F.run _ X.stack _ _ ⟨Value.ref (s.heap.objs.size + 1) :: us, []⟩ (Value.ref (s.heap.objs.size + 1) :: us) _ _ (E σ) (hr.make C us [])
    (I2.env0.make C us []) bb r2 hq) fun r s' hq' => ?_))
  cases r with
  | error e => exact hx pins _ _ e s' I2 hq'
  | ok fl =>
    cases fl with
    | ret u =>
      obtain ⟨v, H', I3, rv, ev, q3⟩ := I2.after hq'
      subst ev
      exact ⟨rv, ⟨V.ref (s.heap.objs.size + 1), H', I3, rfl, q3⟩⟩
    | next => exact False.elim hq'
    | brk => exact False.elim hq'
    | cont => exact False.elim hq'
theorem pe_mkS {W : WX} (tk : Takes X W) (h : HasMk X.prog X.w X.K X.mg X.base (L2.CX X.prog X.w) k x C ps sp) (hr : Room (k + 1) X.A) (hg : Gl X x) (ha : PA X (e :: es) t) (hdb : (x == ("__debug__" : Str)) = false := by decide) (he : starEach (e :: es) X.env = (false, eval e X.env) :: starEach es X.env := by rfl) (hpl : (backTo pos (starEach es X.env)).any (·.1) = false := by rfl) :
    PE X (.Call (.Name x p) (e :: es) [] pos) (tMakeS C sp (WE W) t) := by
  obtain ⟨f, fd, F, M, g, b⟩ := h.ex
  refine ⟨fun pins s σ H Q I h => ?_⟩
  refine wpAny_Call_Name_kw (ld_glob I hg g ?_ hdb)
  refine PySem.W.callWith_K (h₀ := X.base) I.ok.mod.kin M.kp (thn (ha.run pos pins s σ H _ I h) fun us s1 ⟨vs, H1, I1, r, q⟩ => ⟨I1.kIn, ?_⟩) he hpl
  exact run_makeS M F hr b (passAt tk σ) I1 r q
end
theorem w_makeS {σ : L2.St} {H : Hp} {Q : VK} {C : Addr} {sp : Sp} {E : L2.St → XK} {t : TA} (h : t σ H fun vs H1 => ∀ x dx, New H1 x → New H1 dx → dx ≠ x → sp (.ref x :: vs) (upd (upd H1 dx (.own x)) x (.ins C dx [])) (fun v H2 => v = .non ∧ Q (.ref x) H2) (E σ)) : tMakeS C sp E t σ H Q := h

/-! ### try: body, except x as n: suite, except y: suite2 -/
def wTwo (K : PySem.W.Frag) (c c2 : Value) (i : Nat) (ts ts2 : Addr → Value → Option Addr → TS) (D : Ends) : WX := fun cls d σ H =>
  ∃ b, PySem.W.exmOne K cls c = some b ∧ (b = true → ∀ a, H a = none → ts a cls d { nx := fun σ' H' => D.nx (σ'.set i none) H', rt := fun _ _ => False, bk := fun _ _ => False, ct := fun _ _ => False } (σ.set i (some (.ref a))) H) ∧
    (b = false → PySem.W.exmOne K cls c2 = some true ∧ ∀ a, H a = none → ts2 a cls d { nx := D.nx, rt := fun _ _ => False, bk := fun _ _ => False, ct := fun _ _ => False } σ H)
section
variable {X : Cx} {x n x2 : Str} {c c2 : Value} {i : Nat} {body suite suite2 : List Stmt} {b₀ b₂ : Stmt} {np pos pos' np2 pos2 : Pos} {tb : WX → TS} {ts ts2 : Addr → Value → Option Addr → TS}
theorem ps_try_two (hs : X.stack = X.env :: X.outer) (hf : X.env.frame = some X.env.locals) (hN : X.N.Nodup) (hi : X.N[i]? = some n) (hln : X.env.kindOf n = some .local) (hc : Names X x c) (hc2 : Names X x2 c2)
    (hb : ∀ (W : WX) (pn : List (Addr × Obj)) (xe : Value → Shared → Prop), Takes (X.tr pn xe) W → PassesOwn (model X.prog X.w) X.A X.env xe → PSs (X.tr pn xe) body (tb W))
    (hsu : ∀ (a : Addr) (oe : Obj) (cls : Value) (d : Option Addr) (pn : List (Addr × Obj)), Zc cls d oe → (∃ vs, oe.data = .fields vs) → PSs (X.suite a ((a, oe) :: pn)) (b₀ :: suite) (ts a cls d))
    (hsu2 : ∀ (a : Addr) (oe : Obj) (cls : Value) (d : Option Addr) (pn : List (Addr × Obj)), Zc cls d oe → (∃ vs, oe.data = .fields vs) → PSs (X.suite a ((a, oe) :: pn)) (b₂ :: suite2) (ts2 a cls d)) :
    PS X (.Try body [.ExceptHandler (some (.Name x np)) (some n) (b₀ :: suite) pos', .ExceptHandler (some (.Name x2 np2)) none (b₂ :: suite2) pos2] [] [] pos) (fun D σ H => tb (wTwo X.K c c2 i ts ts2 D) D σ H) := by
  refine ⟨fun pins s σ H D I h => ?_⟩
  have ok := I.ok
  have hfr : X.A.frames = some (X.env :: X.outer) := by rw [ok.frames, hs]
  refine wpAny_Try_except ?_
  refine wpAny_mono ((hb (wTwo X.K c c2 i ts ts2 D) (X.pn ++ pins) (fun e s₁ => wpAny (model X.prog X.w) X.A (noteFrame e X.env) (fun _ s₂ => wpAny (model X.prog X.w) X.A (setFlight e none) (fun _ s₃ =>
    wpAny (model X.prog X.w) X.A (handleBy e X.env [.ExceptHandler (some (.Name x np)) (some n) (b₀ :: suite) pos', .ExceptHandler (some (.Name x2 np2)) none (b₂ :: suite2) pos2]) (SP X pins D) X.xe s₃) X.xe s₂) X.xe s₁) (fun u s' xx => ?_) PassesOwn.looking).run [] s σ H D (I.toTry _) h) (fun f s1 hsp => ?_) (fun e s1 he => he)
  · obtain ⟨a, B, sI, pins', σ', H', cls, d, rfl, J', nb, up, sky, na, os, ag, b, hb1, hyes, hno⟩ := xx
    have J : Inv X pins σ' H' sI := J'.ofTry ok
    have sky' : Sky B (X.env :: X.outer) a (Zc cls d) X.env.locals s'.heap := by rw [← hs]; exact sky
    show wpAny (model X.prog X.w) X.A (noteFrame (.ref a) X.env) _ _ _
    refine Sky.land Zc.steady hfr hf sky' fun h3 fl3 up3 => ?_
    have J3 : Inv X pins σ' H' { s' with heap := h3 } := J.landed nb fl3.1 (up.trans up3) os ag
    obtain ⟨oe3, vs3, he3, hz3, hd3⟩ := fl3.there
    have nfr : a ∉ frs (X.env :: X.outer) := fun hm => by
      obtain ⟨_, o', e', hnf⟩ := fl3.2.2.1.mem hm
      rw [he3] at e'; cases e'
      exact hnf _ hd3
    have nL : a ≠ X.env.locals := fun z => nfr (List.mem_filterMap.mpr ⟨X.env, List.mem_cons_self, by rw [hf, z]⟩)
    have nF : a ∉ X.fs := fun hm => by
      obtain ⟨e, he, q⟩ := List.mem_filterMap.mp hm
      exact nfr (List.mem_filterMap.mpr ⟨e, List.mem_cons_of_mem _ he, q⟩)
    have S3 := J3.suite he3 hd3 na nL nF
    have LT : PySem.W.Looks (model X.prog X.w) h3 (typeOf (.ref a)) cls := fun A Q E s k q => wpAny_typeOf_ref (k _ _ he3) (by rw [hz3.1]; exact q)
    have test : ∀ {y : Str} {cv : Value} {yp : Pos} {Q : Value → Shared → Prop} {E : Value → Shared → Prop}, Names X y cv → Q cv { s' with heap := h3 } → wpAny (model X.prog X.w) (X.A.mark (some (.ref a))) (eval (.Name y yp) X.env) Q E { s' with heap := h3 } := fun {y cv yp Q E} hcy q => by
      obtain ⟨hg, hdbg, hm | ⟨hm, hv, hnn⟩⟩ := hcy
      · exact ld_glob (X := X.suite a ((a, oe3) :: (X.pn ++ pins))) S3 hg hm q hdbg
      · exact ld_blt (X := X.suite a ((a, oe3) :: (X.pn ++ pins))) S3 hg hm hv q hnn hdbg
    refine wpAny_handleBy_cons (codeAny_handlers_test ?_) (by intro q; cases q)
    have LM := PySem.W.exm_one (M := model X.prog X.w) (J3.kIn) LT hb1
    refine test hc (LM.here ?_)
    cases b with
    | true =>
      refine codeAny_handlers_suite_as ?_
      refine HandSPX.lands_againZ fl3 fun h4 fl4 up4 => ?_
      have J4 : Inv X pins σ' H' { s' with heap := h4 } := J.landed nb fl4.1 ((up.trans up3).trans up4) os ag
      obtain ⟨oe4, vs4, he4, hz4, hd4⟩ := fl4.there
      have S4 := J4.suite he4 hd4 na nL nF
      refine store_ok (X := X.suite a ((a, oe4) :: (X.pn ++ pins))) (v := .ref a) S4 hN hi (.inl hln) rfl (fun s5 S5 => ?_) (.inr hln)
      refine wpAny_mono ((hsu a oe4 cls d (X.pn ++ pins) hz4 ⟨_, hd4⟩).run [] s5 _ H' _ S5 (hyes rfl a na)) (fun f s6 hsp => ?_) (fun _ _ z => False.elim z)
      cases f with
      | next =>
        obtain ⟨σ6, H6, S6, q6⟩ := hsp
        exact gone_ok (S6.unsuite ok) hN hi hln fun s7 J7 => ⟨_, _, J7, q6⟩
      | brk => exact False.elim hsp.choose_spec.choose_spec.2
      | cont => exact False.elim hsp.choose_spec.choose_spec.2
      | ret u =>
        obtain ⟨_, _, _, _, _, q6⟩ := hsp
        exact False.elim q6
    | false =>
      obtain ⟨hb2, hyes2⟩ := hno rfl
      show wpAny _ X.A (handleBy (.ref a) X.env _) _ _ _
      refine wpAny_handleBy_cons (codeAny_handlers_test ?_) (by intro q; cases q)
      have LM2 := PySem.W.exm_one (M := model X.prog X.w) (J3.kIn) LT hb2
      refine test hc2 (LM2.here ?_)
      refine codeAny_handlers_suite ?_
      refine HandSPX.lands_againZ fl3 fun h4 fl4 up4 => ?_
      have J4 : Inv X pins σ' H' { s' with heap := h4 } := J.landed nb fl4.1 ((up.trans up3).trans up4) os ag
      obtain ⟨oe4, vs4, he4, hz4, hd4⟩ := fl4.there
      have S4 := J4.suite he4 hd4 na nL nF
      refine wpAny_mono ((hsu2 a oe4 cls d (X.pn ++ pins) hz4 ⟨_, hd4⟩).run [] _ _ H' _ S4 (hyes2 a na)) (fun f s6 hsp => ?_) (fun _ _ z => False.elim z)
      cases f with
      | next =>
        obtain ⟨σ6, H6, S6, q6⟩ := hsp
        exact ⟨_, _, S6.unsuite ok, q6⟩
      | brk => exact False.elim hsp.choose_spec.choose_spec.2
      | cont => exact False.elim hsp.choose_spec.choose_spec.2
      | ret u =>
        obtain ⟨_, _, _, _, _, q6⟩ := hsp
        exact False.elim q6
  · cases f with
    | next =>
      obtain ⟨σ', H', J', q⟩ := hsp
      exact wpAny_execs_nil ⟨σ', H', J'.ofTry ok, q⟩
    | brk =>
      obtain ⟨σ', H', J', q⟩ := hsp
      exact ⟨σ', H', J'.ofTry ok, q⟩
    | cont =>
      obtain ⟨σ', H', J', q⟩ := hsp
      exact ⟨σ', H', J'.ofTry ok, q⟩
    | ret u =>
      obtain ⟨v, σ', H', J', r, q⟩ := hsp
      exact ⟨v, σ', H', J'.ofTry ok, r, q⟩
end

/-! ### steps of the reading -/
local macro_rules | `(tactic| walk_at "len") => `(tactic| (intro vs H Q E h; first | (obtain ⟨e, _⟩ := h; subst e; rfl) | (obtain ⟨_, e, _⟩ := h; subst e; rfl) | (obtain ⟨_, _, e, _⟩ := h; subst e; rfl) | (obtain ⟨_, _, _, e, _⟩ := h; subst e; rfl) | (obtain ⟨_, _, _, _, e, _⟩ := h; subst e; rfl) | (obtain ⟨_, _, _, _, _, e, _⟩ := h; subst e; rfl) | (obtain ⟨_, _, _, _, _, _, e, _⟩ := h; subst e; rfl) | (obtain ⟨_, _, _, _, _, _, _, e, _⟩ := h; subst e; rfl) | (obtain ⟨_, _, _, _, _, _, _, _, e, _⟩ := h; subst e; rfl) | (obtain ⟨_, _, _, _, _, _, _, _, _, e, _⟩ := h; subst e; rfl) | (obtain ⟨_, _, _, _, _, _, _, _, _, _, e, _⟩ := h; subst e; rfl) | (obtain ⟨_, _, _, _, _, _, _, _, _, _, _, e, _⟩ := h; subst e; rfl) | (obtain ⟨_, _, _, _, _, _, _, _, _, _, _, _, e, _⟩ := h; subst e; rfl) | (obtain ⟨_, _, _, _, _, _, _, _, _, _, _, _, _, e, _⟩ := h; subst e; rfl)))
/-- p ≠ q -/
local macro_rules | `(tactic| walk_at "ne1") => `(tactic| (refine ne_new (H := ?H) (o := ?o) ?a ?b; (case b => assumption); (case a => walk_at "hp")))
local macro_rules | `(tactic| walk_at "ne") => `(tactic| first
  | assumption | (apply Ne.symm; assumption) | walk_at "ne1" | (apply Ne.symm; walk_at "ne1") | fail)
/-- H p = some o -/
local macro_rules | `(tactic| walk_at "hp") => `(tactic| first
  | assumption
  | exact upd_same
  | (refine (upd_ne ?n).trans ?h; (case n => walk_at "ne"); (case h => walk_at "hp"))
  | (refine Same.get (H := ?H) ?s ?h; (case s => assumption); (case h => assumption)) | fail)
local macro_rules | `(tactic| walk_at "sq") => `(tactic| first
  | assumption
  | exact SqL.of (by walk_at "hp") | exact SqT.of (by walk_at "hp")
  | (refine Same.seq (H := ?H) ?s ?h; (case h => assumption); (case s => walk_at "same"))
  | (refine same_read (H := ?H) ?s ?h; (case h => assumption); (case s => walk_at "same")) | fail)
/-- a later new object was free ahead -/
local macro_rules | `(tactic| walk_at "fr") => `(tactic| first | assumption | (refine New.of (H' := ?H) ?n ?s; (case n => assumption); (case s => walk_at "same")) | fail)
/-- what was tracked stays -/
local macro_rules | `(tactic| walk_at "same") => `(tactic| first | assumption | exact Same.refl _ | (refine Same.new ?_ (by assumption); walk_at "same") | (refine Same.mut ?s ?n; (case n => walk_at "fr"); (case s => walk_at "same")) | (refine Same.trans (H1 := ?H1) ?a ?b; (case b => assumption); (case a => walk_at "same")) | fail)
local macro_rules | `(tactic| walk_at "side") => `(tactic| first | decide | omega | (with_reducible assumption) | fail)
local macro_rules | `(tactic| walk_at "at") => `(tactic| first | rfl | assumption | exact atI_nat (by assumption) | fail)
local macro_rules | `(tactic| walk_at "ll") => `(tactic| first | omega | (simp only [List.length_append, List.length_cons, List.length_nil, List.length_map, List.length_range, List.length_set, List.length_replicate]; omega) | (simp only [List.length_append, List.length_cons, List.length_nil, List.length_map, List.length_range, List.length_set, List.length_replicate] at *; omega) | (simp; done) | (simp; omega) | fail)
local macro_rules | `(tactic| walk_at "ix") => `(tactic| first | assumption | (refine ixN_nat ?_; walk_at "ll") | rfl | fail)
local macro_rules | `(tactic| walk_at "szlt") => `(tactic| first | assumption | (refine szlt ?_; walk_at "ll") | fail)
local macro_rules | `(tactic| walk_at "szk") => `(tactic| first | assumption | (refine szlt ?_; omega) | fail)
/-- one step -/
local macro_rules | `(tactic| walk_at "st") => `(tactic| first
  | with_reducible refine w_iT ?_
  | with_reducible refine w_iF ?_
  | with_reducible refine w_iNT ?_
  | with_reducible refine w_iNF ?_
  | with_reducible refine w_iNN ?_
  | with_reducible refine w_seq ?_
  | with_reducible refine w_asg ?_
  | with_reducible refine w_gn ?_
  | with_reducible refine w_c ?_
  | with_reducible refine w_op ?_
  | with_reducible refine w_ret ?_
  | with_reducible refine w_if ?_
  | with_reducible refine w_test ?_
  | with_reducible refine w_rI0 ?_
  | with_reducible refine w_cons ?_
  | with_reducible refine w_nil ?_
  | with_reducible refine w_call ?_
  | with_reducible refine w_cb ?_
  | with_reducible refine w_drop ?_
  | with_reducible refine w_next ?_
  | with_reducible refine w_eqI ?_
  | with_reducible refine w_neI ?_
  | ((with_reducible refine w_var ?_); refine ⟨_, rfl, ?_⟩)
  | ((with_reducible refine w_aug ?_); refine ⟨_, rfl, ?_⟩)
  | with_reducible refine w_eqB ?_
  | with_reducible refine w_neB ?_
  | with_reducible refine w_tB ?_
  | with_reducible refine w_bl ?_
  | with_reducible refine w_and ?_
  | with_reducible refine w_or ?_
  | with_reducible refine w_not ?_
  | with_reducible refine w_andV ?_
  | with_reducible refine w_orV ?_
  | with_reducible refine w_notV ?_
  | with_reducible refine w_ifE ?_
  | with_reducible refine w_un ?_
  | with_reducible refine w_rU ?_
  | with_reducible refine w_ip ?_
  | with_reducible refine w_gc ?_
  | with_reducible refine w_g0 ?_
  | with_reducible refine w_gs ?_
  | with_reducible refine w_tup ?_
  | with_reducible refine w_lst ?_
  | with_reducible refine w_sl ?_
  | with_reducible refine w_np ?_
  | with_reducible refine w_part ?_
  | with_reducible refine w_partI ?_
  | with_reducible refine w_bm ?_
  | with_reducible refine w_bm0 ?_
  | with_reducible refine w_for ?_
  | with_reducible refine w_lc ?_
  | with_reducible refine w_yes ?_
  | with_reducible refine w_make ?_
  | with_reducible refine w_meth ?_
  | with_reducible refine w_sf ?_
  | with_reducible refine w_r3 ?_
  | with_reducible refine w_din ?_
  | with_reducible refine w_dni ?_
  | with_reducible refine w_dg ?_
  | with_reducible refine w_put ?_
  | with_reducible refine w_dn ?_
  | with_reducible refine w_enum ?_
  | with_reducible refine w_iL ?_
  | with_reducible refine w_iTu ?_
  | with_reducible refine w_r1 ?_
  | with_reducible refine w_r2 ?_
  | with_reducible refine w_int1 ?_
  | with_reducible refine w_intb ?_
  | with_reducible refine w_fl ?_
  | with_reducible refine w_retN ?_
  | with_reducible refine w_break ?_
  | with_reducible refine w_cont ?_
  | with_reducible refine w_par ?_
  | with_reducible refine w_par2 ?_
  | with_reducible refine w_eqS ?_
  | with_reducible refine w_neS ?_
  | with_reducible refine w_eqNI ?_
  | with_reducible refine w_eqIN ?_
  | with_reducible refine w_callS ?_
  | with_reducible refine w_ost ?_
  | with_reducible refine w_xf ?_
  | with_reducible refine w_mko ?_
  | with_reducible refine w_makeS ?_
  | ((with_reducible refine w_mod ?s0 ?_); (case s0 => walk_at "side"))
  | ((with_reducible refine w_div ?s0 ?s1 ?_); (case s0 => walk_at "side"); (case s1 => walk_at "side"))
  | ((with_reducible refine w_shr ?s0 ?_); (case s0 => walk_at "side"))
  | ((with_reducible refine w_shl1 ?s0 ?s1 ?_); (case s0 => walk_at "side"); (case s1 => walk_at "side"))
  | ((with_reducible refine w_mul ?s0 ?s1 ?s2 ?s3 ?_); (case s0 => walk_at "side"); (case s1 => walk_at "side"); (case s2 => walk_at "side"); (case s3 => walk_at "side"))
  | ((with_reducible refine w_shl ?s0 ?s1 ?s2 ?s3 ?_); (case s0 => walk_at "side"); (case s1 => walk_at "side"); (case s2 => walk_at "side"); (case s3 => walk_at "side"))
  | ((with_reducible refine w_r1q ?s0 ?s1 ?_); (case s0 => walk_at "side"); (case s1 => walk_at "side"))
  | ((with_reducible refine w_r2q ?s0 ?s1 ?s2 ?s3 ?_); (case s0 => walk_at "side"); (case s1 => walk_at "side"); (case s2 => walk_at "side"); (case s3 => walk_at "side"))
  | ((with_reducible refine w_ixL (xs := ?xs) (v := ?v) ?s0 ?s1 ?_); (case s0 => walk_at "sq"); (case s1 => walk_at "at"))
  | ((with_reducible refine w_ixT (xs := ?xs) (v := ?v) ?s0 ?s1 ?_); (case s0 => walk_at "sq"); (case s1 => walk_at "at"))
  | ((with_reducible refine w_ixl (xs := ?xs) (v := ?v) ?s0 ?s1 ?_); (case s0 => walk_at "sq"); (case s1 => walk_at "at"))
  | ((with_reducible refine w_ixt (xs := ?xs) (v := ?v) ?s0 ?s1 ?_); (case s0 => walk_at "sq"); (case s1 => walk_at "at"))
  | ((with_reducible refine w_lenK (xs := ?xs) ?s0 ?_); (case s0 => walk_at "sq"))
  | ((with_reducible refine w_lenTK (xs := ?xs) ?s0 ?_); (case s0 => walk_at "sq"))
  | ((with_reducible refine w_listK (xs := ?xs) ?s0 ?_); (case s0 => walk_at "sq"))
  | ((with_reducible refine w_len (xs := ?xs) ?s0 ?_); (case s0 => walk_at "sq"))
  | ((with_reducible refine w_lenT (xs := ?xs) ?s0 ?_); (case s0 => walk_at "sq"))
  | ((with_reducible refine w_iLq (xs := ?xs) ?s0 ?_); (case s0 => walk_at "sq"))
  | ((with_reducible refine w_iTq (xs := ?xs) ?s0 ?_); (case s0 => walk_at "sq"))
  | ((with_reducible refine w_tyl (xs := ?xs) ?s0 ?_); (case s0 => walk_at "sq"))
  | ((with_reducible refine w_slL (xs := ?xs) ?s0 ?_); (case s0 => walk_at "sq"))
  | ((with_reducible refine w_gt (xs := ?xs) ?s0 ?s1 ?_); (case s0 => walk_at "sq"); (case s1 => rfl))
  | ((with_reducible refine w_setL (xs := ?xs) (j := ?j) ?s0 ?s1 ?_); (case s0 => walk_at "hp"); (case s1 => walk_at "ix"))
  | ((with_reducible refine w_app (xs := ?xs) ?s0 ?s1 ?_); (case s0 => walk_at "hp"); (case s1 => walk_at "szlt"))
  | ((with_reducible refine w_rev (xs := ?xs) ?s0 ?_); (case s0 => walk_at "hp"))
  | with_reducible refine w_isi kb_ii ?_
  | with_reducible refine w_isi kb_ib ?_
  | with_reducible refine w_isb kb_bb ?_
  | with_reducible refine w_isb kb_bi ?_
  | with_reducible refine w_isn kb_ni ?_
  | with_reducible refine w_isn kb_nb ?_
  | ((with_reducible refine w_isl (xs := ?xs) ?s0 kb_ll ?_); (case s0 => walk_at "hp"))
  | ((with_reducible refine w_isl (xs := ?xs) ?s0 kb_lt ?_); (case s0 => walk_at "hp"))
  | ((with_reducible refine w_ist (xs := ?xs) ?s0 kb_tt ?_); (case s0 => walk_at "hp"))
  | ((with_reducible refine w_ist (xs := ?xs) ?s0 kb_tl ?_); (case s0 => walk_at "hp"))
  | with_reducible refine w_len1 rfl ?_
  | with_reducible refine w_isN ?_
  | with_reducible refine w_2i ?_
  | with_reducible refine w_1i ?_
  | with_reducible refine w_augS ?_
  | ((with_reducible refine w_getL (xs := ?xs) (v := ?v) ?s0 ?s1 ?_); (case s0 => walk_at "sq"); (case s1 => assumption))
  | ((with_reducible refine w_wipe ?s0 ?_); (case s0 => rfl))
  | ((with_reducible refine w_inI (kvs := ?kvs) ?s0 ?_); (case s0 => walk_at "hp"))
  | ((with_reducible refine w_putI (kvs := ?kvs) ?s0 ?s1 ?_); (case s0 => walk_at "hp"); (case s1 => walk_at "szk"))
  | ((with_reducible refine w_ins (xs := ?xs) ?s0 ?s1 ?s2 ?s3 ?_); (case s0 => walk_at "hp"); (case s1 => walk_at "szlt"); (case s2 => walk_at "side"); (case s3 => walk_at "side"))
  | ((with_reducible refine w_pow ?s0 ?_); (case s0 => exact ⟨by decide, by decide, by decide⟩))
  | ((with_reducible refine ifd (fun h => ?c) (fun _ => ?_)); (case c => exfalso; omega))
  | ((with_reducible refine ifd (fun _ => ?_) (fun h => ?c)); (case c => exfalso; omega))
  | ((with_reducible refine ifnd (fun h => ?c) (fun _ => ?_)); (case c => exfalso; omega))
  | ((with_reducible refine ifnd (fun _ => ?_) (fun h => ?c)); (case c => exfalso; omega))
  | fail)
local macro_rules | `(tactic| walk_at "sts") => `(tactic| repeat (walk_at "st"))

def topS (i : Nat) : Stmt := PySem.Challenge.pw_spinfloor_k64_deeds_refused.main.body.getD i (.Pass ⟨0, 0, 0, 0⟩)
abbrev s_BadText___init__ : Stmt := inClass (topS 7) 0
theorem sc_BadText___init__ : FnScope ["self", "at"] ["self", "at"] (defScope s_BadText___init__) := ⟨rfl, rfl, rfl, by decide +kernel, rfl, by decide +kernel, by decide +kernel⟩
abbrev s_Tie___init__ : Stmt := inClass (topS 10) 0
theorem sc_Tie___init__ : FnScope ["self", "one", "two", "strength"] ["self", "one", "two", "strength"] (defScope s_Tie___init__) := ⟨rfl, rfl, rfl, by decide +kernel, rfl, by decide +kernel, by decide +kernel⟩
abbrev s_Pull_wish : Stmt := inClass (topS 11) 0
theorem sc_Pull_wish : FnScope ["self"] ["self"] (defScope s_Pull_wish) := ⟨rfl, rfl, rfl, by decide +kernel, rfl, by decide +kernel, by decide +kernel⟩
abbrev s_Push_wish : Stmt := inClass (topS 12) 0
theorem sc_Push_wish : FnScope ["self"] ["self"] (defScope s_Push_wish) := ⟨rfl, rfl, rfl, by decide +kernel, rfl, by decide +kernel, by decide +kernel⟩
abbrev s_head : Stmt := topS 14
theorem sc_head : FnScope ["ties", "dart"] ["ties", "dart"] (defScope s_head) := ⟨rfl, rfl, rfl, by decide +kernel, rfl, by decide +kernel, by decide +kernel⟩
abbrev s_follower : Stmt := topS 15
theorem sc_follower : FnScope ["ties", "turns", "dart", "place", "row", "number"] ["ties", "turns", "dart"] (defScope s_follower) := ⟨rfl, rfl, rfl, by decide +kernel, rfl, by decide +kernel, by decide +kernel⟩
abbrev s_round_from : Stmt := topS 16
theorem sc_round_from : FnScope ["ties", "turns", "first", "row", "dart"] ["ties", "turns", "first"] (defScope s_round_from) := ⟨rfl, rfl, rfl, by decide +kernel, rfl, by decide +kernel, by decide +kernel⟩
abbrev s_rounds_of : Stmt := topS 17
theorem sc_rounds_of : FnScope ["ties", "turns", "rounds", "seen", "dart", "row", "each"] ["ties", "turns"] (defScope s_rounds_of) := ⟨rfl, rfl, rfl, by decide +kernel, rfl, by decide +kernel, by decide +kernel⟩
abbrev s_sides_of : Stmt := topS 18
theorem sc_sides_of : FnScope ["ties", "rounds", "where", "number", "row", "dart", "i"] ["ties", "rounds"] (defScope s_sides_of) := ⟨rfl, rfl, rfl, by decide +kernel, rfl, by decide +kernel, by decide +kernel⟩
abbrev s_ends_are_places : Stmt := topS 20
theorem sc_ends_are_places : FnScope ["many", "ties", "tie"] ["many", "ties"] (defScope s_ends_are_places) := ⟨rfl, rfl, rfl, by decide +kernel, rfl, by decide +kernel, by decide +kernel⟩
abbrev s_turns_are_right : Stmt := topS 21
theorem sc_turns_are_right : FnScope ["many", "ties", "turns", "place", "own", "i"] ["many", "ties", "turns"] (defScope s_turns_are_right) := ⟨rfl, rfl, rfl, by decide +kernel, rfl, by decide +kernel, by decide +kernel⟩
abbrev s_hangs_together : Stmt := topS 22
theorem sc_hangs_together : FnScope ["many", "ties", "reached", "grew", "tie", "place"] ["many", "ties"] (defScope s_hangs_together) := ⟨rfl, rfl, rfl, by decide +kernel, rfl, by decide +kernel, by decide +kernel⟩
abbrev s_Web___init__ : Stmt := inClass (topS 23) 0
theorem sc_Web___init__ : FnScope ["self", "many", "ties", "turns", "rounds", "row"] ["self", "many", "ties", "turns"] (defScope s_Web___init__) := ⟨rfl, rfl, rfl, by decide +kernel, rfl, by decide +kernel, by decide +kernel⟩
abbrev s_number_of : Stmt := topS 30
theorem sc_number_of : FnScope ["word", "sign"] ["word"] (defScope s_number_of) := ⟨rfl, rfl, rfl, by decide +kernel, rfl, by decide +kernel, by decide +kernel⟩
abbrev s_numbers_of : Stmt := topS 31
theorem sc_numbers_of : FnScope ["words", "found", "word", "number"] ["words"] (defScope s_numbers_of) := ⟨rfl, rfl, rfl, by decide +kernel, rfl, by decide +kernel, by decide +kernel⟩
abbrev s_row_at : Stmt := topS 32
theorem sc_row_at : FnScope ["rows", "k"] ["rows", "k"] (defScope s_row_at) := ⟨rfl, rfl, rfl, by decide +kernel, rfl, by decide +kernel, by decide +kernel⟩
abbrev s_places_told : Stmt := topS 33
theorem sc_places_told : FnScope ["row", "words", "numbers"] ["row"] (defScope s_places_told) := ⟨rfl, rfl, rfl, by decide +kernel, rfl, by decide +kernel, by decide +kernel⟩
abbrev s_tie_told : Stmt := topS 34
theorem sc_tie_told : FnScope ["row", "at", "words", "numbers"] ["row", "at"] (defScope s_tie_told) := ⟨rfl, rfl, rfl, by decide +kernel, rfl, by decide +kernel, by decide +kernel⟩
abbrev s_turns_told : Stmt := topS 35
theorem sc_turns_told : FnScope ["row", "place", "at", "words", "numbers"] ["row", "place", "at"] (defScope s_turns_told) := ⟨rfl, rfl, rfl, by decide +kernel, rfl, by decide +kernel, by decide +kernel⟩
abbrev s_tie_made : Stmt := topS 36
theorem sc_tie_made : FnScope ["told"] ["told"] (defScope s_tie_made) := ⟨rfl, rfl, rfl, by decide +kernel, rfl, by decide +kernel, by decide +kernel⟩
abbrev s_read : Stmt := topS 37
theorem sc_read : FnScope ["text", "rows", "many", "told", "k", "turns", "place", "each"] ["text"] (defScope s_read) := ⟨rfl, rfl, rfl, by decide +kernel, rfl, by decide +kernel, by decide +kernel⟩
abbrev s_written : Stmt := topS 38
theorem sc_written : FnScope ["web", "rows", "tie", "word", "place", "row", "i"] ["web"] (defScope s_written) := ⟨rfl, rfl, rfl, by decide +kernel, rfl, by decide +kernel, by decide +kernel⟩
abbrev s_told_numbers : Stmt := topS 43
theorem sc_told_numbers : FnScope ["words", "word", "sign"] ["words"] (defScope s_told_numbers) := ⟨rfl, rfl, rfl, by decide +kernel, rfl, by decide +kernel, by decide +kernel⟩
abbrev s_other_kind : Stmt := topS 44
theorem sc_other_kind : FnScope ["tie"] ["tie"] (defScope s_other_kind) := ⟨rfl, rfl, rfl, by decide +kernel, rfl, by decide +kernel, by decide +kernel⟩
abbrev s_strung : Stmt := topS 45
theorem sc_strung : FnScope ["web", "word", "numbers", "ties", "old"] ["web", "word", "numbers"] (defScope s_strung) := ⟨rfl, rfl, rfl, by decide +kernel, rfl, by decide +kernel, by decide +kernel⟩
abbrev s_flipped : Stmt := topS 46
theorem sc_flipped : FnScope ["web", "numbers", "ties", "tie"] ["web", "numbers"] (defScope s_flipped) := ⟨rfl, rfl, rfl, by decide +kernel, rfl, by decide +kernel, by decide +kernel⟩
abbrev s_Desk___init__ : Stmt := inClass (topS 47) 0
theorem sc_Desk___init__ : FnScope ["self", "text"] ["self", "text"] (defScope s_Desk___init__) := ⟨rfl, rfl, rfl, by decide +kernel, rfl, by decide +kernel, by decide +kernel⟩
abbrev s_Desk_turn_to : Stmt := inClass (topS 47) 2
theorem sc_Desk_turn_to : FnScope ["self", "ties", "old"] ["self", "ties"] (defScope s_Desk_turn_to) := ⟨rfl, rfl, rfl, by decide +kernel, rfl, by decide +kernel, by decide +kernel⟩
abbrev s_Desk_do : Stmt := inClass (topS 47) 1
theorem sc_Desk_do : FnScope ["self", "row", "words", "numbers"] ["self", "row"] (defScope s_Desk_do) := ⟨rfl, rfl, rfl, by decide +kernel, rfl, by decide +kernel, by decide +kernel⟩
abbrev s_Desk_left : Stmt := inClass (topS 47) 3
theorem sc_Desk_left : FnScope ["self"] ["self"] (defScope s_Desk_left) := ⟨rfl, rfl, rfl, by decide +kernel, rfl, by decide +kernel, by decide +kernel⟩
abbrev s_Desk_text : Stmt := inClass (topS 47) 4
theorem sc_Desk_text : FnScope ["self"] ["self"] (defScope s_Desk_text) := ⟨rfl, rfl, rfl, by decide +kernel, rfl, by decide +kernel, by decide +kernel⟩
abbrev s_law_cell : Stmt := topS 49
theorem sc_law_cell : FnScope ["script", "k"] ["script", "k"] (defScope s_law_cell) := ⟨rfl, rfl, rfl, by decide +kernel, rfl, by decide +kernel, by decide +kernel⟩
abbrev s_law_head : Stmt := topS 50
theorem sc_law_head : FnScope ["ends", "dart"] ["ends", "dart"] (defScope s_law_head) := ⟨rfl, rfl, rfl, by decide +kernel, rfl, by decide +kernel, by decide +kernel⟩
abbrev s_law_behind : Stmt := topS 51
theorem sc_law_behind : FnScope ["ends", "turns", "dart", "place", "row", "tie"] ["ends", "turns", "dart"] (defScope s_law_behind) := ⟨rfl, rfl, rfl, by decide +kernel, rfl, by decide +kernel, by decide +kernel⟩
abbrev s_law_round : Stmt := topS 52
theorem sc_law_round : FnScope ["ends", "turns", "dart", "row", "at"] ["ends", "turns", "dart"] (defScope s_law_round) := ⟨rfl, rfl, rfl, by decide +kernel, rfl, by decide +kernel, by decide +kernel⟩
abbrev s_law_grown : Stmt := topS 53
theorem sc_law_grown : FnScope ["cells", "ends", "turns", "cell", "mixed", "fresh", "left", "row", "right", "one", "two"] ["cells"] (defScope s_law_grown) := ⟨rfl, rfl, rfl, by decide +kernel, rfl, by decide +kernel, by decide +kernel⟩
abbrev s_law_order : Stmt := topS 54
theorem sc_law_order : FnScope ["cell", "many", "order", "mixed", "k"] ["cell", "many"] (defScope s_law_order) := ⟨rfl, rfl, rfl, by decide +kernel, rfl, by decide +kernel, by decide +kernel⟩
abbrev s_law_renumbered : Stmt := topS 55
theorem sc_law_renumbered : FnScope ["grown", "cell", "places", "ties", "ends", "k", "turns", "p", "row", "cut"] ["grown", "cell"] (defScope s_law_renumbered) := ⟨rfl, rfl, rfl, by decide +kernel, rfl, by decide +kernel, by decide +kernel⟩
abbrev s_law_built : Stmt := topS 56
theorem sc_law_built : FnScope ["script", "first", "most", "k", "cells", "grown", "told", "cell"] ["script", "first", "most"] (defScope s_law_built) := ⟨rfl, rfl, rfl, by decide +kernel, rfl, by decide +kernel, by decide +kernel⟩
abbrev s_law_web_text : Stmt := topS 57
theorem sc_law_web_text : FnScope ["built", "rows", "k", "word", "place"] ["built"] (defScope s_law_web_text) := ⟨rfl, rfl, rfl, by decide +kernel, rfl, by decide +kernel, by decide +kernel⟩
abbrev s_law_word : Stmt := topS 58
theorem sc_law_word : FnScope ["cell", "strange"] ["cell"] (defScope s_law_word) := ⟨rfl, rfl, rfl, by decide +kernel, rfl, by decide +kernel, by decide +kernel⟩
abbrev s_law_deed_row : Stmt := topS 59
theorem sc_law_deed_row : FnScope ["cells", "words", "count"] ["cells"] (defScope s_law_deed_row) := ⟨rfl, rfl, rfl, by decide +kernel, rfl, by decide +kernel, by decide +kernel⟩
abbrev s_law_numbers : Stmt := topS 60
theorem sc_law_numbers : FnScope ["words", "found", "word", "sign"] ["words"] (defScope s_law_numbers) := ⟨rfl, rfl, rfl, by decide +kernel, rfl, by decide +kernel, by decide +kernel⟩
abbrev s_law_due : Stmt := topS 61
theorem sc_law_due : FnScope ["built", "kept", "row", "words", "numbers", "told", "k"] ["built", "kept", "row"] (defScope s_law_due) := ⟨rfl, rfl, rfl, by decide +kernel, rfl, by decide +kernel, by decide +kernel⟩
abbrev s_law_refused : Stmt := topS 62
theorem sc_law_refused : FnScope ["desk", "row", "refused", "e"] ["desk", "row"] (defScope s_law_refused) := ⟨rfl, rfl, rfl, by decide +kernel, rfl, by decide +kernel, by decide +kernel⟩
abbrev s_law_no_desk : Stmt := topS 63
theorem sc_law_no_desk : FnScope ["text", "at", "e"] ["text"] (defScope s_law_no_desk) := ⟨rfl, rfl, rfl, by decide +kernel, rfl, by decide +kernel, by decide +kernel⟩
abbrev s_law : Stmt := topS 64
theorem sc_law : FnScope ["script", "built", "text", "rows", "twisted", "desk", "kept", "k", "row", "due"] ["script"] (defScope s_law) := ⟨rfl, rfl, rfl, by decide +kernel, rfl, by decide +kernel, by decide +kernel⟩
structure Bl (mg : Str → Option Value) : Prop where
  len : mg "len" = none
  range : mg "range" = none
  enumerate : mg "enumerate" = none
  sorted : mg "sorted" = none
  all : mg "all" = none
  list : mg "list" = none
  int : mg "int" = none
  str : mg "str" = none
  min : mg "min" = none
  isinstance : mg "isinstance" = none
  ValueError : mg "ValueError" = none
structure Txt (K : PySem.W.Frag) (mg : Str → Option Value) (C_Pull C_Push C_Web C_Desk C_BadTie C_BadTurns C_Parted C_NotFlat C_BadText C_BadDeed C_FloorError : Addr) : Prop where
  g_Pull : mg "Pull" = some (.ref C_Pull)
  g_Push : mg "Push" = some (.ref C_Push)
  g_Web : mg "Web" = some (.ref C_Web)
  g_Desk : mg "Desk" = some (.ref C_Desk)
  g_BadTie : mg "BadTie" = some (.ref C_BadTie)
  g_BadTurns : mg "BadTurns" = some (.ref C_BadTurns)
  g_Parted : mg "Parted" = some (.ref C_Parted)
  g_NotFlat : mg "NotFlat" = some (.ref C_NotFlat)
  g_BadText : mg "BadText" = some (.ref C_BadText)
  g_BadDeed : mg "BadDeed" = some (.ref C_BadDeed)
  g_FloorError : mg "FloorError" = some (.ref C_FloorError)
  cl_Pull : Cls K C_Pull
  mk_Pull : PySem.W.makesIn K C_Pull = true
  kp_Pull : PySem.W.keepIn K (.ref C_Pull) = true
  n_Pull_one : NoAttr K C_Pull "one"
  n_Pull_two : NoAttr K C_Pull "two"
  n_Pull_strength : NoAttr K C_Pull "strength"
  cl_Push : Cls K C_Push
  mk_Push : PySem.W.makesIn K C_Push = true
  kp_Push : PySem.W.keepIn K (.ref C_Push) = true
  n_Push_one : NoAttr K C_Push "one"
  n_Push_two : NoAttr K C_Push "two"
  n_Push_strength : NoAttr K C_Push "strength"
  cl_Web : Cls K C_Web
  mk_Web : PySem.W.makesIn K C_Web = true
  kp_Web : PySem.W.keepIn K (.ref C_Web) = true
  n_Web_many : NoAttr K C_Web "many"
  n_Web_ties : NoAttr K C_Web "ties"
  n_Web_turns : NoAttr K C_Web "turns"
  n_Web_rounds : NoAttr K C_Web "rounds"
  n_Web_sides : NoAttr K C_Web "sides"
  cl_Desk : Cls K C_Desk
  mk_Desk : PySem.W.makesIn K C_Desk = true
  kp_Desk : PySem.W.keepIn K (.ref C_Desk) = true
  n_Desk_web : NoAttr K C_Desk "web"
  n_Desk_former : NoAttr K C_Desk "former"
  k_MOST_FIGURES_texts : ∃ t, mg "MOST_FIGURES_texts" = some (.int 31 t)
  k_FIGURES_texts : ∃ t, mg "FIGURES_texts" = some (.str "0123456789" t)
  k_MOST_PLACES : ∃ t, mg "MOST_PLACES" = some (.int 40 t)
  k_MOST_STRENGTH_texts : ∃ t, mg "MOST_STRENGTH_texts" = some (.int 1000000000000000000000000000000 t)
  k_MOST_TIES : ∃ t, mg "MOST_TIES" = some (.int 80 t)
  k_MOST_FIGURES_desk : ∃ t, mg "MOST_FIGURES_desk" = some (.int 31 t)
  k_FIGURES_desk : ∃ t, mg "FIGURES_desk" = some (.str "0123456789" t)
  k_MOST_STRENGTH_desk : ∃ t, mg "MOST_STRENGTH_desk" = some (.int 1000000000000000000000000000000 t)
  og : PySem.W.specialIn K (.builtin "object.__class__") "__get__" = some (some (.builtin "getset_descriptor.__get__"))
  ot : PySem.W.takesIn K (.builtin "object.__class__") = some true
  kp_BadTie : PySem.W.keepIn K (.ref C_BadTie) = true
  be_BadTie : PySem.W.subIn K (.ref C_BadTie) (.type "BaseException") = some true
  ty_BadTie : PySem.W.typeIn K (.ref C_BadTie) = some (.type "type")
  cl_BadTie : PySem.W.isClsIn K C_BadTie = true
  hd_BadTie : PySem.W.hasDictIn K C_BadTie = true
  ga_BadTie : PySem.W.findIn K (.ref C_BadTie) "__getattribute__" = some (some (.builtin "BaseException.__getattribute__"))
  gg_BadTie : PySem.W.findIn K (.ref C_BadTie) "__getattr__" = some none
  oc_BadTie : PySem.W.findIn K (.ref C_BadTie) "__class__" = some (some (.builtin "object.__class__"))
  om_BadTie : PySem.W.mroIn K C_BadTie (.type "object") = some true
  sv_BadTie : PySem.W.subIn K (.ref C_BadTie) (.type "ValueError") = some true
  sb_BadTie_BadTie : PySem.W.subIn K (.ref C_BadTie) (.ref C_BadTie) = some true
  kp_BadTurns : PySem.W.keepIn K (.ref C_BadTurns) = true
  be_BadTurns : PySem.W.subIn K (.ref C_BadTurns) (.type "BaseException") = some true
  ty_BadTurns : PySem.W.typeIn K (.ref C_BadTurns) = some (.type "type")
  cl_BadTurns : PySem.W.isClsIn K C_BadTurns = true
  hd_BadTurns : PySem.W.hasDictIn K C_BadTurns = true
  ga_BadTurns : PySem.W.findIn K (.ref C_BadTurns) "__getattribute__" = some (some (.builtin "BaseException.__getattribute__"))
  gg_BadTurns : PySem.W.findIn K (.ref C_BadTurns) "__getattr__" = some none
  oc_BadTurns : PySem.W.findIn K (.ref C_BadTurns) "__class__" = some (some (.builtin "object.__class__"))
  om_BadTurns : PySem.W.mroIn K C_BadTurns (.type "object") = some true
  sv_BadTurns : PySem.W.subIn K (.ref C_BadTurns) (.type "ValueError") = some true
  sb_BadTurns_BadTurns : PySem.W.subIn K (.ref C_BadTurns) (.ref C_BadTurns) = some true
  kp_Parted : PySem.W.keepIn K (.ref C_Parted) = true
  be_Parted : PySem.W.subIn K (.ref C_Parted) (.type "BaseException") = some true
  ty_Parted : PySem.W.typeIn K (.ref C_Parted) = some (.type "type")
  cl_Parted : PySem.W.isClsIn K C_Parted = true
  hd_Parted : PySem.W.hasDictIn K C_Parted = true
  ga_Parted : PySem.W.findIn K (.ref C_Parted) "__getattribute__" = some (some (.builtin "BaseException.__getattribute__"))
  gg_Parted : PySem.W.findIn K (.ref C_Parted) "__getattr__" = some none
  oc_Parted : PySem.W.findIn K (.ref C_Parted) "__class__" = some (some (.builtin "object.__class__"))
  om_Parted : PySem.W.mroIn K C_Parted (.type "object") = some true
  sv_Parted : PySem.W.subIn K (.ref C_Parted) (.type "ValueError") = some true
  sb_Parted_Parted : PySem.W.subIn K (.ref C_Parted) (.ref C_Parted) = some true
  kp_NotFlat : PySem.W.keepIn K (.ref C_NotFlat) = true
  be_NotFlat : PySem.W.subIn K (.ref C_NotFlat) (.type "BaseException") = some true
  ty_NotFlat : PySem.W.typeIn K (.ref C_NotFlat) = some (.type "type")
  cl_NotFlat : PySem.W.isClsIn K C_NotFlat = true
  hd_NotFlat : PySem.W.hasDictIn K C_NotFlat = true
  ga_NotFlat : PySem.W.findIn K (.ref C_NotFlat) "__getattribute__" = some (some (.builtin "BaseException.__getattribute__"))
  gg_NotFlat : PySem.W.findIn K (.ref C_NotFlat) "__getattr__" = some none
  oc_NotFlat : PySem.W.findIn K (.ref C_NotFlat) "__class__" = some (some (.builtin "object.__class__"))
  om_NotFlat : PySem.W.mroIn K C_NotFlat (.type "object") = some true
  sv_NotFlat : PySem.W.subIn K (.ref C_NotFlat) (.type "ValueError") = some true
  sb_NotFlat_NotFlat : PySem.W.subIn K (.ref C_NotFlat) (.ref C_NotFlat) = some true
  kp_BadText : PySem.W.keepIn K (.ref C_BadText) = true
  be_BadText : PySem.W.subIn K (.ref C_BadText) (.type "BaseException") = some true
  ty_BadText : PySem.W.typeIn K (.ref C_BadText) = some (.type "type")
  cl_BadText : PySem.W.isClsIn K C_BadText = true
  hd_BadText : PySem.W.hasDictIn K C_BadText = true
  ga_BadText : PySem.W.findIn K (.ref C_BadText) "__getattribute__" = some (some (.builtin "BaseException.__getattribute__"))
  gg_BadText : PySem.W.findIn K (.ref C_BadText) "__getattr__" = some none
  oc_BadText : PySem.W.findIn K (.ref C_BadText) "__class__" = some (some (.builtin "object.__class__"))
  om_BadText : PySem.W.mroIn K C_BadText (.type "object") = some true
  sv_BadText : PySem.W.subIn K (.ref C_BadText) (.type "ValueError") = some true
  sb_BadText_BadText : PySem.W.subIn K (.ref C_BadText) (.ref C_BadText) = some true
  kp_BadDeed : PySem.W.keepIn K (.ref C_BadDeed) = true
  be_BadDeed : PySem.W.subIn K (.ref C_BadDeed) (.type "BaseException") = some true
  ty_BadDeed : PySem.W.typeIn K (.ref C_BadDeed) = some (.type "type")
  cl_BadDeed : PySem.W.isClsIn K C_BadDeed = true
  hd_BadDeed : PySem.W.hasDictIn K C_BadDeed = true
  ga_BadDeed : PySem.W.findIn K (.ref C_BadDeed) "__getattribute__" = some (some (.builtin "BaseException.__getattribute__"))
  gg_BadDeed : PySem.W.findIn K (.ref C_BadDeed) "__getattr__" = some none
  oc_BadDeed : PySem.W.findIn K (.ref C_BadDeed) "__class__" = some (some (.builtin "object.__class__"))
  om_BadDeed : PySem.W.mroIn K C_BadDeed (.type "object") = some true
  sv_BadDeed : PySem.W.subIn K (.ref C_BadDeed) (.type "ValueError") = some true
  sb_BadDeed_BadDeed : PySem.W.subIn K (.ref C_BadDeed) (.ref C_BadDeed) = some true
  kp_FloorError : PySem.W.keepIn K (.ref C_FloorError) = true
  be_FloorError : PySem.W.subIn K (.ref C_FloorError) (.type "BaseException") = some true
  ty_FloorError : PySem.W.typeIn K (.ref C_FloorError) = some (.type "type")
  cl_FloorError : PySem.W.isClsIn K C_FloorError = true
  hd_FloorError : PySem.W.hasDictIn K C_FloorError = true
  ga_FloorError : PySem.W.findIn K (.ref C_FloorError) "__getattribute__" = some (some (.builtin "BaseException.__getattribute__"))
  gg_FloorError : PySem.W.findIn K (.ref C_FloorError) "__getattr__" = some none
  oc_FloorError : PySem.W.findIn K (.ref C_FloorError) "__class__" = some (some (.builtin "object.__class__"))
  om_FloorError : PySem.W.mroIn K C_FloorError (.type "object") = some true
  sv_FloorError : PySem.W.subIn K (.ref C_FloorError) (.type "ValueError") = some true
  sb_FloorError_FloorError : PySem.W.subIn K (.ref C_FloorError) (.ref C_FloorError) = some true
  xn_BadTie : PySem.W.excIn K C_BadTie [.type "ValueError", .type "Exception", .type "BaseException", .type "object"] "ValueError.__new__" = true
  sb_BadTie_BadDeed : PySem.W.subIn K (.ref C_BadTie) (.ref C_BadDeed) = some false
  sb_BadTie_FloorError : PySem.W.subIn K (.ref C_BadTie) (.ref C_FloorError) = some true
  sb_BadTie_BadText : PySem.W.subIn K (.ref C_BadTie) (.ref C_BadText) = some false
  sb_BadTie_NotFlat : PySem.W.subIn K (.ref C_BadTie) (.ref C_NotFlat) = some false
  xn_BadTurns : PySem.W.excIn K C_BadTurns [.type "ValueError", .type "Exception", .type "BaseException", .type "object"] "ValueError.__new__" = true
  sb_BadTurns_BadDeed : PySem.W.subIn K (.ref C_BadTurns) (.ref C_BadDeed) = some false
  sb_BadTurns_FloorError : PySem.W.subIn K (.ref C_BadTurns) (.ref C_FloorError) = some true
  sb_BadTurns_BadText : PySem.W.subIn K (.ref C_BadTurns) (.ref C_BadText) = some false
  sb_BadTurns_NotFlat : PySem.W.subIn K (.ref C_BadTurns) (.ref C_NotFlat) = some false
  xn_Parted : PySem.W.excIn K C_Parted [.type "ValueError", .type "Exception", .type "BaseException", .type "object"] "ValueError.__new__" = true
  sb_Parted_BadDeed : PySem.W.subIn K (.ref C_Parted) (.ref C_BadDeed) = some false
  sb_Parted_FloorError : PySem.W.subIn K (.ref C_Parted) (.ref C_FloorError) = some true
  sb_Parted_BadText : PySem.W.subIn K (.ref C_Parted) (.ref C_BadText) = some false
  sb_Parted_NotFlat : PySem.W.subIn K (.ref C_Parted) (.ref C_NotFlat) = some false
  xn_NotFlat : PySem.W.excIn K C_NotFlat [.type "ValueError", .type "Exception", .type "BaseException", .type "object"] "ValueError.__new__" = true
  sb_NotFlat_BadDeed : PySem.W.subIn K (.ref C_NotFlat) (.ref C_BadDeed) = some false
  sb_NotFlat_FloorError : PySem.W.subIn K (.ref C_NotFlat) (.ref C_FloorError) = some true
  sb_NotFlat_BadText : PySem.W.subIn K (.ref C_NotFlat) (.ref C_BadText) = some false
  sb_BadText_BadDeed : PySem.W.subIn K (.ref C_BadText) (.ref C_BadDeed) = some false
  sb_BadText_FloorError : PySem.W.subIn K (.ref C_BadText) (.ref C_FloorError) = some true
  sb_BadText_NotFlat : PySem.W.subIn K (.ref C_BadText) (.ref C_NotFlat) = some false
  xn_BadDeed : PySem.W.excIn K C_BadDeed [.type "ValueError", .type "Exception", .type "BaseException", .type "object"] "ValueError.__new__" = true
  sb_BadDeed_FloorError : PySem.W.subIn K (.ref C_BadDeed) (.ref C_FloorError) = some true
  sb_BadDeed_BadText : PySem.W.subIn K (.ref C_BadDeed) (.ref C_BadText) = some false
  sb_BadDeed_NotFlat : PySem.W.subIn K (.ref C_BadDeed) (.ref C_NotFlat) = some false
  ox_BadText : OexC K C_BadText
  na_BadText : PySem.W.findIn K (.ref C_BadText) "at" = some none
theorem Txt.xf_BadTie {K : PySem.W.Frag} {mg : Str → Option Value} {C_Pull C_Push C_Web C_Desk C_BadTie C_BadTurns C_Parted C_NotFlat C_BadText C_BadDeed C_FloorError : Addr} (T : Txt K mg C_Pull C_Push C_Web C_Desk C_BadTie C_BadTurns C_Parted C_NotFlat C_BadText C_BadDeed C_FloorError) : ExF K C_BadTie := ⟨T.kp_BadTie, T.be_BadTie, T.ty_BadTie, T.cl_BadTie, T.hd_BadTie, T.ga_BadTie, T.gg_BadTie, T.oc_BadTie, T.om_BadTie, T.sv_BadTie, T.sb_BadTie_BadTie, T.og, T.ot⟩
theorem Txt.xf_BadTurns {K : PySem.W.Frag} {mg : Str → Option Value} {C_Pull C_Push C_Web C_Desk C_BadTie C_BadTurns C_Parted C_NotFlat C_BadText C_BadDeed C_FloorError : Addr} (T : Txt K mg C_Pull C_Push C_Web C_Desk C_BadTie C_BadTurns C_Parted C_NotFlat C_BadText C_BadDeed C_FloorError) : ExF K C_BadTurns := ⟨T.kp_BadTurns, T.be_BadTurns, T.ty_BadTurns, T.cl_BadTurns, T.hd_BadTurns, T.ga_BadTurns, T.gg_BadTurns, T.oc_BadTurns, T.om_BadTurns, T.sv_BadTurns, T.sb_BadTurns_BadTurns, T.og, T.ot⟩
theorem Txt.xf_Parted {K : PySem.W.Frag} {mg : Str → Option Value} {C_Pull C_Push C_Web C_Desk C_BadTie C_BadTurns C_Parted C_NotFlat C_BadText C_BadDeed C_FloorError : Addr} (T : Txt K mg C_Pull C_Push C_Web C_Desk C_BadTie C_BadTurns C_Parted C_NotFlat C_BadText C_BadDeed C_FloorError) : ExF K C_Parted := ⟨T.kp_Parted, T.be_Parted, T.ty_Parted, T.cl_Parted, T.hd_Parted, T.ga_Parted, T.gg_Parted, T.oc_Parted, T.om_Parted, T.sv_Parted, T.sb_Parted_Parted, T.og, T.ot⟩
theorem Txt.xf_NotFlat {K : PySem.W.Frag} {mg : Str → Option Value} {C_Pull C_Push C_Web C_Desk C_BadTie C_BadTurns C_Parted C_NotFlat C_BadText C_BadDeed C_FloorError : Addr} (T : Txt K mg C_Pull C_Push C_Web C_Desk C_BadTie C_BadTurns C_Parted C_NotFlat C_BadText C_BadDeed C_FloorError) : ExF K C_NotFlat := ⟨T.kp_NotFlat, T.be_NotFlat, T.ty_NotFlat, T.cl_NotFlat, T.hd_NotFlat, T.ga_NotFlat, T.gg_NotFlat, T.oc_NotFlat, T.om_NotFlat, T.sv_NotFlat, T.sb_NotFlat_NotFlat, T.og, T.ot⟩
theorem Txt.xf_BadText {K : PySem.W.Frag} {mg : Str → Option Value} {C_Pull C_Push C_Web C_Desk C_BadTie C_BadTurns C_Parted C_NotFlat C_BadText C_BadDeed C_FloorError : Addr} (T : Txt K mg C_Pull C_Push C_Web C_Desk C_BadTie C_BadTurns C_Parted C_NotFlat C_BadText C_BadDeed C_FloorError) : ExF K C_BadText := ⟨T.kp_BadText, T.be_BadText, T.ty_BadText, T.cl_BadText, T.hd_BadText, T.ga_BadText, T.gg_BadText, T.oc_BadText, T.om_BadText, T.sv_BadText, T.sb_BadText_BadText, T.og, T.ot⟩
theorem Txt.xf_BadDeed {K : PySem.W.Frag} {mg : Str → Option Value} {C_Pull C_Push C_Web C_Desk C_BadTie C_BadTurns C_Parted C_NotFlat C_BadText C_BadDeed C_FloorError : Addr} (T : Txt K mg C_Pull C_Push C_Web C_Desk C_BadTie C_BadTurns C_Parted C_NotFlat C_BadText C_BadDeed C_FloorError) : ExF K C_BadDeed := ⟨T.kp_BadDeed, T.be_BadDeed, T.ty_BadDeed, T.cl_BadDeed, T.hd_BadDeed, T.ga_BadDeed, T.gg_BadDeed, T.oc_BadDeed, T.om_BadDeed, T.sv_BadDeed, T.sb_BadDeed_BadDeed, T.og, T.ot⟩
theorem Txt.xf_FloorError {K : PySem.W.Frag} {mg : Str → Option Value} {C_Pull C_Push C_Web C_Desk C_BadTie C_BadTurns C_Parted C_NotFlat C_BadText C_BadDeed C_FloorError : Addr} (T : Txt K mg C_Pull C_Push C_Web C_Desk C_BadTie C_BadTurns C_Parted C_NotFlat C_BadText C_BadDeed C_FloorError) : ExF K C_FloorError := ⟨T.kp_FloorError, T.be_FloorError, T.ty_FloorError, T.cl_FloorError, T.hd_FloorError, T.ga_FloorError, T.gg_FloorError, T.oc_FloorError, T.om_FloorError, T.sv_FloorError, T.sb_FloorError_FloorError, T.og, T.ot⟩
def fsQ (K : PySem.W.Frag) : List Bool := [
  decide (PySem.W.nsIn K mainGlobals "Pull" = some (some (.ref (He.ga K "Pull")))),
  decide (PySem.W.nsIn K mainGlobals "Push" = some (some (.ref (He.ga K "Push")))),
  decide (PySem.W.nsIn K mainGlobals "Web" = some (some (.ref (He.ga K "Web")))),
  decide (PySem.W.nsIn K mainGlobals "Desk" = some (some (.ref (He.ga K "Desk")))),
  decide (PySem.W.nsIn K mainGlobals "BadTie" = some (some (.ref (He.ga K "BadTie")))),
  decide (PySem.W.nsIn K mainGlobals "BadTurns" = some (some (.ref (He.ga K "BadTurns")))),
  decide (PySem.W.nsIn K mainGlobals "Parted" = some (some (.ref (He.ga K "Parted")))),
  decide (PySem.W.nsIn K mainGlobals "NotFlat" = some (some (.ref (He.ga K "NotFlat")))),
  decide (PySem.W.nsIn K mainGlobals "BadText" = some (some (.ref (He.ga K "BadText")))),
  decide (PySem.W.nsIn K mainGlobals "BadDeed" = some (some (.ref (He.ga K "BadDeed")))),
  decide (PySem.W.nsIn K mainGlobals "FloorError" = some (some (.ref (He.ga K "FloorError")))),
  decide (PySem.W.findIn K (.ref (He.ga K "BadText")) "__init__" = some (some (.ref (He.fAd K ("BadText", some "__init__"))))),
  decide (PySem.W.typeIn K (.ref (He.fAd K ("BadText", some "__init__"))) = some (.type "function")),
  excB K (He.ga K "BadText") [.ref (He.ga K "FloorError"), .type "ValueError", .type "Exception", .type "BaseException", .type "object"],
  decide (PySem.W.findIn K (.ref (He.ga K "BadText")) "__setattr__" = some (some (.builtin "object.__setattr__"))),
  decide (PySem.W.findIn K (.ref (He.ga K "BadText")) "at" = some none),
  decide (PySem.W.isFn K (.ref (He.fAd K ("BadText", some "__init__"))) = true),
  decide (PySem.W.findIn K (.ref (He.ga K "Pull")) "__init__" = some (some (.ref (He.fAd K ("Tie", some "__init__"))))),
  decide (PySem.W.findIn K (.ref (He.ga K "Push")) "__init__" = some (some (.ref (He.fAd K ("Tie", some "__init__"))))),
  decide (PySem.W.isFn K (.ref (He.fAd K ("Tie", some "__init__"))) = true),
  decide (PySem.W.findIn K (.ref (He.ga K "Pull")) "wish" = some (some (.ref (He.fAd K ("Pull", some "wish"))))),
  decide (PySem.W.isFn K (.ref (He.fAd K ("Pull", some "wish"))) = true),
  decide (PySem.W.findIn K (.ref (He.ga K "Push")) "wish" = some (some (.ref (He.fAd K ("Push", some "wish"))))),
  decide (PySem.W.isFn K (.ref (He.fAd K ("Push", some "wish"))) = true),
  decide (PySem.W.nsIn K mainGlobals "head" = some (some (.ref (He.fAd K ("head", none))))),
  decide (PySem.W.nsIn K mainGlobals "follower" = some (some (.ref (He.fAd K ("follower", none))))),
  decide (PySem.W.nsIn K mainGlobals "round_from" = some (some (.ref (He.fAd K ("round_from", none))))),
  decide (PySem.W.nsIn K mainGlobals "rounds_of" = some (some (.ref (He.fAd K ("rounds_of", none))))),
  decide (PySem.W.nsIn K mainGlobals "sides_of" = some (some (.ref (He.fAd K ("sides_of", none))))),
  decide (PySem.W.nsIn K mainGlobals "ends_are_places" = some (some (.ref (He.fAd K ("ends_are_places", none))))),
  decide (PySem.W.nsIn K mainGlobals "turns_are_right" = some (some (.ref (He.fAd K ("turns_are_right", none))))),
  decide (PySem.W.nsIn K mainGlobals "hangs_together" = some (some (.ref (He.fAd K ("hangs_together", none))))),
  decide (PySem.W.findIn K (.ref (He.ga K "Web")) "__init__" = some (some (.ref (He.fAd K ("Web", some "__init__"))))),
  decide (PySem.W.isFn K (.ref (He.fAd K ("Web", some "__init__"))) = true),
  decide (PySem.W.nsIn K mainGlobals "number_of" = some (some (.ref (He.fAd K ("number_of", none))))),
  decide (PySem.W.nsIn K mainGlobals "numbers_of" = some (some (.ref (He.fAd K ("numbers_of", none))))),
  decide (PySem.W.nsIn K mainGlobals "row_at" = some (some (.ref (He.fAd K ("row_at", none))))),
  decide (PySem.W.nsIn K mainGlobals "places_told" = some (some (.ref (He.fAd K ("places_told", none))))),
  decide (PySem.W.nsIn K mainGlobals "tie_told" = some (some (.ref (He.fAd K ("tie_told", none))))),
  decide (PySem.W.nsIn K mainGlobals "turns_told" = some (some (.ref (He.fAd K ("turns_told", none))))),
  decide (PySem.W.nsIn K mainGlobals "tie_made" = some (some (.ref (He.fAd K ("tie_made", none))))),
  decide (PySem.W.nsIn K mainGlobals "read" = some (some (.ref (He.fAd K ("read", none))))),
  decide (PySem.W.nsIn K mainGlobals "written" = some (some (.ref (He.fAd K ("written", none))))),
  decide (PySem.W.nsIn K mainGlobals "told_numbers" = some (some (.ref (He.fAd K ("told_numbers", none))))),
  decide (PySem.W.nsIn K mainGlobals "other_kind" = some (some (.ref (He.fAd K ("other_kind", none))))),
  decide (PySem.W.nsIn K mainGlobals "strung" = some (some (.ref (He.fAd K ("strung", none))))),
  decide (PySem.W.nsIn K mainGlobals "flipped" = some (some (.ref (He.fAd K ("flipped", none))))),
  decide (PySem.W.findIn K (.ref (He.ga K "Desk")) "__init__" = some (some (.ref (He.fAd K ("Desk", some "__init__"))))),
  decide (PySem.W.isFn K (.ref (He.fAd K ("Desk", some "__init__"))) = true),
  decide (PySem.W.findIn K (.ref (He.ga K "Desk")) "turn_to" = some (some (.ref (He.fAd K ("Desk", some "turn_to"))))),
  decide (PySem.W.isFn K (.ref (He.fAd K ("Desk", some "turn_to"))) = true),
  decide (PySem.W.findIn K (.ref (He.ga K "Desk")) "do" = some (some (.ref (He.fAd K ("Desk", some "do"))))),
  decide (PySem.W.isFn K (.ref (He.fAd K ("Desk", some "do"))) = true),
  decide (PySem.W.findIn K (.ref (He.ga K "Desk")) "left" = some (some (.ref (He.fAd K ("Desk", some "left"))))),
  decide (PySem.W.isFn K (.ref (He.fAd K ("Desk", some "left"))) = true),
  decide (PySem.W.findIn K (.ref (He.ga K "Desk")) "text" = some (some (.ref (He.fAd K ("Desk", some "text"))))),
  decide (PySem.W.isFn K (.ref (He.fAd K ("Desk", some "text"))) = true),
  decide (PySem.W.nsIn K mainGlobals "_law_cell" = some (some (.ref (He.fAd K ("_law_cell", none))))),
  decide (PySem.W.nsIn K mainGlobals "_law_head" = some (some (.ref (He.fAd K ("_law_head", none))))),
  decide (PySem.W.nsIn K mainGlobals "_law_behind" = some (some (.ref (He.fAd K ("_law_behind", none))))),
  decide (PySem.W.nsIn K mainGlobals "_law_round" = some (some (.ref (He.fAd K ("_law_round", none))))),
  decide (PySem.W.nsIn K mainGlobals "_law_grown" = some (some (.ref (He.fAd K ("_law_grown", none))))),
  decide (PySem.W.nsIn K mainGlobals "_law_order" = some (some (.ref (He.fAd K ("_law_order", none))))),
  decide (PySem.W.nsIn K mainGlobals "_law_renumbered" = some (some (.ref (He.fAd K ("_law_renumbered", none))))),
  decide (PySem.W.nsIn K mainGlobals "_law_built" = some (some (.ref (He.fAd K ("_law_built", none))))),
  decide (PySem.W.nsIn K mainGlobals "_law_web_text" = some (some (.ref (He.fAd K ("_law_web_text", none))))),
  decide (PySem.W.nsIn K mainGlobals "_law_word" = some (some (.ref (He.fAd K ("_law_word", none))))),
  decide (PySem.W.nsIn K mainGlobals "_law_deed_row" = some (some (.ref (He.fAd K ("_law_deed_row", none))))),
  decide (PySem.W.nsIn K mainGlobals "_law_numbers" = some (some (.ref (He.fAd K ("_law_numbers", none))))),
  decide (PySem.W.nsIn K mainGlobals "_law_due" = some (some (.ref (He.fAd K ("_law_due", none))))),
  decide (PySem.W.nsIn K mainGlobals "_law_refused" = some (some (.ref (He.fAd K ("_law_refused", none))))),
  decide (PySem.W.nsIn K mainGlobals "_law_no_desk" = some (some (.ref (He.fAd K ("_law_no_desk", none))))),
  decide (PySem.W.nsIn K mainGlobals "law" = some (some (.ref (He.fAd K ("law", none))))),
  decide (PySem.W.nsIn K mainGlobals "len" = some none),
  decide (PySem.W.nsIn K mainGlobals "range" = some none),
  decide (PySem.W.nsIn K mainGlobals "enumerate" = some none),
  decide (PySem.W.nsIn K mainGlobals "sorted" = some none),
  decide (PySem.W.nsIn K mainGlobals "all" = some none),
  decide (PySem.W.nsIn K mainGlobals "list" = some none),
  decide (PySem.W.nsIn K mainGlobals "int" = some none),
  decide (PySem.W.nsIn K mainGlobals "str" = some none),
  decide (PySem.W.nsIn K mainGlobals "min" = some none),
  decide (PySem.W.nsIn K mainGlobals "isinstance" = some none),
  decide (PySem.W.nsIn K mainGlobals "ValueError" = some none),
  decide (PySem.W.plainGet K (He.ga K "Pull") Str.empty = true),
  decide (PySem.W.hasDictIn K (He.ga K "Pull") = true),
  decide (PySem.W.plainOver K (He.ga K "Pull") = true),
  decide (PySem.W.findIn K (.ref (He.ga K "Pull")) "__setattr__" = some (some (.builtin "object.__setattr__"))),
  decide (PySem.W.makesIn K (He.ga K "Pull") = true),
  decide (PySem.W.keepIn K (.ref (He.ga K "Pull")) = true),
  decide (PySem.W.findIn K (.ref (He.ga K "Pull")) "one" = some none),
  decide (PySem.W.findIn K (.ref (He.ga K "Pull")) "two" = some none),
  decide (PySem.W.findIn K (.ref (He.ga K "Pull")) "strength" = some none),
  decide (PySem.W.plainGet K (He.ga K "Push") Str.empty = true),
  decide (PySem.W.hasDictIn K (He.ga K "Push") = true),
  decide (PySem.W.plainOver K (He.ga K "Push") = true),
  decide (PySem.W.findIn K (.ref (He.ga K "Push")) "__setattr__" = some (some (.builtin "object.__setattr__"))),
  decide (PySem.W.makesIn K (He.ga K "Push") = true),
  decide (PySem.W.keepIn K (.ref (He.ga K "Push")) = true),
  decide (PySem.W.findIn K (.ref (He.ga K "Push")) "one" = some none),
  decide (PySem.W.findIn K (.ref (He.ga K "Push")) "two" = some none),
  decide (PySem.W.findIn K (.ref (He.ga K "Push")) "strength" = some none),
  decide (PySem.W.plainGet K (He.ga K "Web") Str.empty = true),
  decide (PySem.W.hasDictIn K (He.ga K "Web") = true),
  decide (PySem.W.plainOver K (He.ga K "Web") = true),
  decide (PySem.W.findIn K (.ref (He.ga K "Web")) "__setattr__" = some (some (.builtin "object.__setattr__"))),
  decide (PySem.W.makesIn K (He.ga K "Web") = true),
  decide (PySem.W.keepIn K (.ref (He.ga K "Web")) = true),
  decide (PySem.W.findIn K (.ref (He.ga K "Web")) "many" = some none),
  decide (PySem.W.findIn K (.ref (He.ga K "Web")) "ties" = some none),
  decide (PySem.W.findIn K (.ref (He.ga K "Web")) "turns" = some none),
  decide (PySem.W.findIn K (.ref (He.ga K "Web")) "rounds" = some none),
  decide (PySem.W.findIn K (.ref (He.ga K "Web")) "sides" = some none),
  decide (PySem.W.plainGet K (He.ga K "Desk") Str.empty = true),
  decide (PySem.W.hasDictIn K (He.ga K "Desk") = true),
  decide (PySem.W.plainOver K (He.ga K "Desk") = true),
  decide (PySem.W.findIn K (.ref (He.ga K "Desk")) "__setattr__" = some (some (.builtin "object.__setattr__"))),
  decide (PySem.W.makesIn K (He.ga K "Desk") = true),
  decide (PySem.W.keepIn K (.ref (He.ga K "Desk")) = true),
  decide (PySem.W.findIn K (.ref (He.ga K "Desk")) "web" = some none),
  decide (PySem.W.findIn K (.ref (He.ga K "Desk")) "former" = some none),
  (He.Fa.int "MOST_FIGURES_texts" 31).ok K,
  (He.Fa.str "FIGURES_texts" "0123456789").ok K,
  (He.Fa.int "MOST_PLACES" 40).ok K,
  (He.Fa.int "MOST_STRENGTH_texts" 1000000000000000000000000000000).ok K,
  (He.Fa.int "MOST_TIES" 80).ok K,
  (He.Fa.int "MOST_FIGURES_desk" 31).ok K,
  (He.Fa.str "FIGURES_desk" "0123456789").ok K,
  (He.Fa.int "MOST_STRENGTH_desk" 1000000000000000000000000000000).ok K,
  decide (PySem.W.specialIn K (.builtin "object.__class__") "__get__" = some (some (.builtin "getset_descriptor.__get__"))),
  decide (PySem.W.takesIn K (.builtin "object.__class__") = some true),
  decide (PySem.W.keepIn K (.ref (He.ga K "BadTie")) = true),
  decide (PySem.W.subIn K (.ref (He.ga K "BadTie")) (.type "BaseException") = some true),
  decide (PySem.W.typeIn K (.ref (He.ga K "BadTie")) = some (.type "type")),
  decide (PySem.W.isClsIn K (He.ga K "BadTie") = true),
  decide (PySem.W.hasDictIn K (He.ga K "BadTie") = true),
  decide (PySem.W.findIn K (.ref (He.ga K "BadTie")) "__getattribute__" = some (some (.builtin "BaseException.__getattribute__"))),
  decide (PySem.W.findIn K (.ref (He.ga K "BadTie")) "__getattr__" = some none),
  decide (PySem.W.findIn K (.ref (He.ga K "BadTie")) "__class__" = some (some (.builtin "object.__class__"))),
  decide (PySem.W.mroIn K (He.ga K "BadTie") (.type "object") = some true),
  decide (PySem.W.subIn K (.ref (He.ga K "BadTie")) (.type "ValueError") = some true),
  decide (PySem.W.subIn K (.ref (He.ga K "BadTie")) (.ref (He.ga K "BadTie")) = some true),
  decide (PySem.W.keepIn K (.ref (He.ga K "BadTurns")) = true),
  decide (PySem.W.subIn K (.ref (He.ga K "BadTurns")) (.type "BaseException") = some true),
  decide (PySem.W.typeIn K (.ref (He.ga K "BadTurns")) = some (.type "type")),
  decide (PySem.W.isClsIn K (He.ga K "BadTurns") = true),
  decide (PySem.W.hasDictIn K (He.ga K "BadTurns") = true),
  decide (PySem.W.findIn K (.ref (He.ga K "BadTurns")) "__getattribute__" = some (some (.builtin "BaseException.__getattribute__"))),
  decide (PySem.W.findIn K (.ref (He.ga K "BadTurns")) "__getattr__" = some none),
  decide (PySem.W.findIn K (.ref (He.ga K "BadTurns")) "__class__" = some (some (.builtin "object.__class__"))),
  decide (PySem.W.mroIn K (He.ga K "BadTurns") (.type "object") = some true),
  decide (PySem.W.subIn K (.ref (He.ga K "BadTurns")) (.type "ValueError") = some true),
  decide (PySem.W.subIn K (.ref (He.ga K "BadTurns")) (.ref (He.ga K "BadTurns")) = some true),
  decide (PySem.W.keepIn K (.ref (He.ga K "Parted")) = true),
  decide (PySem.W.subIn K (.ref (He.ga K "Parted")) (.type "BaseException") = some true),
  decide (PySem.W.typeIn K (.ref (He.ga K "Parted")) = some (.type "type")),
  decide (PySem.W.isClsIn K (He.ga K "Parted") = true),
  decide (PySem.W.hasDictIn K (He.ga K "Parted") = true),
  decide (PySem.W.findIn K (.ref (He.ga K "Parted")) "__getattribute__" = some (some (.builtin "BaseException.__getattribute__"))),
  decide (PySem.W.findIn K (.ref (He.ga K "Parted")) "__getattr__" = some none),
  decide (PySem.W.findIn K (.ref (He.ga K "Parted")) "__class__" = some (some (.builtin "object.__class__"))),
  decide (PySem.W.mroIn K (He.ga K "Parted") (.type "object") = some true),
  decide (PySem.W.subIn K (.ref (He.ga K "Parted")) (.type "ValueError") = some true),
  decide (PySem.W.subIn K (.ref (He.ga K "Parted")) (.ref (He.ga K "Parted")) = some true),
  decide (PySem.W.keepIn K (.ref (He.ga K "NotFlat")) = true),
  decide (PySem.W.subIn K (.ref (He.ga K "NotFlat")) (.type "BaseException") = some true),
  decide (PySem.W.typeIn K (.ref (He.ga K "NotFlat")) = some (.type "type")),
  decide (PySem.W.isClsIn K (He.ga K "NotFlat") = true),
  decide (PySem.W.hasDictIn K (He.ga K "NotFlat") = true),
  decide (PySem.W.findIn K (.ref (He.ga K "NotFlat")) "__getattribute__" = some (some (.builtin "BaseException.__getattribute__"))),
  decide (PySem.W.findIn K (.ref (He.ga K "NotFlat")) "__getattr__" = some none),
  decide (PySem.W.findIn K (.ref (He.ga K "NotFlat")) "__class__" = some (some (.builtin "object.__class__"))),
  decide (PySem.W.mroIn K (He.ga K "NotFlat") (.type "object") = some true),
  decide (PySem.W.subIn K (.ref (He.ga K "NotFlat")) (.type "ValueError") = some true),
  decide (PySem.W.subIn K (.ref (He.ga K "NotFlat")) (.ref (He.ga K "NotFlat")) = some true),
  decide (PySem.W.keepIn K (.ref (He.ga K "BadText")) = true),
  decide (PySem.W.subIn K (.ref (He.ga K "BadText")) (.type "BaseException") = some true),
  decide (PySem.W.typeIn K (.ref (He.ga K "BadText")) = some (.type "type")),
  decide (PySem.W.isClsIn K (He.ga K "BadText") = true),
  decide (PySem.W.hasDictIn K (He.ga K "BadText") = true),
  decide (PySem.W.findIn K (.ref (He.ga K "BadText")) "__getattribute__" = some (some (.builtin "BaseException.__getattribute__"))),
  decide (PySem.W.findIn K (.ref (He.ga K "BadText")) "__getattr__" = some none),
  decide (PySem.W.findIn K (.ref (He.ga K "BadText")) "__class__" = some (some (.builtin "object.__class__"))),
  decide (PySem.W.mroIn K (He.ga K "BadText") (.type "object") = some true),
  decide (PySem.W.subIn K (.ref (He.ga K "BadText")) (.type "ValueError") = some true),
  decide (PySem.W.subIn K (.ref (He.ga K "BadText")) (.ref (He.ga K "BadText")) = some true),
  decide (PySem.W.keepIn K (.ref (He.ga K "BadDeed")) = true),
  decide (PySem.W.subIn K (.ref (He.ga K "BadDeed")) (.type "BaseException") = some true),
  decide (PySem.W.typeIn K (.ref (He.ga K "BadDeed")) = some (.type "type")),
  decide (PySem.W.isClsIn K (He.ga K "BadDeed") = true),
  decide (PySem.W.hasDictIn K (He.ga K "BadDeed") = true),
  decide (PySem.W.findIn K (.ref (He.ga K "BadDeed")) "__getattribute__" = some (some (.builtin "BaseException.__getattribute__"))),
  decide (PySem.W.findIn K (.ref (He.ga K "BadDeed")) "__getattr__" = some none),
  decide (PySem.W.findIn K (.ref (He.ga K "BadDeed")) "__class__" = some (some (.builtin "object.__class__"))),
  decide (PySem.W.mroIn K (He.ga K "BadDeed") (.type "object") = some true),
  decide (PySem.W.subIn K (.ref (He.ga K "BadDeed")) (.type "ValueError") = some true),
  decide (PySem.W.subIn K (.ref (He.ga K "BadDeed")) (.ref (He.ga K "BadDeed")) = some true),
  decide (PySem.W.keepIn K (.ref (He.ga K "FloorError")) = true),
  decide (PySem.W.subIn K (.ref (He.ga K "FloorError")) (.type "BaseException") = some true),
  decide (PySem.W.typeIn K (.ref (He.ga K "FloorError")) = some (.type "type")),
  decide (PySem.W.isClsIn K (He.ga K "FloorError") = true),
  decide (PySem.W.hasDictIn K (He.ga K "FloorError") = true),
  decide (PySem.W.findIn K (.ref (He.ga K "FloorError")) "__getattribute__" = some (some (.builtin "BaseException.__getattribute__"))),
  decide (PySem.W.findIn K (.ref (He.ga K "FloorError")) "__getattr__" = some none),
  decide (PySem.W.findIn K (.ref (He.ga K "FloorError")) "__class__" = some (some (.builtin "object.__class__"))),
  decide (PySem.W.mroIn K (He.ga K "FloorError") (.type "object") = some true),
  decide (PySem.W.subIn K (.ref (He.ga K "FloorError")) (.type "ValueError") = some true),
  decide (PySem.W.subIn K (.ref (He.ga K "FloorError")) (.ref (He.ga K "FloorError")) = some true),
  decide (PySem.W.excIn K (He.ga K "BadTie") [.type "ValueError", .type "Exception", .type "BaseException", .type "object"] "ValueError.__new__" = true),
  decide (PySem.W.subIn K (.ref (He.ga K "BadTie")) (.ref (He.ga K "BadDeed")) = some false),
  decide (PySem.W.subIn K (.ref (He.ga K "BadTie")) (.ref (He.ga K "FloorError")) = some true),
  decide (PySem.W.subIn K (.ref (He.ga K "BadTie")) (.ref (He.ga K "BadText")) = some false),
  decide (PySem.W.subIn K (.ref (He.ga K "BadTie")) (.ref (He.ga K "NotFlat")) = some false),
  decide (PySem.W.excIn K (He.ga K "BadTurns") [.type "ValueError", .type "Exception", .type "BaseException", .type "object"] "ValueError.__new__" = true),
  decide (PySem.W.subIn K (.ref (He.ga K "BadTurns")) (.ref (He.ga K "BadDeed")) = some false),
  decide (PySem.W.subIn K (.ref (He.ga K "BadTurns")) (.ref (He.ga K "FloorError")) = some true),
  decide (PySem.W.subIn K (.ref (He.ga K "BadTurns")) (.ref (He.ga K "BadText")) = some false),
  decide (PySem.W.subIn K (.ref (He.ga K "BadTurns")) (.ref (He.ga K "NotFlat")) = some false),
  decide (PySem.W.excIn K (He.ga K "Parted") [.type "ValueError", .type "Exception", .type "BaseException", .type "object"] "ValueError.__new__" = true),
  decide (PySem.W.subIn K (.ref (He.ga K "Parted")) (.ref (He.ga K "BadDeed")) = some false),
  decide (PySem.W.subIn K (.ref (He.ga K "Parted")) (.ref (He.ga K "FloorError")) = some true),
  decide (PySem.W.subIn K (.ref (He.ga K "Parted")) (.ref (He.ga K "BadText")) = some false),
  decide (PySem.W.subIn K (.ref (He.ga K "Parted")) (.ref (He.ga K "NotFlat")) = some false),
  decide (PySem.W.excIn K (He.ga K "NotFlat") [.type "ValueError", .type "Exception", .type "BaseException", .type "object"] "ValueError.__new__" = true),
  decide (PySem.W.subIn K (.ref (He.ga K "NotFlat")) (.ref (He.ga K "BadDeed")) = some false),
  decide (PySem.W.subIn K (.ref (He.ga K "NotFlat")) (.ref (He.ga K "FloorError")) = some true),
  decide (PySem.W.subIn K (.ref (He.ga K "NotFlat")) (.ref (He.ga K "BadText")) = some false),
  decide (PySem.W.subIn K (.ref (He.ga K "BadText")) (.ref (He.ga K "BadDeed")) = some false),
  decide (PySem.W.subIn K (.ref (He.ga K "BadText")) (.ref (He.ga K "FloorError")) = some true),
  decide (PySem.W.subIn K (.ref (He.ga K "BadText")) (.ref (He.ga K "NotFlat")) = some false),
  decide (PySem.W.excIn K (He.ga K "BadDeed") [.type "ValueError", .type "Exception", .type "BaseException", .type "object"] "ValueError.__new__" = true),
  decide (PySem.W.subIn K (.ref (He.ga K "BadDeed")) (.ref (He.ga K "FloorError")) = some true),
  decide (PySem.W.subIn K (.ref (He.ga K "BadDeed")) (.ref (He.ga K "BadText")) = some false),
  decide (PySem.W.subIn K (.ref (He.ga K "BadDeed")) (.ref (He.ga K "NotFlat")) = some false)]
def fnQ : List He.DefD := [
  ⟨("BadText", some "__init__"), "__init__", "BadText.__init__", defArgs s_BadText___init__, defBody s_BadText___init__, defScope s_BadText___init__, [], []⟩,
  ⟨("Tie", some "__init__"), "__init__", "Tie.__init__", defArgs s_Tie___init__, defBody s_Tie___init__, defScope s_Tie___init__, [], []⟩,
  ⟨("Pull", some "wish"), "wish", "Pull.wish", defArgs s_Pull_wish, defBody s_Pull_wish, defScope s_Pull_wish, [], []⟩,
  ⟨("Push", some "wish"), "wish", "Push.wish", defArgs s_Push_wish, defBody s_Push_wish, defScope s_Push_wish, [], []⟩,
  ⟨("head", none), "head", "head", defArgs s_head, defBody s_head, defScope s_head, [], []⟩,
  ⟨("follower", none), "follower", "follower", defArgs s_follower, defBody s_follower, defScope s_follower, [], []⟩,
  ⟨("round_from", none), "round_from", "round_from", defArgs s_round_from, defBody s_round_from, defScope s_round_from, [], []⟩,
  ⟨("rounds_of", none), "rounds_of", "rounds_of", defArgs s_rounds_of, defBody s_rounds_of, defScope s_rounds_of, [], []⟩,
  ⟨("sides_of", none), "sides_of", "sides_of", defArgs s_sides_of, defBody s_sides_of, defScope s_sides_of, [], []⟩,
  ⟨("ends_are_places", none), "ends_are_places", "ends_are_places", defArgs s_ends_are_places, defBody s_ends_are_places, defScope s_ends_are_places, [], []⟩,
  ⟨("turns_are_right", none), "turns_are_right", "turns_are_right", defArgs s_turns_are_right, defBody s_turns_are_right, defScope s_turns_are_right, [], []⟩,
  ⟨("hangs_together", none), "hangs_together", "hangs_together", defArgs s_hangs_together, defBody s_hangs_together, defScope s_hangs_together, [], []⟩,
  ⟨("Web", some "__init__"), "__init__", "Web.__init__", defArgs s_Web___init__, defBody s_Web___init__, defScope s_Web___init__, [], []⟩,
  ⟨("number_of", none), "number_of", "number_of", defArgs s_number_of, defBody s_number_of, defScope s_number_of, [], []⟩,
  ⟨("numbers_of", none), "numbers_of", "numbers_of", defArgs s_numbers_of, defBody s_numbers_of, defScope s_numbers_of, [], []⟩,
  ⟨("row_at", none), "row_at", "row_at", defArgs s_row_at, defBody s_row_at, defScope s_row_at, [], []⟩,
  ⟨("places_told", none), "places_told", "places_told", defArgs s_places_told, defBody s_places_told, defScope s_places_told, [], []⟩,
  ⟨("tie_told", none), "tie_told", "tie_told", defArgs s_tie_told, defBody s_tie_told, defScope s_tie_told, [], []⟩,
  ⟨("turns_told", none), "turns_told", "turns_told", defArgs s_turns_told, defBody s_turns_told, defScope s_turns_told, [], []⟩,
  ⟨("tie_made", none), "tie_made", "tie_made", defArgs s_tie_made, defBody s_tie_made, defScope s_tie_made, [], []⟩,
  ⟨("read", none), "read", "read", defArgs s_read, defBody s_read, defScope s_read, [], []⟩,
  ⟨("written", none), "written", "written", defArgs s_written, defBody s_written, defScope s_written, [], []⟩,
  ⟨("told_numbers", none), "told_numbers", "told_numbers", defArgs s_told_numbers, defBody s_told_numbers, defScope s_told_numbers, [], []⟩,
  ⟨("other_kind", none), "other_kind", "other_kind", defArgs s_other_kind, defBody s_other_kind, defScope s_other_kind, [], []⟩,
  ⟨("strung", none), "strung", "strung", defArgs s_strung, defBody s_strung, defScope s_strung, [], []⟩,
  ⟨("flipped", none), "flipped", "flipped", defArgs s_flipped, defBody s_flipped, defScope s_flipped, [], []⟩,
  ⟨("Desk", some "__init__"), "__init__", "Desk.__init__", defArgs s_Desk___init__, defBody s_Desk___init__, defScope s_Desk___init__, [], []⟩,
  ⟨("Desk", some "turn_to"), "turn_to", "Desk.turn_to", defArgs s_Desk_turn_to, defBody s_Desk_turn_to, defScope s_Desk_turn_to, [], []⟩,
  ⟨("Desk", some "do"), "do", "Desk.do", defArgs s_Desk_do, defBody s_Desk_do, defScope s_Desk_do, [], []⟩,
  ⟨("Desk", some "left"), "left", "Desk.left", defArgs s_Desk_left, defBody s_Desk_left, defScope s_Desk_left, [], []⟩,
  ⟨("Desk", some "text"), "text", "Desk.text", defArgs s_Desk_text, defBody s_Desk_text, defScope s_Desk_text, [], []⟩,
  ⟨("_law_cell", none), "_law_cell", "_law_cell", defArgs s_law_cell, defBody s_law_cell, defScope s_law_cell, [], []⟩,
  ⟨("_law_head", none), "_law_head", "_law_head", defArgs s_law_head, defBody s_law_head, defScope s_law_head, [], []⟩,
  ⟨("_law_behind", none), "_law_behind", "_law_behind", defArgs s_law_behind, defBody s_law_behind, defScope s_law_behind, [], []⟩,
  ⟨("_law_round", none), "_law_round", "_law_round", defArgs s_law_round, defBody s_law_round, defScope s_law_round, [], []⟩,
  ⟨("_law_grown", none), "_law_grown", "_law_grown", defArgs s_law_grown, defBody s_law_grown, defScope s_law_grown, [], []⟩,
  ⟨("_law_order", none), "_law_order", "_law_order", defArgs s_law_order, defBody s_law_order, defScope s_law_order, [], []⟩,
  ⟨("_law_renumbered", none), "_law_renumbered", "_law_renumbered", defArgs s_law_renumbered, defBody s_law_renumbered, defScope s_law_renumbered, [], []⟩,
  ⟨("_law_built", none), "_law_built", "_law_built", defArgs s_law_built, defBody s_law_built, defScope s_law_built, [], []⟩,
  ⟨("_law_web_text", none), "_law_web_text", "_law_web_text", defArgs s_law_web_text, defBody s_law_web_text, defScope s_law_web_text, [], []⟩,
  ⟨("_law_word", none), "_law_word", "_law_word", defArgs s_law_word, defBody s_law_word, defScope s_law_word, [], []⟩,
  ⟨("_law_deed_row", none), "_law_deed_row", "_law_deed_row", defArgs s_law_deed_row, defBody s_law_deed_row, defScope s_law_deed_row, [], []⟩,
  ⟨("_law_numbers", none), "_law_numbers", "_law_numbers", defArgs s_law_numbers, defBody s_law_numbers, defScope s_law_numbers, [], []⟩,
  ⟨("_law_due", none), "_law_due", "_law_due", defArgs s_law_due, defBody s_law_due, defScope s_law_due, [], []⟩,
  ⟨("_law_refused", none), "_law_refused", "_law_refused", defArgs s_law_refused, defBody s_law_refused, defScope s_law_refused, [], []⟩,
  ⟨("_law_no_desk", none), "_law_no_desk", "_law_no_desk", defArgs s_law_no_desk, defBody s_law_no_desk, defScope s_law_no_desk, [], []⟩,
  ⟨("law", none), "law", "law", defArgs s_law, defBody s_law, defScope s_law, [], []⟩]
def loQ0 : List PySem.Str := ["_wall", "FloorError", "BadTie", "BadTurns", "Parted", "NotFlat", "BadText", "BadDeed", "Tie", "Pull", "Push", "head", "follower", "round_from", "rounds_of", "sides_of", "ends_are_places", "turns_are_right", "hangs_together", "Web", "FIGURES_texts", "MOST_FIGURES_texts", "MOST_PLACES", "MOST_TIES", "MOST_STRENGTH_texts", "number_of", "numbers_of", "row_at", "places_told", "tie_told"]
def loQ1 : List PySem.Str := ["turns_told", "tie_made", "read", "written", "FIGURES_desk", "MOST_FIGURES_desk", "MOST_STRENGTH_desk", "told_numbers", "other_kind", "strung", "flipped", "Desk", "_law_cell", "_law_head", "_law_behind", "_law_round", "_law_grown", "_law_order", "_law_renumbered", "_law_built", "_law_web_text", "_law_word", "_law_deed_row", "_law_numbers", "_law_due", "_law_refused", "_law_no_desk"]
def loQ : List PySem.Str := loQ0 ++ loQ1
abbrev hkQ : PySem.W.Hook := hookK fsQ fnQ
def obQ (s : PySem.W.SharedT) : He.AlD := obsKG fsQ fnQ (HandSHeadRun.getT s)
theorem obQ_eq (s : PySem.W.SharedT) : obQ s = hkQ.obs s.abs := obsKG_eq (HandSHeadRun.getT_eq s)
theorem runQ (w : World) : HandSHeadRun.RunEq (PySem.W.OpenLaw.row PySem.Challenge.rw_spinfloor_k64_deeds_refused) (PySem.W.view (PySem.W.OpenLaw.row PySem.Challenge.rw_spinfloor_k64_deeds_refused).prog [64]) hkQ obQ 8000 loQ w := by
  intro os
  kernel_rfl
abbrev qQ : Program := PySem.W.view (PySem.W.OpenLaw.row PySem.Challenge.rw_spinfloor_k64_deeds_refused).prog [64]
set_option maxRecDepth 100000 in
set_option maxHeartbeats 0 in
theorem headQ (hcall : PySem.W.WalkO qQ loQ (PySem.W.XL qQ []) hkQ.says (PySem.W.OpenLaw.row PySem.Challenge.rw_spinfloor_k64_deeds_refused).toRowW (HandSHeadRun.topDef (PySem.W.OpenLaw.row PySem.Challenge.rw_spinfloor_k64_deeds_refused).prog 64) [] fun f vs => PySem.call f vs) : PySem.Challenge.rw_spinfloor_k64_deeds_refused.Holds := by
  w_on; o_law
  refine HandSHeadRun.head_any (r := (PySem.W.OpenLaw.row PySem.Challenge.rw_spinfloor_k64_deeds_refused)) (q := qQ) (H := hkQ) (ob := obQ) (M := 8000) (loose := loQ) (d := (HandSHeadRun.topDef (PySem.W.OpenLaw.row PySem.Challenge.rw_spinfloor_k64_deeds_refused).prog 64)) (kwd := []) obQ_eq (by kernel_rfl) (fun s => by kernel_rfl) runQ (by kernel_rfl) (by kernel_rfl) (by kernel_rfl) (by rfl) (by first | assumption | decide +kernel) (by decide +kernel) ⟨rfl, rfl, rfl, rfl, rfl, by decide +kernel⟩ ?hw hcall
  case hw => w_witness2
/-! ### ties -/
structure Ti where
  push : Bool
  one : Nat
  two : Nat
  s : Nat
def tf (a b s : Int) : List (Str × V) := [("one", .int a), ("two", .int b), ("strength", .int s)]
theorem tf_one (a b s : Int) : (tf a b s).lookup ("one" : Str) = some (.int a) := by rfl
theorem tf_two (a b s : Int) : (tf a b s).lookup ("two" : Str) = some (.int b) := by rfl
theorem tf_str (a b s : Int) : (tf a b s).lookup ("strength" : Str) = some (.int s) := by rfl
theorem tf_eq (a b s : Int) : putF "strength" (.int s) (putF "two" (.int b) (putF "one" (.int a) [])) = tf a b s := by rfl
def clsOf (CP CQ : Addr) (push : Bool) : Addr := if push = true then CQ else CP
def TieAt (CP CQ : Addr) (H : Hp) (p : Addr) (t : Ti) : Prop := ∃ dx, H p = some (.ins (clsOf CP CQ t.push) dx (tf t.one t.two t.s))
theorem TieAt.same {CP CQ : Addr} {H H' : Hp} {p : Addr} {t : Ti} (h : TieAt CP CQ H p t) (e : Same H H') : TieAt CP CQ H' p t := by
  obtain ⟨dx, h⟩ := h
  exact ⟨dx, e _ _ h⟩
/-- a list of ties: where each stands -/
def TiesIn (CP CQ : Addr) (H : Hp) (ps : List Addr) (ts : List Ti) : Prop := ps.length = ts.length ∧ ∀ (i : Nat) (p : Addr) (t : Ti), ps[i]? = some p → ts[i]? = some t → TieAt CP CQ H p t
def TiesAt (K : PySem.W.Frag) (CP CQ : Addr) (H : Hp) (a : Addr) (ts : List Ti) : Prop := ∃ ps : List Addr, SqL K H a (ps.map V.ref) ∧ TiesIn CP CQ H ps ts
theorem TiesIn.same {CP CQ : Addr} {H H' : Hp} {ps : List Addr} {ts : List Ti} (h : TiesIn CP CQ H ps ts) (e : Same H H') : TiesIn CP CQ H' ps ts := ⟨h.1, fun i p t a b => (h.2 i p t a b).same e⟩
theorem TiesAt.same {K : PySem.W.Frag} {CP CQ : Addr} {H H' : Hp} {a : Addr} {ts : List Ti} (h : TiesAt K CP CQ H a ts) (e : Same H H') : TiesAt K CP CQ H' a ts := by
  obtain ⟨ps, h1, h2⟩ := h
  exact ⟨ps, e.seq h1, h2.same e⟩
theorem TiesIn.nil {CP CQ : Addr} {H : Hp} : TiesIn CP CQ H [] [] := ⟨rfl, fun i p t a _ => by simp at a⟩
theorem TieAt.ins {CP CQ : Addr} {H : Hp} {p D : Addr} {t : Ti} {xs ys : List V} (h : TieAt CP CQ H p t) (hD : H D = some (.lst xs)) : TieAt CP CQ (upd H D (.lst ys)) p t := by
  obtain ⟨dx, h⟩ := h
  exact ⟨dx, by rw [upd_ne (ne_of h hD (by intro z; cases z))]; exact h⟩
theorem TiesIn.lst {CP CQ : Addr} {H : Hp} {D : Addr} {ps : List Addr} {ts : List Ti} {xs ys : List V} (h : TiesIn CP CQ H ps ts) (hD : H D = some (.lst xs)) : TiesIn CP CQ (upd H D (.lst ys)) ps ts :=
  ⟨h.1, fun i p t a b => (h.2 i p t a b).ins hD⟩
theorem TiesIn.push {CP CQ : Addr} {H : Hp} {p : Addr} {t : Ti} {ps : List Addr} {ts : List Ti} (h : TiesIn CP CQ H ps ts) (hp : TieAt CP CQ H p t) : TiesIn CP CQ H (ps ++ [p]) (ts ++ [t]) := by
  refine ⟨by simp [h.1], fun i p' t' a b => ?_⟩
  have hl := h.1
  by_cases e : i < ps.length
  · rw [List.getElem?_append_left e] at a
    rw [List.getElem?_append_left (by omega)] at b
    exact h.2 i p' t' a b
  · have e2 : i = ps.length := by
      have := (List.getElem?_eq_some_iff.mp a).1
      simp at this
      omega
    subst e2
    rw [List.getElem?_append_right (Nat.le_refl _), Nat.sub_self] at a
    rw [List.getElem?_append_right (by omega), hl, Nat.sub_self] at b
    simp at a b
    subst a b
    exact hp
theorem TiesIn.get {CP CQ : Addr} {H : Hp} {ps : List Addr} {ts : List Ti} (h : TiesIn CP CQ H ps ts) {i : Nat} {t : Ti} (e : ts[i]? = some t) : ∃ p, (ps.map V.ref)[i]? = some (.ref p) ∧ TieAt CP CQ H p t := by
  have hi : i < ps.length := by have := (List.getElem?_eq_some_iff.mp e).1; rw [h.1]; exact this
  exact ⟨ps[i], by rw [List.getElem?_map, List.getElem?_eq_getElem hi]; rfl, h.2 i _ _ (List.getElem?_eq_getElem hi) e⟩
theorem made_same {H : Hp} {x dx C : Addr} {fs : List (Str × V)} (h1 : New H x) (h2 : New H dx) (h3 : dx ≠ x) : Same H (upd (upd H dx (.own x)) x (.ins C dx fs)) :=
  ((Same.refl H).new h2).new (show upd H dx (.own x) x = none by rw [upd_ne (Ne.symm h3)]; exact h1)
section
variable {P : Program} {w : World} {K : PySem.W.Frag} {mg : Str → Option Value} {base : Heap} {C_Pull C_Push C_Web C_Desk C_BadTie C_BadTurns C_Parted C_NotFlat C_BadText C_BadDeed C_FloorError : Addr}
structure TieCls (K : PySem.W.Frag) (CP CQ : Addr) : Prop where
  cp : Cls K CP
  cq : Cls K CQ
  p1 : NoAttr K CP "one"
  p2 : NoAttr K CP "two"
  p3 : NoAttr K CP "strength"
  q1 : NoAttr K CQ "one"
  q2 : NoAttr K CQ "two"
  q3 : NoAttr K CQ "strength"
theorem TieCls.cl (T : TieCls K C_Pull C_Push) (push : Bool) : Cls K (clsOf C_Pull C_Push push) := by cases push; exact T.cp; exact T.cq
theorem TieCls.n1 (T : TieCls K C_Pull C_Push) (push : Bool) : NoAttr K (clsOf C_Pull C_Push push) "one" := by cases push; exact T.p1; exact T.q1
theorem TieCls.n2 (T : TieCls K C_Pull C_Push) (push : Bool) : NoAttr K (clsOf C_Pull C_Push push) "two" := by cases push; exact T.p2; exact T.q2
theorem TieCls.n3 (T : TieCls K C_Pull C_Push) (push : Bool) : NoAttr K (clsOf C_Pull C_Push push) "strength" := by cases push; exact T.p3; exact T.q3
theorem Txt.tie {C_Pull C_Push C_Web C_Desk C_BadTie C_BadTurns C_Parted C_NotFlat C_BadText C_BadDeed C_FloorError : Addr} (T : Txt K mg C_Pull C_Push C_Web C_Desk C_BadTie C_BadTurns C_Parted C_NotFlat C_BadText C_BadDeed C_FloorError) : TieCls K C_Pull C_Push := ⟨T.cl_Pull, T.cl_Push, T.n_Pull_one, T.n_Pull_two, T.n_Pull_strength, T.n_Push_one, T.n_Push_two, T.n_Push_strength⟩
theorem w_t1 {H : Hp} {p : Addr} {t : Ti} {R : V → Prop} (T : TieCls K C_Pull C_Push) (hp : TieAt C_Pull C_Push H p t) (h : R (.int (t.one : Nat))) : ∃ a C' dx' fs' v', V.ref p = .ref a ∧ H a = some (.ins C' dx' fs') ∧ Cls K C' ∧ NoAttr K C' "one" ∧ fs'.lookup ("one" : Str) = some v' ∧ R v' := by
  obtain ⟨dx, e⟩ := hp
  exact ⟨p, _, dx, _, _, rfl, e, T.cl _, T.n1 _, tf_one _ _ _, h⟩
theorem w_t2 {H : Hp} {p : Addr} {t : Ti} {R : V → Prop} (T : TieCls K C_Pull C_Push) (hp : TieAt C_Pull C_Push H p t) (h : R (.int (t.two : Nat))) : ∃ a C' dx' fs' v', V.ref p = .ref a ∧ H a = some (.ins C' dx' fs') ∧ Cls K C' ∧ NoAttr K C' "two" ∧ fs'.lookup ("two" : Str) = some v' ∧ R v' := by
  obtain ⟨dx, e⟩ := hp
  exact ⟨p, _, dx, _, _, rfl, e, T.cl _, T.n2 _, tf_two _ _ _, h⟩
theorem w_t3 {H : Hp} {p : Addr} {t : Ti} {R : V → Prop} (T : TieCls K C_Pull C_Push) (hp : TieAt C_Pull C_Push H p t) (h : R (.int (t.s : Nat))) : ∃ a C' dx' fs' v', V.ref p = .ref a ∧ H a = some (.ins C' dx' fs') ∧ Cls K C' ∧ NoAttr K C' "strength" ∧ fs'.lookup ("strength" : Str) = some v' ∧ R v' := by
  obtain ⟨dx, e⟩ := hp
  exact ⟨p, _, dx, _, _, rfl, e, T.cl _, T.n3 _, tf_str _ _ _, h⟩
def spTInit (CP CQ : Addr) : Sp := fun vs H Q _ => ∃ (p dx : Addr) (t : Ti), vs = [.ref p, .int t.one, .int t.two, .int t.s] ∧ H p = some (.ins (clsOf CP CQ t.push) dx []) ∧ t.one ≠ t.two ∧ Q .non (upd H p (.ins (clsOf CP CQ t.push) dx (tf t.one t.two t.s)))
theorem ok_Tie___init__ {f : Addr} {fd : FuncData} (F : Fun K "__init__" "Tie.__init__" s_Tie___init__ f fd) (B : Bl mg) {C_Pull C_Push C_Web C_Desk C_BadTie C_BadTurns C_Parted C_NotFlat C_BadText C_BadDeed C_FloorError : Addr} (T : Txt K mg C_Pull C_Push C_Web C_Desk C_BadTie C_BadTurns C_Parted C_NotFlat C_BadText C_BadDeed C_FloorError) : HasFn P w K mg base CX0 1 f ["self", "one", "two", "strength"] (spTInit C_Pull C_Push) := by
  refine HasFn.mk' F (F.binds (ps := ["self", "one", "two", "strength"]) fun _ _ _ _ _ _ us hl => match us, hl with | [_, _, _, _], _ => rfl) sc_Tie___init__ (by walk_at "len") (fun cdv A outer s H vs Q E hr h => ?_)
  obtain ⟨p, dx, t, rfl, hp, hne, q⟩ := h
  refine ⟨_, (pss_cons (ps_if (PW.pt (pw_or (pt_cmpR op_eq (pv 1) (pv 2) (nomark _)) (pw_or (pt_cmpR op_lt (pv 1) pe_int (nomark _)) (pw_or (pt_cmpR op_lt (pv 2) pe_int (nomark _)) (pw_or1 (pt_cmpR op_lt (pv 3) pe_int (nomark _))))))) (pss_one ps_never) pss_nil)
 (pss_cons (ps_fld (pv 0) (pv 1) rfl)
 (pss_cons (ps_fld (pv 0) (pv 2) rfl)
 (pss_one (ps_fld (pv 0) (pv 3) rfl))))), ?_⟩
  walk_at "sts"
  refine w_sfq hp (T.tie.cl _) (T.tie.n1 _) (by show 0 < 1000; decide) ?_
  walk_at "sts"
  refine w_sfq upd_same (T.tie.cl _) (T.tie.n2 _) (by show 1 < 1000; decide) ?_
  walk_at "sts"
  refine w_sfq upd_same (T.tie.cl _) (T.tie.n3 _) (by show 2 < 1000; decide) ?_
  walk_at "sts"
  rw [tf_eq, upd_upd, upd_upd]
  exact q
end

/-! ### data of webs -/
def dRow (r : List Nat) : PyData := .list (r.map fun x : Nat => .int (x : Int))
def dRows (T : List (List Nat)) : PyData := .list (T.map dRow)
def iv (r : List Nat) : List V := r.map fun x : Nat => V.int (x : Int)
theorem iv_len (r : List Nat) : (iv r).length = r.length := by unfold iv; simp
theorem iv_at {r : List Nat} {i : Nat} (h : i < r.length) : (iv r)[i]? = some (.int ((r.getD i 0 : Nat) : Int)) := by
  unfold iv
  rw [List.getElem?_map, List.getD_eq_getElem?_getD, List.getElem?_eq_getElem h]
  rfl
theorem iv_app (r s : List Nat) : iv (r ++ s) = iv r ++ iv s := by unfold iv; simp
theorem take_snoc {l : List Nat} {i : Nat} (h : i < l.length) : l.take (i + 1) = l.take i ++ [l.getD i 0] := by
  rw [List.take_add_one, List.getElem?_eq_getElem h, List.getD_eq_getElem?_getD, List.getElem?_eq_getElem h]
  rfl
theorem iv_flat (r : List Nat) : (iv r).all flatV = true := by
  rw [List.all_eq_true]
  intro v hv
  obtain ⟨x, _, rfl⟩ := List.mem_map.mp hv
  rfl
theorem dpRowA {K : PySem.W.Frag} {H : Hp} {a : Addr} {r : List Nat} (h : Dp K H (.ref a) (dRow r)) : SqL K H a (iv r) := by
  obtain ⟨xs, h1, h2⟩ := dpLstA h
  have e := dpAll_ints (ns := r.map fun x : Nat => (x : Int)) (by rw [List.map_map]; exact h2)
  rw [List.map_map] at e
  have e2 : xs = iv r := e
  rw [← e2]
  exact h1
theorem dpRow {K : PySem.W.Frag} {H : Hp} {a : Addr} {r : List Nat} (h : SqL K H a (iv r)) : Dp K H (.ref a) (dRow r) := by
  have := dpInts (K := K) (H := H) (r.map fun x : Nat => (x : Int))
  rw [List.map_map, List.map_map] at this
  exact .lst h this
theorem goodRow (r : List Nat) : Good 1 (dRow r) := goodLst (goodMap fun _ => goodInt)
theorem goodRows (T : List (List Nat)) : Good 2 (dRows T) := goodLst (goodMap fun r => goodRow r)
theorem w_idx {K : PySem.W.Frag} {H : Hp} {Q : VK} {p : Addr} {r : List Nat} {x : Nat} (hs : SqL K H p (iv r)) (hx : x ∈ r) (h : Q (.int ((r.idxOf x : Nat) : Int)) H) : rIndex K (.ref p) [.int (x : Int)] H Q := by
  have hl : r.idxOf x < r.length := List.idxOf_lt_length_of_mem hx
  refine ⟨p, iv r, .int (x : Int), r.idxOf x, .int ((r.getD (r.idxOf x) 0 : Nat) : Int), rfl, rfl, hs, rfl, iv_flat r, iv_at hl, ?_, ?_, h⟩
  · have : r.getD (r.idxOf x) 0 = x := by
      rw [List.getD_eq_getElem?_getD, List.getElem?_eq_getElem hl]
      exact List.getElem_idxOf hl
    rw [this]
    simp [eqV]
  · intro m z' hm hz
    have hml : m < r.length := by omega
    rw [iv_at hml] at hz
    cases hz
    have hne : r.getD m 0 ≠ x := by
      rw [List.getD_eq_getElem?_getD, List.getElem?_eq_getElem hml]
      have := List.not_of_lt_findIdx (xs := r) (p := (· == x)) hm
      simpa using this
    show (((r.getD m 0 : Nat) : Int) == (x : Int)) = false
    rw [beq_eq_false_iff_ne]
    omega
theorem iv_map (r : List Nat) : iv r = (r.map fun x : Nat => (x : Int)).map V.int := by unfold iv; rw [List.map_map]; rfl

theorem dpRowsAt {K : PySem.W.Frag} {H : Hp} {xs : List V} {T : List (List Nat)} (h : DpAll K H xs (T.map dRow)) {i : Nat} (hi : i < T.length) : ∃ q, xs[i]? = some (.ref q) ∧ SqL K H q (iv (row T i)) := by
  obtain ⟨v, h1, h2⟩ := dpaGet (i := i) (d := dRow (row T i)) h (by
    rw [List.getElem?_map, row, List.getD_eq_getElem?_getD, List.getElem?_eq_getElem hi]
    rfl)
  obtain ⟨q, xs', rfl, _, _⟩ := dpLst h2
  exact ⟨q, h1, dpRowA h2⟩
def endsOf (ts : List Ti) : EdgL := ts.map fun t => (t.one, t.two)
theorem endsOf_len (ts : List Ti) : (endsOf ts).length = ts.length := by unfold endsOf; simp
def ti (ts : List Ti) (i : Nat) : Ti := ts.getD i ⟨false, 0, 0, 0⟩
theorem ti_at {ts : List Ti} {i : Nat} (h : i < ts.length) : ts[i]? = some (ti ts i) := by
  unfold ti
  rw [List.getD_eq_getElem?_getD, List.getElem?_eq_getElem h]
  rfl
theorem en_ti {ts : List Ti} {i : Nat} (h : i < ts.length) : en (endsOf ts) i = ((ti ts i).one, (ti ts i).two) := by
  unfold en endsOf
  rw [List.getD_eq_getElem?_getD, List.getElem?_map, ti_at h]
  rfl
section
variable {P : Program} {w : World} {K : PySem.W.Frag} {mg : Str → Option Value} {base : Heap} {C_Pull C_Push C_Web C_Desk C_BadTie C_BadTurns C_Parted C_NotFlat C_BadText C_BadDeed C_FloorError : Addr}
def spHead (K : PySem.W.Frag) (CP CQ : Addr) : Sp := fun vs H Q _ => ∃ (a : Addr) (d : Nat) (ts : List Ti), vs = [.ref a, .int d] ∧ TiesAt K CP CQ H a ts ∧ d < 2 * ts.length ∧ Q (.int (hd (endsOf ts) d : Nat)) H
theorem ok_head {f : Addr} {fd : FuncData} (F : Fun K "head" "head" s_head f fd) (gf : mg "head" = some (.ref f)) (B : Bl mg) {C_Pull C_Push C_Web C_Desk C_BadTie C_BadTurns C_Parted C_NotFlat C_BadText C_BadDeed C_FloorError : Addr} (T : Txt K mg C_Pull C_Push C_Web C_Desk C_BadTie C_BadTurns C_Parted C_NotFlat C_BadText C_BadDeed C_FloorError) : Has P w K mg base CX0 1 "head" ["ties", "dart"] (spHead K C_Pull C_Push) := by
  refine Has.mk' F gf (F.binds (ps := ["ties", "dart"]) fun _ _ _ _ _ _ us hl => match us, hl with | [_, _], _ => rfl) sc_head (by walk_at "len") (fun cdv A outer s H vs Q E hr h => ?_)
  obtain ⟨a, d, ts, rfl, ⟨ps, hS, hT⟩, hd', q⟩ := h
  obtain ⟨p, h1, h2⟩ := hT.get (ti_at (ts := ts) (i := d / 2) (by omega))
  unfold hd at q
  rw [en_ti (by omega)] at q
  refine ⟨_, (pss_cons (ps_if (pt_cmpR op_eq (pe_op op_mod (pv 1) pe_int) pe_int (nomark _)) (pss_one (ps_ret (pe_fldK K (pe_ix (ix_listK K) (pv 0) (pe_op op_fdivW (pv 1) pe_int) (fun _ _ => rfl)) rfl))) pss_nil)
 (pss_one (ps_ret (pe_fldK K (pe_ix (ix_listK K) (pv 0) (pe_op op_fdivW (pv 1) pe_int) (fun _ _ => rfl)) rfl)))), ?_⟩
  walk_at "sts"
  refine ifd (fun h => ?_) (fun h => ?_)
  · rw [if_pos (by omega)] at q
    walk_at "sts"
    refine w_t2 T.tie h2 ?_
    walk_at "sts"
    exact q
  · rw [if_neg (by omega)] at q
    walk_at "sts"
    refine w_t1 T.tie h2 ?_
    walk_at "sts"
    exact q
def spFol (K : PySem.W.Frag) (CP CQ : Addr) : Sp := fun vs H Q _ => ∃ (a b : Addr) (d : Nat) (ts : List Ti) (T : Turns), vs = [.ref a, .ref b, .int d] ∧ TiesAt K CP CQ H a ts ∧ Dp K H (.ref b) (dRows T) ∧ Ok (endsOf ts) T ∧ d < 2 * ts.length ∧ ts.length ≤ 1000 ∧ Q (.int (fol (endsOf ts) T d : Nat)) H
theorem ok_follower {f : Addr} {fd : FuncData} (F : Fun K "follower" "follower" s_follower f fd) (gf : mg "follower" = some (.ref f)) (B : Bl mg) {C_Pull C_Push C_Web C_Desk C_BadTie C_BadTurns C_Parted C_NotFlat C_BadText C_BadDeed C_FloorError : Addr} (T : Txt K mg C_Pull C_Push C_Web C_Desk C_BadTie C_BadTurns C_Parted C_NotFlat C_BadText C_BadDeed C_FloorError) (h_head : Has P w K mg base CX0 1 "head" ["ties", "dart"] (spHead K C_Pull C_Push)) : Has P w K mg base CX0 2 "follower" ["ties", "turns", "dart"] (spFol K C_Pull C_Push) := by
  refine Has.mk' F gf (F.binds (ps := ["ties", "turns", "dart"]) fun _ _ _ _ _ _ us hl => match us, hl with | [_, _, _], _ => rfl) sc_follower (by walk_at "len") (fun cdv A outer s H vs Q E hr h => ?_)
  obtain ⟨a, b, d, ts, Tu, rfl, hTi, hTu, ok, hd', hsz, q⟩ := h
  have hd2 : d < 2 * (endsOf ts).length := by rw [endsOf_len]; exact hd'
  obtain ⟨ps, hS, hT⟩ := id hTi
  obtain ⟨xs, hx, hX⟩ := dpLstA hTu
  obtain ⟨rq, hr1, hr2⟩ := dpRowsAt hX (ok.hd_lt hd2)
  have hm := ok.hd_mem hd2
  obtain ⟨hj, hjo⟩ := ok.nxt_mem' hd2
  rw [endsOf_len] at hj
  obtain ⟨p, h1, h2⟩ := hT.get (ti_at hj)
  unfold fol outOf at q
  rw [en_ti hj] at q
  have hl0 : 0 < (row Tu (hd (endsOf ts) d)).length := List.length_pos_of_mem hm
  have hn : atI (iv (row Tu (hd (endsOf ts) d))) ((((row Tu (hd (endsOf ts) d)).idxOf (d / 2) : Nat) : Int) + 1) = atI (iv (row Tu (hd (endsOf ts) d))) ((((row Tu (hd (endsOf ts) d)).idxOf (d / 2) : Nat) : Int) + 1) := rfl
  have hix : atI (iv (row Tu (hd (endsOf ts) d))) (((((row Tu (hd (endsOf ts) d)).idxOf (d / 2) : Nat) : Int) + 1) % ((iv (row Tu (hd (endsOf ts) d))).length : Int)) = some (.int ((nxt (row Tu (hd (endsOf ts) d)) (d / 2) : Nat) : Int)) := by
    rw [iv_len, show ((((row Tu (hd (endsOf ts) d)).idxOf (d / 2) : Nat) : Int) + 1) % ((row Tu (hd (endsOf ts) d)).length : Int) = (((row Tu (hd (endsOf ts) d)).idxOf (d / 2) + 1) % (row Tu (hd (endsOf ts) d)).length : Nat) by rw [Int.natCast_emod, Int.natCast_add]; rfl]
    exact atI_nat (iv_at (Nat.mod_lt _ hl0))
  have hpos : 0 < ((iv (row Tu (hd (endsOf ts) d))).length : Int) := by rw [iv_len]; omega
  refine ⟨_, (pss_cons (ps_set (i := 3) sc_follower.nd rfl (.inl rfl) (pe_fn h_head (hr.mono (by decide)) (by rfl) (pa_cons (pv 0) (pa_cons (pv 2) pa_nil))))
 (pss_cons (ps_set (i := 4) sc_follower.nd rfl (.inl rfl) (pe_ix (ix_listK K) (pv 1) (pv 3) (fun _ _ => rfl)))
 (pss_cons (ps_set (i := 5) sc_follower.nd rfl (.inl rfl) (pe_ix (ix_listK K) (pv 4) (pe_op op_mod (pe_op op_add (pe_bmK K (pe_bm PySem.F.plainAttrs_list PySem.F.slot_list_index PySem.F.type_list_index (mt_indexK K) (pv 4) (pa_cons (pe_op op_fdivW (pv 2) pe_int) pa_nil))) pe_int) (pe_callB (call_lenK K) (by rfl) B.len (by decide +kernel) (pa_cons (pv 4) pa_nil))) (fun _ _ => rfl)))
 (pss_cons (ps_if (pt_cmpR op_eq (pe_fldK K (pe_ix (ix_listK K) (pv 0) (pv 5) (fun _ _ => rfl)) rfl) (pv 3) (nomark _)) (pss_one (ps_ret (pe_op op_mulX pe_int (pv 5)))) pss_nil)
 (pss_one (ps_ret (pe_op op_add (pe_op op_mulX pe_int (pv 5)) pe_int))))))), ?_⟩
  walk_at "sts"
  refine ⟨a, d, ts, rfl, hTi, hd', ?_⟩
  walk_at "sts"
  refine w_idx hr2 hm ?_
  walk_at "sts"
  refine w_t1 T.tie h2 ?_
  walk_at "sts"
  refine ifd (fun h => ?_) (fun h => ?_)
  · rw [if_pos (by omega)] at q
    walk_at "sts"
    exact q
  · rw [if_neg (by omega)] at q
    walk_at "sts"
    exact q
def spRound (K : PySem.W.Frag) (CP CQ : Addr) : Sp := fun vs H Q _ => ∃ (a b : Addr) (x : Nat) (l : List Nat) (ts : List Ti) (T : Turns), vs = [.ref a, .ref b, .int x] ∧ TiesAt K CP CQ H a ts ∧ Dp K H (.ref b) (dRows T) ∧ Ok (endsOf ts) T ∧ ts.length ≤ 1000 ∧
  Path (fol (endsOf ts) T) x l x ∧ (x :: l).Nodup ∧ (∀ z ∈ x :: l, z < 2 * ts.length) ∧ ∀ p H', Same H H' → New H p → H' p = some (.lst (iv (x :: l))) → Q (.ref p) H'
theorem ok_round_from {f : Addr} {fd : FuncData} (F : Fun K "round_from" "round_from" s_round_from f fd) (gf : mg "round_from" = some (.ref f)) (B : Bl mg) {C_Pull C_Push C_Web C_Desk C_BadTie C_BadTurns C_Parted C_NotFlat C_BadText C_BadDeed C_FloorError : Addr} (T : Txt K mg C_Pull C_Push C_Web C_Desk C_BadTie C_BadTurns C_Parted C_NotFlat C_BadText C_BadDeed C_FloorError) (h_follower : Has P w K mg base CX0 2 "follower" ["ties", "turns", "dart"] (spFol K C_Pull C_Push)) : Has P w K mg base CX0 3 "round_from" ["ties", "turns", "first"] (spRound K C_Pull C_Push) := by
  refine Has.mk' F gf (F.binds (ps := ["ties", "turns", "first"]) fun _ _ _ _ _ _ us hl => match us, hl with | [_, _, _], _ => rfl) sc_round_from (by walk_at "len") (fun cdv A outer s H vs Q E hr h => ?_)
  obtain ⟨a, b, x, l, ts, Tu, rfl, hTi, hTu, ok, hsz, hp, hn, hlt, q⟩ := h
  have hll : l.length ≤ 2 * ts.length := by
    have := nodup_sub_len (ys := List.range (2 * ts.length)) hn fun z hz => List.mem_range.mpr (hlt z hz)
    simp at this
    omega
  have nx : ∀ i, i < l.length → l.getD i 0 ≠ x ∧ l.getD i 0 < 2 * ts.length := fun i hi => by
    have e : l.getD i 0 = l[i] := by rw [List.getD_eq_getElem?_getD, List.getElem?_eq_getElem hi]; rfl
    have hm : l[i] ∈ l := List.getElem_mem hi
    rw [e]
    exact ⟨fun q => (List.nodup_cons.mp hn).1 (q ▸ hm), hlt _ (List.mem_cons_of_mem _ hm)⟩
  have gx : ∀ i, (l ++ [x]).getD i 0 = if i < l.length then l.getD i 0 else if i = l.length then x else 0 := fun i => by
    rw [List.getD_eq_getElem?_getD, List.getD_eq_getElem?_getD]
    by_cases h : i < l.length
    · rw [if_pos h, List.getElem?_append_left h]
    · rw [if_neg h]
      by_cases h2 : i = l.length
      · rw [if_pos h2, h2, List.getElem?_append_right (Nat.le_refl _), Nat.sub_self]; rfl
      · rw [if_neg h2, List.getElem?_eq_none (by simp; omega)]; rfl
  refine ⟨_, (pss_cons (ps_set (i := 3) sc_round_from.nd rfl (.inl rfl) (pe_lst (pa_cons (pv 2) pa_nil)))
 (pss_cons (ps_set (i := 4) sc_round_from.nd rfl (.inl rfl) (pe_fn h_follower (hr.mono (by decide)) (by rfl) (pa_cons (pv 0) (pa_cons (pv 1) (pa_cons (pv 2) pa_nil)))))
 (pss_cons (ps_while PassesOwn.never (pt_cmpR op_ne (pv 4) (pv 2) (nomark _)) (pss_cons (ps_expr (pe_bmK K (pe_bm PySem.F.plainAttrs_list PySem.F.slot_list_append PySem.F.type_list_append mt_append (pv 3) (pa_cons (pv 4) pa_nil))))
 (pss_one (ps_set (i := 4) sc_round_from.nd rfl (.inl rfl) (pe_fn h_follower (hr.mono (by decide)) (by rfl) (pa_cons (pv 0) (pa_cons (pv 1) (pa_cons (pv 4) pa_nil))))))))
 (pss_one (ps_ret (pv 3)))))), ?_⟩
  walk_at "sts"
  refine w_new fun p1 n1 => ?_
  walk_at "sts"
  have s1 : Same H (upd H p1 (.lst [.int (x : Int)])) := by walk_at "same"
  refine ⟨a, b, x, ts, Tu, rfl, hTi.same s1, hTu.same s1, ok, hlt x List.mem_cons_self, hsz, ?_⟩
  have g0 := hp.get 0 (Nat.zero_le _)
  rw [show fol (endsOf ts) Tu x = (l ++ [x]).getD 0 0 from g0]
  walk_at "sts"
  refine ⟨fun k σ H' => ∃ i, i + k = l.length ∧ σ = [some (.ref a), some (.ref b), some (.int (x : Int)), some (.ref p1), some (.int (((l ++ [x]).getD i 0 : Nat) : Int))] ∧ Same H H' ∧ H' p1 = some (.lst (iv (x :: l.take i))), ⟨l.length, 0, by omega, rfl, s1, upd_same⟩, ?_⟩
  rintro k σ H' ⟨i, hi, rfl, s2, h1⟩
  walk_at "sts"
  rw [gx]
  by_cases hk : i < l.length
  · rw [if_pos hk]
    obtain ⟨n2, n3⟩ := nx i hk
    refine ifnd (fun _ => ?_) (fun h => absurd h (by omega))
    refine w_wt ?_
    have hsl : (iv (x :: l.take i)).length < sizeLine := szlt (by rw [iv_len]; simp; omega)
    walk_at "sts"
    have s3 : Same H (upd H' p1 (.lst (iv (x :: l.take i) ++ [.int ((l.getD i 0 : Nat) : Int)]))) := by walk_at "same"
    refine ⟨a, b, _, ts, Tu, rfl, hTi.same s3, hTu.same s3, ok, n3, hsz, ?_⟩
    have g1 := hp.get (i + 1) (by omega)
    rw [show fol (endsOf ts) Tu (l.getD i 0) = (l ++ [x]).getD (i + 1) 0 from g1]
    walk_at "sts"
    refine ⟨k - 1, by omega, i + 1, by omega, rfl, s3, ?_⟩
    rw [upd_same]
    rw [take_snoc hk, ← List.cons_append, iv_app]
    rfl
  · have e : i = l.length := by omega
    rw [if_neg hk, if_pos e]
    refine ifnd (fun h => absurd rfl h) (fun _ => ?_)
    walk_at "sts"
    rw [e, List.take_length] at h1
    exact q p1 H' s2 n1 h1
end
section
variable {P : Program} {w : World} {K : PySem.W.Frag} {mg : Str → Option Value} {base : Heap} {C_Pull C_Push C_Web C_Desk C_BadTie C_BadTurns C_Parted C_NotFlat C_BadText C_BadDeed C_FloorError : Addr}
def spRounds (K : PySem.W.Frag) (CP CQ : Addr) : Sp := fun vs H Q _ => ∃ (a b : Addr) (ts : List Ti) (T : Turns) (F : List (List Nat)), vs = [.ref a, .ref b] ∧ TiesAt K CP CQ H a ts ∧ Dp K H (.ref b) (dRows T) ∧ Ok (endsOf ts) T ∧ ts.length ≤ 1000 ∧ Rings (fol (endsOf ts) T) (2 * ts.length) F ∧
  ∀ p H' R, Same H H' → New H p → (∃ xs G, H' p = some (.lst xs) ∧ Same H G ∧ Same G H' ∧ New G p ∧ DpAll K G xs (R.map dRow)) → Canon (fol (endsOf ts) T) (2 * ts.length) R → Q (.ref p) H'
theorem ok_rounds_of {f : Addr} {fd : FuncData} (F : Fun K "rounds_of" "rounds_of" s_rounds_of f fd) (gf : mg "rounds_of" = some (.ref f)) (B : Bl mg) {C_Pull C_Push C_Web C_Desk C_BadTie C_BadTurns C_Parted C_NotFlat C_BadText C_BadDeed C_FloorError : Addr} (T : Txt K mg C_Pull C_Push C_Web C_Desk C_BadTie C_BadTurns C_Parted C_NotFlat C_BadText C_BadDeed C_FloorError) (h_round_from : Has P w K mg base CX0 3 "round_from" ["ties", "turns", "first"] (spRound K C_Pull C_Push)) : Has P w K mg base CX0 4 "rounds_of" ["ties", "turns"] (spRounds K C_Pull C_Push) := by
  refine Has.mk' F gf (F.binds (ps := ["ties", "turns"]) fun _ _ _ _ _ _ us hl => match us, hl with | [_, _], _ => rfl) sc_rounds_of (by walk_at "len") (fun cdv A outer s H vs Q E hr h => ?_)
  obtain ⟨a, b, ts, Tu, F, rfl, hTi, hTu, ok, hsz, hF, q⟩ := h
  obtain ⟨ps, hS, hT⟩ := id hTi
  have hpl : (ps.map V.ref).length = ts.length := by rw [List.length_map]; exact hT.1
  refine ⟨_, (pss_cons (ps_set (i := 2) sc_rounds_of.nd rfl (.inl rfl) (pe_lst pa_nil))
 (pss_cons (ps_set (i := 3) sc_rounds_of.nd rfl (.inl rfl) pe_dnewK)
 (pss_cons (ps_for PassesOwn.never rfl (pi_range1 (by rfl) B.range (pa_cons (pe_op op_mulX pe_int (pe_callB (call_lenK K) (by rfl) B.len (by decide +kernel) (pa_cons (pv 0) pa_nil))) pa_nil)) (pg_name (i := 4) sc_rounds_of.nd rfl (.inl rfl)) (pss_one (ps_if (pt_cmp (pc_dnotin (hu_of hr) (pv 4) (pv 3))) (pss_cons (ps_set (i := 5) sc_rounds_of.nd rfl (.inl rfl) (pe_fn h_round_from (hr.mono (by decide)) (by rfl) (pa_cons (pv 0) (pa_cons (pv 1) (pa_cons (pv 4) pa_nil)))))
 (pss_cons (ps_for PassesOwn.never rfl (pi_listK K (pv 5)) (pg_name (i := 6) sc_rounds_of.nd rfl (.inl rfl)) (pss_one (ps_dput (hu_of hr) (pv 3) (pv 6) pe_bl rfl)))
 (pss_one (ps_expr (pe_bmK K (pe_bm PySem.F.plainAttrs_list PySem.F.slot_list_append PySem.F.type_list_append mt_append (pv 2) (pa_cons (pv 5) pa_nil))))))) pss_nil)))
 (pss_one (ps_ret (pv 2)))))), ?_⟩
  walk_at "sts"
  refine w_new fun p1 n1 => ?_
  walk_at "sts"
  refine w_new fun p2 n2 => ?_
  walk_at "sts"
  have n12 : p1 ≠ p2 := ne_new upd_same n2
  have s0 : Same H (upd (upd H p1 (.lst [])) p2 (.dK [])) := by walk_at "same"
  have hS0 := s0.seq hS
  have m1 : New H p2 := n2.of (by walk_at "same")
  have hE : (endsOf ts).length = ts.length := endsOf_len ts
  walk_at "sts"
  refine for_r0 (n := 2 * ts.length) ?_ (fun i σ H' => ∃ (R : List (List Nat)) (xs : List V) (G : Hp) (kvs : List (Key × V)) (y4 y5 y6 : Option V), σ = [some (.ref a), some (.ref b), some (.ref p1), some (.ref p2), y4, y5, y6] ∧ Pre (fol (endsOf ts) Tu) (2 * ts.length) i R ∧
    H' p1 = some (.lst xs) ∧ H' p2 = some (.dK kvs) ∧ Holds kvs R.flatten (fun _ => .bl true) ∧ Same H G ∧ Same G H' ∧ New G p1 ∧ New G p2 ∧ DpAll K G xs (R.map dRow)) ?_ ?_ ?_
  · rw [hpl]; omega
  · exact ⟨[], [], H, [], _, _, _, rfl, Pre.zero, by walk_at "hp", upd_same, Holds.nil, Same.refl _, s0, n1, m1, .nil⟩
  · rintro i σ H' hi ⟨R, xs, G, kvs, y4, y5, y6, rfl, hP, h1, h2, hK, sG, sG', g1, g2, hD⟩
    have hfl : R.flatten.length ≤ 2 * ts.length := by
      have := nodup_sub_len (ys := List.range (2 * ts.length)) hP.nd fun z hz => List.mem_range.mpr (hP.lt z hz)
      simpa using this
    have hxl : xs.length = R.length := by have := dpaLen hD; simpa using this
    walk_at "sts"
    rw [hK.2]
    by_cases hin : i ∈ R.flatten
    · rw [if_pos hin]
      refine ifF rfl ?_
      walk_at "sts"
      exact ⟨R, xs, G, kvs, _, _, _, rfl, hP.skip hin, h1, h2, hK, sG, sG', g1, g2, hD⟩
    · rw [if_neg hin]
      refine ifT rfl ?_
      walk_at "sts"
      obtain ⟨A, r, B', l, eF, hp, pth⟩ := hF.at hi
      have hrF : r ∈ F := by rw [eF]; simp
      have hnr : (i :: l).Nodup := by
        rw [hp.nodup_iff]
        exact hF.nd.sublist (List.sublist_flatten_of_mem hrF)
      have hlt : ∀ z ∈ i :: l, z < 2 * ts.length := fun z hz => hF.mem.mp (List.mem_flatten.mpr ⟨r, hrF, hp.mem_iff.mp hz⟩)
      have sH : Same H H' := sG.trans sG'
      refine ⟨a, b, i, l, ts, Tu, rfl, hTi.same sH, hTu.same sH, ok, hsz, pth, hnr, hlt, fun p3 H2 s2 n3 h3 => ?_⟩
      obtain ⟨hP2, dis⟩ := hP.add hin pth hnr hlt
      have n3G : New G p3 := n3.of sG'
      have q13 : p1 ≠ p3 := ne_new h1 n3
      have q23 : p2 ≠ p3 := ne_new h2 n3
      have sG2 : Same G (upd G p3 (.lst (iv (i :: l)))) := (Same.refl G).new n3G
      have sG3 : Same (upd G p3 (.lst (iv (i :: l)))) H2 := (sG'.trans s2).add h3
      have g12 : New (upd G p3 (.lst (iv (i :: l)))) p1 := g1.upd q13
      have g22 : New (upd G p3 (.lst (iv (i :: l)))) p2 := g2.upd q23
      have hD2 : DpAll K (upd G p3 (.lst (iv (i :: l)))) (xs ++ [.ref p3]) ((R ++ [i :: l]).map dRow) := by
        rw [List.map_append]
        exact dpaApp (hD.same sG2) (.cons (dpRow (SqL.of upd_same)) .nil)
      have hl2 : (i :: l).length ≤ 2 * ts.length := by
        have := nodup_sub_len (ys := List.range (2 * ts.length)) hnr fun z hz => List.mem_range.mpr (hlt z hz)
        simpa using this
      generalize hGG : upd G p3 (.lst (iv (i :: l))) = G2 at sG2 sG3 g12 g22 hD2
      have gp3 : G2 p3 = some (.lst (iv (i :: l))) := by rw [← hGG]; exact upd_same
      walk_at "sts"
      refine for_list (xs := iv (i :: l)) (fun j σ H3 => ∃ (kvs : List (Key × V)) (y6 : Option V), σ = [some (.ref a), some (.ref b), some (.ref p1), some (.ref p2), some (.int (i : Nat)), some (.ref p3), y6] ∧ H3 p1 = some (.lst xs) ∧ H3 p2 = some (.dK kvs) ∧ Holds kvs (R.flatten ++ (i :: l).take j) (fun _ => .bl true) ∧ Same G2 H3) ?_ ?_ ?_ ?_
      · exact ⟨kvs, _, rfl, s2 _ _ h1, s2 _ _ h2, by simpa using hK, sG3⟩
      · rintro j σ H3 _ ⟨kvs, y6, _, _, _, _, s4⟩
        exact SqL.of (s4 _ _ gp3)
      · rintro j x σ H3 hx ⟨kvs, y6, rfl, h1, h2, hK, s4⟩
        have hj : j < (i :: l).length := by
          have := (List.getElem?_eq_some_iff.mp hx).1
          rwa [iv_len] at this
        rw [iv_at hj] at hx
        cases hx
        have hkl : kvs.length < 1000000 := by
          have := hK.1
          rw [List.length_append, List.length_take] at this
          omega
        walk_at "sts"
        refine ⟨_, _, rfl, by walk_at "hp", upd_same, ?_, by walk_at "same"⟩
        rw [take_snoc hj, ← List.append_assoc]
        exact hK.put _
      · rintro σ H3 ⟨kvs, y6, rfl, h1, h2, hK, s4⟩
        rw [iv_len, List.take_length] at hK
        have hxs : xs.length < 1000000 := by
          have : R.length ≤ R.flatten.length := by
            have hne : ∀ r ∈ R, 1 ≤ r.length := fun r hr => by obtain ⟨x, l', rfl, _⟩ := hP.ok r hr; simp
            exact flatten_ge hne
          omega
        walk_at "sts"
        refine ⟨R ++ [i :: l], _, G2, kvs, _, _, _, rfl, hP2, upd_same, ?_, ?_, sG.trans sG2, by walk_at "same", g12, g22, hD2⟩
        · rw [upd_ne (Ne.symm n12)]; exact h2
        · rw [List.flatten_append, List.flatten_singleton]; exact hK
  · rintro σ H' ⟨R, xs, G, kvs, y4, y5, y6, rfl, hP, h1, h2, hK, sG, sG', g1, g2, hD⟩
    walk_at "sts"
    exact q p1 H' R (sG.trans sG') n1 ⟨xs, G, h1, sG, sG', g1, hD⟩ hP.done
end
/-! ### the rest of a web's making -/
section
variable {P : Program} {w : World} {K : PySem.W.Frag} {mg : Str → Option Value} {base : Heap} {C_Pull C_Push C_Web C_Desk C_BadTie C_BadTurns C_Parted C_NotFlat C_BadText C_BadDeed C_FloorError : Addr}
def EndsP (ts : List Ti) (m : Nat) : Prop := ∀ i, i < ts.length → (ti ts i).one < m ∧ (ti ts i).two < m
def spEndsX (K : PySem.W.Frag) (CP CQ : Addr) : Sp := fun vs H Q _ => ∃ (m : Nat) (a : Addr) (ts : List Ti), vs = [.int m, .ref a] ∧ TiesAt K CP CQ H a ts ∧ (EndsP ts m → Q (.bl true) H) ∧ (¬ EndsP ts m → Q (.bl false) H)
theorem ok_ends_are_places {f : Addr} {fd : FuncData} (F : Fun K "ends_are_places" "ends_are_places" s_ends_are_places f fd) (gf : mg "ends_are_places" = some (.ref f)) (B : Bl mg) {C_Pull C_Push C_Web C_Desk C_BadTie C_BadTurns C_Parted C_NotFlat C_BadText C_BadDeed C_FloorError : Addr} (T : Txt K mg C_Pull C_Push C_Web C_Desk C_BadTie C_BadTurns C_Parted C_NotFlat C_BadText C_BadDeed C_FloorError) : Has P w K mg base CX0 1 "ends_are_places" ["many", "ties"] (spEndsX K C_Pull C_Push) := by
  refine Has.mk' F gf (F.binds (ps := ["many", "ties"]) fun _ _ _ _ _ _ us hl => match us, hl with | [_, _], _ => rfl) sc_ends_are_places (by walk_at "len") (fun cdv A outer s H vs Q E hr h => ?_)
  obtain ⟨m, a, ts, rfl, ⟨ps, hS, hT⟩, q1, q2⟩ := h
  refine ⟨_, (pss_cons (ps_for PassesOwn.never rfl (pi_listK K (pv 1)) (pg_name (i := 2) sc_ends_are_places.nd rfl (.inl rfl)) (pss_one (ps_if (PW.pt (pw_or (pt_cmpR op_ge (pe_fldK K (pv 2) rfl) (pv 0) (nomark _)) (pw_or1 (pt_cmpR op_ge (pe_fldK K (pv 2) rfl) (pv 0) (nomark _))))) (pss_one (ps_ret pe_bl)) pss_nil)))
 (pss_one (ps_ret pe_bl))), ?_⟩
  walk_at "sts"
  refine for_list (xs := ps.map V.ref) (fun i σ H' => ∃ y, σ = [some (.int m), some (.ref a), y] ∧ H' = H ∧ ∀ j, j < i → (ti ts j).one < m ∧ (ti ts j).two < m) ?_ ?_ ?_ ?_
  · exact ⟨_, rfl, rfl, fun j hj => absurd hj (Nat.not_lt_zero j)⟩
  · rintro i σ H' _ ⟨y, rfl, rfl, _⟩
    exact hS
  · rintro i x σ H' hx ⟨y, rfl, rfl, hj⟩
    rw [List.getElem?_map] at hx
    obtain ⟨p, hp, rfl⟩ := Option.map_eq_some_iff.mp hx
    have hi : i < ts.length := by rw [← hT.1]; exact (List.getElem?_eq_some_iff.mp hp).1
    have ht := hT.2 i p _ hp (ti_at hi)
    walk_at "sts"
    refine w_t1 T.tie ht ?_
    walk_at "sts"
    refine ifd (fun h1 => ?_) (fun h1 => ?_)
    · walk_at "sts"
      exact q2 fun z => by have := z i hi; omega
    walk_at "sts"
    refine w_t2 T.tie ht ?_
    walk_at "sts"
    refine ifd (fun h2 => ?_) (fun h2 => ?_)
    · walk_at "sts"
      exact q2 fun z => by have := z i hi; omega
    walk_at "sts"
    refine ⟨_, rfl, rfl, fun j hj2 => ?_⟩
    by_cases e : j = i
    · subst e; exact ⟨by omega, by omega⟩
    · exact hj j (by omega)
  · rintro σ H' ⟨y, rfl, rfl, hj⟩
    walk_at "sts"
    rw [List.length_map, hT.1] at hj
    exact q1 hj
/-- a list of lists of numbers, each of which may change -/
structure LL (H : Hp) (a : Addr) (qs : List Addr) (T : List (List Nat)) : Prop where
  top : H a = some (.lst (qs.map V.ref))
  len : qs.length = T.length
  nd : qs.Nodup
  row : ∀ (i : Nat) (q : Addr), qs[i]? = some q → H q = some (.lst (iv (row T i)))
  ne : a ∉ qs
theorem LL.same {H H' : Hp} {a : Addr} {qs : List Addr} {T : List (List Nat)} (h : LL H a qs T) (e : Same H H') : LL H' a qs T := ⟨e _ _ h.top, h.len, h.nd, fun i q hq => e _ _ (h.row i q hq), h.ne⟩
theorem LL.get {H : Hp} {a : Addr} {qs : List Addr} {T : List (List Nat)} (h : LL H a qs T) {i : Nat} (hi : i < T.length) : ∃ q, qs[i]? = some q ∧ (qs.map V.ref)[i]? = some (.ref q) ∧ H q = some (.lst (iv (Sf.row T i))) := by
  have hl : i < qs.length := by rw [h.len]; exact hi
  refine ⟨qs[i], List.getElem?_eq_getElem hl, by rw [List.getElem?_map, List.getElem?_eq_getElem hl]; rfl, h.row i _ (List.getElem?_eq_getElem hl)⟩
theorem LL.set {H : Hp} {a q : Addr} {qs : List Addr} {T : List (List Nat)} (h : LL H a qs T) {i : Nat} (hi : i < T.length) (hq : qs[i]? = some q) (r : List Nat) : LL (upd H q (.lst (iv r))) a qs (T.set i r) := by
  have hm : q ∈ qs := List.mem_of_getElem? hq
  have hqa : a ≠ q := fun e => h.ne (by rw [e]; exact hm)
  refine ⟨by rw [upd_ne hqa]; exact h.top, by rw [h.len, List.length_set], h.nd, fun j q' hj => ?_, h.ne⟩
  rw [row_set T r hi]
  by_cases e : j = i
  · subst e
    rw [hq] at hj
    cases hj
    rw [upd_same, if_pos rfl]
  · rw [if_neg e, upd_ne, h.row j q' hj]
    intro z
    subst z
    exact e (nd_ix h.nd hj hq)
theorem LL.push {H : Hp} {a q : Addr} {qs : List Addr} {T : List (List Nat)} (h : LL H a qs T) {r : List Nat} (hq : H q = some (.lst (iv r))) (n1 : q ∉ qs) (n2 : q ≠ a) : LL (upd H a (.lst ((qs ++ [q]).map V.ref))) a (qs ++ [q]) (T ++ [r]) := by
  refine ⟨upd_same, by simp [h.len], ?_, fun i q' hi => ?_, ?_⟩
  · exact List.nodup_append.mpr ⟨h.nd, by simp, fun x hx y hy e => by
      have e2 : y = q := by simpa using hy
      subst e2
      subst e
      exact n1 hx⟩
  · rw [row_push]
    by_cases e : i < qs.length
    · rw [List.getElem?_append_left e] at hi
      rw [if_neg (by rw [← h.len]; omega), upd_ne, h.row i q' hi]
      intro z
      subst z
      exact h.ne (List.mem_of_getElem? hi)
    · have e2 : i = qs.length := by
        have := (List.getElem?_eq_some_iff.mp hi).1
        simp at this
        omega
      subst e2
      rw [List.getElem?_append_right (Nat.le_refl _), Nat.sub_self] at hi
      simp at hi
      subst hi
      rw [if_pos h.len, upd_ne n2, hq]
  · intro z
    rcases List.mem_append.mp z with z | z
    · exact h.ne z
    · have : a = q := by simpa using z
      exact n2 this.symm
theorem LL.dpa {K : PySem.W.Frag} {H : Hp} {a : Addr} {qs : List Addr} {T : List (List Nat)} (h : LL H a qs T) : DpAll K H (qs.map V.ref) (T.map dRow) := by
  have go : ∀ (qs : List Addr) (T : List (List Nat)), qs.length = T.length → (∀ (i : Nat) (q : Addr), qs[i]? = some q → H q = some (.lst (iv (Sf.row T i)))) → DpAll K H (qs.map V.ref) (T.map dRow) := by
    intro qs
    induction qs with
    | nil => intro T hl _; cases T with
      | nil => exact .nil
      | cons _ _ => simp at hl
    | cons q qs ih =>
      intro T hl hr
      cases T with
      | nil => simp at hl
      | cons r T => exact .cons (dpRow (SqL.of (hr 0 q rfl))) (ih T (by simpa using hl) fun i q' hi => hr (i + 1) q' (by simpa using hi))
  exact go qs T h.len h.row
theorem LL.dp {K : PySem.W.Frag} {H : Hp} {a : Addr} {qs : List Addr} {T : List (List Nat)} (h : LL H a qs T) : Dp K H (.ref a) (dRows T) := .lst (SqL.of h.top) h.dpa
/-- the ties at p, below i -/
def atP (E : EdgL) (p i : Nat) : List Nat := (List.range i).filter fun k => (en E k).1 == p || (en E k).2 == p
def ownT (E : EdgL) (m i : Nat) : List (List Nat) := (List.range m).map fun p => atP E p i
theorem ownT_row {E : EdgL} {m i p : Nat} (h : p < m) : row (ownT E m i) p = atP E p i := by
  unfold row ownT
  rw [List.getD_eq_getElem?_getD, map_at h]
  rfl
theorem atP_succ (E : EdgL) (p i : Nat) : atP E p (i + 1) = if (en E i).1 = p ∨ (en E i).2 = p then atP E p i ++ [i] else atP E p i := by
  unfold atP
  rw [List.range_succ, List.filter_append]
  by_cases h : (en E i).1 = p ∨ (en E i).2 = p
  · rw [if_pos h]
    simp [h]
  · rw [if_neg h]
    have : ¬ (en E i).1 = p ∧ ¬ (en E i).2 = p := by omega
    simp [this]
theorem ownT_step {E : EdgL} {m i : Nat} (h1 : (en E i).1 < m) (h2 : (en E i).2 < m) (hne : (en E i).1 ≠ (en E i).2) :
    ((ownT E m i).set (en E i).1 (atP E (en E i).1 i ++ [i])).set (en E i).2 (atP E (en E i).2 i ++ [i]) = ownT E m (i + 1) := by
  unfold ownT
  rw [map_set, map_set]
  refine List.map_congr_left fun p _ => ?_
  rw [atP_succ]
  by_cases a : p = (en E i).2
  · rw [if_pos a, if_pos (.inr a.symm), a]
  · rw [if_neg a]
    by_cases b : p = (en E i).1
    · rw [if_pos b, if_pos (.inl b.symm), b]
    · rw [if_neg b, if_neg (by omega)]
theorem sorted_own {E : EdgL} {T : Turns} (ok : Ok E T) {p : Nat} (hp : p < T.length) {ns : List Int} (h1 : ns.Perm ((row T p).map fun x : Nat => (x : Int))) (h2 : ns.Pairwise (· ≤ ·)) : ns = (atP E p E.length).map fun x : Nat => (x : Int) := by
  have n2 : (atP E p E.length).Nodup := List.Pairwise.filter _ List.nodup_range
  have pm : ((row T p).map fun x : Nat => (x : Int)).Perm ((atP E p E.length).map fun x : Nat => (x : Int)) := by
    refine List.Perm.map _ (perm_of_nodup (ok.nd p hp) n2 fun a => ?_)
    rw [ok.mem p hp]
    unfold atP
    simp
  have s2 : ((atP E p E.length).map fun x : Nat => (x : Int)).Pairwise (· ≤ ·) := by
    rw [List.pairwise_map]
    refine List.Pairwise.imp ?_ (List.Pairwise.filter _ List.pairwise_lt_range)
    intro a b h
    omega
  exact List.Perm.eq_of_pairwise (fun a b _ _ h1 h2 => Int.le_antisymm h1 h2) h2 s2 (h1.trans pm)
end

theorem row_rep (n i : Nat) : row (List.replicate n []) i = [] := by
  unfold row
  rw [List.getD_eq_getElem?_getD, List.getElem?_replicate]
  split <;> rfl
section
variable {P : Program} {w : World} {K : PySem.W.Frag} {mg : Str → Option Value} {base : Heap} {C_Pull C_Push C_Web C_Desk C_BadTie C_BadTurns C_Parted C_NotFlat C_BadText C_BadDeed C_FloorError : Addr}
theorem dpIntsInv {H : Hp} {v : V} {r : List Int} (h : Dp K H v (.list (r.map PyData.int))) : ∃ q, v = .ref q ∧ SqL K H q (r.map V.int) := by
  obtain _ | _ | _ | _ | ⟨hs, ha⟩ | _ := h
  have key : ∀ (r : List Int) (xs : List V), DpAll K H xs (r.map PyData.int) → xs = r.map V.int := by
    intro r
    induction r with
    | nil => intro xs h; cases h; rfl
    | cons a r ih =>
      intro xs h
      cases h with
      | cons h1 h2 =>
        cases h1
        rw [ih _ h2]
        rfl
  rw [key r _ ha] at hs
  exact ⟨_, rfl, hs⟩
theorem eqv_intX (a b : Int) : PyData.eqv (.int a) (.int b) = decide (a = b) := by
  rw [PyData.eqv]
  by_cases h : a = b
  · rw [h]; simp
  · simp [h]
theorem eqvAll_intsX : ∀ a b : List Int, PyData.eqvAll (a.map PyData.int) (b.map PyData.int) = decide (a = b)
  | [], [] => by simp [PyData.eqvAll]
  | [], _ :: _ => by simp [PyData.eqvAll]
  | _ :: _, [] => by simp [PyData.eqvAll]
  | x :: a, y :: b => by
    rw [List.map_cons, List.map_cons, PyData.eqvAll, eqv_intX, eqvAll_intsX a b]
    by_cases h1 : x = y
    · by_cases h2 : a = b
      · simp [h1, h2]
      · simp [h1, h2]
    · simp [h1]
theorem w_neIntX {H : Hp} {Q : VK} {p q : Addr} {a b : List Int} (h1 : SqL K H p (a.map V.int)) (h2 : SqL K H q (b.map V.int)) (h : Q (.bl (!decide (a = b))) H) : rNeD K (.ref p) (.ref q) H Q :=
  ⟨.list (a.map .int), .list (b.map .int), .lst h1 (dpInts a), .lst h2 (dpInts b), (goodLst (n := 0) (goodMap fun _ => goodInt)).shaped (by decide), (goodLst (n := 0) (goodMap fun _ => goodInt)).shaped (by decide), by rw [PyData.eqv, eqvAll_intsX]; exact h⟩
def rwI (T : List (List Int)) (p : Nat) : List Int := T.getD p []
def dRowI (r : List Int) : PyData := .list (r.map PyData.int)
def dRowsI (T : List (List Int)) : PyData := .list (T.map dRowI)
def castI (l : List Nat) : List Int := l.map fun x : Nat => (x : Int)
def TurnsP (ts : List Ti) (T : List (List Int)) (m : Nat) : Prop := T.length = m ∧ ∀ p, p < m → (rwI T p).Perm (castI (atP (endsOf ts) p ts.length))
theorem dpRowI {H : Hp} {a : Addr} {r : List Int} (h : SqL K H a (r.map V.int)) : Dp K H (.ref a) (dRowI r) := .lst h (dpInts r)
theorem dpRowIAt {H : Hp} {xs : List V} {T : List (List Int)} (h : DpAll K H xs (T.map dRowI)) {i : Nat} (hi : i < T.length) : ∃ q, xs[i]? = some (.ref q) ∧ SqL K H q ((rwI T i).map V.int) := by
  obtain ⟨v, h1, h2⟩ := dpaGet (i := i) (d := dRowI (rwI T i)) h (by
    unfold rwI
    rw [List.getElem?_map, List.getD_eq_getElem?_getD, List.getElem?_eq_getElem hi]
    rfl)
  obtain ⟨q, rfl, h3⟩ := dpIntsInv h2
  exact ⟨q, h1, h3⟩
theorem castI_iv (l : List Nat) : (castI l).map V.int = iv l := by
  unfold castI iv
  rw [List.map_map]
  rfl
theorem perm_castI : ∀ {zs : List Int} {ms : List Nat}, zs.Perm (castI ms) → ∃ π : List Nat, π.Perm ms ∧ zs = castI π := by
  intro zs ms hp
  have hmem : ∀ z ∈ zs, ∃ x : Nat, z = (x : Int) := fun z hz => by
    obtain ⟨x, _, rfl⟩ := List.mem_map.mp (hp.mem_iff.mp hz)
    exact ⟨x, rfl⟩
  have e : zs = castI (zs.map Int.toNat) := by
    unfold castI
    rw [List.map_map]
    conv => lhs; rw [← List.map_id zs]
    refine List.map_congr_left fun z hz => ?_
    obtain ⟨x, rfl⟩ := hmem z hz
    show ((x : Nat) : Int) = (((x : Nat) : Int).toNat : Int)
    omega
  refine ⟨zs.map Int.toNat, ?_, e⟩
  have h2 := hp.map Int.toNat
  have e2 : (castI ms).map Int.toNat = ms := by
    unfold castI
    rw [List.map_map]
    conv => rhs; rw [← List.map_id ms]
    exact List.map_congr_left fun x _ => by show (((x : Nat) : Int).toNat) = x; omega
  rw [e2] at h2
  exact h2
theorem row_castI (T : Turns) (p : Nat) : rwI (T.map castI) p = castI (row T p) := by
  unfold rwI row
  rw [List.getD_eq_getElem?_getD, List.getElem?_map, List.getD_eq_getElem?_getD]
  cases T[p]? <;> rfl
theorem dRowsI_cast (T : Turns) : dRowsI (T.map castI) = dRows T := by
  unfold dRowsI dRows
  rw [List.map_map]
  congr 1
  refine List.map_congr_left fun r _ => ?_
  show PyData.list ((castI r).map PyData.int) = PyData.list _
  unfold castI
  rw [List.map_map]
  rfl
/-- what is right is a web's turns -/
theorem TurnsP.ok {ts : List Ti} {T : List (List Int)} {m : Nat} (h : TurnsP ts T m) (he : EndsP ts m) (hne : ∀ i, i < ts.length → (ti ts i).one ≠ (ti ts i).two) : ∃ T' : Turns, T = T'.map castI ∧ T'.length = m ∧ Ok (endsOf ts) T' := by
  have key : ∀ p, ∃ r : List Nat, p < m → r.Perm (atP (endsOf ts) p ts.length) ∧ rwI T p = castI r := fun p => by
    by_cases hp : p < m
    · obtain ⟨r, h1, h2⟩ := perm_castI (h.2 p hp)
      exact ⟨r, fun _ => ⟨h1, h2⟩⟩
    · exact ⟨[], fun z => absurd z hp⟩
  have ⟨g, hg⟩ := Classical.axiomOfChoice key
  have hrow : ∀ p, p < m → row ((List.range m).map g) p = g p := fun p hp => by
    unfold row
    rw [List.getD_eq_getElem?_getD, List.getElem?_map, List.getElem?_range hp]
    rfl
  refine ⟨(List.range m).map g, ?_, by rw [List.length_map, List.length_range], ⟨fun i hi => ?_, fun p hp => ?_, fun p hp i => ?_⟩⟩
  · refine List.ext_getElem (by rw [List.length_map, List.length_map, List.length_range, h.1]) fun p h1 h2 => ?_
    have hp : p < m := by rw [← h.1]; exact h1
    have := (hg p hp).2
    unfold rwI at this
    rw [List.getD_eq_getElem?_getD, List.getElem?_eq_getElem h1, Option.getD_some] at this
    rw [this, List.getElem_map, List.getElem_map, List.getElem_range]
  · rw [endsOf_len] at hi
    rw [en_ti hi, List.length_map, List.length_range]
    exact ⟨hne i hi, (he i hi).1, (he i hi).2⟩
  · rw [List.length_map, List.length_range] at hp
    rw [hrow p hp]
    exact (hg p hp).1.nodup_iff.mpr (List.Pairwise.filter _ List.nodup_range)
  · rw [List.length_map, List.length_range] at hp
    rw [hrow p hp, (hg p hp).1.mem_iff]
    unfold atP
    rw [endsOf_len]
    simp
theorem Ok.turns {ts : List Ti} {T : Turns} (ok : Ok (endsOf ts) T) : TurnsP ts (T.map castI) T.length := by
  refine ⟨List.length_map .., fun p hp => ?_⟩
  rw [row_castI]
  refine List.Perm.map _ (perm_of_nodup (ok.nd p hp) (List.Pairwise.filter _ List.nodup_range) fun a => ?_)
  rw [ok.mem p hp]
  unfold atP
  rw [endsOf_len]
  simp
def spTurnsX (K : PySem.W.Frag) (CP CQ : Addr) : Sp := fun vs H Q _ => ∃ (m : Nat) (a b : Addr) (ts : List Ti) (T : List (List Int)), vs = [.int m, .ref a, .ref b] ∧ TiesAt K CP CQ H a ts ∧ Dp K H (.ref b) (dRowsI T) ∧ EndsP ts m ∧ (∀ i, i < ts.length → (ti ts i).one ≠ (ti ts i).two) ∧ ts.length ≤ 1000 ∧ m ≤ 1000 ∧ ∀ H', Same H H' → (TurnsP ts T m → Q (.bl true) H') ∧ (¬ TurnsP ts T m → Q (.bl false) H')
theorem ok_turns_are_right {f : Addr} {fd : FuncData} (F : Fun K "turns_are_right" "turns_are_right" s_turns_are_right f fd) (gf : mg "turns_are_right" = some (.ref f)) (B : Bl mg) {C_Pull C_Push C_Web C_Desk C_BadTie C_BadTurns C_Parted C_NotFlat C_BadText C_BadDeed C_FloorError : Addr} (T : Txt K mg C_Pull C_Push C_Web C_Desk C_BadTie C_BadTurns C_Parted C_NotFlat C_BadText C_BadDeed C_FloorError) : Has P w K mg base CX0 1 "turns_are_right" ["many", "ties", "turns"] (spTurnsX K C_Pull C_Push) := by
  refine Has.mk' F gf (F.binds (ps := ["many", "ties", "turns"]) fun _ _ _ _ _ _ us hl => match us, hl with | [_, _, _], _ => rfl) sc_turns_are_right (by walk_at "len") (fun cdv A outer s H vs Q E hr h => ?_)
  obtain ⟨m, a, b, ts, Tu, rfl, hTi, hTu, hen, hne, hsz, hsz2, q⟩ := h
  obtain ⟨ps, hS, hT⟩ := id hTi
  obtain ⟨xs, hx, hX⟩ := dpLstA hTu
  have hxl : xs.length = Tu.length := by have := dpaLen hX; simpa [dRowsI] using this
  have hpl : (ps.map V.ref).length = ts.length := by rw [List.length_map]; exact hT.1
  have hE : (endsOf ts).length = ts.length := endsOf_len ts
  refine ⟨_, (pss_cons (ps_if (pt_cmpR op_ne (pe_callB (call_lenK K) (by rfl) B.len (by decide +kernel) (pa_cons (pv 2) pa_nil)) (pv 0) (nomark _)) (pss_one (ps_ret pe_bl)) pss_nil)
 (pss_cons (ps_setLc (i := 4) (own := [("place", 3)]) rfl sc_turns_are_right.nd rfl rfl (sw_true rfl rfl rfl (by decide +kernel)) (pi_range1 (by rfl) B.range (pa_cons (pv 0) pa_nil)) (blkOk_by (own := [("place", 3)]) (N := ["many", "ties", "turns", "place", "own", "i"]) (sc := defScope s_turns_are_right) (by decide +kernel)) (fun _ _ _ _ _ => pg_name (i := 3) sc_turns_are_right.nd rfl (Or.inl rfl)) (fun _ _ _ _ _ => pts_nil) (fun _ _ _ _ _ => (pe_lst pa_nil)))
 (pss_cons (ps_for PassesOwn.never rfl (pi_range1 (by rfl) B.range (pa_cons (pe_callB (call_lenK K) (by rfl) B.len (by decide +kernel) (pa_cons (pv 1) pa_nil)) pa_nil)) (pg_name (i := 5) sc_turns_are_right.nd rfl (.inl rfl)) (pss_cons (ps_expr (pe_bmK K (pe_bm PySem.F.plainAttrs_list PySem.F.slot_list_append PySem.F.type_list_append mt_append (pe_ix (ix_listK K) (pv 4) (pe_fldK K (pe_ix (ix_listK K) (pv 1) (pv 5) (fun _ _ => rfl)) rfl) (fun _ _ => rfl)) (pa_cons (pv 5) pa_nil))))
 (pss_one (ps_expr (pe_bmK K (pe_bm PySem.F.plainAttrs_list PySem.F.slot_list_append PySem.F.type_list_append mt_append (pe_ix (ix_listK K) (pv 4) (pe_fldK K (pe_ix (ix_listK K) (pv 1) (pv 5) (fun _ _ => rfl)) rfl) (fun _ _ => rfl)) (pa_cons (pv 5) pa_nil)))))))
 (pss_cons (ps_for PassesOwn.never rfl (pi_range1 (by rfl) B.range (pa_cons (pv 0) pa_nil)) (pg_name (i := 3) sc_turns_are_right.nd rfl (.inl rfl)) (pss_one (ps_if (pt_cmpR (op_neDK K hr.units) (pe_callB (cr_sortedIK K) (by rfl) B.sorted (by decide +kernel) (pa_cons (pe_ix (ix_listK K) (pv 2) (pv 3) (fun _ _ => rfl)) pa_nil)) (pe_ix (ix_listK K) (pv 4) (pv 3) (fun _ _ => rfl)) (nomark _)) (pss_one (ps_ret pe_bl)) pss_nil)))
 (pss_one (ps_ret pe_bl)))))), ?_⟩
  walk_at "sts"
  rw [hxl]
  refine ifnd (fun hml => ?_) (fun hml => ?_)
  · walk_at "sts"
    exact (q _ (Same.refl _)).2 fun z => hml (by have := z.1; omega)
  have hml : Tu.length = m := by omega
  walk_at "sts"
  intro D nD
  refine lc_r0 (n := m) rfl (fun i H' => ∃ qs, LL H' D qs (List.replicate i []) ∧ Same H H' ∧ ∀ q ∈ qs, New H q) ?_ ?_ ?_
  · exact ⟨[], ⟨upd_same, rfl, List.nodup_nil, fun i q h => by simp at h, by simp⟩, by walk_at "same", fun q h => by simp at h⟩
  · rintro i H' hi ⟨qs, hL, s1, hN⟩
    walk_at "sts"
    refine w_new fun q nq => ?_
    have hql : qs.length = i := by rw [hL.len]; simp
    have s2 : Same H' (upd H' q (.lst [])) := by walk_at "same"
    have nq1 : q ∉ qs := fun z => by
      obtain ⟨j, hj, e⟩ := List.mem_iff_getElem.mp z
      have := hL.row j q (by rw [List.getElem?_eq_getElem hj, e])
      exact ne_new this nq rfl
    have nq2 : q ≠ D := Ne.symm (ne_new hL.top nq)
    refine ⟨qs.map V.ref, by rw [upd_ne (Ne.symm nq2)]; exact hL.top, by walk_at "szlt", qs ++ [q], ?_, ?_, ?_⟩
    · have := (hL.same s2).push (r := []) (q := q) upd_same nq1 nq2
      rw [List.map_append] at this
      rw [List.replicate_succ']
      exact this
    · exact (s1.trans s2).mut nD
    · intro z hz
      rcases List.mem_append.mp hz with hz | hz
      · exact hN z hz
      · have : z = q := by simpa using hz
        rw [this]; exact nq.of s1
  · rintro H1 ⟨qs, hL, s1, hN⟩
    walk_at "sts"
    have hL0 : LL H1 D qs (ownT (endsOf ts) m 0) := by
      have e : ownT (endsOf ts) m 0 = List.replicate m [] := by
        unfold ownT atP
        apply List.ext_getElem
        · simp
        · intro i h1 h2; simp
      rw [e]; exact hL
    refine for_r0 (n := ts.length) (by rw [hpl]) (fun i σ H' => ∃ (y3 y5 : Option V), σ = [some (.int (m : Nat)), some (.ref a), some (.ref b), y3, some (.ref D), y5] ∧ LL H' D qs (ownT (endsOf ts) m i) ∧ Same H H') ?_ ?_ ?_
    · exact ⟨_, _, rfl, hL0, s1⟩
    · rintro i σ H' hi ⟨y3, y5, rfl, hL, s2⟩
      have hS2 := s2.seq hS
      obtain ⟨p, hp1, hp2⟩ := (hT.same s2).get (ti_at hi)
      have e1 := hne i hi
      obtain ⟨e2, e3⟩ := hen i hi
      have hlen : (ownT (endsOf ts) m i).length = m := by unfold ownT; simp
      obtain ⟨q1, g1, g1', g1''⟩ := hL.get (i := (ti ts i).one) (by rw [hlen]; exact e2)
      rw [ownT_row e2] at g1''
      have hal : ∀ p, (iv (atP (endsOf ts) p i)).length < sizeLine := fun p => szlt (by
        rw [iv_len]
        have : (atP (endsOf ts) p i).length ≤ i := by
          unfold atP
          refine Nat.le_trans (List.length_filter_le _ _) (by simp)
        omega)
      have hal1 := hal (ti ts i).one
      have hal2 := hal (ti ts i).two
      have htop := SqL.of (K := K) hL.top
      walk_at "sts"
      refine w_t1 T.tie hp2 ?_
      walk_at "sts"
      have s3 := s2.mut (o := .lst (iv (atP (endsOf ts) (ti ts i).one i) ++ [.int (i : Nat)])) (hN q1 (List.mem_of_getElem? g1))
      have hL2 := hL.set (i := (ti ts i).one) (by rw [hlen]; exact e2) g1 (atP (endsOf ts) (ti ts i).one i ++ [i])
      rw [iv_app] at hL2
      have hS3 := s3.seq hS
      have hp3 := (hT.same s3).2 i p _ (by have := hp1; rw [List.getElem?_map] at this; cases h : ps[i]? with
        | none => rw [h] at this; cases this
        | some z => rw [h] at this; cases this; rfl) (ti_at hi)
      obtain ⟨q2, f1, f1', f1''⟩ := hL2.get (i := (ti ts i).two) (by rw [List.length_set, hlen]; exact e3)
      rw [row_set _ _ (by rw [hlen]; exact e2), if_neg (Ne.symm e1), ownT_row e3] at f1''
      have htop2 := SqL.of (K := K) hL2.top
      walk_at "sts"
      refine w_t2 T.tie hp3 ?_
      walk_at "sts"
      refine ⟨_, _, rfl, ?_, ?_⟩
      · have := hL2.set (i := (ti ts i).two) (by rw [List.length_set, hlen]; exact e3) f1 (atP (endsOf ts) (ti ts i).two i ++ [i])
        rw [iv_app] at this
        have st := ownT_step (E := endsOf ts) (m := m) (i := i) (by rw [en_ti hi]; exact e2) (by rw [en_ti hi]; exact e3) (by rw [en_ti hi]; exact e1)
        rw [en_ti hi] at st
        rw [st] at this
        exact this
      · exact s3.mut (hN q2 (List.mem_of_getElem? f1))
    · rintro σ H' ⟨y3, y5, rfl, hL, s2⟩
      walk_at "sts"
      refine for_r0 (n := m) rfl (fun i σ H'' => ∃ (y3 y5 : Option V), σ = [some (.int (m : Nat)), some (.ref a), some (.ref b), y3, some (.ref D), y5] ∧ Same H' H'' ∧ ∀ p, p < i → (rwI Tu p).Perm (castI (atP (endsOf ts) p ts.length))) ?_ ?_ ?_
      · exact ⟨_, _, rfl, Same.refl _, fun p hp => absurd hp (Nat.not_lt_zero p)⟩
      · rintro i σ H'' hi ⟨y3, y5, rfl, s3, hall⟩
        obtain ⟨q1, g1, g2⟩ := dpRowIAt hX (show i < Tu.length by omega)
        have hx3 := (s2.trans s3).seq hx
        have g3 := (s2.trans s3).seq g2
        walk_at "sts"
        refine ⟨q1, _, rfl, g3, fun ns p hpm hpw np => ?_⟩
        have s4 : Same H'' (upd H'' p (.lst (ns.map V.int))) := (Same.refl H'').new np
        have hL3 := hL.same (s3.trans s4)
        obtain ⟨q2, f1, f1', f1''⟩ := hL3.get (i := i) (by unfold ownT; simp; exact hi)
        have htop := SqL.of (K := K) hL3.top
        rw [ownT_row hi] at f1''
        have d1 : SqL K (upd H'' p (.lst (ns.map V.int))) p (ns.map V.int) := SqL.of upd_same
        have d2 : SqL K (upd H'' p (.lst (ns.map V.int))) q2 ((castI (atP (endsOf ts) i ts.length)).map V.int) := by rw [castI_iv]; exact SqL.of f1''
        walk_at "sts"
        refine w_neIntX d1 d2 ?_
        walk_at "sts"
        refine ifnd (fun hne2 => ?_) (fun heq => ?_)
        · walk_at "sts"
          refine (q _ (s2.trans (s3.trans s4))).2 fun z => hne2 ?_
          have hpm2 := hpm.trans (z.2 i hi)
          have s2' : (castI (atP (endsOf ts) i ts.length)).Pairwise (· ≤ ·) := by
            unfold castI
            rw [List.pairwise_map]
            refine List.Pairwise.imp ?_ (List.Pairwise.filter _ List.pairwise_lt_range)
            intro a b h
            omega
          exact List.Perm.eq_of_pairwise (fun a b _ _ h1 h2 => Int.le_antisymm h1 h2) hpw s2' hpm2
        · walk_at "sts"
          refine ⟨_, _, rfl, s3.trans s4, fun j hj => ?_⟩
          by_cases e : j = i
          · subst e
            rw [← heq]
            exact hpm.symm
          · exact hall j (by omega)
      · rintro σ H'' ⟨y3, y5, rfl, s3, hall⟩
        walk_at "sts"
        exact (q _ (s2.trans s3)).1 ⟨hml, hall⟩
/-! ### in one piece -/
/-! ### how many are not there -/
def cntF (S : Nat → Bool) : Nat → Nat
  | 0 => 0
  | m + 1 => cntF S m + if S m = true then 0 else 1
theorem cntF_le {S S' : Nat → Bool} : ∀ m, (∀ p, p < m → S p = true → S' p = true) → cntF S' m ≤ cntF S m
  | 0, _ => Nat.le_refl _
  | m + 1, h => by
    have ih := cntF_le m fun p hp => h p (by omega)
    have := h m (by omega)
    unfold cntF
    cases a : S m <;> cases b : S' m <;> simp_all <;> omega
theorem cntF_lt {S S' : Nat → Bool} : ∀ m, (∀ p, p < m → S p = true → S' p = true) → (∃ p, p < m ∧ S p = false ∧ S' p = true) → cntF S' m < cntF S m
  | 0, _, ⟨p, hp, _⟩ => absurd hp (by omega)
  | m + 1, h, ⟨p, hp, h1, h2⟩ => by
    have hm := h m (by omega)
    unfold cntF
    by_cases e : p = m
    · subst e
      have := cntF_le p fun q hq => h q (by omega)
      rw [h1, h2]
      simp
      omega
    · have := cntF_lt m (fun q hq => h q (by omega)) ⟨p, by omega, h1, h2⟩
      cases a : S m <;> cases b : S' m <;> simp_all <;> omega

def setS (S : Nat → Bool) (a b : Nat) : Nat → Bool := fun p => if p = b then true else if p = a then true else S p
theorem map_setB {f : Nat → Bool} {m j : Nat} {y : Bool} : ((List.range m).map fun r => V.bl (f r)).set j (V.bl y) = (List.range m).map fun r => V.bl (if r = j then y else f r) := by
  rw [map_set]
  congr 1
  funext r
  split <;> rfl
def Cn (ts : List Ti) (S : Nat → Bool) : Prop := ∀ F : Nat → Bool, (∀ i, i < ts.length → F (ti ts i).one = F (ti ts i).two) → ∀ p, S p = true → F p = F 0
theorem cn0 {ts : List Ti} : Cn ts (fun p => p == 0) := fun F _ p hp => by rw [eq_of_beq hp]
theorem Cn.set {ts : List Ti} {S : Nat → Bool} (h : Cn ts S) {i : Nat} (hi : i < ts.length) (hne : ¬ S (ti ts i).one = S (ti ts i).two) : Cn ts (setS S (ti ts i).one (ti ts i).two) := fun F hF p hp => by
  have e := hF i hi
  have h0 : F (ti ts i).one = F 0 := by
    cases e1 : S (ti ts i).one with
    | true => exact h F hF _ e1
    | false =>
      cases e2 : S (ti ts i).two with
      | true => rw [e]; exact h F hF _ e2
      | false => exact absurd (e1.trans e2.symm) hne
  unfold setS at hp
  by_cases c1 : p = (ti ts i).two
  · rw [c1, ← e]; exact h0
  · rw [if_neg c1] at hp
    by_cases c2 : p = (ti ts i).one
    · rw [c2]; exact h0
    · rw [if_neg c2] at hp
      exact h F hF p hp
def spWholeX (K : PySem.W.Frag) (CP CQ : Addr) : Sp := fun vs H Q _ => ∃ (m : Nat) (a : Addr) (ts : List Ti), vs = [.int m, .ref a] ∧ TiesAt K CP CQ H a ts ∧ (∀ i, i < ts.length → (ti ts i).one < m ∧ (ti ts i).two < m) ∧ 0 < m ∧ m ≤ 1000 ∧ ∀ H', Same H H' → (Whole (endsOf ts) m → Q (.bl true) H') ∧ (¬ Whole (endsOf ts) m → Q (.bl false) H')
theorem ok_hangs_together {f : Addr} {fd : FuncData} (F : Fun K "hangs_together" "hangs_together" s_hangs_together f fd) (gf : mg "hangs_together" = some (.ref f)) (B : Bl mg) {C_Pull C_Push C_Web C_Desk C_BadTie C_BadTurns C_Parted C_NotFlat C_BadText C_BadDeed C_FloorError : Addr} (T : Txt K mg C_Pull C_Push C_Web C_Desk C_BadTie C_BadTurns C_Parted C_NotFlat C_BadText C_BadDeed C_FloorError) : Has P w K mg base CX0 1 "hangs_together" ["many", "ties"] (spWholeX K C_Pull C_Push) := by
  refine Has.mk' F gf (F.binds (ps := ["many", "ties"]) fun _ _ _ _ _ _ us hl => match us, hl with | [_, _], _ => rfl) sc_hangs_together (by walk_at "len") (fun cdv A outer s H vs Q E hr h => ?_)
  obtain ⟨m, a, ts, rfl, hTi, hb, hm, hsz, q⟩ := h
  obtain ⟨ps, hS, hT⟩ := id hTi
  refine ⟨_, (pss_cons (ps_setLc (i := 2) (own := [("place", 5)]) rfl sc_hangs_together.nd rfl rfl (sw_true rfl rfl rfl (by decide +kernel)) (pi_range1 (by rfl) B.range (pa_cons (pv 0) pa_nil)) (blkOk_by (own := [("place", 5)]) (N := ["many", "ties", "reached", "grew", "tie", "place"]) (sc := defScope s_hangs_together) (by decide +kernel)) (fun _ _ _ _ _ => pg_name (i := 5) sc_hangs_together.nd rfl (Or.inl rfl)) (fun _ _ _ _ _ => pts_nil) (fun _ _ _ _ _ => (pe_cmpR op_eq (pv 5) pe_int (nomark _))))
 (pss_cons (ps_set (i := 3) sc_hangs_together.nd rfl (.inl rfl) pe_bl)
 (pss_cons (ps_while PassesOwn.never (pt_val (pv 3)) (pss_cons (ps_set (i := 3) sc_hangs_together.nd rfl (.inl rfl) pe_bl)
 (pss_one (ps_for PassesOwn.never rfl (pi_listK K (pv 1)) (pg_name (i := 4) sc_hangs_together.nd rfl (.inl rfl)) (pss_one (ps_if (pt_cmpR op_ne (pe_ix (ix_listK K) (pv 2) (pe_fldK K (pv 4) rfl) (fun _ _ => rfl)) (pe_ix (ix_listK K) (pv 2) (pe_fldK K (pv 4) rfl) (fun _ _ => rfl)) (nomark _)) (pss_cons (ps_asg pe_bl (pg_sub (pv 2) (pe_fldK K (pv 4) rfl) set_list))
 (pss_cons (ps_asg pe_bl (pg_sub (pv 2) (pe_fldK K (pv 4) rfl) set_list))
 (pss_one (ps_set (i := 3) sc_hangs_together.nd rfl (.inl rfl) pe_bl)))) pss_nil))))))
 (pss_one (ps_ret (pe_callB (cr_allK K rfl) (by rfl) B.all (by decide +kernel) (pa_cons (pv 2) pa_nil))))))), ?_⟩
  walk_at "sts"
  intro D nD
  refine lc_r0 (n := m) rfl (fun i H' => H' D = some (.lst ((List.range i).map fun p => V.bl (p == 0))) ∧ Same H H') ?_ ?_ ?_
  · exact ⟨upd_same, by walk_at "same"⟩
  · rintro i H' hi ⟨h1, s1⟩
    walk_at "sts"
    refine ⟨_, h1, szlt (by simp; omega), ?_, s1.mut nD⟩
    rw [upd_same, List.range_succ, List.map_append]
    congr 3
    simp
    by_cases e : i = 0 <;> simp [e]
  · rintro H1 ⟨h1, s1⟩
    walk_at "sts"
    refine ⟨fun k σ H' => ∃ (S : Nat → Bool) (g : Bool) (y4 y5 : Option V), σ = [some (.int (m : Nat)), some (.ref a), some (.ref D), some (.bl g), y4, y5] ∧ S 0 = true ∧ Cn ts S ∧ (g = false → ∀ i, i < ts.length → S (ti ts i).one = S (ti ts i).two) ∧ k = cntF S m + (if g = true then 1 else 0) ∧
      H' D = some (.lst ((List.range m).map fun p => V.bl (S p))) ∧ Same H H', ⟨_, fun p => p == 0, true, _, _, rfl, rfl, cn0, by simp, rfl, h1, s1⟩, ?_⟩
    rintro k σ H' ⟨S, g, y4, y5, rfl, h0, hcn, hg, rfl, hD, s2⟩
    walk_at "sts"
    refine ifb (fun e => w_wt ?_) (fun e => ?_)
    · subst e
      have hS2 := s2.seq hS
      walk_at "sts"
      refine for_list (xs := ps.map V.ref) (fun i σ H'' => ∃ (S' : Nat → Bool) (g' : Bool) (y4 y5 : Option V), σ = [some (.int (m : Nat)), some (.ref a), some (.ref D), some (.bl g'), y4, y5] ∧ S' 0 = true ∧ Cn ts S' ∧ (g' = false → S' = S ∧ ∀ j, j < i → S (ti ts j).one = S (ti ts j).two) ∧ (g' = true → cntF S' m < cntF S m) ∧
        H'' D = some (.lst ((List.range m).map fun p => V.bl (S' p))) ∧ Same H H'') ?_ ?_ ?_ ?_
      · exact ⟨S, false, _, _, rfl, h0, hcn, fun _ => ⟨rfl, fun j hj => absurd hj (by omega)⟩, by simp, hD, s2⟩
      · rintro i σ H'' _ ⟨S', g', _, _, _, _, _, _, _, _, s3⟩
        exact s3.seq hS
      · rintro i x σ H'' hx ⟨S', g', y4, y5, rfl, h0', hcn', hf, ht, hD', s3⟩
        rw [List.getElem?_map] at hx
        obtain ⟨p, hp, rfl⟩ := Option.map_eq_some_iff.mp hx
        have hi : i < ts.length := by rw [← hT.1]; exact (List.getElem?_eq_some_iff.mp hp).1
        have hti := (hT.same s3).2 i p _ hp (ti_at hi)
        obtain ⟨b1, b2⟩ := hb i hi
        have g1 := map_at (f := fun p => V.bl (S' p)) b1
        have g2 := map_at (f := fun p => V.bl (S' p)) b2
        walk_at "sts"
        refine w_t1 T.tie hti ?_
        walk_at "sts"
        refine w_t2 T.tie hti ?_
        walk_at "sts"
        refine ifnd (fun hne => ?_) (fun he => ?_)
        · walk_at "sts"
          refine w_t1 T.tie hti ?_
          walk_at "sts"
          rw [map_setB]
          have s4 := s3.mut (o := .lst ((List.range m).map fun r => V.bl (if r = (ti ts i).one then true else S' r))) nD
          have hti4 := (hT.same s4).2 i p _ hp (ti_at hi)
          refine w_t2 T.tie hti4 ?_
          walk_at "sts"
          rw [map_setB]
          refine ⟨setS S' (ti ts i).one (ti ts i).two, true, _, _, rfl, ?_, hcn'.set hi hne, by simp, fun _ => ?_, ?_, ?_⟩
          · unfold setS; split; rfl; split; rfl; exact h0'
          · have l1 : cntF S' m ≤ cntF S m := by
              cases hg' : g' with
              | true => exact Nat.le_of_lt (ht hg')
              | false => rw [(hf hg').1]; exact Nat.le_refl _
            refine Nat.lt_of_lt_of_le (cntF_lt m (fun p _ h => ?_) ?_) l1
            · unfold setS; split; rfl; split; rfl; exact h
            · cases e1 : S' (ti ts i).one with
              | false => exact ⟨_, b1, e1, by unfold setS; split; rfl; rw [if_pos rfl]⟩
              | true =>
                cases e2 : S' (ti ts i).two with
                | false => exact ⟨_, b2, e2, by unfold setS; rw [if_pos rfl]⟩
                | true => exact absurd (e1.trans e2.symm) hne
          · rw [upd_same]; rfl
          · exact s4.mut nD
        · walk_at "sts"
          refine ⟨S', g', _, _, rfl, h0', hcn', fun hg' => ⟨(hf hg').1, fun j hj => ?_⟩, ht, hD', s3⟩
          by_cases e : j = i
          · subst e
            rw [(hf hg').1] at he
            exact he
          · exact (hf hg').2 j (by omega)
      · rintro σ H'' ⟨S', g', y4, y5, rfl, h0', hcn', hf, ht, hD', s3⟩
        rw [List.length_map, hT.1] at hf
        refine ⟨_, ?_, S', g', _, _, rfl, h0', hcn', fun hg' => ?_, rfl, hD', s3⟩
        · cases hg' : g' with
          | true => have := ht hg'; simp; omega
          | false => rw [(hf hg').1]; simp
        · rw [(hf hg').1]
          exact (hf hg').2
    · subst e
      walk_at "sts"
      refine ⟨D, (List.range m).map S, rfl, SqL.of (by rw [hD, List.map_map]; rfl), ?_⟩
      by_cases hw : Whole (endsOf ts) m
      · have hall := hw S fun i hi => by
          rw [endsOf_len] at hi
          rw [en_ti hi]
          exact hg rfl i hi
        have e : ((List.range m).map S).all id = true := by
          rw [List.all_map, List.all_eq_true]
          intro p hp
          show S p = true
          rw [hall p 0 (List.mem_range.mp hp) hm]
          exact h0
        rw [e]
        exact (q _ s2).1 hw
      · have e : ((List.range m).map S).all id = false := by
          refine Bool.eq_false_iff.mpr fun z => hw fun F hF p q hp hq => ?_
          rw [List.all_map, List.all_eq_true] at z
          have hF' : ∀ i, i < ts.length → F (ti ts i).one = F (ti ts i).two := fun i hi => by
            have := hF i (by rw [endsOf_len]; exact hi)
            rwa [en_ti hi] at this
          rw [hcn F hF' p (z p (List.mem_range.mpr hp)), hcn F hF' q (z q (List.mem_range.mpr hq))]
        rw [e]
        exact (q _ s2).2 hw
end

def sideD (R : List (List Nat)) (i : Nat) : PyData := .tuple ([((sideOf R (2 * i) : Nat) : Int), ((sideOf R (2 * i + 1) : Nat) : Int)].map PyData.int)
def sidesD (R : List (List Nat)) (n : Nat) : List PyData := (List.range n).map (sideD R)
theorem flat_take (R : List (List Nat)) (i : Nat) (r : List Nat) (h : R[i]? = some r) : (R.take (i + 1)).flatten = (R.take i).flatten ++ r := by
  rw [List.take_add_one, h, List.flatten_append]
  simp
theorem Holds.get {kvs : List (Key × V)} {S : List Nat} {g : Nat → V} (h : Holds kvs S g) {d : Nat} (hd : d ∈ S) : valV kvs (.inl (d : Int)) = some (g d) := by rw [h.2, if_pos hd]
theorem same_wo_upd {H : Hp} {p : Addr} {o : HO} : Same (wo H p) (upd H p o) := fun b u h => by
  unfold wo at h
  split at h
  · cases h
  · rw [upd_ne (by assumption)]; exact h
theorem sqWo {K : PySem.W.Frag} {H : Hp} {p a : Addr} {xs : List V} {C dx : Addr} {fs : List (Str × V)} (hp : H p = some (.ins C dx fs)) (h : SqL K H a xs) : SqL K (wo H p) a xs := by
  rcases h with (h | ⟨o, h⟩) | h
  · exact .inl (.inl (wo_get h (ne_of h hp (by intro z; cases z))))
  · exact .inl (.inr ⟨o, wo_get h (ne_of h hp (by intro z; cases z))⟩)
  · exact .inr h
theorem stWo {K : PySem.W.Frag} {H : Hp} {p a : Addr} {xs : List V} {C dx : Addr} {fs : List (Str × V)} (hp : H p = some (.ins C dx fs)) (h : SqT K H a xs) : SqT K (wo H p) a xs := by
  rcases h with (h | ⟨o, h⟩) | h
  · exact .inl (.inl (wo_get h (ne_of h hp (by intro z; cases z))))
  · exact .inl (.inr ⟨o, wo_get h (ne_of h hp (by intro z; cases z))⟩)
  · exact .inr h
mutual
theorem dpWo {K : PySem.W.Frag} {H : Hp} {p C dx : Addr} {fs : List (Str × V)} (hp : H p = some (.ins C dx fs)) : ∀ (d : PyData) (v : V), Dp K H v d → Dp K (wo H p) v d
  | .none, _, h => by cases h; exact .non
  | .bool _, _, h => by cases h; exact .bl _
  | .int _, _, h => by cases h; exact .int _
  | .str _, _, h => by cases h; exact .str _
  | .list ds, _, h => by
    cases h with
    | lst hs ha => exact .lst (sqWo hp hs) (dpWoAll hp ds _ ha)
  | .tuple ds, _, h => by
    cases h with
    | tup hs ha => exact .tup (stWo hp hs) (dpWoAll hp ds _ ha)
  | .dict _, _, h => by cases h
theorem dpWoAll {K : PySem.W.Frag} {H : Hp} {p C dx : Addr} {fs : List (Str × V)} (hp : H p = some (.ins C dx fs)) : ∀ (ds : List PyData) (xs : List V), DpAll K H xs ds → DpAll K (wo H p) xs ds
  | [], _, h => by cases h; exact .nil
  | d :: ds, _, h => by
    cases h with
    | cons h1 h2 => exact .cons (dpWo hp d _ h1) (dpWoAll hp ds _ h2)
end
section
variable {P : Program} {w : World} {K : PySem.W.Frag} {mg : Str → Option Value} {base : Heap} {C_Pull C_Push C_Web C_Desk C_BadTie C_BadTurns C_Parted C_NotFlat C_BadText C_BadDeed C_FloorError : Addr}
def spSides (K : PySem.W.Frag) : Sp := fun vs H Q _ => ∃ (a b : Addr) (xs : List V) (R : List (List Nat)), vs = [.ref a, .ref b] ∧ SqL K H a xs ∧ Dp K H (.ref b) (dRows R) ∧ R.flatten.Perm (List.range (2 * xs.length)) ∧ (∀ r ∈ R, 1 ≤ r.length) ∧ xs.length ≤ 1000 ∧
  ∀ p H' ys G, Same H H' → New H p → H' p = some (.lst ys) → Same H G → Same G H' → New G p → DpAll K G ys (sidesD R xs.length) → Q (.ref p) H'
theorem ok_sides_of {f : Addr} {fd : FuncData} (F : Fun K "sides_of" "sides_of" s_sides_of f fd) (gf : mg "sides_of" = some (.ref f)) (B : Bl mg) {C_Pull C_Push C_Web C_Desk C_BadTie C_BadTurns C_Parted C_NotFlat C_BadText C_BadDeed C_FloorError : Addr} (T : Txt K mg C_Pull C_Push C_Web C_Desk C_BadTie C_BadTurns C_Parted C_NotFlat C_BadText C_BadDeed C_FloorError) : Has P w K mg base CX0 1 "sides_of" ["ties", "rounds"] (spSides K) := by
  refine Has.mk' F gf (F.binds (ps := ["ties", "rounds"]) fun _ _ _ _ _ _ us hl => match us, hl with | [_, _], _ => rfl) sc_sides_of (by walk_at "len") (fun cdv A outer s H vs Q E hr h => ?_)
  obtain ⟨a, b, xs, R, rfl, hS, hR, hpm, hne, hsz, q⟩ := h
  obtain ⟨zs, hz, hZ⟩ := dpLstA hR
  have hzl : zs.length = R.length := by have := dpaLen hZ; simpa using this
  have hnd : R.flatten.Nodup := hpm.nodup_iff.mpr List.nodup_range
  have hfl : R.flatten.length = 2 * xs.length := by rw [hpm.length_eq, List.length_range]
  refine ⟨_, (pss_cons (ps_set (i := 2) sc_sides_of.nd rfl (.inr rfl) pe_dnewK)
 (pss_cons (ps_for PassesOwn.never rfl (pi_enum (by rfl) B.enumerate (pa_cons (pv 1) pa_nil)) (pg_tupK K rfl (pgs_cons (pg_name (i := 3) sc_sides_of.nd rfl (.inl rfl)) (pgs_cons (pg_name (i := 4) sc_sides_of.nd rfl (.inl rfl)) pgs_nil))) (pss_one (ps_for PassesOwn.never rfl (pi_listK K (pv 4)) (pg_name (i := 5) sc_sides_of.nd rfl (.inl rfl)) (pss_one (ps_dput (hu_of hr) (pv 2) (pv 5) (pv 3) rfl)))))
 (pss_one (ps_ret (pe_lc (own := [("i", 6)]) rfl sc_sides_of.nd (pi_range1 (by rfl) B.range (pa_cons (pe_callB (call_lenK K) (by rfl) B.len (by decide +kernel) (pa_cons (pv 0) pa_nil)) pa_nil)) (blkOk_by (own := [("i", 6)]) (N := ["ties", "rounds", "where", "number", "row", "dart", "i"]) (sc := defScope s_sides_of) (by decide +kernel)) (fun _ _ _ _ _ => pg_name (i := 6) sc_sides_of.nd rfl (Or.inl rfl)) (fun _ _ _ _ _ => pts_nil) (fun _ _ _ _ _ => (pe_tup (pa_cons (pe_dget (hu_of hr) (pv 2) (pe_op op_mulX pe_int (pv 6)) (fun _ _ => rfl)) (pa_cons (pe_dget (hu_of hr) (pv 2) (pe_op op_add (pe_op op_mulX pe_int (pv 6)) pe_int) (fun _ _ => rfl)) pa_nil))))))))), ?_⟩
  walk_at "sts"
  refine w_new fun p1 n1 => ?_
  walk_at "sts"
  have s0 : Same H (upd H p1 (.dK [])) := by walk_at "same"
  have hz0 := s0.seq hz
  refine w_enq hz0 ?_
  refine for_enumX (xs := zs) (fun i σ H' => ∃ (kvs : List (Key × V)) (y3 y4 y5 y6 : Option V), σ = [some (.ref a), some (.ref b), some (.ref p1), y3, y4, y5, y6] ∧ H' p1 = some (.dK kvs) ∧ Holds kvs (R.take i).flatten (fun d => .int (sideOf R d : Nat)) ∧ Same H H') ?_ ?_ ?_ ?_
  · exact ⟨[], _, _, _, _, rfl, upd_same, by simpa using Holds.nil, s0⟩
  · rintro i σ H' _ ⟨kvs, y3, y4, y5, y6, _, _, _, s1⟩
    exact s1.seq hz
  · rintro i x σ H' T hx ⟨kvs, y3, y4, y5, y6, rfl, h1, hK, s1⟩ nT
    have hi : i < R.length := by rw [← hzl]; exact (List.getElem?_eq_some_iff.mp hx).1
    obtain ⟨r1, e1, e2⟩ := dpRowsAt hZ hi
    rw [hx] at e1
    cases e1
    have hri : R[i]? = some (row R i) := by
      unfold row
      rw [List.getD_eq_getElem?_getD, List.getElem?_eq_getElem hi]
      rfl
    have hpT : p1 ≠ T := ne_new h1 nT
    have s2 : Same H (upd H' T (.tup [.int (i : Nat), .ref r1])) := s1.trans (same_upd nT)
    have e3 := s2.seq e2
    have hle : (R.take (i + 1)).flatten.length ≤ 2 * xs.length := by
      rw [← hfl]
      have : R.flatten.length = (R.take (i + 1)).flatten.length + (R.drop (i + 1)).flatten.length := by rw [← List.length_append, ← List.flatten_append, List.take_append_drop]
      omega
    rw [flat_take R i _ hri, List.length_append] at hle
    refine w_gt (SqT.of upd_same) rfl ?_
    walk_at "sts"
    refine for_list (xs := iv (row R i)) (fun j σ H'' => ∃ (kvs : List (Key × V)) (y5 y6 : Option V), σ = [some (.ref a), some (.ref b), some (.ref p1), some (.int (i : Nat)), some (.ref r1), y5, y6] ∧ H'' p1 = some (.dK kvs) ∧ Holds kvs ((R.take i).flatten ++ (row R i).take j) (fun d => .int (sideOf R d : Nat)) ∧ Same H H'') ?_ ?_ ?_ ?_
    · exact ⟨kvs, _, _, rfl, by walk_at "hp", by simpa using hK, s2⟩
    · rintro j σ H'' _ ⟨kvs, y5, y6, _, _, _, s3⟩
      exact s3.seq e2
    · rintro j x σ H'' hx ⟨kvs, y5, y6, rfl, h1, hK, s3⟩
      have hj : j < (row R i).length := by
        have := (List.getElem?_eq_some_iff.mp hx).1
        rwa [iv_len] at this
      rw [iv_at hj] at hx
      cases hx
      have hkl : kvs.length < 1000000 := by
        have := hK.1
        rw [List.length_append, List.length_take] at this
        omega
      have hm : (row R i).getD j 0 ∈ row R i := by
        rw [List.getD_eq_getElem?_getD, List.getElem?_eq_getElem hj]
        exact List.getElem_mem hj
      have hside : sideOf R ((row R i).getD j 0) = i := sideOf_at hnd hri hm
      walk_at "sts"
      refine ⟨_, _, _, rfl, upd_same, ?_, s3.mut n1⟩
      rw [take_snoc hj, ← List.append_assoc]
      have := hK.put ((row R i).getD j 0)
      rw [hside] at this
      exact this
    · rintro σ H'' ⟨kvs, y5, y6, rfl, h1, hK, s3⟩
      rw [iv_len, List.take_length, ← flat_take R i _ hri] at hK
      exact ⟨kvs, _, _, _, _, rfl, h1, hK, s3⟩
  · rintro σ H1 ⟨kvs, y3, y4, y5, y6, rfl, h1, hK, s1⟩
    rw [hzl, List.take_length] at hK
    have hS1 := s1.seq hS
    walk_at "sts"
    intro D nD
    have nD0 : New H D := nD.of s1
    refine lc_r0 (n := xs.length) rfl (fun i H' => ∃ ys G, H' D = some (.lst ys) ∧ Same H1 G ∧ Same G H' ∧ New G D ∧ DpAll K G ys (sidesD R i)) ?_ ?_ ?_
    · exact ⟨[], H1, upd_same, Same.refl _, same_upd nD, nD, .nil⟩
    · rintro i H' hi ⟨ys, G, d1, sG, sG', gD, hD⟩
      have hk : H' p1 = some (.dK kvs) := sG' _ _ (sG _ _ h1)
      have hyl : ys.length = i := by have := dpaLen hD; unfold sidesD at this; simpa using this
      have m1 : 2 * i ∈ R.flatten := by rw [hpm.mem_iff, List.mem_range]; omega
      have m2 : 2 * i + 1 ∈ R.flatten := by rw [hpm.mem_iff, List.mem_range]; omega
      have v1 := hK.get m1
      have v2 := hK.get m2
      walk_at "sts"
      refine w_getI (kvs := kvs) hk (v := .int (sideOf R (2 * i) : Nat)) v1 ?_
      walk_at "sts"
      refine w_getI (kvs := kvs) hk (v := .int (sideOf R (2 * i + 1) : Nat)) v2 ?_
      walk_at "sts"
      refine w_new fun t nt => ?_
      have hDt : D ≠ t := ne_new d1 nt
      refine ⟨ys, by walk_at "hp", szlt (by omega), _, upd G t (.tup [.int (sideOf R (2 * i) : Nat), .int (sideOf R (2 * i + 1) : Nat)]), upd_same, sG.trans (same_upd (nt.of sG')), ?_, gD.upd hDt, ?_⟩
      · refine Same.mut ?_ (gD.upd hDt)
        exact (sG'.trans (same_upd nt)).add upd_same
      · unfold sidesD
        rw [List.range_succ, List.map_append]
        exact dpaApp (hD.same (same_upd (nt.of sG'))) (.cons (.tup (SqT.of upd_same) (dpInts [((sideOf R (2 * i) : Nat) : Int), ((sideOf R (2 * i + 1) : Nat) : Int)])) .nil)
    · rintro H2 ⟨ys, G, d1, sG, sG', gD, hD⟩
      exact q D H2 ys G (s1.trans (sG.trans sG')) nD0 d1 (s1.trans sG) sG' gD hD
/-! ### the web -/
structure WebM where
  ts : List Ti
  T : Turns
  R : List (List Nat)
def wf (m : Int) (a b c d : Addr) : List (Str × V) := [("many", .int m), ("ties", .ref a), ("turns", .ref b), ("rounds", .ref c), ("sides", .ref d)]
theorem wf_many (m : Int) (a b c d : Addr) : (wf m a b c d).lookup ("many" : Str) = some (.int m) := by rfl
theorem wf_ties (m : Int) (a b c d : Addr) : (wf m a b c d).lookup ("ties" : Str) = some (.ref a) := by rfl
theorem wf_turns (m : Int) (a b c d : Addr) : (wf m a b c d).lookup ("turns" : Str) = some (.ref b) := by rfl
theorem wf_rounds (m : Int) (a b c d : Addr) : (wf m a b c d).lookup ("rounds" : Str) = some (.ref c) := by rfl
theorem wf_sides (m : Int) (a b c d : Addr) : (wf m a b c d).lookup ("sides" : Str) = some (.ref d) := by rfl
theorem wf_eq (m : Int) (a b c d : Addr) : putF "sides" (.ref d) (putF "rounds" (.ref c) (putF "turns" (.ref b) (putF "ties" (.ref a) (putF "many" (.int m) [])))) = wf m a b c d := by rfl
structure WebAt (K : PySem.W.Frag) (CP CQ CW : Addr) (H : Hp) (p : Addr) (M : WebM) : Prop where
  at_ : ∃ dx a b c d xs, H p = some (.ins CW dx (wf (M.T.length : Nat) a b c d)) ∧ TiesAt K CP CQ H a M.ts ∧ Dp K H (.ref b) (dRows M.T) ∧ Dp K H (.ref c) (dRows M.R) ∧ SqL K H d xs ∧ DpAll K H xs (sidesD M.R M.ts.length)
theorem WebAt.same {K : PySem.W.Frag} {CP CQ CW : Addr} {H H' : Hp} {p : Addr} {M : WebM} (h : WebAt K CP CQ CW H p M) (e : Same H H') : WebAt K CP CQ CW H' p M := by
  obtain ⟨dx, a, b, c, d, xs, h1, h2, h3, h4, h5, h6⟩ := h.at_
  exact ⟨dx, a, b, c, d, xs, e _ _ h1, h2.same e, h3.same e, h4.same e, e.seq h5, h6.same e⟩
/-- the web is as the document says -/
structure WebOk (M : WebM) : Prop where
  flat : Flat (endsOf M.ts) M.T
  canon : Canon (fol (endsOf M.ts) M.T) (2 * M.ts.length) M.R
def spWeb (K : PySem.W.Frag) (CP CQ CW : Addr) : Sp := fun vs H Q _ => ∃ (p dx a b : Addr) (ts : List Ti) (T : Turns), vs = [.ref p, .int T.length, .ref a, .ref b] ∧ H p = some (.ins CW dx []) ∧ TiesAt K CP CQ (wo H p) a ts ∧ Dp K (wo H p) (.ref b) (dRows T) ∧ Flat (endsOf ts) T ∧ 0 < T.length ∧ ts.length ≤ 1000 ∧ T.length ≤ 1000 ∧
  ∀ H' R, Same (wo H p) H' → WebOk ⟨ts, T, R⟩ → WebAt K CP CQ CW H' p ⟨ts, T, R⟩ → Q .non H'
/-- what a web's making tells of its parts -/
inductive WebSays (ts : List Ti) (m : Nat) (T : List (List Int)) (e1 e2 e3 e4 : Prop) (ok : Turns → Prop) : Prop
  | tie : ¬ EndsP ts m → e1 → WebSays ts m T e1 e2 e3 e4 ok
  | turns : EndsP ts m → ¬ TurnsP ts T m → e2 → WebSays ts m T e1 e2 e3 e4 ok
  | parted : EndsP ts m → TurnsP ts T m → ¬ Whole (endsOf ts) m → e3 → WebSays ts m T e1 e2 e3 e4 ok
  | notFlat (T' : Turns) (F : List (List Nat)) : EndsP ts m → T = T'.map castI → T'.length = m → Ok (endsOf ts) T' → Whole (endsOf ts) m → Rings (fol (endsOf ts) T') (2 * ts.length) F → m + F.length ≠ ts.length + 2 → e4 → WebSays ts m T e1 e2 e3 e4 ok
  | flat (T' : Turns) : T = T'.map castI → T'.length = m → Flat (endsOf ts) T' → ok T' → WebSays ts m T e1 e2 e3 e4 ok
def spWebX (K : PySem.W.Frag) (CP CQ CW C1 C2 C3 C4 : Addr) : Sp := fun vs H Q E => ∃ (p dx a b : Addr) (ts : List Ti) (m : Nat) (T : List (List Int)), vs = [.ref p, .int m, .ref a, .ref b] ∧ H p = some (.ins CW dx []) ∧ TiesAt K CP CQ (wo H p) a ts ∧ Dp K (wo H p) (.ref b) (dRowsI T) ∧ (∀ i, i < ts.length → (ti ts i).one ≠ (ti ts i).two) ∧ 0 < m ∧ ts.length ≤ 1000 ∧ m ≤ 1000 ∧
  WebSays ts m T (∀ H', Same H H' → E (.ref C1) none H') (∀ H', Same H H' → E (.ref C2) none H') (∀ H', Same H H' → E (.ref C3) none H') (∀ H', Same H H' → E (.ref C4) none H') (fun T' => ∀ H' R, Same (wo H p) H' → WebOk ⟨ts, T', R⟩ → WebAt K CP CQ CW H' p ⟨ts, T', R⟩ → Q .non H')
theorem WebSays.imp {ts : List Ti} {m : Nat} {T : List (List Int)} {e1 e2 e3 e4 f1 f2 f3 f4 : Prop} {ok ok' : Turns → Prop} (h : WebSays ts m T e1 e2 e3 e4 ok) (g1 : e1 → f1) (g2 : e2 → f2) (g3 : e3 → f3) (g4 : e4 → f4) (g : ∀ T', T'.length = m → ok T' → ok' T') : WebSays ts m T f1 f2 f3 f4 ok' := by
  rcases h with ⟨a, e⟩ | ⟨a, b, e⟩ | ⟨a, b, c, e⟩ | ⟨T', F, a, b, c, d, e, f, i, j⟩ | ⟨T', a, b, c, e⟩
  · exact .tie a (g1 e)
  · exact .turns a b (g2 e)
  · exact .parted a b c (g3 e)
  · exact .notFlat T' F a b c d e f i (g4 j)
  · exact .flat T' a b c (g T' b e)
theorem spWeb.toX {K : PySem.W.Frag} {CP CQ CW C1 C2 C3 C4 : Addr} {vs : List V} {H : Hp} {Q : VK} {E : XK} (h : spWeb K CP CQ CW vs H Q E) : spWebX K CP CQ CW C1 C2 C3 C4 vs H Q E := by
  obtain ⟨p, dx, a, b, ts, T, rfl, h1, h2, h3, hF, h4, h5, h6, q⟩ := h
  refine ⟨p, dx, a, b, ts, T.length, T.map castI, rfl, h1, h2, by rw [dRowsI_cast]; exact h3, fun i hi => ?_, h4, h5, h6, .flat T rfl rfl hF q⟩
  have := (hF.ok.ends i (by rw [endsOf_len]; exact hi)).1
  rwa [en_ti hi] at this
theorem ok_Web___init__ {f : Addr} {fd : FuncData} (F : Fun K "__init__" "Web.__init__" s_Web___init__ f fd) (B : Bl mg) {C_Pull C_Push C_Web C_Desk C_BadTie C_BadTurns C_Parted C_NotFlat C_BadText C_BadDeed C_FloorError : Addr} (T : Txt K mg C_Pull C_Push C_Web C_Desk C_BadTie C_BadTurns C_Parted C_NotFlat C_BadText C_BadDeed C_FloorError) (h_rounds_of : Has P w K mg base CX0 4 "rounds_of" ["ties", "turns"] (spRounds K C_Pull C_Push)) (h_sides_of : Has P w K mg base CX0 1 "sides_of" ["ties", "rounds"] (spSides K)) (h_ends_are_places : Has P w K mg base CX0 1 "ends_are_places" ["many", "ties"] (spEndsX K C_Pull C_Push)) (h_turns_are_right : Has P w K mg base CX0 1 "turns_are_right" ["many", "ties", "turns"] (spTurnsX K C_Pull C_Push)) (h_hangs_together : Has P w K mg base CX0 1 "hangs_together" ["many", "ties"] (spWholeX K C_Pull C_Push)) : HasFn P w K mg base (L2.CX P w) 5 f ["self", "many", "ties", "turns"] (spWebX K C_Pull C_Push C_Web C_BadTie C_BadTurns C_Parted C_NotFlat) := by
  refine HasFn.mkX F (F.binds (ps := ["self", "many", "ties", "turns"]) fun _ _ _ _ _ _ us hl => match us, hl with | [_, _, _, _], _ => rfl) sc_Web___init__ (by walk_at "len") (fun cdv A outer s H vs Q E hr h => ?_)
  obtain ⟨p, dx, a, b, ts, m, TI, rfl, hp, hTi, hTuI, hne, hm, hsz, hsz2, says⟩ := h
  have hTi0 := hTi.same wo_same
  have hTu0I := hTuI.same wo_same
  refine ⟨_, (pss_cons (ps_if (pt_not (pt_val (pe_fn h_ends_are_places (hr.mono (by decide)) (by rfl) (pa_cons (pv 1) (pa_cons (pv 2) pa_nil))))) (pss_one (ps_raise rfl (takes_of rfl rfl rfl rfl) (pmk_own PySem.F.excBase_ValueError T.xn_BadTie T.g_BadTie T.xf_BadTie.kp (raises_own T.xf_BadTie.be T.xf_BadTie.ty) (by exact rfl)))) pss_nil)
 (pss_cons (ps_if (pt_not (pt_val (pe_fn h_turns_are_right (hr.mono (by decide)) (by rfl) (pa_cons (pv 1) (pa_cons (pv 2) (pa_cons (pv 3) pa_nil)))))) (pss_one (ps_raise rfl (takes_of rfl rfl rfl rfl) (pmk_own PySem.F.excBase_ValueError T.xn_BadTurns T.g_BadTurns T.xf_BadTurns.kp (raises_own T.xf_BadTurns.be T.xf_BadTurns.ty) (by exact rfl)))) pss_nil)
 (pss_cons (ps_if (pt_not (pt_val (pe_fn h_hangs_together (hr.mono (by decide)) (by rfl) (pa_cons (pv 1) (pa_cons (pv 2) pa_nil))))) (pss_one (ps_raise rfl (takes_of rfl rfl rfl rfl) (pmk_own PySem.F.excBase_ValueError T.xn_Parted T.g_Parted T.xf_Parted.kp (raises_own T.xf_Parted.be T.xf_Parted.ty) (by exact rfl)))) pss_nil)
 (pss_cons (ps_set (i := 4) sc_Web___init__.nd rfl (.inl rfl) (pe_fn h_rounds_of (hr.mono (by decide)) (by rfl) (pa_cons (pv 2) (pa_cons (pv 3) pa_nil))))
 (pss_cons (ps_if (pt_cmpR op_ne (pe_op op_add (pe_op op_sub (pv 1) (pe_callB (call_lenK K) (by rfl) B.len (by decide +kernel) (pa_cons (pv 2) pa_nil))) (pe_callB (call_lenK K) (by rfl) B.len (by decide +kernel) (pa_cons (pv 4) pa_nil))) pe_int (nomark _)) (pss_one (ps_raise rfl (takes_of rfl rfl rfl rfl) (pmk_own PySem.F.excBase_ValueError T.xn_NotFlat T.g_NotFlat T.xf_NotFlat.kp (raises_own T.xf_NotFlat.be T.xf_NotFlat.ty) (by exact rfl)))) pss_nil)
 (pss_cons (ps_fld (pv 0) (pv 1) rfl)
 (pss_cons (ps_fld (pv 0) (pe_callTy (call_listK K) (by rfl) B.list (by decide +kernel) (pa_cons (pv 2) pa_nil)) rfl)
 (pss_cons (ps_fld (pv 0) (pe_lc (own := [("row", 5)]) rfl sc_Web___init__.nd (pi_listK K (pv 3)) (blkOk_by (own := [("row", 5)]) (N := ["self", "many", "ties", "turns", "rounds", "row"]) (sc := defScope s_Web___init__) (by decide +kernel)) (fun _ _ _ _ _ => pg_name (i := 5) sc_Web___init__.nd rfl (Or.inl rfl)) (fun _ _ _ _ _ => pts_nil) (fun _ _ _ _ _ => (pe_callTy (call_listK K) (by rfl) B.list (by decide +kernel) (pa_cons (pv 5) pa_nil)))) rfl)
 (pss_cons (ps_fld (pv 0) (pv 4) rfl)
 (pss_one (ps_fld (pv 0) (pe_fn h_sides_of (hr.mono (by decide)) (by rfl) (pa_cons (pv 2) (pa_cons (pv 4) pa_nil))) rfl))))))))))), ?_⟩
  walk_at "sts"
  refine ⟨m, a, ts, rfl, hTi0, fun hen => ?_, fun hen => ?_⟩
  rotate_left
  · rcases says with ⟨_, e⟩ | ⟨h, _⟩ | ⟨h, _⟩ | ⟨_, _, h, _⟩ | ⟨T', e1, e2, hF, _⟩
    · walk_at "sts"
      exact e _ (Same.refl _)
    · exact absurd h hen
    · exact absurd h hen
    · exact absurd h hen
    · exact absurd (fun i hi => by
        have := (hF.ok.ends i (by rw [endsOf_len]; exact hi)).2
        rw [en_ti hi, e2] at this
        exact this) hen
  walk_at "sts"
  refine ⟨m, a, b, ts, TI, rfl, hTi0, hTu0I, hen, hne, hsz, hsz2, fun H1 s1 => ⟨fun htu => ?_, fun htu => ?_⟩⟩
  rotate_left
  · rcases says with ⟨h, _⟩ | ⟨_, _, e⟩ | ⟨_, h, _⟩ | ⟨T', F, _, e1, e2, ok, _⟩ | ⟨T', e1, e2, hF, _⟩
    · exact absurd hen h
    · walk_at "sts"
      exact e _ s1
    · exact absurd h htu
    · exact absurd (by rw [e1, ← e2]; exact ok.turns) htu
    · exact absurd (by rw [e1, ← e2]; exact hF.ok.turns) htu
  walk_at "sts"
  refine ⟨m, a, ts, rfl, hTi0.same s1, hen, hm, hsz2, fun H2 s2 => ⟨fun hwh => ?_, fun hwh => ?_⟩⟩
  rotate_left
  · rcases says with ⟨h, _⟩ | ⟨_, h, _⟩ | ⟨_, _, _, e⟩ | ⟨T', F, _, e1, e2, ok, h, _⟩ | ⟨T', e1, e2, hF, _⟩
    · exact absurd hen h
    · exact absurd htu h
    · walk_at "sts"
      exact e _ (s1.trans s2)
    · exact absurd h hwh
    · exact absurd (by rw [← e2]; exact hF.whole) hwh
  have s12 := s1.trans s2
  walk_at "sts"
  obtain ⟨Tu, F, rfl, hml, ok, hFr, hq⟩ : ∃ (T' : Turns) (F : List (List Nat)), TI = T'.map castI ∧ T'.length = m ∧ Ok (endsOf ts) T' ∧ Rings (fol (endsOf ts) T') (2 * ts.length) F ∧
      ((m + F.length ≠ ts.length + 2 ∧ ∀ H', Same H H' → E (.ref C_NotFlat) none H') ∨ (Flat (endsOf ts) T' ∧ m + F.length = ts.length + 2 ∧ ∀ H' R, Same (wo H p) H' → WebOk ⟨ts, T', R⟩ → WebAt K C_Pull C_Push C_Web H' p ⟨ts, T', R⟩ → Q .non H')) := by
    rcases says with ⟨h, _⟩ | ⟨_, h, _⟩ | ⟨_, _, h, _⟩ | ⟨T', F, _, e1, e2, ok, h, hr, hc, e⟩ | ⟨T', e1, e2, hF, hq⟩
    · exact absurd hen h
    · exact absurd htu h
    · exact absurd hwh h
    · exact ⟨T', F, e1, e2, ok, hr, .inl ⟨hc, e⟩⟩
    · obtain ⟨F, hFr, hEu⟩ := hF.euler
      rw [endsOf_len] at hFr hEu
      exact ⟨T', F, e1, e2, hF.ok, hFr, .inr ⟨hF, by omega, hq⟩⟩
  rw [dRowsI_cast] at hTuI hTu0I
  have hTu := hTuI
  have hTu0 := hTu0I
  subst hml
  refine ⟨a, b, ts, Tu, F, rfl, hTi0.same s12, hTu0.same s12, ok, hsz, hFr, fun p3 H3 R s3 n3 hR hC => ?_⟩
  obtain ⟨xs, G, r1, rG, rG', rN, rD⟩ := hR
  have s13 := s12.trans s3
  have hcount : R.length = F.length := hC.rings.count hFr
  have hxl : xs.length = R.length := by have := dpaLen rD; simpa using this
  have hp3 : H3 p = some (.ins C_Web dx []) := s13 _ _ hp
  have w3 : Same (wo H p) (wo H3 p) := wo_mono s13
  have dR : Dp K (wo H3 p) (.ref p3) (dRows R) := dpWo hp3 _ _ (.lst (SqL.of r1) (rD.same rG'))
  have hS3 := hTi.same w3
  obtain ⟨ps, hps, hin⟩ := id hS3
  have hpl : (ps.map V.ref).length = ts.length := by rw [List.length_map]; exact hin.1
  have hps3 := (wo_same (H := H3) (D := p)).seq hps
  have hr3 : SqL K H3 p3 xs := SqL.of r1
  walk_at "sts"
  rcases hq with ⟨hcq, e⟩ | ⟨hF, hEu, q⟩
  · refine ifnd (fun hcn => ?_) (fun hcn => ?_)
    · exact e _ s13
    · exfalso; omega
  walk_at "sts"
  refine w_sfq hp3 T.cl_Web T.n_Web_many (by show 0 < 1000; decide) ?_
  have e4 : Same (wo H3 p) (upd H3 p (.ins C_Web dx (putF "many" (.int (Tu.length : Nat)) []))) := same_wo_upd
  have hps4 := e4.seq hps
  walk_at "sts"
  refine w_new fun t1 nt1 => ?_
  have ht1 : t1 ≠ p := Ne.symm (ne_new upd_same nt1)
  have w5 : Same (wo H3 p) (wo (upd (upd H3 p (.ins C_Web dx (putF "many" (.int (Tu.length : Nat)) []))) t1 (.lst (ps.map V.ref))) p) := same_wo (e4.trans (same_upd nt1)) wo_new
  have l5 : wo (upd (upd H3 p (.ins C_Web dx (putF "many" (.int (Tu.length : Nat)) []))) t1 (.lst (ps.map V.ref))) p t1 = some (.lst (ps.map V.ref)) := wo_get upd_same ht1
  have p5 : upd (upd H3 p (.ins C_Web dx (putF "many" (.int (Tu.length : Nat)) []))) t1 (.lst (ps.map V.ref)) p = some (.ins C_Web dx (putF "many" (.int (Tu.length : Nat)) [])) := by rw [upd_ne (Ne.symm ht1), upd_same]
  generalize upd (upd H3 p (.ins C_Web dx (putF "many" (.int (Tu.length : Nat)) []))) t1 (.lst (ps.map V.ref)) = H5 at w5 l5 p5 ⊢
  walk_at "sts"
  refine w_sfq p5 T.cl_Web T.n_Web_ties (by show 1 < 1000; decide) ?_
  have e6 : Same (wo H5 p) (upd H5 p (.ins C_Web dx (putF "ties" (.ref t1) (putF "many" (.int (Tu.length : Nat)) [])))) := same_wo_upd
  have p6 : upd H5 p (.ins C_Web dx (putF "ties" (.ref t1) (putF "many" (.int (Tu.length : Nat)) []))) p = some (.ins C_Web dx (putF "ties" (.ref t1) (putF "many" (.int (Tu.length : Nat)) []))) := upd_same
  generalize upd H5 p (.ins C_Web dx (putF "ties" (.ref t1) (putF "many" (.int (Tu.length : Nat)) []))) = H6 at e6 p6 ⊢
  have hTu6 := (hTu.same (w3.trans w5)).same e6
  obtain ⟨zs, hz, hZ⟩ := dpLstA hTu6
  have hzl : zs.length = Tu.length := by have := dpaLen hZ; simpa using this
  walk_at "sts"
  intro D nD
  refine lc_list (xs := zs) (fun i H' => ∃ ys G, H' D = some (.lst ys) ∧ Same H6 G ∧ Same G H' ∧ New G D ∧ DpAll K G ys ((Tu.take i).map dRow)) ?_ ?_ ?_ ?_
  · exact ⟨[], H6, upd_same, Same.refl _, same_upd nD, nD, .nil⟩
  · rintro i H' _ ⟨ys, G, _, g1, g2, _, _⟩
    exact (g1.trans g2).seq hz
  · rintro i x H' hx ⟨ys, G, y1, g1, g2, g3, hD⟩
    have hi : i < Tu.length := by rw [← hzl]; exact (List.getElem?_eq_some_iff.mp hx).1
    obtain ⟨q1, e1, e2⟩ := dpRowsAt hZ hi
    rw [hx] at e1
    cases e1
    have e3 := (g1.trans g2).seq e2
    have hyl : ys.length = i := by have := dpaLen hD; simp at this; omega
    walk_at "sts"
    refine w_new fun t nt => ?_
    have hDt : D ≠ t := ne_new y1 nt
    refine ⟨ys, by walk_at "hp", szlt (by omega), _, upd G t (.lst (iv (row Tu i))), upd_same, g1.trans (same_upd (nt.of g2)), ?_, g3.upd hDt, ?_⟩
    · refine Same.mut ?_ (g3.upd hDt)
      exact (g2.trans (same_upd nt)).add upd_same
    · have et : Tu.take (i + 1) = Tu.take i ++ [row Tu i] := by
        rw [List.take_add_one, List.getElem?_eq_getElem hi]
        unfold row
        rw [List.getD_eq_getElem?_getD, List.getElem?_eq_getElem hi]
        rfl
      rw [et, List.map_append]
      exact dpaApp (hD.same (same_upd (nt.of g2))) (.cons (dpRow (SqL.of upd_same)) .nil)
  · rintro H7 ⟨ys, G, y1, g1, g2, g3, hD⟩
    rw [hzl, List.take_length] at hD
    have e67 := g1.trans g2
    have p7 : H7 p = some (.ins C_Web dx (putF "ties" (.ref t1) (putF "many" (.int (Tu.length : Nat)) []))) := e67 _ _ p6
    have w7 : Same (wo H5 p) (wo H7 p) := same_wo (e6.trans e67) wo_new
    have dT : Dp K (wo H7 p) (.ref D) (dRows Tu) := dpWo p7 _ _ (.lst (SqL.of y1) (hD.same g2))
    walk_at "sts"
    refine w_sfq p7 T.cl_Web T.n_Web_turns (by show 2 < 1000; decide) ?_
    walk_at "sts"
    refine w_sfq upd_same T.cl_Web T.n_Web_rounds (by show 3 < 1000; decide) ?_
    rw [upd_upd]
    have e8 : Same (wo H7 p) (upd H7 p (.ins C_Web dx (putF "rounds" (.ref p3) (putF "turns" (.ref D) (putF "ties" (.ref t1) (putF "many" (.int (Tu.length : Nat)) [])))))) := same_wo_upd
    have p8 : upd H7 p (.ins C_Web dx (putF "rounds" (.ref p3) (putF "turns" (.ref D) (putF "ties" (.ref t1) (putF "many" (.int (Tu.length : Nat)) []))))) p = some (.ins C_Web dx (putF "rounds" (.ref p3) (putF "turns" (.ref D) (putF "ties" (.ref t1) (putF "many" (.int (Tu.length : Nat)) []))))) := upd_same
    generalize upd H7 p (.ins C_Web dx (putF "rounds" (.ref p3) (putF "turns" (.ref D) (putF "ties" (.ref t1) (putF "many" (.int (Tu.length : Nat)) []))))) = H8 at e8 p8 ⊢
    have f8 : Same (wo H3 p) H8 := (w5.trans w7).trans e8
    walk_at "sts"
    refine ⟨a, p3, ps.map V.ref, R, rfl, f8.seq hps, dR.same f8, by rw [hpl]; exact hC.rings.all, fun r hr => ?_, by omega, fun pS H9 yS GS s9 n9 l9 gA gB gC dS => ?_⟩
    · obtain ⟨x, l, rfl, _⟩ := hC.rings.ok r hr
      simp
    · have p9 := s9 _ _ p8
      walk_at "sts"
      refine w_sfq p9 T.cl_Web T.n_Web_sides (by show 4 < 1000; decide) ?_
      rw [wf_eq]
      have e10 : Same (wo H9 p) (upd H9 p (.ins C_Web dx (wf (Tu.length : Nat) t1 D p3 pS))) := same_wo_upd
      have w9 : Same (wo H3 p) (wo H9 p) := same_wo (f8.trans s9) wo_new
      have w79 : Same (wo H7 p) (wo H9 p) := same_wo (e8.trans s9) wo_new
      have w59 : Same (wo H5 p) (wo H9 p) := w7.trans w79
      have hpS : pS ≠ p := fun e => by
        subst e
        rw [l9] at p9
        cases p9
      refine q _ R ((w3.trans w9).trans e10) ⟨hF, hC⟩ ⟨dx, t1, D, p3, pS, yS, upd_same, ?_, ?_, ?_, ?_, ?_⟩
      · refine ⟨ps, SqL.of ((w59.trans e10) _ _ l5), hin.same (w9.trans e10)⟩
      · exact dT.same (w79.trans e10)
      · exact dR.same (w9.trans e10)
      · exact SqL.of (e10 _ _ (wo_get l9 hpS))
      · have := dpWoAll p9 _ _ (dS.same gB)
        rw [hpl] at this
        exact this.same e10
end

def dEnd (e : Nat × Nat) : PyData := .tuple ([((e.1 : Nat) : Int), ((e.2 : Nat) : Int)].map PyData.int)
def dEnds (E : EdgL) : PyData := .list (E.map dEnd)
theorem goodEnds (E : EdgL) : Good 2 (dEnds E) := goodLst (goodMap fun e => goodTup (goodMap fun _ => goodInt))
theorem dpEnd {K : PySem.W.Frag} {H : Hp} {v : V} {e : Nat × Nat} (h : Dp K H v (dEnd e)) : ∃ p, v = .ref p ∧ SqT K H p [.int (e.1 : Nat), .int (e.2 : Nat)] := by
  obtain ⟨p, xs, rfl, h1, h2⟩ := dpTup h
  have e2 := dpAll_ints h2
  rw [e2] at h1
  exact ⟨p, rfl, h1⟩
theorem dEndT {K : PySem.W.Frag} {H : Hp} {p : Addr} {a b : Nat} (h : SqT K H p [.int (a : Nat), .int (b : Nat)]) : Dp K H (.ref p) (dEnd (a, b)) := .tup h (dpInts [((a : Nat) : Int), ((b : Nat) : Int)])
theorem dpEndsAt {K : PySem.W.Frag} {H : Hp} {xs : List V} {E : EdgL} (h : DpAll K H xs (E.map dEnd)) {i : Nat} (hi : i < E.length) : ∃ p, xs[i]? = some (.ref p) ∧ SqT K H p [.int ((en E i).1 : Nat), .int ((en E i).2 : Nat)] := by
  obtain ⟨v, h1, h2⟩ := dpaGet (i := i) (d := dEnd (en E i)) h (by
    rw [List.getElem?_map, en, List.getD_eq_getElem?_getD, List.getElem?_eq_getElem hi]
    rfl)
  obtain ⟨p, rfl, h3⟩ := dpEnd h2
  exact ⟨p, h1, h3⟩
theorem iv_put (r : List Nat) (k x : Nat) : (iv r).take k ++ [V.int (x : Int)] ++ (iv r).drop k = iv (putAt r k x) := by
  unfold iv putAt
  simp

section
variable {P : Program} {w : World} {K : PySem.W.Frag} {mg : Str → Option Value} {base : Heap} {C_Pull C_Push C_Web C_Desk C_BadTie C_BadTurns C_Parted C_NotFlat C_BadText C_BadDeed C_FloorError : Addr}
def spCell (K : PySem.W.Frag) : Sp := fun vs H Q _ => ∃ (p : Addr) (ns : List Int) (k : Nat), vs = [.ref p, .int k] ∧ SqL K H p (ns.map V.int) ∧ Q (.int (ns.getD k 0)) H
theorem ok_law_cell {f : Addr} {fd : FuncData} (F : Fun K "_law_cell" "_law_cell" s_law_cell f fd) (gf : mg "_law_cell" = some (.ref f)) (B : Bl mg) {C_Pull C_Push C_Web C_Desk C_BadTie C_BadTurns C_Parted C_NotFlat C_BadText C_BadDeed C_FloorError : Addr} (T : Txt K mg C_Pull C_Push C_Web C_Desk C_BadTie C_BadTurns C_Parted C_NotFlat C_BadText C_BadDeed C_FloorError) : Has P w K mg base CX0 1 "_law_cell" ["script", "k"] (spCell K) := by
  refine Has.mk' F gf (F.binds (ps := ["script", "k"]) fun _ _ _ _ _ _ us hl => match us, hl with | [_, _], _ => rfl) sc_law_cell (by walk_at "len") (fun cdv A outer s H vs Q E hr h => ?_)
  obtain ⟨p, ns, k, rfl, hp, q⟩ := h
  refine ⟨_, (pss_cons (ps_if (pt_cmpR op_lt (pv 1) (pe_callB (call_lenK K) (by rfl) B.len (by decide +kernel) (pa_cons (pv 0) pa_nil)) (nomark _)) (pss_one (ps_ret (pe_ix (ix_listK K) (pv 0) (pv 1) (fun _ _ => rfl)))) pss_nil)
 (pss_one (ps_ret pe_int))), ?_⟩
  walk_at "sts"
  refine ifd (fun hc => ?_) (fun hc => ?_)
  · rw [List.length_map] at hc
    have e : (ns.map V.int)[k]? = some (.int (ns.getD k 0)) := by
      rw [List.getElem?_map, List.getD_eq_getElem?_getD, List.getElem?_eq_getElem (by omega)]
      rfl
    walk_at "sts"
    exact q
  · rw [List.length_map] at hc
    walk_at "sts"
    rw [List.getD_eq_getElem?_getD, List.getElem?_eq_none (by omega)] at q
    exact q
def spLHead (K : PySem.W.Frag) : Sp := fun vs H Q _ => ∃ (a : Addr) (d : Nat) (E : EdgL), vs = [.ref a, .int d] ∧ Dp K H (.ref a) (dEnds E) ∧ d < 2 * E.length ∧ Q (.int (hd E d : Nat)) H
theorem ok_law_head {f : Addr} {fd : FuncData} (F : Fun K "_law_head" "_law_head" s_law_head f fd) (gf : mg "_law_head" = some (.ref f)) (B : Bl mg) {C_Pull C_Push C_Web C_Desk C_BadTie C_BadTurns C_Parted C_NotFlat C_BadText C_BadDeed C_FloorError : Addr} (T : Txt K mg C_Pull C_Push C_Web C_Desk C_BadTie C_BadTurns C_Parted C_NotFlat C_BadText C_BadDeed C_FloorError) : Has P w K mg base CX0 1 "_law_head" ["ends", "dart"] (spLHead K) := by
  refine Has.mk' F gf (F.binds (ps := ["ends", "dart"]) fun _ _ _ _ _ _ us hl => match us, hl with | [_, _], _ => rfl) sc_law_head (by walk_at "len") (fun cdv A outer s H vs Q E hr h => ?_)
  obtain ⟨a, d, E', rfl, hE, hd', q⟩ := h
  obtain ⟨xs, hx, hX⟩ := dpLstA hE
  obtain ⟨p, h1, h2⟩ := dpEndsAt hX (i := d / 2) (by omega)
  refine ⟨_, (pss_one (ps_ret (pe_ix (ix_tupK K) (pe_ix (ix_listK K) (pv 0) (pe_op op_fdivW (pv 1) pe_int) (fun _ _ => rfl)) (pe_op op_sub pe_int (pe_op op_mod (pv 1) pe_int)) (fun _ _ => rfl)))), ?_⟩
  have e : atI [V.int ((en E' (d / 2)).1 : Nat), .int ((en E' (d / 2)).2 : Nat)] (1 - (d : Int) % 2) = some (.int (hd E' d : Nat)) := by
    unfold hd
    by_cases hm : d % 2 = 0
    · rw [if_pos hm, show (1 - (d : Int) % 2) = ((1 : Nat) : Int) by omega]; exact atI_nat rfl
    · rw [if_neg hm, show (1 - (d : Int) % 2) = ((0 : Nat) : Int) by omega]; exact atI_nat rfl
  walk_at "sts"
  exact q
def spLFol (K : PySem.W.Frag) : Sp := fun vs H Q _ => ∃ (a b : Addr) (d : Nat) (E : EdgL) (T : Turns), vs = [.ref a, .ref b, .int d] ∧ Dp K H (.ref a) (dEnds E) ∧ Dp K H (.ref b) (dRows T) ∧ Ok E T ∧ d < 2 * E.length ∧ E.length ≤ 1000 ∧ Q (.int (fol E T d : Nat)) H
theorem ok_law_behind {f : Addr} {fd : FuncData} (F : Fun K "_law_behind" "_law_behind" s_law_behind f fd) (gf : mg "_law_behind" = some (.ref f)) (B : Bl mg) {C_Pull C_Push C_Web C_Desk C_BadTie C_BadTurns C_Parted C_NotFlat C_BadText C_BadDeed C_FloorError : Addr} (T : Txt K mg C_Pull C_Push C_Web C_Desk C_BadTie C_BadTurns C_Parted C_NotFlat C_BadText C_BadDeed C_FloorError) (h_law_head : Has P w K mg base CX0 1 "_law_head" ["ends", "dart"] (spLHead K)) : Has P w K mg base CX0 2 "_law_behind" ["ends", "turns", "dart"] (spLFol K) := by
  refine Has.mk' F gf (F.binds (ps := ["ends", "turns", "dart"]) fun _ _ _ _ _ _ us hl => match us, hl with | [_, _, _], _ => rfl) sc_law_behind (by walk_at "len") (fun cdv A outer s H vs Q E hr h => ?_)
  obtain ⟨a, b, d, E', Tu, rfl, hE, hTu, ok, hd', hsz, q⟩ := h
  obtain ⟨es, he, hEE⟩ := dpLstA hE
  obtain ⟨xs, hx, hX⟩ := dpLstA hTu
  obtain ⟨rq, hr1, hr2⟩ := dpRowsAt hX (ok.hd_lt hd')
  have hm := ok.hd_mem hd'
  obtain ⟨hj, hjo⟩ := ok.nxt_mem' hd'
  obtain ⟨p, h1, h2⟩ := dpEndsAt hEE hj
  unfold fol outOf at q
  have hl0 : 0 < (row Tu (hd E' d)).length := List.length_pos_of_mem hm
  have hix : atI (iv (row Tu (hd E' d))) (((((row Tu (hd E' d)).idxOf (d / 2) : Nat) : Int) + 1) % ((iv (row Tu (hd E' d))).length : Int)) = some (.int ((nxt (row Tu (hd E' d)) (d / 2) : Nat) : Int)) := by
    rw [iv_len, show ((((row Tu (hd E' d)).idxOf (d / 2) : Nat) : Int) + 1) % ((row Tu (hd E' d)).length : Int) = (((row Tu (hd E' d)).idxOf (d / 2) + 1) % (row Tu (hd E' d)).length : Nat) by rw [Int.natCast_emod, Int.natCast_add]; rfl]
    exact atI_nat (iv_at (Nat.mod_lt _ hl0))
  have hpos : 0 < ((iv (row Tu (hd E' d))).length : Int) := by rw [iv_len]; omega
  refine ⟨_, (pss_cons (ps_set (i := 3) sc_law_behind.nd rfl (.inl rfl) (pe_fn h_law_head (hr.mono (by decide)) (by rfl) (pa_cons (pv 0) (pa_cons (pv 2) pa_nil))))
 (pss_cons (ps_set (i := 4) sc_law_behind.nd rfl (.inl rfl) (pe_ix (ix_listK K) (pv 1) (pv 3) (fun _ _ => rfl)))
 (pss_cons (ps_set (i := 5) sc_law_behind.nd rfl (.inl rfl) (pe_ix (ix_listK K) (pv 4) (pe_op op_mod (pe_op op_add (pe_bmK K (pe_bm PySem.F.plainAttrs_list PySem.F.slot_list_index PySem.F.type_list_index (mt_indexK K) (pv 4) (pa_cons (pe_op op_fdivW (pv 2) pe_int) pa_nil))) pe_int) (pe_callB (call_lenK K) (by rfl) B.len (by decide +kernel) (pa_cons (pv 4) pa_nil))) (fun _ _ => rfl)))
 (pss_one (ps_ret (pe_op op_add (pe_op op_mulX pe_int (pv 5)) (pe_callTy call_int1 (by rfl) B.int (by decide +kernel) (pa_cons (pe_cmpR op_ne (pe_ix (ix_tupK K) (pe_ix (ix_listK K) (pv 0) (pv 5) (fun _ _ => rfl)) pe_int (fun _ _ => rfl)) (pv 3) (nomark _)) pa_nil)))))))), ?_⟩
  walk_at "sts"
  refine ⟨a, d, E', rfl, hE, hd', ?_⟩
  walk_at "sts"
  refine w_idx hr2 hm ?_
  walk_at "sts"
  have e : (2 * ((nxt (row Tu (hd E' d)) (d / 2) : Nat) : Int) + if (!decide (((en E' (nxt (row Tu (hd E' d)) (d / 2))).1 : Int) = ((hd E' d : Nat) : Int))) = true then 1 else 0) = ((2 * nxt (row Tu (hd E' d)) (d / 2) + if (en E' (nxt (row Tu (hd E' d)) (d / 2))).1 = hd E' d then 0 else 1 : Nat) : Int) := by
    by_cases e1 : (en E' (nxt (row Tu (hd E' d)) (d / 2))).1 = hd E' d
    · rw [if_pos e1, e1]; simp
    · have : ¬ ((en E' (nxt (row Tu (hd E' d)) (d / 2))).1 : Int) = ((hd E' d : Nat) : Int) := by omega
      rw [if_neg e1, decide_eq_false this]; simp
  rw [e]
  exact q
def spLRound (K : PySem.W.Frag) : Sp := fun vs H Q _ => ∃ (a b : Addr) (x : Nat) (l : List Nat) (E : EdgL) (T : Turns), vs = [.ref a, .ref b, .int x] ∧ Dp K H (.ref a) (dEnds E) ∧ Dp K H (.ref b) (dRows T) ∧ Ok E T ∧ E.length ≤ 1000 ∧
  Path (fol E T) x l x ∧ (x :: l).Nodup ∧ (∀ z ∈ x :: l, z < 2 * E.length) ∧ ∀ p H', Same H H' → New H p → H' p = some (.lst (iv (x :: l))) → Q (.ref p) H'
theorem ok_law_round {f : Addr} {fd : FuncData} (F : Fun K "_law_round" "_law_round" s_law_round f fd) (gf : mg "_law_round" = some (.ref f)) (B : Bl mg) {C_Pull C_Push C_Web C_Desk C_BadTie C_BadTurns C_Parted C_NotFlat C_BadText C_BadDeed C_FloorError : Addr} (T : Txt K mg C_Pull C_Push C_Web C_Desk C_BadTie C_BadTurns C_Parted C_NotFlat C_BadText C_BadDeed C_FloorError) (h_law_behind : Has P w K mg base CX0 2 "_law_behind" ["ends", "turns", "dart"] (spLFol K)) : Has P w K mg base CX0 3 "_law_round" ["ends", "turns", "dart"] (spLRound K) := by
  refine Has.mk' F gf (F.binds (ps := ["ends", "turns", "dart"]) fun _ _ _ _ _ _ us hl => match us, hl with | [_, _, _], _ => rfl) sc_law_round (by walk_at "len") (fun cdv A outer s H vs Q E hr h => ?_)
  obtain ⟨a, b, x, l, E', Tu, rfl, hE, hTu, ok, hsz, hp, hn, hlt, q⟩ := h
  have hll : l.length ≤ 2 * E'.length := by
    have := nodup_sub_len (ys := List.range (2 * E'.length)) hn fun z hz => List.mem_range.mpr (hlt z hz)
    simp at this
    omega
  have nx : ∀ i, i < l.length → l.getD i 0 ≠ x ∧ l.getD i 0 < 2 * E'.length := fun i hi => by
    have e : l.getD i 0 = l[i] := by rw [List.getD_eq_getElem?_getD, List.getElem?_eq_getElem hi]; rfl
    have hm : l[i] ∈ l := List.getElem_mem hi
    rw [e]
    exact ⟨fun q => (List.nodup_cons.mp hn).1 (q ▸ hm), hlt _ (List.mem_cons_of_mem _ hm)⟩
  have gx : ∀ i, (l ++ [x]).getD i 0 = if i < l.length then l.getD i 0 else if i = l.length then x else 0 := fun i => by
    rw [List.getD_eq_getElem?_getD, List.getD_eq_getElem?_getD]
    by_cases h : i < l.length
    · rw [if_pos h, List.getElem?_append_left h]
    · rw [if_neg h]
      by_cases h2 : i = l.length
      · rw [if_pos h2, h2, List.getElem?_append_right (Nat.le_refl _), Nat.sub_self]; rfl
      · rw [if_neg h2, List.getElem?_eq_none (by simp; omega)]; rfl
  refine ⟨_, (pss_cons (ps_set (i := 3) sc_law_round.nd rfl (.inl rfl) (pe_lst (pa_cons (pv 2) pa_nil)))
 (pss_cons (ps_set (i := 4) sc_law_round.nd rfl (.inl rfl) (pe_fn h_law_behind (hr.mono (by decide)) (by rfl) (pa_cons (pv 0) (pa_cons (pv 1) (pa_cons (pv 2) pa_nil)))))
 (pss_cons (ps_while PassesOwn.never (pt_cmpR op_ne (pv 4) (pv 2) (nomark _)) (pss_cons (ps_expr (pe_bmK K (pe_bm PySem.F.plainAttrs_list PySem.F.slot_list_append PySem.F.type_list_append mt_append (pv 3) (pa_cons (pv 4) pa_nil))))
 (pss_one (ps_set (i := 4) sc_law_round.nd rfl (.inl rfl) (pe_fn h_law_behind (hr.mono (by decide)) (by rfl) (pa_cons (pv 0) (pa_cons (pv 1) (pa_cons (pv 4) pa_nil))))))))
 (pss_one (ps_ret (pv 3)))))), ?_⟩
  walk_at "sts"
  refine w_new fun p1 n1 => ?_
  walk_at "sts"
  have s1 : Same H (upd H p1 (.lst [.int (x : Int)])) := by walk_at "same"
  refine ⟨a, b, x, E', Tu, rfl, hE.same s1, hTu.same s1, ok, hlt x List.mem_cons_self, hsz, ?_⟩
  have g0 := hp.get 0 (Nat.zero_le _)
  rw [show fol E' Tu x = (l ++ [x]).getD 0 0 from g0]
  walk_at "sts"
  refine ⟨fun k σ H' => ∃ i, i + k = l.length ∧ σ = [some (.ref a), some (.ref b), some (.int (x : Int)), some (.ref p1), some (.int (((l ++ [x]).getD i 0 : Nat) : Int))] ∧ Same H H' ∧ H' p1 = some (.lst (iv (x :: l.take i))), ⟨l.length, 0, by omega, rfl, s1, upd_same⟩, ?_⟩
  rintro k σ H' ⟨i, hi, rfl, s2, h1⟩
  walk_at "sts"
  rw [gx]
  by_cases hk : i < l.length
  · rw [if_pos hk]
    obtain ⟨n2, n3⟩ := nx i hk
    refine ifnd (fun _ => ?_) (fun h => absurd h (by omega))
    refine w_wt ?_
    have hsl : (iv (x :: l.take i)).length < sizeLine := szlt (by rw [iv_len]; simp; omega)
    walk_at "sts"
    have s3 : Same H (upd H' p1 (.lst (iv (x :: l.take i) ++ [.int ((l.getD i 0 : Nat) : Int)]))) := by walk_at "same"
    refine ⟨a, b, _, E', Tu, rfl, hE.same s3, hTu.same s3, ok, n3, hsz, ?_⟩
    have g1 := hp.get (i + 1) (by omega)
    rw [show fol E' Tu (l.getD i 0) = (l ++ [x]).getD (i + 1) 0 from g1]
    walk_at "sts"
    refine ⟨k - 1, by omega, i + 1, by omega, rfl, s3, ?_⟩
    rw [upd_same]
    rw [take_snoc hk, ← List.cons_append, iv_app]
    rfl
  · have e : i = l.length := by omega
    rw [if_neg hk, if_pos e]
    refine ifnd (fun h => absurd rfl h) (fun _ => ?_)
    walk_at "sts"
    rw [e, List.take_length] at h1
    exact q p1 H' s2 n1 h1
def spGrown (K : PySem.W.Frag) : Sp := fun vs H Q _ => ∃ (a : Addr) (cs : List Int), vs = [.ref a] ∧ SqL K H a (cs.map V.int) ∧ cs.length ≤ 100 ∧
  ∀ p H' e t E T, Same H H' → New H p → H' p = some (.tup [.ref e, .ref t]) → Dp K H' (.ref e) (dEnds E) → Dp K H' (.ref t) (dRows T) → Flat E T → E.length = cs.length + 1 → T.length ≤ cs.length + 2 → 2 ≤ T.length → Q (.ref p) H'
theorem ok_law_grown {f : Addr} {fd : FuncData} (F : Fun K "_law_grown" "_law_grown" s_law_grown f fd) (gf : mg "_law_grown" = some (.ref f)) (B : Bl mg) {C_Pull C_Push C_Web C_Desk C_BadTie C_BadTurns C_Parted C_NotFlat C_BadText C_BadDeed C_FloorError : Addr} (T : Txt K mg C_Pull C_Push C_Web C_Desk C_BadTie C_BadTurns C_Parted C_NotFlat C_BadText C_BadDeed C_FloorError) (h_law_round : Has P w K mg base CX0 3 "_law_round" ["ends", "turns", "dart"] (spLRound K)) (h_law_head : Has P w K mg base CX0 1 "_law_head" ["ends", "dart"] (spLHead K)) : Has P w K mg base CX0 4 "_law_grown" ["cells"] (spGrown K) := by
  refine Has.mk' F gf (F.binds (ps := ["cells"]) fun _ _ _ _ _ _ us hl => match us, hl with | [_], _ => rfl) sc_law_grown (by walk_at "len") (fun cdv A outer s H vs Q E hr h => ?_)
  obtain ⟨a, cs, rfl, hS, hsz, q⟩ := h
  refine ⟨_, (pss_cons (ps_set (i := 1) sc_law_grown.nd rfl (.inl rfl) (pe_lst (pa_cons (pe_tup (pa_cons pe_int (pa_cons pe_int pa_nil))) pa_nil)))
 (pss_cons (ps_set (i := 2) sc_law_grown.nd rfl (.inl rfl) (pe_lst (pa_cons (pe_lst (pa_cons pe_int pa_nil)) (pa_cons (pe_lst (pa_cons pe_int pa_nil)) pa_nil))))
 (pss_cons (ps_for PassesOwn.never rfl (pi_listK K (pv 0)) (pg_name (i := 3) sc_law_grown.nd rfl (.inl rfl)) (pss_cons (ps_set (i := 4) sc_law_grown.nd rfl (.inl rfl) (pe_op op_mod (pe_op op_mulX (pe_op op_mod (pv 3) pe_int) pe_int) pe_int))
 (pss_cons (ps_set (i := 5) sc_law_grown.nd rfl (.inl rfl) (pe_callB (call_lenK K) (by rfl) B.len (by decide +kernel) (pa_cons (pv 1) pa_nil)))
 (pss_cons (ps_set (i := 6) sc_law_grown.nd rfl (.inl rfl) (pe_op op_mod (pe_op op_fdivW (pv 4) pe_int) (pe_op op_mulX pe_int (pv 5))))
 (pss_cons (ps_set (i := 7) sc_law_grown.nd rfl (.inl rfl) (pe_fn h_law_round (hr.mono (by decide)) (by rfl) (pa_cons (pv 1) (pa_cons (pv 2) (pa_cons (pv 6) pa_nil)))))
 (pss_cons (ps_set (i := 8) sc_law_grown.nd rfl (.inl rfl) (pe_ix (ix_listK K) (pv 7) (pe_op op_mod (pe_op op_mod (pe_op op_mulX (pv 4) (pv 4)) pe_int) (pe_callB (call_lenK K) (by rfl) B.len (by decide +kernel) (pa_cons (pv 7) pa_nil))) (fun _ _ => rfl)))
 (pss_cons (ps_set (i := 9) sc_law_grown.nd rfl (.inl rfl) (pe_fn h_law_head (hr.mono (by decide)) (by rfl) (pa_cons (pv 1) (pa_cons (pv 6) pa_nil))))
 (pss_cons (ps_set (i := 10) sc_law_grown.nd rfl (.inl rfl) (pe_fn h_law_head (hr.mono (by decide)) (by rfl) (pa_cons (pv 1) (pa_cons (pv 8) pa_nil))))
 (pss_cons (ps_expr (pe_bmK K (pe_bm PySem.F.plainAttrs_list PySem.F.slot_list_insert PySem.F.type_list_insert mt_insert (pe_ix (ix_listK K) (pv 2) (pv 9) (fun _ _ => rfl)) (pa_cons (pe_op op_add (pe_bmK K (pe_bm PySem.F.plainAttrs_list PySem.F.slot_list_index PySem.F.type_list_index (mt_indexK K) (pe_ix (ix_listK K) (pv 2) (pv 9) (fun _ _ => rfl)) (pa_cons (pe_op op_fdivW (pv 6) pe_int) pa_nil))) pe_int) (pa_cons (pv 5) pa_nil)))))
 (pss_cutX (ps_if (PW.pt (pw_or (pt_cmpR op_eq (pe_op op_mod (pv 4) pe_int) pe_int (nomark _)) (pw_or1 (pt_cmpR op_eq (pv 9) (pv 10) (nomark _))))) (pss_cons (ps_set (i := 10) sc_law_grown.nd rfl (.inl rfl) (pe_callB (call_lenK K) (by rfl) B.len (by decide +kernel) (pa_cons (pv 2) pa_nil)))
 (pss_one (ps_expr (pe_bmK K (pe_bm PySem.F.plainAttrs_list PySem.F.slot_list_append PySem.F.type_list_append mt_append (pv 2) (pa_cons (pe_lst (pa_cons (pv 5) pa_nil)) pa_nil)))))) (pss_one (ps_expr (pe_bmK K (pe_bm PySem.F.plainAttrs_list PySem.F.slot_list_insert PySem.F.type_list_insert mt_insert (pe_ix (ix_listK K) (pv 2) (pv 10) (fun _ _ => rfl)) (pa_cons (pe_op op_add (pe_bmK K (pe_bm PySem.F.plainAttrs_list PySem.F.slot_list_index PySem.F.type_list_index (mt_indexK K) (pe_ix (ix_listK K) (pv 2) (pv 10) (fun _ _ => rfl)) (pa_cons (pe_op op_fdivW (pv 8) pe_int) pa_nil))) pe_int) (pa_cons (pv 5) pa_nil)))))))
 (pss_one (ps_if (pt_cmpR op_eq (pe_op op_mod (pe_op op_fdivW (pv 3) pe_int) pe_int) pe_int (nomark _)) (pss_one (ps_expr (pe_bmK K (pe_bm PySem.F.plainAttrs_list PySem.F.slot_list_append PySem.F.type_list_append mt_append (pv 1) (pa_cons (pe_tup (pa_cons (pv 10) (pa_cons (pv 9) pa_nil))) pa_nil))))) (pss_one (ps_expr (pe_bmK K (pe_bm PySem.F.plainAttrs_list PySem.F.slot_list_append PySem.F.type_list_append mt_append (pv 1) (pa_cons (pe_tup (pa_cons (pv 9) (pa_cons (pv 10) pa_nil))) pa_nil)))))))))))))))))
 (pss_one (ps_ret (pe_tup (pa_cons (pv 1) (pa_cons (pv 2) pa_nil)))))))), ?_⟩
  walk_at "sts"
  refine w_new fun p1 n1 => ?_
  walk_at "sts"
  refine w_new fun p2 n2 => ?_
  walk_at "sts"
  refine w_new fun p3 n3 => ?_
  walk_at "sts"
  refine w_new fun p4 n4 => ?_
  walk_at "sts"
  refine w_new fun p5 n5 => ?_
  walk_at "sts"
  have q12 : p1 ≠ p2 := ne_new upd_same n2
  have q23 : p2 ≠ p3 := ne_new upd_same n3
  have q24 : p2 ≠ p4 := ne_new (by walk_at "hp") n4
  have q34 : p3 ≠ p4 := ne_new upd_same n4
  have q25 : p2 ≠ p5 := ne_new (by walk_at "hp") n5
  have q35 : p3 ≠ p5 := ne_new (by walk_at "hp") n5
  have q45 : p4 ≠ p5 := ne_new upd_same n5
  have q15 : p1 ≠ p5 := ne_new (by walk_at "hp") n5
  have q13 : p1 ≠ p3 := ne_new (by walk_at "hp") n3
  have q14 : p1 ≠ p4 := ne_new (by walk_at "hp") n4
  have m2 : New H p2 := n2.of (by walk_at "same")
  have m3 : New H p3 := n3.of (by walk_at "same")
  have m4 : New H p4 := n4.of (by walk_at "same")
  have m5 : New H p5 := n5.of (by walk_at "same")
  have sAll : Same H (upd (upd (upd (upd (upd H p1 (.tup [.int 0, .int 1])) p2 (.lst [.ref p1])) p3 (.lst [.int 0])) p4 (.lst [.int 0])) p5 (.lst [.ref p3, .ref p4])) := by walk_at "same"
  refine for_list (xs := cs.map V.int) (fun i σ H' => ∃ (E' : EdgL) (Tu : Turns) (xs : List V) (qs : List Addr) (G : Hp) (y3 y4 y5 y6 y7 y8 y9 y10 : Option V), σ = [some (.ref a), some (.ref p2), some (.ref p5), y3, y4, y5, y6, y7, y8, y9, y10] ∧ Flat E' Tu ∧ E'.length = i + 1 ∧ Tu.length ≤ i + 2 ∧ 2 ≤ Tu.length ∧
    H' p2 = some (.lst xs) ∧ DpAll K G xs (E'.map dEnd) ∧ LL H' p5 qs Tu ∧ Same H G ∧ Same G H' ∧ New G p2 ∧ New G p5 ∧ (∀ q ∈ qs, New G q) ∧ p2 ∉ qs) ?_ ?_ ?_ ?_
  · refine ⟨[(0, 1)], [[0], [0]], [.ref p1], [p3, p4], upd H p1 (.tup [.int 0, .int 1]), _, _, _, _, _, _, _, _, rfl, flat0, rfl, Nat.le_refl _, Nat.le_refl _, by walk_at "hp", ?_, ?_, same_upd n1, ?_, m2.upd (Ne.symm q12), m5.upd (Ne.symm q15), ?_, ?_⟩
    · exact .cons (dEndT (a := 0) (b := 1) (SqT.of upd_same)) .nil
    · refine ⟨upd_same, rfl, by simp [q34], fun i q hq => ?_, by simp [Ne.symm q35, Ne.symm q45]⟩
      match i, hq with
      | 0, hq => cases hq; rw [upd_ne q35, upd_ne q34, upd_same]; rfl
      | 1, hq => cases hq; rw [upd_ne q45, upd_same]; rfl
      | i + 2, hq => simp at hq
    · exact sAll.add (by rw [upd_ne q15, upd_ne q14, upd_ne q13, upd_ne q12, upd_same])
    · intro q hq
      have : q = p3 ∨ q = p4 := by simpa using hq
      rcases this with rfl | rfl
      · exact m3.upd (Ne.symm q13)
      · exact m4.upd (Ne.symm q14)
    · simp [q23, q24]
  · rintro i σ H' _ ⟨E', Tu, xs, qs, G, y3, y4, y5, y6, y7, y8, y9, y10, _, _, _, _, _, _, _, _, sG, sG', _⟩
    exact (sG.trans sG').seq hS
  · rintro i x σ H' hx ⟨E', Tu, xs, qs, G, y3, y4, y5, y6, y7, y8, y9, y10, rfl, hF, hEl, hTl, hT2, e1, e2, hL, sG, sG', g1, g2, g3, d1⟩
    have hi : i < cs.length := by
      have := (List.getElem?_eq_some_iff.mp hx).1
      rwa [List.length_map] at this
    rw [List.getElem?_map] at hx
    obtain ⟨c, hc, rfl⟩ := Option.map_eq_some_iff.mp hx
    have ok := hF.ok
    have hxl : xs.length = E'.length := by have := dpaLen e2; simpa using this
    obtain ⟨M, hM, hM2⟩ : ∃ M : Nat, c % 1000000007 * 48271 % 2147483647 = (M : Int) ∧ M < 2147483647 := ⟨(c % 1000000007 * 48271 % 2147483647).toNat, by omega, by omega⟩
    obtain ⟨lf, hlf, hlf2⟩ : ∃ lf : Nat, (M : Int) / 2 % (2 * (xs.length : Int)) = (lf : Int) ∧ lf < 2 * E'.length := by
      have a1 := Int.emod_nonneg ((M : Int) / 2) (show (2 * (xs.length : Int)) ≠ 0 by omega)
      have a2 := Int.emod_lt_of_pos ((M : Int) / 2) (show 0 < (2 * (xs.length : Int)) by omega)
      exact ⟨((M : Int) / 2 % (2 * (xs.length : Int))).toNat, by omega, by omega⟩
    obtain ⟨R, hR, hEu⟩ := id hF.euler
    obtain ⟨A', r, B', l, eR, hpr, pth⟩ := hR.at hlf2
    have hrR : r ∈ R := by rw [eR]; simp
    have hnr : (lf :: l).Nodup := by
      rw [hpr.nodup_iff]
      exact hR.nd.sublist (List.sublist_flatten_of_mem hrR)
    have hlt : ∀ z ∈ lf :: l, z < 2 * E'.length := fun z hz => hR.mem.mp (List.mem_flatten.mpr ⟨r, hrR, hpr.mem_iff.mp hz⟩)
    have dE : ∀ {H2 : Hp}, Same H' H2 → Dp K H2 (.ref p2) (dEnds E') := fun {H2} s2 => .lst (SqL.of (s2 _ _ e1)) (e2.same (sG'.trans s2))
    walk_at "sts"
    rw [hM, hlf]
    refine ⟨p2, p5, lf, l, E', Tu, rfl, dE (Same.refl _), hL.dp, ok, by omega, pth, hnr, hlt, fun p6 H2 s2 n6 l6 => ?_⟩
    obtain ⟨j, hj, hj2⟩ : ∃ j : Nat, (M : Int) * (M : Int) % 1000003 % ((iv (lf :: l)).length : Int) = (j : Int) ∧ j < (lf :: l).length := by
      rw [iv_len]
      have hpos : 0 < ((lf :: l).length : Int) := by simp
      have a1 := Int.emod_nonneg ((M : Int) * (M : Int) % 1000003) (show ((lf :: l).length : Int) ≠ 0 by omega)
      have a2 := Int.emod_lt_of_pos ((M : Int) * (M : Int) % 1000003) hpos
      exact ⟨((M : Int) * (M : Int) % 1000003 % ((lf :: l).length : Int)).toNat, by omega, by omega⟩
    have gj : atI (iv (lf :: l)) ((M : Int) * (M : Int) % 1000003 % ((iv (lf :: l)).length : Int)) = some (.int (((lf :: l).getD j 0 : Nat) : Int)) := by
      rw [hj]; exact atI_nat (iv_at hj2)
    have hlp : 0 < ((iv (lf :: l)).length : Int) := by rw [iv_len]; simp
    have hrm : (lf :: l).getD j 0 ∈ lf :: l := by
      rw [List.getD_eq_getElem?_getD, List.getElem?_eq_getElem hj2]
      exact List.getElem_mem hj2
    generalize (lf :: l).getD j 0 = rg at gj hrm
    have hrg := hlt rg hrm
    walk_at "sts"
    refine ⟨p2, lf, E', rfl, dE s2, hlf2, ?_⟩
    walk_at "sts"
    refine ⟨p2, rg, E', rfl, dE s2, hrg, ?_⟩
    have hp := ok.hd_lt hlf2
    have hpm := ok.hd_mem hlf2
    have hL2 := hL.same s2
    obtain ⟨q1, f1, f2, f3⟩ := hL2.get hp
    have htop := SqL.of (K := K) hL2.top
    have rl : ∀ p, p < Tu.length → (row Tu p).length ≤ E'.length := fun p hp' => by
      have := nodup_sub_len (ys := List.range E'.length) (ok.nd p hp') fun z hz => List.mem_range.mpr ((ok.mem p hp' z).mp hz).1
      simpa using this
    have hrl := rl _ hp
    have hsl : (iv (row Tu (hd E' lf))).length < sizeLine := szlt (by rw [iv_len]; omega)
    have hix : (row Tu (hd E' lf)).idxOf (lf / 2) < (row Tu (hd E' lf)).length := List.idxOf_lt_length_of_mem hpm
    walk_at "sts"
    refine w_idx (SqL.of f3) hpm ?_
    walk_at "sts"
    have ep : List.take (Int.toNat ((((row Tu (hd E' lf)).idxOf (lf / 2) : Nat) : Int) + 1)) (iv (row Tu (hd E' lf))) ++ [V.int (xs.length : Int)] ++ List.drop (Int.toNat ((((row Tu (hd E' lf)).idxOf (lf / 2) : Nat) : Int) + 1)) (iv (row Tu (hd E' lf))) = iv (putAt (row Tu (hd E' lf)) ((row Tu (hd E' lf)).idxOf (lf / 2) + 1) E'.length) := by
      rw [hxl]; exact iv_put _ _ _
    have hix2 : (((row Tu (hd E' lf)).idxOf (lf / 2) : Nat) : Int) + 1 < 2 ^ 63 := by omega
    refine w_ins f3 hsl (by omega) hix2 ?_
    rw [ep]
    have hL3 : LL (upd H2 q1 (.lst (iv (putAt (row Tu (hd E' lf)) ((row Tu (hd E' lf)).idxOf (lf / 2) + 1) E'.length)))) p5 qs (putBehind Tu (hd E' lf) (lf / 2) E'.length) := hL2.set hp f1 _
    have hq1 : q1 ∈ qs := List.mem_of_getElem? f1
    have s3 : Same G (upd H2 q1 (.lst (iv (putAt (row Tu (hd E' lf)) ((row Tu (hd E' lf)).idxOf (lf / 2) + 1) E'.length)))) := (sG'.trans s2).mut (g3 q1 hq1)
    have e3 : upd H2 q1 (.lst (iv (putAt (row Tu (hd E' lf)) ((row Tu (hd E' lf)).idxOf (lf / 2) + 1) E'.length))) p2 = some (.lst xs) := by
      rw [upd_ne (fun e => d1 (by rw [e]; exact hq1))]
      exact s2 _ _ e1
    generalize upd H2 q1 (.lst (iv (putAt (row Tu (hd E' lf)) ((row Tu (hd E' lf)).idxOf (lf / 2) + 1) E'.length))) = H3 at hL3 s3 e3 ⊢
    refine w_cut (fun σ' H4 => ∃ (b : Nat) (T' : Turns) (qs' : List Addr), σ' = [some (.ref a), some (.ref p2), some (.ref p5), some (.int c), some (.int (M : Int)), some (.int (xs.length : Int)), some (.int (lf : Int)), some (.ref p6), some (.int (rg : Int)), some (.int (hd E' lf : Nat)), some (.int (b : Nat))] ∧
      (∀ flip, Flat (E' ++ [newE flip (hd E' lf) b]) T') ∧ T'.length ≤ Tu.length + 1 ∧ Tu.length ≤ T'.length ∧ H4 p2 = some (.lst xs) ∧ LL H4 p5 qs' T' ∧ Same G H4 ∧ (∀ q ∈ qs', New G q) ∧ p2 ∉ qs') ?_ ?_
    · have hql : (qs.map V.ref).length = Tu.length := by rw [List.length_map, hL3.len, putBehind_len]
      have htop3 := SqL.of (K := K) hL3.top
      walk_at "sts"
      refine ifd (fun h1 => ?_) (fun h1 => ?_)
      · refine ifT rfl ?_
        walk_at "sts"
        refine w_new fun qn nq => ?_
        have hqn : qn ∉ qs := fun z => by
          obtain ⟨k, hk, e⟩ := List.mem_iff_getElem.mp z
          exact ne_new (hL3.row k qn (by rw [List.getElem?_eq_getElem hk, e])) nq rfl
        have hqn2 : qn ≠ p5 := Ne.symm (ne_new hL3.top nq)
        have hqn3 : p2 ≠ qn := ne_new e3 nq
        have ltop : upd H3 qn (.lst [.int (xs.length : Int)]) p5 = some (.lst (qs.map V.ref)) := by rw [upd_ne (Ne.symm hqn2)]; exact hL3.top
        have hqsz : (qs.map V.ref).length < sizeLine := szlt (by rw [hql]; omega)
        walk_at "sts"
        have LP := (hL3.same (same_upd (o := .lst [.int (xs.length : Int)]) nq)).push (r := [E'.length]) (q := qn) (by rw [upd_same, hxl]; rfl) hqn hqn2
        rw [List.map_append] at LP
        refine ⟨Tu.length, _, qs ++ [qn], by rw [hql]; rfl, fun flip => hF.leaf hlf2 flip, by simp [putBehind_len], by simp [putBehind_len], by walk_at "hp", LP, (s3.trans (same_upd nq)).mut g2, ?_, by simp [d1, hqn3]⟩
        intro z hz
        rcases List.mem_append.mp hz with hz | hz
        · exact g3 z hz
        · have : z = qn := by simpa using hz
          rw [this]; exact nq.of s3
      · walk_at "sts"
        refine ifd (fun h2 => ?_) (fun h2 => ?_)
        · walk_at "sts"
          refine w_new fun qn nq => ?_
          have hqn : qn ∉ qs := fun z => by
            obtain ⟨k, hk, e⟩ := List.mem_iff_getElem.mp z
            exact ne_new (hL3.row k qn (by rw [List.getElem?_eq_getElem hk, e])) nq rfl
          have hqn2 : qn ≠ p5 := Ne.symm (ne_new hL3.top nq)
          have hqn3 : p2 ≠ qn := ne_new e3 nq
          have ltop : upd H3 qn (.lst [.int (xs.length : Int)]) p5 = some (.lst (qs.map V.ref)) := by rw [upd_ne (Ne.symm hqn2)]; exact hL3.top
          have hqsz : (qs.map V.ref).length < sizeLine := szlt (by rw [hql]; omega)
          walk_at "sts"
          have LP := (hL3.same (same_upd (o := .lst [.int (xs.length : Int)]) nq)).push (r := [E'.length]) (q := qn) (by rw [upd_same, hxl]; rfl) hqn hqn2
          rw [List.map_append] at LP
          refine ⟨Tu.length, _, qs ++ [qn], by rw [hql]; rfl, fun flip => hF.leaf hlf2 flip, by simp [putBehind_len], by simp [putBehind_len], by walk_at "hp", LP, (s3.trans (same_upd nq)).mut g2, ?_, by simp [d1, hqn3]⟩
          intro z hz
          rcases List.mem_append.mp hz with hz | hz
          · exact g3 z hz
          · have : z = qn := by simpa using hz
            rw [this]; exact nq.of s3
        · have hne : hd E' lf ≠ hd E' rg := fun e => h2 (by rw [e])
          have hrl2 : rg ∈ l := by
            rcases List.mem_cons.mp hrm with e | e
            · exact absurd (by rw [e]) hne
            · exact e
          have hq := ok.hd_lt hrg
          have hqm := ok.hd_mem hrg
          obtain ⟨q2, f1', f2', f3'⟩ := hL3.get (i := hd E' rg) (by rw [putBehind_len]; exact hq)
          rw [putBehind_row _ _ _ hp, if_neg (Ne.symm hne)] at f3'
          have hrl3 := rl _ hq
          have hsl3 : (iv (row Tu (hd E' rg))).length < sizeLine := szlt (by rw [iv_len]; omega)
          have hix3 : (row Tu (hd E' rg)).idxOf (rg / 2) < (row Tu (hd E' rg)).length := List.idxOf_lt_length_of_mem hqm
          have hix4 : (((row Tu (hd E' rg)).idxOf (rg / 2) : Nat) : Int) + 1 < 2 ^ 63 := by omega
          walk_at "sts"
          refine w_idx (SqL.of f3') hqm ?_
          walk_at "sts"
          have ep2 : List.take (Int.toNat ((((row Tu (hd E' rg)).idxOf (rg / 2) : Nat) : Int) + 1)) (iv (row Tu (hd E' rg))) ++ [V.int (xs.length : Int)] ++ List.drop (Int.toNat ((((row Tu (hd E' rg)).idxOf (rg / 2) : Nat) : Int) + 1)) (iv (row Tu (hd E' rg))) = iv (putAt (row Tu (hd E' rg)) ((row Tu (hd E' rg)).idxOf (rg / 2) + 1) E'.length) := by
            rw [hxl]; exact iv_put _ _ _
          rw [ep2]
          have hq2 : q2 ∈ qs := List.mem_of_getElem? f1'
          have LS := hL3.set (i := hd E' rg) (by rw [putBehind_len]; exact hq) f1' (putAt (row Tu (hd E' rg)) ((row Tu (hd E' rg)).idxOf (rg / 2) + 1) E'.length)
          have eT : (putBehind Tu (hd E' lf) (lf / 2) E'.length).set (hd E' rg) (putAt (row Tu (hd E' rg)) ((row Tu (hd E' rg)).idxOf (rg / 2) + 1) E'.length) = putBehind (putBehind Tu (hd E' lf) (lf / 2) E'.length) (hd E' rg) (rg / 2) E'.length := by
            show _ = List.set _ _ (putAt (row (putBehind Tu (hd E' lf) (lf / 2) E'.length) (hd E' rg)) _ _)
            rw [putBehind_row _ _ _ hp, if_neg (Ne.symm hne)]
          rw [eT] at LS
          walk_at "sts"
          refine ⟨hd E' rg, _, qs, rfl, fun flip => hF.chord hlf2 hrg hne pth hnr hrl2 flip, by simp [putBehind_len], by simp [putBehind_len], ?_, LS, s3.mut (g3 q2 hq2), g3, d1⟩
          rw [upd_ne (fun e => d1 (by rw [e]; exact hq2))]
          exact e3
    · rintro σ' H4 ⟨b, T', qs', rfl, hF', t1, t2, e4, hL4, s4, g4, d4⟩
      have hxsz : xs.length < 1000000 := by omega
      have fin : ∀ (flip : Bool) (t : Addr) (x y : Nat), newE flip (hd E' lf) b = (x, y) → New H4 t → ∃ (E'' : EdgL) (Tu' : Turns) (xs' : List V) (qs : List Addr) (G' : Hp), xs' = xs ++ [.ref t] ∧ Flat E'' Tu' ∧ E''.length = i + 1 + 1 ∧ Tu'.length ≤ i + 1 + 2 ∧ 2 ≤ Tu'.length ∧
          DpAll K G' xs' (E''.map dEnd) ∧ LL (upd (upd H4 t (.tup [.int (x : Nat), .int (y : Nat)])) p2 (.lst xs')) p5 qs Tu' ∧ Same H G' ∧ Same G' (upd (upd H4 t (.tup [.int (x : Nat), .int (y : Nat)])) p2 (.lst xs')) ∧ New G' p2 ∧ New G' p5 ∧ (∀ q ∈ qs, New G' q) ∧ p2 ∉ qs := by
        intro flip t x y hxy nt
        have h2t : p2 ≠ t := ne_new e4 nt
        have h5t : p5 ≠ t := ne_new hL4.top nt
        have hLt := hL4.same (same_upd (o := .tup [.int (x : Nat), .int (y : Nat)]) nt)
        refine ⟨E' ++ [newE flip (hd E' lf) b], T', _, qs', upd G t (.tup [.int (x : Nat), .int (y : Nat)]), rfl, hF' flip, by simp [hEl], by omega, by omega, ?_, ?_, sG.trans (same_upd (nt.of s4)), ?_, g1.upd h2t, g2.upd h5t, ?_, d4⟩
        · rw [List.map_append]
          refine dpaApp (e2.same (same_upd (nt.of s4))) (.cons ?_ .nil)
          rw [hxy]
          exact dEndT (SqT.of upd_same)
        · refine ⟨?_, hLt.len, hLt.nd, fun k q hk => ?_, hLt.ne⟩
          · rw [upd_ne (Ne.symm q25)]
            exact hLt.top
          · rw [upd_ne (fun e => d4 (by rw [← e]; exact List.mem_of_getElem? hk))]
            exact hLt.row k q hk
        · exact Same.mut ((s4.trans (same_upd nt)).add upd_same) (g1.upd h2t)
        · intro z hz
          refine (g4 z hz).upd (fun e => ?_)
          obtain ⟨k, hk, e'⟩ := List.mem_iff_getElem.mp hz
          exact ne_new (hL4.row k z (by rw [List.getElem?_eq_getElem hk, e'])) nt e
      walk_at "sts"
      refine ifd (fun h1 => ?_) (fun h1 => ?_)
      · walk_at "sts"
        refine w_new fun t nt => ?_
        have h2t : p2 ≠ t := ne_new e4 nt
        walk_at "sts"
        obtain ⟨E'', Tu', xs', qs2, G', rfl, k1, k2, k3, k4, k5, k6, k7, k8, k9, k10, k11, k12⟩ := fin true t b (hd E' lf) rfl nt
        exact ⟨E'', Tu', _, qs2, G', _, _, _, _, _, _, _, _, rfl, k1, k2, k3, k4, upd_same, k5, k6, k7, k8, k9, k10, k11, k12⟩
      · walk_at "sts"
        refine w_new fun t nt => ?_
        have h2t : p2 ≠ t := ne_new e4 nt
        walk_at "sts"
        obtain ⟨E'', Tu', xs', qs2, G', rfl, k1, k2, k3, k4, k5, k6, k7, k8, k9, k10, k11, k12⟩ := fin false t (hd E' lf) b rfl nt
        exact ⟨E'', Tu', _, qs2, G', _, _, _, _, _, _, _, _, rfl, k1, k2, k3, k4, upd_same, k5, k6, k7, k8, k9, k10, k11, k12⟩
  · rintro σ H' ⟨E', Tu, xs, qs, G, y3, y4, y5, y6, y7, y8, y9, y10, rfl, hF, hEl, hTl, hT2, e1, e2, hL, sG, sG', g1, g2, g3, d1⟩
    rw [List.length_map] at hEl hTl
    walk_at "sts"
    refine w_new fun p n => ?_
    have sN := same_upd (o := .tup [.ref p2, .ref p5]) n
    exact q p _ p2 p5 E' Tu ((sG.trans sG').trans sN) (n.of (sG.trans sG')) upd_same (.lst (SqL.of (sN _ _ e1)) (e2.same (sG'.trans sN))) (hL.same sN).dp hF (by omega) (by omega) hT2
end

/-! ### an order of numbers; the web renumbered -/
theorem iv_put1 (r : List Nat) (k : Nat) (x : Int) (j : Nat) (hx : x = (j : Int)) : (iv r).take (Int.toNat (k : Int)) ++ [V.int x] ++ (iv r).drop (Int.toNat (k : Int)) = iv (putAt r k j) := by
  rw [hx, Int.toNat_natCast]
  exact iv_put r k j
theorem perm_put {r : List Nat} {i k : Nat} (h : r.Perm (List.range i)) : (putAt r k i).Perm (List.range (i + 1)) := by
  refine (putAt_perm r k i).trans ?_
  rw [List.range_succ]
  exact (h.cons i).trans (List.perm_append_comm (l₁ := [i]) (l₂ := List.range i))
theorem dpaOf {K : PySem.W.Frag} {H : Hp} : ∀ {xs : List V} {ds : List PyData}, xs.length = ds.length → (∀ (i : Nat) (v : V) (d : PyData), xs[i]? = some v → ds[i]? = some d → Dp K H v d) → DpAll K H xs ds
  | [], [], _, _ => .nil
  | _ :: xs, _ :: ds, hl, h => .cons (h 0 _ _ rfl rfl) (dpaOf (by simpa using hl) fun i v d a b => h (i + 1) v d a b)
theorem Flat.row_pos {E : EdgL} {T : Turns} (h : Flat E T) (h2 : 2 ≤ T.length) {p : Nat} (hp : p < T.length) : 0 < (row T p).length := by
  refine Nat.pos_of_ne_zero fun e => ?_
  have ok := h.ok
  have em : row T p = [] := List.eq_nil_of_length_eq_zero e
  obtain ⟨q, hq, hne⟩ : ∃ q, q < T.length ∧ q ≠ p := by
    by_cases z : p = 0
    · exact ⟨1, by omega, by omega⟩
    · exact ⟨0, by omega, by omega⟩
  have := h.whole (fun x => decide (x = p)) (fun i hi => by
    have a : ¬ ((en E i).1 = p ∨ (en E i).2 = p) := fun z => by
      have := (ok.mem p hp i).mpr ⟨hi, z⟩
      rw [em] at this
      cases this
    rw [not_or] at a
    show decide _ = decide _
    rw [decide_eq_false a.1, decide_eq_false a.2]) p q hp hq
  simp [hne] at this
theorem cut_rot (r : List Nat) (c : Nat) (h : c ≤ r.length) : cutV (iv r) (some (c : Int)) none ++ cutV (iv r) none (some (c : Int)) = iv (rot c r) := by
  have h1 : HT.sIx (iv r).length 0 (some (c : Int)) = c := by
    rw [iv_len, HT.sIx_nat]; omega
  have h2 : HT.sIx (iv r).length (iv r).length (some (c : Int)) = c := by
    rw [iv_len, HT.sIx_nat]; omega
  unfold cutV
  rw [h1, h2]
  show List.take (HT.sIx (iv r).length (iv r).length none - c) (List.drop c (iv r)) ++ List.take (c - HT.sIx (iv r).length 0 none) (List.drop (HT.sIx (iv r).length 0 none) (iv r)) = _
  have h3 : HT.sIx (iv r).length (iv r).length none = (iv r).length := rfl
  have h4 : HT.sIx (iv r).length 0 none = 0 := rfl
  rw [h3, h4]
  unfold rot
  rw [iv_app]
  unfold iv
  rw [List.map_drop, List.map_take, List.drop_zero, Nat.sub_zero, List.take_of_length_le (by simp)]
def renE (σ τ : List Nat) (E : EdgL) : EdgL := (List.range E.length).map fun j => (pm σ (en E (τ.idxOf j)).1, pm σ (en E (τ.idxOf j)).2)
def cutN (c : Int) (p l : Nat) : Nat := (c % 1009 * ((p : Int) + 1) % (l : Int)).toNat
def renT (σ τ : List Nat) (c : Int) (T : Turns) : Turns := (List.range T.length).map fun q => rot (cutN c (σ.idxOf q) (row T (σ.idxOf q)).length) ((row T (σ.idxOf q)).map (pm τ))
theorem renE_len (σ τ : List Nat) (E : EdgL) : (renE σ τ E).length = E.length := by unfold renE; simp
theorem renT_len (σ τ : List Nat) (c : Int) (T : Turns) : (renT σ τ c T).length = T.length := by unfold renT; simp
theorem pm_idx {τ : List Nat} {n j : Nat} (h : τ.Perm (List.range n)) (hj : j < n) : τ.idxOf j < n ∧ pm τ (τ.idxOf j) = j := by
  obtain ⟨i, hi, e⟩ := pm_surj h hj
  have nd : τ.Nodup := h.nodup_iff.mpr List.nodup_range
  have := idx_at nd (pm_at h hi)
  rw [e] at this
  rw [this]
  exact ⟨hi, e⟩
theorem idx_pm {τ : List Nat} {n i : Nat} (h : τ.Perm (List.range n)) (hi : i < n) : τ.idxOf (pm τ i) = i := idx_at (h.nodup_iff.mpr List.nodup_range) (pm_at h hi)
theorem renum_of {E : EdgL} {T : Turns} {σ τ : List Nat} (c : Int) (hs : σ.Perm (List.range T.length)) (ht : τ.Perm (List.range E.length)) : Renum E T σ τ (renE σ τ E) (renT σ τ c T) := by
  refine ⟨hs, ht, renE_len _ _ _, renT_len _ _ _ _, fun k hk => ?_, fun p hp => ⟨cutN c p (row T p).length, ?_⟩⟩
  · unfold en renE
    rw [List.getD_eq_getElem?_getD, map_at (pm_lt ht hk), idx_pm ht hk]
    rfl
  · unfold row renT
    rw [List.getD_eq_getElem?_getD, map_at (pm_lt hs hp), idx_pm hs hp]
    rfl

section
variable {P : Program} {w : World} {K : PySem.W.Frag} {mg : Str → Option Value} {base : Heap} {C_Pull C_Push C_Web C_Desk C_BadTie C_BadTurns C_Parted C_NotFlat C_BadText C_BadDeed C_FloorError : Addr}
def spOrder : Sp := fun vs H Q _ => ∃ (c : Int) (m : Nat), vs = [.int c, .int m] ∧ m ≤ 1000 ∧ ∀ p H' π, Same H H' → New H p → π.Perm (List.range m) → H' p = some (.lst (iv π)) → Q (.ref p) H'
theorem ok_law_order {f : Addr} {fd : FuncData} (F : Fun K "_law_order" "_law_order" s_law_order f fd) (gf : mg "_law_order" = some (.ref f)) (B : Bl mg) {C_Pull C_Push C_Web C_Desk C_BadTie C_BadTurns C_Parted C_NotFlat C_BadText C_BadDeed C_FloorError : Addr} (T : Txt K mg C_Pull C_Push C_Web C_Desk C_BadTie C_BadTurns C_Parted C_NotFlat C_BadText C_BadDeed C_FloorError) : Has P w K mg base CX0 1 "_law_order" ["cell", "many"] spOrder := by
  refine Has.mk' F gf (F.binds (ps := ["cell", "many"]) fun _ _ _ _ _ _ us hl => match us, hl with | [_, _], _ => rfl) sc_law_order (by walk_at "len") (fun cdv A outer s H vs Q E hr h => ?_)
  obtain ⟨c, m, rfl, hm, q⟩ := h
  refine ⟨_, (pss_cons (ps_set (i := 2) sc_law_order.nd rfl (.inl rfl) (pe_lst pa_nil))
 (pss_cons (ps_set (i := 3) sc_law_order.nd rfl (.inl rfl) (pe_op op_mod (pv 0) pe_int))
 (pss_cons (ps_for PassesOwn.never rfl (pi_range1 (by rfl) B.range (pa_cons (pv 1) pa_nil)) (pg_name (i := 4) sc_law_order.nd rfl (.inl rfl)) (pss_cons (ps_set (i := 3) sc_law_order.nd rfl (.inl rfl) (pe_op op_mod (pe_op op_mulX (pv 3) pe_int) pe_int))
 (pss_one (ps_expr (pe_bmK K (pe_bm PySem.F.plainAttrs_list PySem.F.slot_list_insert PySem.F.type_list_insert mt_insert (pv 2) (pa_cons (pe_op op_mod (pv 3) (pe_op op_add (pv 4) pe_int)) (pa_cons (pv 4) pa_nil))))))))
 (pss_one (ps_ret (pv 2)))))), ?_⟩
  walk_at "sts"
  refine w_new fun p1 n1 => ?_
  walk_at "sts"
  refine for_r0 (n := m) ?_ (fun i σ H' => ∃ (π : List Nat) (M : Int) (y : Option V), σ = [some (.int c), some (.int (m : Int)), some (.ref p1), some (.int M), y] ∧ 0 ≤ M ∧ M < 2147483647 ∧ π.Perm (List.range i) ∧ Same H H' ∧ H' p1 = some (.lst (iv π))) ?_ ?_ ?_
  · rfl
  · refine ⟨[], c % 1000000007, _, rfl, by omega, by omega, .nil, same_upd n1, upd_same⟩
  · rintro i σ H' hi ⟨π, M, y, rfl, m1, m2, hp, s1, e1⟩
    have hl : π.length = i := by have := hp.length_eq; simpa using this
    have hsl : (iv π).length < sizeLine := szlt (by rw [iv_len]; omega)
    walk_at "sts"
    obtain ⟨k, hk⟩ : ∃ k : Nat, M * 48271 % 2147483647 % ((i : Int) + 1) = (k : Int) := ⟨(M * 48271 % 2147483647 % ((i : Int) + 1)).toNat, by
      have := Int.emod_nonneg (M * 48271 % 2147483647) (show (i : Int) + 1 ≠ 0 by omega)
      omega⟩
    have hk2 : k < 2 ^ 63 := by
      have := Int.emod_lt_of_pos (M * 48271 % 2147483647) (show 0 < (i : Int) + 1 by omega)
      omega
    rw [hk]
    refine w_ins e1 hsl (by omega) (by omega) ?_
    rw [iv_put1 π k _ i rfl]
    walk_at "sts"
    exact ⟨putAt π k i, _, _, rfl, by omega, by omega, perm_put hp, s1.mut n1, upd_same⟩
  · rintro σ H' ⟨π, M, y, rfl, m1, m2, hp, s1, e1⟩
    walk_at "sts"
    exact q p1 H' π s1 n1 hp e1
/-- grown is a tuple of ends and turns -/
def GrAt (K : PySem.W.Frag) (H : Hp) (p : Addr) (E : EdgL) (T : Turns) : Prop := ∃ e t, SqT K H p [.ref e, .ref t] ∧ Dp K H (.ref e) (dEnds E) ∧ Dp K H (.ref t) (dRows T)
theorem GrAt.same {K : PySem.W.Frag} {H H' : Hp} {p : Addr} {E : EdgL} {T : Turns} (h : GrAt K H p E T) (e : Same H H') : GrAt K H' p E T := by
  obtain ⟨a, b, h1, h2, h3⟩ := h
  exact ⟨a, b, same_read e h1, h2.same e, h3.same e⟩
def spRenum (K : PySem.W.Frag) : Sp := fun vs H Q _ => ∃ (a : Addr) (c : Int) (E : EdgL) (T : Turns), vs = [.ref a, .int c] ∧ GrAt K H a E T ∧ Flat E T ∧ E.length ≤ 200 ∧ T.length ≤ 200 ∧ 2 ≤ T.length ∧
  ∀ p H' E' T', Same H H' → New H p → GrAt K H' p E' T' → Flat E' T' → E'.length = E.length → T'.length = T.length → Q (.ref p) H'
theorem ok_law_renumbered {f : Addr} {fd : FuncData} (F : Fun K "_law_renumbered" "_law_renumbered" s_law_renumbered f fd) (gf : mg "_law_renumbered" = some (.ref f)) (B : Bl mg) {C_Pull C_Push C_Web C_Desk C_BadTie C_BadTurns C_Parted C_NotFlat C_BadText C_BadDeed C_FloorError : Addr} (T : Txt K mg C_Pull C_Push C_Web C_Desk C_BadTie C_BadTurns C_Parted C_NotFlat C_BadText C_BadDeed C_FloorError) (h_law_order : Has P w K mg base CX0 1 "_law_order" ["cell", "many"] spOrder) : Has P w K mg base CX0 2 "_law_renumbered" ["grown", "cell"] (spRenum K) := by
  refine Has.mk' F gf (F.binds (ps := ["grown", "cell"]) fun _ _ _ _ _ _ us hl => match us, hl with | [_, _], _ => rfl) sc_law_renumbered (by walk_at "len") (fun cdv A outer s H vs Q E hr h => ?_)
  obtain ⟨a, c, E', Tu, rfl, ⟨e, t, hA, hE, hTu⟩, hF, z1, z2, z3, q⟩ := h
  have ok := hF.ok
  obtain ⟨es, he, hEs⟩ := dpLstA hE
  obtain ⟨ts, ht, hTs⟩ := dpLstA hTu
  have hel : es.length = E'.length := by have := dpaLen hEs; simpa using this
  have htl : ts.length = Tu.length := by have := dpaLen hTs; simpa using this
  refine ⟨_, (pss_cons (ps_set (i := 2) sc_law_renumbered.nd rfl (.inl rfl) (pe_fn h_law_order (hr.mono (by decide)) (by rfl) (pa_cons (pv 1) (pa_cons (pe_callB (call_lenK K) (by rfl) B.len (by decide +kernel) (pa_cons (pe_ix (ix_tupK K) (pv 0) pe_int (fun _ _ => rfl)) pa_nil)) pa_nil))))
 (pss_cons (ps_set (i := 3) sc_law_renumbered.nd rfl (.inr rfl) (pe_fn h_law_order (hr.mono (by decide)) (by rfl) (pa_cons (pe_op op_fdivW (pv 1) pe_int) (pa_cons (pe_callB (call_lenK K) (by rfl) B.len (by decide +kernel) (pa_cons (pe_ix (ix_tupK K) (pv 0) pe_int (fun _ _ => rfl)) pa_nil)) pa_nil))))
 (pss_cons (ps_set (i := 4) sc_law_renumbered.nd rfl (.inl rfl) (pe_callTy (call_listK K) (by rfl) B.list (by decide +kernel) (pa_cons (pe_ix (ix_tupK K) (pv 0) pe_int (fun _ _ => rfl)) pa_nil)))
 (pss_cons (ps_for PassesOwn.never rfl (pi_range1 (by rfl) B.range (pa_cons (pe_callB (call_lenK K) (by rfl) B.len (by decide +kernel) (pa_cons (pe_ix (ix_tupK K) (pv 0) pe_int (fun _ _ => rfl)) pa_nil)) pa_nil)) (pg_name (i := 5) sc_law_renumbered.nd rfl (.inl rfl)) (pss_one (ps_asg (pe_tup (pa_cons (pe_ix (ix_listK K) (pv 2) (pe_ix (ix_tupK K) (pe_ix (ix_listK K) (pe_ix (ix_tupK K) (pv 0) pe_int (fun _ _ => rfl)) (pv 5) (fun _ _ => rfl)) pe_int (fun _ _ => rfl)) (fun _ _ => rfl)) (pa_cons (pe_ix (ix_listK K) (pv 2) (pe_ix (ix_tupK K) (pe_ix (ix_listK K) (pe_ix (ix_tupK K) (pv 0) pe_int (fun _ _ => rfl)) (pv 5) (fun _ _ => rfl)) pe_int (fun _ _ => rfl)) (fun _ _ => rfl)) pa_nil))) (pg_sub (pv 4) (pe_ix (ix_listK K) (pv 3) (pv 5) (fun _ _ => rfl)) set_list))))
 (pss_cons (ps_set (i := 6) sc_law_renumbered.nd rfl (.inl rfl) (pe_callTy (call_listK K) (by rfl) B.list (by decide +kernel) (pa_cons (pe_ix (ix_tupK K) (pv 0) pe_int (fun _ _ => rfl)) pa_nil)))
 (pss_cons (ps_for PassesOwn.never rfl (pi_range1 (by rfl) B.range (pa_cons (pe_callB (call_lenK K) (by rfl) B.len (by decide +kernel) (pa_cons (pe_ix (ix_tupK K) (pv 0) pe_int (fun _ _ => rfl)) pa_nil)) pa_nil)) (pg_name (i := 7) sc_law_renumbered.nd rfl (.inl rfl)) (pss_cons (ps_setLc (i := 8) (own := [("k", 5)]) rfl sc_law_renumbered.nd rfl rfl (sw_true rfl rfl rfl (by decide +kernel)) (pi_listK K (pe_ix (ix_listK K) (pe_ix (ix_tupK K) (pv 0) pe_int (fun _ _ => rfl)) (pv 7) (fun _ _ => rfl))) (blkOk_by (own := [("k", 5)]) (N := ["grown", "cell", "places", "ties", "ends", "k", "turns", "p", "row", "cut"]) (sc := defScope s_law_renumbered) (by decide +kernel)) (fun _ _ _ _ _ => pg_name (i := 5) sc_law_renumbered.nd rfl (Or.inl rfl)) (fun _ _ _ _ _ => pts_nil) (fun _ _ _ _ _ => (pe_ix (ix_listK K) (pv 3) (pv 5) (fun _ _ => rfl))))
 (pss_cons (ps_set (i := 9) sc_law_renumbered.nd rfl (.inl rfl) (pe_op op_mod (pe_op op_mulX (pe_op op_mod (pv 1) pe_int) (pe_op op_add (pv 7) pe_int)) (pe_callB (call_lenK K) (by rfl) B.len (by decide +kernel) (pa_cons (pv 8) pa_nil))))
 (pss_one (ps_asg (pe_op op_cat (pe_slice (sl_listK K) (pv 8) (po_some (pv 9)) po_none) (pe_slice (sl_listK K) (pv 8) po_none (po_some (pv 9)))) (pg_sub (pv 6) (pe_ix (ix_listK K) (pv 2) (pv 7) (fun _ _ => rfl)) set_list))))))
 (pss_one (ps_ret (pe_tup (pa_cons (pv 4) (pa_cons (pv 6) pa_nil))))))))))), ?_⟩
  walk_at "sts"
  rw [htl]
  refine ⟨c, Tu.length, rfl, by omega, fun pS H1 σ s1 nS pS1 lS => ?_⟩
  have A1 := same_read s1 hA
  have E1 := s1.seq he
  walk_at "sts"
  rw [hel]
  refine ⟨_, E'.length, rfl, by omega, fun pT H2 τ s2 nT pT1 lT => ?_⟩
  have hsl : σ.length = Tu.length := by have := pS1.length_eq; simpa using this
  have htl' : τ.length = E'.length := by have := pT1.length_eq; simpa using this
  have A2 := same_read s2 A1
  have E2 := s2.seq E1
  have L2 := s2 _ _ lS
  walk_at "sts"
  refine w_new fun pE nE => ?_
  walk_at "sts"
  have s12 := s1.trans s2
  have sp : ∀ i, i < Tu.length → (iv σ)[i]? = some (.int ((pm σ i : Nat) : Int)) := fun i hi => iv_at (by omega)
  have tp : ∀ i, i < E'.length → (iv τ)[i]? = some (.int ((pm τ i : Nat) : Int)) := fun i hi => iv_at (by omega)
  refine for_r0 (n := E'.length) ?_ (fun i σ' H' => ∃ (y : Option V) (y2 y3 y4 y5 : Option V) (xs : List V) (G : Hp), σ' = [some (.ref a), some (.int c), some (.ref pS), some (.ref pT), some (.ref pE), y, y2, y3, y4, y5] ∧ Same H2 G ∧ Same G H' ∧ New G pE ∧ H' pE = some (.lst xs) ∧ xs.length = E'.length ∧
    ∀ k, k < i → ∃ v, xs[pm τ k]? = some v ∧ Dp K G v (dEnd (pm σ (en E' k).1, pm σ (en E' k).2))) ?_ ?_ ?_
  · rw [hel]
  · exact ⟨_, _, _, _, _, es, H2, rfl, Same.refl _, same_upd nE, nE, upd_same, hel, fun k hk => absurd hk (by omega)⟩
  · rintro i σ' H' hi ⟨y, y2, y3, y4, y5, xs, G, rfl, g1, g2, g3, x1, x2, x3⟩
    obtain ⟨p0, b1, b2⟩ := dpEndsAt hEs hi
    have g12 := g1.trans g2
    have A3 := same_read g12 A2
    have E3 := g12.seq E2
    have b3 := same_read g12 (same_read s12 b2)
    have P3 := SqL.of (K := K) (g12 _ _ L2)
    have T3 := SqL.of (K := K) (g12 _ _ lT)
    have w1 := (ok.ends i hi).2.1
    have w2 := (ok.ends i hi).2.2
    have sp1 := sp _ w1
    have sp2 := sp _ w2
    have tp1 := tp _ hi
    walk_at "sts"
    refine w_new fun pt nt => ?_
    have hne : pE ≠ pt := ne_new x1 nt
    have hlt : pm τ i < E'.length := pm_lt pT1 hi
    walk_at "sts"
    refine ⟨_, _, _, _, _, xs.set (pm τ i) (.ref pt), upd G pt _, rfl, g1.trans (same_upd (nt.of g2)), ((g2.trans (same_upd nt)).add upd_same).mut (g3.upd hne), g3.upd hne, upd_same, by simp [x2], fun k hk => ?_⟩
    by_cases e : k = i
    · rw [e]
      exact ⟨.ref pt, List.getElem?_set_self (by omega), dEndT (SqT.of upd_same)⟩
    · obtain ⟨v, v1, v2⟩ := x3 k (by omega)
      have : pm τ i ≠ pm τ k := fun z => e (pm_inj pT1 hi (by omega) z).symm
      exact ⟨v, by rw [List.getElem?_set_ne this]; exact v1, v2.same (same_upd (nt.of g2))⟩
  · rintro σ' H4 ⟨y, y2, y3, y4, y5, xs, G, rfl, g1, g2, g3, x1, x2, x3⟩
    have hDE : DpAll K G xs ((renE σ τ E').map dEnd) := by
      refine dpaOf (by rw [x2, List.length_map, renE_len]) fun i v d v1 v2 => ?_
      have hi : i < E'.length := by rw [← x2]; exact (List.getElem?_eq_some_iff.mp v1).1
      obtain ⟨j1, j2⟩ := pm_idx pT1 hi
      rw [List.getElem?_map, renE, map_at hi] at v2
      cases v2
      obtain ⟨v', u1, u2⟩ := x3 _ j1
      rw [j2, v1] at u1
      cases u1
      exact u2
    have g12 := g1.trans g2
    have A4 := same_read g12 A2
    have T4 := g12.seq (s12.seq ht)
    have dE4 : Dp K H4 (.ref pE) (dEnds (renE σ τ E')) := .lst (SqL.of x1) (hDE.same g2)
    have lS4 := g12 _ _ L2
    have lT4 := g12 _ _ lT
    have S4 := s12.trans g12
    have nE4 : New H pE := nE.of s12
    clear x3 hDE E1 E2 A1 A2
    walk_at "sts"
    refine w_new fun pU nU => ?_
    walk_at "sts"
    refine for_r0 (n := Tu.length) ?_ (fun i σ' H' => ∃ (y3 y4 y5 : Option V) (xs : List V) (G : Hp), σ' = [some (.ref a), some (.int c), some (.ref pS), some (.ref pT), some (.ref pE), y, some (.ref pU), y3, y4, y5] ∧ Same H4 G ∧ Same G H' ∧ New G pU ∧ H' pU = some (.lst xs) ∧ xs.length = Tu.length ∧
      ∀ k, k < i → ∃ v, xs[pm σ k]? = some v ∧ Dp K G v (dRow (rot (cutN c k (row Tu k).length) ((row Tu k).map (pm τ))))) ?_ ?_ ?_
    · rw [htl]
    · exact ⟨_, _, _, ts, H4, rfl, Same.refl _, same_upd nU, nU, upd_same, htl, fun k hk => absurd hk (by omega)⟩
    · rintro i σ' H' hi ⟨y3, y4, y5, xs, G, rfl, g1, g2, g3, x1, x2, x3⟩
      obtain ⟨p0, b1, b2⟩ := dpRowsAt hTs hi
      have g12 := g1.trans g2
      have A5 := same_read g12 A4
      have E5 := g12.seq T4
      have b3 := g12.seq (S4.seq b2)
      have l5 := g12 _ _ lT4
      have l6 := g12 _ _ lS4
      walk_at "sts"
      intro D nD
      refine lc_list (xs := iv (row Tu i)) (fun j H'' => H'' D = some (.lst (iv (((row Tu i).take j).map (pm τ)))) ∧ Same H' H'') ?_ ?_ ?_ ?_
      · exact ⟨upd_same, same_upd nD⟩
      · rintro j H'' _ ⟨_, k2⟩
        exact k2.seq b3
      · rintro j x H'' hx ⟨k1, k2⟩
        have hj : j < (row Tu i).length := by rw [← iv_len]; exact (List.getElem?_eq_some_iff.mp hx).1
        rw [iv_at hj] at hx
        cases hx
        have l7 := k2 _ _ l5
        have hjm : (row Tu i).getD j 0 ∈ row Tu i := by
          rw [List.getD_eq_getElem?_getD, List.getElem?_eq_getElem hj]
          exact List.getElem_mem hj
        have tq := tp _ ((ok.mem i hi _).mp hjm).1
        have hrl : (row Tu i).length ≤ E'.length := by
          have := nodup_sub_len (ys := List.range E'.length) (ok.nd i hi) fun z hz => List.mem_range.mpr ((ok.mem i hi z).mp hz).1
          simpa using this
        walk_at "sts"
        refine ⟨_, k1, szlt (by rw [iv_len, List.length_map, List.length_take]; omega), ?_, k2.mut nD⟩
        rw [upd_same, take_snoc hj, List.map_append, iv_app]
        rfl
      · rintro H6 ⟨k1, k2⟩
        rw [iv_len, List.take_length] at k1
        have hpos := hF.row_pos z3 hi
        have hmp : 0 < (((iv ((row Tu i).map (pm τ))).length : Nat) : Int) := by rw [iv_len, List.length_map]; omega
        have hmod0 : 0 ≤ c % 1009 ∧ c % 1009 < 1009 := by omega
        have hcut : c % 1009 * ((i : Int) + 1) % (((iv ((row Tu i).map (pm τ))).length : Nat) : Int) = ((cutN c i (row Tu i).length : Nat) : Int) := by
          rw [iv_len, List.length_map]
          unfold cutN
          have := Int.emod_nonneg (c % 1009 * ((i : Int) + 1)) (show ((row Tu i).length : Int) ≠ 0 by omega)
          omega
        have hcl : cutN c i (row Tu i).length ≤ ((row Tu i).map (pm τ)).length := by
          have := Int.emod_lt_of_pos (c % 1009 * ((i : Int) + 1)) hmp
          rw [hcut, iv_len] at this
          omega
        have A6 := same_read k2 A5
        have x1' := k2 _ _ x1
        walk_at "sts"
        rw [hcut]
        refine w_new fun q1 nq1 => ?_
        walk_at "sts"
        refine w_new fun q2 nq2 => ?_
        walk_at "sts"
        have q12 : q1 ≠ q2 := ne_new upd_same nq2
        refine ⟨q1, q2, _, _, rfl, rfl, by walk_at "hp", upd_same, ?_, w_new fun pr nr => ?_⟩
        · have a1 := cutV_length (iv ((row Tu i).map (pm τ))) (some ((cutN c i (row Tu i).length : Nat) : Int)) none
          have a2 := cutV_length (iv ((row Tu i).map (pm τ))) none (some ((cutN c i (row Tu i).length : Nat) : Int))
          have hrl : (row Tu i).length ≤ E'.length := by
            have := nodup_sub_len (ys := List.range E'.length) (ok.nd i hi) fun z hz => List.mem_range.mpr ((ok.mem i hi z).mp hz).1
            simpa using this
          rw [iv_len, List.length_map] at a1 a2
          exact Nat.le_trans (show _ ≤ 1000 by omega) (by decide)
        rw [cut_rot _ _ hcl]
        have sp3 := sp _ hi
        have s7 : Same H' (upd (upd H6 q1 (.lst (cutV (iv ((row Tu i).map (pm τ))) (some ((cutN c i (row Tu i).length : Nat) : Int)) none))) q2 (.lst (cutV (iv ((row Tu i).map (pm τ))) none (some ((cutN c i (row Tu i).length : Nat) : Int))))) := (k2.new nq1).new nq2
        generalize upd (upd H6 q1 (.lst (cutV (iv ((row Tu i).map (pm τ))) (some ((cutN c i (row Tu i).length : Nat) : Int)) none))) q2 (.lst (cutV (iv ((row Tu i).map (pm τ))) none (some ((cutN c i (row Tu i).length : Nat) : Int)))) = H7 at nr s7 ⊢
        have x7 := s7 _ _ x1
        have l7 := SqL.of (K := K) (s7 _ _ l6)
        have hUr : pU ≠ pr := ne_new x7 nr
        have hlt : pm σ i < Tu.length := pm_lt pS1 hi
        walk_at "sts"
        refine ⟨_, _, _, xs.set (pm σ i) (.ref pr), upd G pr _, rfl, g1.trans (same_upd (nr.of (g2.trans s7))), (((g2.trans s7).trans (same_upd nr)).add upd_same).mut (g3.upd hUr), g3.upd hUr, upd_same, by simp [x2], fun k hk => ?_⟩
        by_cases e : k = i
        · rw [e]
          exact ⟨.ref pr, List.getElem?_set_self (by omega), dpRow (SqL.of upd_same)⟩
        · obtain ⟨v, v1, v2⟩ := x3 k (by omega)
          have : pm σ i ≠ pm σ k := fun z => e (pm_inj pS1 hi (by omega) z).symm
          exact ⟨v, by rw [List.getElem?_set_ne this]; exact v1, v2.same (same_upd (nr.of (g2.trans s7)))⟩
    · rintro σ' H5 ⟨y3, y4, y5, xs, G, rfl, g1, g2, g3, x1, x2, x3⟩
      have hDT : DpAll K G xs ((renT σ τ c Tu).map dRow) := by
        refine dpaOf (by rw [x2, List.length_map, renT_len]) fun i v d v1 v2 => ?_
        have hi : i < Tu.length := by rw [← x2]; exact (List.getElem?_eq_some_iff.mp v1).1
        obtain ⟨j1, j2⟩ := pm_idx pS1 hi
        rw [List.getElem?_map, renT, map_at hi] at v2
        cases v2
        obtain ⟨v', u1, u2⟩ := x3 _ j1
        rw [j2, v1] at u1
        cases u1
        exact u2
      walk_at "sts"
      refine w_new fun p n => ?_
      have sN := same_upd (o := .tup [.ref pE, .ref pU]) n
      have g5 := g2.trans sN
      exact q p _ (renE σ τ E') (renT σ τ c Tu) (S4.trans (g1.trans g5)) (n.of (S4.trans (g1.trans g2))) ⟨pE, pU, SqT.of upd_same, dE4.same (g1.trans g5), .lst (SqL.of (sN _ _ x1)) (hDT.same g5)⟩ ((renum_of c pS1 pT1).flat hF) (renE_len _ _ _) (renT_len _ _ _ _)
end

/-! ### a web told: ties and turns -/
theorem lc_rangeC {lo c : Int} {n : Nat} {g : TG} {tt : TT} {te : TE} {vs : List Nat} {σ : L2.St} {H1 : Hp} {D : Addr} {Qd : Hp → Prop} (Pv : Nat → Hp → Prop) (h0 : Pv 0 (upd H1 D (.lst [])))
    (hs : ∀ i H, i < n → Pv i H → g (.int (lo + (i : Nat) * c)) (wipe σ vs) H fun σ2 H2 => wipe σ2 vs = wipe σ vs ∧ tt σ2 H2 fun b H3 =>
      if b = true then te σ2 H3 fun y H4 => ∃ acc, H4 D = some (.lst acc) ∧ acc.length < sizeLine ∧ Pv (i + 1) (upd H4 D (.lst (acc ++ [y]))) else Pv (i + 1) H3) (hd : ∀ H, Pv n H → Qd H) :
    ∃ W : Nat → Nat → Hp → Prop, (∃ m, W 0 m (upd H1 D (.lst []))) ∧ ∀ i m H, W i m H →
      ((Itc lo c n).stop i H ∧ Qd H) ∨ ((Itc lo c n).go i H ∧ ∃ Nx : Hp → Prop, (∀ H', Nx H' → ∃ m', m' < m ∧ W (i + 1) m' H') ∧ ∀ x H', (Itc lo c n).yld i H x H' → g x (wipe σ vs) H' fun σ2 H2 => wipe σ2 vs = wipe σ vs ∧ tt σ2 H2 fun b H3 =>
        if b = true then te σ2 H3 fun y H4 => ∃ acc, H4 D = some (.lst acc) ∧ acc.length < sizeLine ∧ Nx (upd H4 D (.lst (acc ++ [y]))) else Nx H3) := by
  refine ⟨fun i m H => m = n - i ∧ i ≤ n ∧ Pv i H, ⟨n, by simp, Nat.zero_le _, h0⟩, ?_⟩
  rintro i m H ⟨rfl, hi, p⟩
  by_cases hlt : i < n
  · refine .inr ⟨hlt, Pv (i + 1), fun H' p' => ⟨n - (i + 1), by omega, rfl, hlt, p'⟩, fun x H' y => ?_⟩
    obtain ⟨e, y⟩ := y
    subst e y
    exact hs i _ hlt p
  · have e : i = n := by omega
    subst e
    exact .inl ⟨Nat.le_refl _, hd H p⟩
def rgN (i j : Nat) : Nat := if i < j then (j - i - 1) / 2 + 1 else 0
theorem rgc_two : ∀ i : Fin 16, ∀ j : Fin 130, Builtin.Range.small (i.val : Int) ((j.val : Int) - 1) 2 = true ∧ Builtin.Range.rangeSize (i.val : Int) ((j.val : Int) - 1) 2 = ((rgN i.val (j.val - 1) : Nat) : Int) := by decide +kernel
theorem rgc2 {i j : Int} (h1 : 0 ≤ i) (h2 : i < 16) (h3 : -1 ≤ j) (h4 : j < 129) : RgC i j 2 (rgN i.toNat j.toNat) := by
  have := rgc_two ⟨i.toNat, by omega⟩ ⟨(j + 1).toNat, by omega⟩
  have e1 : ((i.toNat : Nat) : Int) = i := by omega
  have e2 : (((j + 1).toNat : Nat) : Int) - 1 = j := by omega
  have e3 : (j + 1).toNat - 1 = j.toNat := by omega
  simp only [e1, e2, e3] at this
  exact ⟨by decide, by decide, this.1, this.2⟩
def tiOf (E : EdgL) (ns : List Int) (first k : Nat) : Ti := ⟨decide (ns.getD (first + 2 * k) 0 % 2 = 1), (en E k).1, (en E k).2, (ns.getD (first + 2 * k) 0 / 2 % (10 ^ 30 + 1)).toNat⟩
def dTi (t : Ti) : PyData := .tuple ([(if t.push = true then 1 else 0 : Int), (t.s : Int)].map PyData.int)
def dTold (ts : List Ti) : PyData := .list (ts.map dTi)
/-- what a built web is -/
structure Built (ts : List Ti) (T : Turns) (most : Nat) : Prop where
  flat : Flat (endsOf ts) T
  le : ts.length ≤ most
  pos : 1 ≤ ts.length
  tl : T.length ≤ ts.length + 1
  tp : 2 ≤ T.length
  s : ∀ i, (ti ts i).s ≤ 10 ^ 30
theorem toldAt {K : PySem.W.Frag} {H : Hp} {xs : List V} {ts : List Ti} (h : DpAll K H xs (ts.map dTi)) {i : Nat} (hi : i < ts.length) : ∃ p, xs[i]? = some (.ref p) ∧ SqT K H p [.int (if (ti ts i).push = true then 1 else 0 : Int), .int ((ti ts i).s : Nat)] := by
  obtain ⟨v, h1, h2⟩ := dpaGet (i := i) (d := dTi (ti ts i)) h (by rw [List.getElem?_map, ti_at hi]; rfl)
  obtain ⟨p, ys, rfl, h3, h4⟩ := dpTup h2
  have := dpAll_ints h4
  rw [this] at h3
  exact ⟨p, h1, h3⟩
def BuiltAt (K : PySem.W.Frag) (H : Hp) (p : Addr) (ts : List Ti) (T : Turns) : Prop := ∃ e t d, SqT K H p [.ref e, .ref t, .ref d] ∧ Dp K H (.ref e) (dEnds (endsOf ts)) ∧ Dp K H (.ref t) (dRows T) ∧ Dp K H (.ref d) (dTold ts)
theorem BuiltAt.same {K : PySem.W.Frag} {H H' : Hp} {p : Addr} {ts : List Ti} {T : Turns} (h : BuiltAt K H p ts T) (e : Same H H') : BuiltAt K H' p ts T := by
  obtain ⟨a, b, c, h1, h2, h3, h4⟩ := h
  exact ⟨a, b, c, same_read e h1, h2.same e, h3.same e, h4.same e⟩

def tisOf (E : EdgL) (ns : List Int) (first m : Nat) : List Ti := (List.range m).map (tiOf E ns first)
section
variable {P : Program} {w : World} {K : PySem.W.Frag} {mg : Str → Option Value} {base : Heap} {C_Pull C_Push C_Web C_Desk C_BadTie C_BadTurns C_Parted C_NotFlat C_BadText C_BadDeed C_FloorError : Addr}
def spBuilt (K : PySem.W.Frag) : Sp := fun vs H Q _ => ∃ (a : Addr) (ns : List Int) (first most : Nat), vs = [.ref a, .int first, .int most] ∧ SqL K H a (ns.map V.int) ∧ first ≤ 10 ∧ 2 ≤ most ∧ most ≤ 50 ∧
  ∀ p H' ts T, Same H H' → New H p → BuiltAt K H' p ts T → Built ts T most → Q (.ref p) H'
theorem ok_law_built {f : Addr} {fd : FuncData} (F : Fun K "_law_built" "_law_built" s_law_built f fd) (gf : mg "_law_built" = some (.ref f)) (B : Bl mg) {C_Pull C_Push C_Web C_Desk C_BadTie C_BadTurns C_Parted C_NotFlat C_BadText C_BadDeed C_FloorError : Addr} (T : Txt K mg C_Pull C_Push C_Web C_Desk C_BadTie C_BadTurns C_Parted C_NotFlat C_BadText C_BadDeed C_FloorError) (h_law_renumbered : Has P w K mg base CX0 2 "_law_renumbered" ["grown", "cell"] (spRenum K)) (h_law_grown : Has P w K mg base CX0 4 "_law_grown" ["cells"] (spGrown K)) (h_law_cell : Has P w K mg base CX0 1 "_law_cell" ["script", "k"] (spCell K)) : Has P w K mg base CX0 5 "_law_built" ["script", "first", "most"] (spBuilt K) := by
  refine Has.mk' F gf (F.binds (ps := ["script", "first", "most"]) fun _ _ _ _ _ _ us hl => match us, hl with | [_, _, _], _ => rfl) sc_law_built (by walk_at "len") (fun cdv A outer s H vs Q E hr h => ?_)
  obtain ⟨a, ns, first, most, rfl, hS, z1, z2, z3, q⟩ := h
  refine ⟨_, (pss_cons (ps_setLc (i := 4) (own := [("k", 3)]) rfl sc_law_built.nd rfl rfl (sw_true rfl rfl rfl (by decide +kernel)) (pi_range3 (by rfl) B.range (pa_cons (pe_op op_add (pv 1) pe_int) (pa_cons (pe_callB (call_min2 rfl) (by rfl) B.min (by decide +kernel) (pa_cons (pe_op op_sub (pe_callB (call_lenK K) (by rfl) B.len (by decide +kernel) (pa_cons (pv 0) pa_nil)) pe_int) (pa_cons (pe_op op_sub (pe_op op_add (pv 1) (pe_op op_mulX pe_int (pv 2))) pe_int) pa_nil))) (pa_cons pe_int pa_nil)))) (blkOk_by (own := [("k", 3)]) (N := ["script", "first", "most", "k", "cells", "grown", "told", "cell"]) (sc := defScope s_law_built) (by decide +kernel)) (fun _ _ _ _ _ => pg_name (i := 3) sc_law_built.nd rfl (Or.inl rfl)) (fun _ _ _ _ _ => pts_nil) (fun _ _ _ _ _ => (pe_ix (ix_listK K) (pv 0) (pv 3) (fun _ _ => rfl))))
 (pss_cons (ps_set (i := 5) sc_law_built.nd rfl (.inl rfl) (pe_fn h_law_renumbered (hr.mono (by decide)) (by rfl) (pa_cons (pe_fn h_law_grown (hr.mono (by decide)) (by rfl) (pa_cons (pv 4) pa_nil)) (pa_cons (pe_fn h_law_cell (hr.mono (by decide)) (by rfl) (pa_cons (pv 0) (pa_cons (pv 1) pa_nil))) pa_nil))))
 (pss_cons (ps_set (i := 6) sc_law_built.nd rfl (.inl rfl) (pe_lst pa_nil))
 (pss_cons (ps_for PassesOwn.never rfl (pi_range1 (by rfl) B.range (pa_cons (pe_callB (call_lenK K) (by rfl) B.len (by decide +kernel) (pa_cons (pe_ix (ix_tupK K) (pv 5) pe_int (fun _ _ => rfl)) pa_nil)) pa_nil)) (pg_name (i := 3) sc_law_built.nd rfl (.inl rfl)) (pss_cons (ps_set (i := 7) sc_law_built.nd rfl (.inl rfl) (pe_fn h_law_cell (hr.mono (by decide)) (by rfl) (pa_cons (pv 0) (pa_cons (pe_op op_add (pv 1) (pe_op op_mulX pe_int (pv 3))) pa_nil))))
 (pss_one (ps_expr (pe_bmK K (pe_bm PySem.F.plainAttrs_list PySem.F.slot_list_append PySem.F.type_list_append mt_append (pv 6) (pa_cons (pe_tup (pa_cons (pe_op op_mod (pv 7) pe_int) (pa_cons (pe_op op_mod (pe_op op_fdivW (pv 7) pe_int) (pe_op op_add (pe_op op_pow pe_int pe_int) pe_int)) pa_nil))) pa_nil)))))))
 (pss_one (ps_ret (pe_tup (pa_cons (pe_ix (ix_tupK K) (pv 5) pe_int (fun _ _ => rfl)) (pa_cons (pe_ix (ix_tupK K) (pv 5) pe_int (fun _ _ => rfl)) (pa_cons (pv 6) pa_nil)))))))))), ?_⟩
  walk_at "sts"
  rw [List.length_map]
  obtain ⟨J, hJ, hJ0, hJ1, hJ2⟩ : ∃ J : Int, (if (first : Int) + 2 * (most : Int) - 2 < ((ns.length : Nat) : Int) - 1 then (first : Int) + 2 * (most : Int) - 2 else ((ns.length : Nat) : Int) - 1) = J ∧ -1 ≤ J ∧ J ≤ (first : Int) + 2 * (most : Int) - 2 ∧ J ≤ (ns.length : Int) - 1 := by
    refine ⟨_, rfl, ?_⟩
    split <;> omega
  rw [hJ]
  clear hJ
  have hrg : rgN ((first : Int) + 1).toNat J.toNat ≤ most - 1 ∧ ∀ t, t < rgN ((first : Int) + 1).toNat J.toNat → (first : Int) + 1 + 2 * (t : Int) < J := by
    unfold rgN
    split
    · exact ⟨by omega, fun t ht => by omega⟩
    · exact ⟨by omega, fun t ht => by omega⟩
  refine ⟨_, _, _, _, rfl, rgc2 (by omega) (by omega) (by omega) (by omega), ?_⟩
  generalize rgN ((first : Int) + 1).toNat J.toNat = n at hrg
  intro D nD
  refine lc_rangeC (fun i H' => ∃ cs : List Int, cs.length = i ∧ H' D = some (.lst (cs.map V.int)) ∧ Same H H') ?_ ?_ ?_
  · exact ⟨[], rfl, upd_same, same_upd nD⟩
  · rintro i H' hi ⟨cs, c1, c2, c3⟩
    have hlt := hrg.2 i hi
    rw [show (first : Int) + 1 + (i : Int) * 2 = ((first + 1 + 2 * i : Nat) : Int) by omega]
    have e : (ns.map V.int)[first + 1 + 2 * i]? = some (.int (ns.getD (first + 1 + 2 * i) 0)) := by
      rw [List.getElem?_map, List.getD_eq_getElem?_getD, List.getElem?_eq_getElem (by omega)]
      rfl
    have hS' := c3.seq hS
    walk_at "sts"
    refine ⟨_, c2, szlt (by simp; omega), cs ++ [ns.getD (first + 1 + 2 * i) 0], by simp [c1], ?_, c3.mut nD⟩
    rw [upd_same]
    simp
  · rintro H1 ⟨cs, c1, c2, c3⟩
    walk_at "sts"
    refine ⟨D, cs, rfl, SqL.of c2, by omega, fun p1 H2 e t E' Tu s2 n2 l2 dE dT hF z4 z5 z6 => ?_⟩
    have S2 := c3.trans s2
    have hS2 := S2.seq hS
    walk_at "sts"
    refine ⟨a, ns, first, rfl, hS2, ?_⟩
    walk_at "sts"
    refine ⟨p1, _, E', Tu, rfl, ⟨e, t, SqT.of l2, dE, dT⟩, hF, by omega, by omega, z6, fun p2 H3 E2 T2 s3 n3 gr hF2 y1 y2 => ?_⟩
    obtain ⟨e2, t2, g1, g2, g3⟩ := gr
    have S3 := S2.trans s3
    obtain ⟨es, he, hE⟩ := dpLstA g2
    have hel : es.length = E2.length := by have := dpaLen hE; simpa using this
    walk_at "sts"
    refine w_new fun pD nD2 => ?_
    walk_at "sts"
    rw [hel]
    refine for_r0 (n := E2.length) rfl (fun i σ' H' => ∃ (y3 y7 : Option V) (xs : List V) (G : Hp), σ' = [some (.ref a), some (.int (first : Int)), some (.int (most : Int)), y3, some (.ref D), some (.ref p2), some (.ref pD), y7] ∧ Same H3 G ∧ Same G H' ∧ New G pD ∧ H' pD = some (.lst xs) ∧ DpAll K G xs ((tisOf E2 ns first i).map dTi)) ?_ ?_ ?_
    · exact ⟨_, _, [], H3, rfl, Same.refl _, same_upd nD2, nD2, upd_same, .nil⟩
    · rintro i σ' H' hi ⟨y3, y7, xs, G, rfl, g4, g5, g6, x1, x2⟩
      have hxl : xs.length = i := by have := dpaLen x2; simpa [tisOf] using this
      have hS4 := (g4.trans g5).seq (S3.seq hS)
      walk_at "sts"
      refine ⟨a, ns, first + 2 * i, rfl, hS4, ?_⟩
      walk_at "sts"
      refine w_new fun pt nt => ?_
      have hne : pD ≠ pt := ne_new x1 nt
      have hsl : xs.length < sizeLine := szlt (by omega)
      walk_at "sts"
      refine ⟨_, _, xs ++ [.ref pt], upd G pt _, rfl, g4.trans (same_upd (nt.of g5)), ((g5.trans (same_upd nt)).add upd_same).mut (g6.upd hne), g6.upd hne, upd_same, ?_⟩
      have et : tisOf E2 ns first (i + 1) = tisOf E2 ns first i ++ [tiOf E2 ns first i] := by unfold tisOf; rw [List.range_succ, List.map_append]; rfl
      rw [et, List.map_append]
      refine dpaApp (x2.same (same_upd (nt.of g5))) (.cons ?_ .nil)
      generalize hc : ns.getD (first + 2 * i) 0 = c
      have e1 : (if (tiOf E2 ns first i).push = true then 1 else 0 : Int) = c % 2 := by
        show (if decide (ns.getD (first + 2 * i) 0 % 2 = 1) = true then 1 else 0 : Int) = _
        rw [hc]
        by_cases h : c % 2 = 1
        · rw [decide_eq_true h, if_pos rfl, h]
        · rw [decide_eq_false h, if_neg (by decide)]
          omega
      have e2 : ((tiOf E2 ns first i).s : Int) = c / 2 % (10 ^ Int.toNat 30 + 1) := by
        show ((Int.toNat (ns.getD (first + 2 * i) 0 / 2 % (10 ^ 30 + 1)) : Nat) : Int) = _
        rw [hc]
        show ((Int.toNat (c / 2 % (10 ^ 30 + 1)) : Nat) : Int) = c / 2 % (10 ^ 30 + 1)
        omega
      refine .tup (xs := [V.int (c % 2), V.int (c / 2 % (10 ^ Int.toNat 30 + 1))]) (SqT.of upd_same) ?_
      rw [e1, e2]
      exact dpInts [c % 2, c / 2 % (10 ^ Int.toNat 30 + 1)]
    · rintro σ' H4 ⟨y3, y7, xs, G, rfl, g4, g5, g6, x1, x2⟩
      have g45 := g4.trans g5
      have b1 := same_read g45 g1
      walk_at "sts"
      refine w_new fun p n => ?_
      have sN := same_upd (o := .tup [.ref e2, .ref t2, .ref pD]) n
      have S4 := S3.trans g45
      have hEn : endsOf (tisOf E2 ns first E2.length) = E2 := by
        refine List.ext_getElem (by simp [endsOf, tisOf]) fun i h1 h2 => ?_
        simp [endsOf, tisOf, tiOf, en, List.getD_eq_getElem?_getD, List.getElem?_eq_getElem h2]
      refine q p _ (tisOf E2 ns first E2.length) T2 (S4.trans sN) (n.of S4) ⟨e2, t2, pD, SqT.of upd_same, ?_, g3.same (g45.trans sN), .lst (SqL.of (sN _ _ x1)) (x2.same (g5.trans sN))⟩ ?_
      · rw [hEn]
        exact g2.same (g45.trans sN)
      · refine ⟨by rw [hEn]; exact hF2, by simp [tisOf]; omega, by simp [tisOf]; omega, by simp [tisOf]; omega, by omega, fun i => ?_⟩
        unfold ti tisOf
        rw [List.getD_eq_getElem?_getD, List.getElem?_map]
        by_cases hi : i < E2.length
        · rw [List.getElem?_range hi]
          show Int.toNat (ns.getD (first + 2 * i) 0 / 2 % (10 ^ 30 + 1)) ≤ _
          omega
        · rw [List.getElem?_eq_none (by simpa using hi)]
          exact Nat.zero_le _
end

section
variable {P : Program} {w : World} {K : PySem.W.Frag} {mg : Str → Option Value} {base : Heap} {C_Pull C_Push C_Web C_Desk C_BadTie C_BadTurns C_Parted C_NotFlat C_BadText C_BadDeed C_FloorError : Addr}
def spLWeb (K : PySem.W.Frag) (CP CQ CW : Addr) : Sp := fun vs H Q _ => ∃ (a : Addr) (ts : List Ti) (T : Turns), vs = [.ref a] ∧ BuiltAt K H a ts T ∧ Built ts T 100 ∧
  ∀ p H' R, Same H H' → New H p → WebOk ⟨ts, T, R⟩ → WebAt K CP CQ CW H' p ⟨ts, T, R⟩ → Q (.ref p) H'
end

section
variable {P : Program} {w : World} {K : PySem.W.Frag} {mg : Str → Option Value} {base : Heap} {C_Pull C_Push C_Web C_Desk C_BadTie C_BadTurns C_Parted C_NotFlat C_BadText C_BadDeed C_FloorError : Addr}
def spIsInt : Sp := fun vs H Q _ => ∃ i : Int, vs = [.int i] ∧ Q (.bl true) H
end

section
variable {P : Program} {w : World} {K : PySem.W.Frag} {mg : Str → Option Value} {base : Heap} {C_Pull C_Push C_Web C_Desk C_BadTie C_BadTurns C_Parted C_NotFlat C_BadText C_BadDeed C_FloorError : Addr}
theorem tf_no (a b s : Int) {m : Str} (h1 : ¬ m = "one") (h2 : ¬ m = "two") (h3 : ¬ m = "strength") : (tf a b s).lookup m = none := by
  unfold tf
  simp [List.lookup, h1, h2, h3, beq_eq_false_iff_ne.mpr]
/-- a method of either kind, called -/
theorem w_mt {σ : L2.St} {H : Hp} {Q : VK} {ta : TE} {tl : TA} {m : Str} {sp : Sp} {p : Addr} {t : Ti} (h1 : ¬ m = "one") (h2 : ¬ m = "two") (h3 : ¬ m = "strength")
    (ha : ∀ R : VK, R (.ref p) H → ta σ H R) (ht : TieAt C_Pull C_Push H p t) (h : tl σ H fun vs H2 => sp (.ref p :: vs) H2 Q E0) : tMeth C_Pull m sp [] E0 ta tl σ H Q ∨ tMeth C_Push m sp [] E0 ta tl σ H Q := by
  obtain ⟨dx, e⟩ := ht
  cases hp : t.push with
  | true =>
    rw [hp] at e
    exact .inr (w_meth (ha _ (w_methq e (tf_no _ _ _ h1 h2 h3) h)))
  | false =>
    rw [hp] at e
    exact .inl (w_meth (ha _ (w_methq e (tf_no _ _ _ h1 h2 h3) h)))
theorem w_mt2 {σ : L2.St} {H : Hp} {Q : VK} {ta : TE} {tl : TA} {m : Str} {sp sq : Sp} {p : Addr} {t : Ti} (h1 : ¬ m = "one") (h2 : ¬ m = "two") (h3 : ¬ m = "strength")
    (ha : ∀ R : VK, R (.ref p) H → ta σ H R) (ht : TieAt C_Pull C_Push H p t) (hp : t.push = false → tl σ H fun vs H2 => sp (.ref p :: vs) H2 Q E0) (hq : t.push = true → tl σ H fun vs H2 => sq (.ref p :: vs) H2 Q E0) : tMeth C_Pull m sp [] E0 ta tl σ H Q ∨ tMeth C_Push m sq [] E0 ta tl σ H Q := by
  obtain ⟨dx, e⟩ := ht
  cases hb : t.push with
  | true =>
    rw [hb] at e
    exact .inr (w_meth (ha _ (w_methq e (tf_no _ _ _ h1 h2 h3) (hq hb))))
  | false =>
    rw [hb] at e
    exact .inl (w_meth (ha _ (w_methq e (tf_no _ _ _ h1 h2 h3) (hp hb))))
def wishOf (t : Ti) : Int := if t.push = true then 1 else 0
def spWish (CP CQ : Addr) (b : Bool) : Sp := fun vs H Q _ => ∃ (p : Addr) (t : Ti), vs = [.ref p] ∧ t.push = b ∧ TieAt CP CQ H p t ∧ Q (.int (wishOf t)) H
theorem ok_Pull_wish {f : Addr} {fd : FuncData} (F : Fun K "wish" "Pull.wish" s_Pull_wish f fd) (B : Bl mg) {C_Pull C_Push C_Web C_Desk C_BadTie C_BadTurns C_Parted C_NotFlat C_BadText C_BadDeed C_FloorError : Addr} (T : Txt K mg C_Pull C_Push C_Web C_Desk C_BadTie C_BadTurns C_Parted C_NotFlat C_BadText C_BadDeed C_FloorError) : HasFn P w K mg base CX0 1 f ["self"] (spWish C_Pull C_Push false) := by
  refine HasFn.mk' F (F.binds (ps := ["self"]) fun _ _ _ _ _ _ us hl => match us, hl with | [_], _ => rfl) sc_Pull_wish (by walk_at "len") (fun cdv A outer s H vs Q E hr h => ?_)
  obtain ⟨p, t, rfl, hp, ht, q⟩ := h
  refine ⟨_, (pss_one (ps_ret pe_int)), ?_⟩
  walk_at "sts"
  unfold wishOf at q
  rw [hp] at q
  exact q
theorem ok_Push_wish {f : Addr} {fd : FuncData} (F : Fun K "wish" "Push.wish" s_Push_wish f fd) (B : Bl mg) {C_Pull C_Push C_Web C_Desk C_BadTie C_BadTurns C_Parted C_NotFlat C_BadText C_BadDeed C_FloorError : Addr} (T : Txt K mg C_Pull C_Push C_Web C_Desk C_BadTie C_BadTurns C_Parted C_NotFlat C_BadText C_BadDeed C_FloorError) : HasFn P w K mg base CX0 1 f ["self"] (spWish C_Pull C_Push true) := by
  refine HasFn.mk' F (F.binds (ps := ["self"]) fun _ _ _ _ _ _ us hl => match us, hl with | [_], _ => rfl) sc_Push_wish (by walk_at "len") (fun cdv A outer s H vs Q E hr h => ?_)
  obtain ⟨p, t, rfl, hp, ht, q⟩ := h
  refine ⟨_, (pss_one (ps_ret pe_int)), ?_⟩
  walk_at "sts"
  unfold wishOf at q
  rw [hp] at q
  exact q
end

section
variable {P : Program} {w : World} {K : PySem.W.Frag} {mg : Str → Option Value} {base : Heap} {C_Pull C_Push C_Web C_Desk C_BadTie C_BadTurns C_Parted C_NotFlat C_BadText C_BadDeed C_FloorError : Addr}
def unp (t : Ti) (l : Nat) : Bool := (l.testBit t.one == l.testBit t.two) == t.push
theorem par_bits (x y : Nat) : (x + y) % 2 = if (decide (x % 2 = 1) == decide (y % 2 = 1)) = true then 0 else 1 := by
  have hx : x % 2 = 0 ∨ x % 2 = 1 := by omega
  have hy : y % 2 = 0 ∨ y % 2 = 1 := by omega
  rcases hx with h | h <;> rcases hy with h2 | h2 <;> simp [h, h2] <;> omega
theorem unp_eq (t : Ti) (l : Nat) : (!decide (Builtin.bitAnd ((l : Int) / 2 ^ (Int.toNat (t.one : Int)) + (l : Int) / 2 ^ (Int.toNat (t.two : Int))) 1 = wishOf t)) = unp t l := by
  rw [shr_nat, shr_nat, ← Int.natCast_add, and_one _ (Int.natCast_nonneg _)]
  unfold unp wishOf
  rw [Nat.testBit_eq_decide_div_mod_eq, Nat.testBit_eq_decide_div_mod_eq, ← Nat.shiftRight_eq_div_pow, ← Nat.shiftRight_eq_div_pow]
  have h := par_bits (l >>> t.one) (l >>> t.two)
  generalize l >>> t.one = x at h ⊢
  generalize l >>> t.two = y at h ⊢
  have e : ((x + y : Nat) : Int) % 2 = (((x + y) % 2 : Nat) : Int) := by omega
  rw [e, h]
  generalize (decide (x % 2 = 1) == decide (y % 2 = 1)) = b
  cases b <;> cases t.push <;> decide
def spUnp (CP CQ : Addr) : Sp := fun vs H Q _ => ∃ (p : Addr) (t : Ti) (l : Nat), vs = [.ref p, .int l] ∧ TieAt CP CQ H p t ∧ Q (.bl (unp t l)) H
def spPrice (CP CQ : Addr) : Sp := fun vs H Q _ => ∃ (p : Addr) (t : Ti) (l : Nat), vs = [.ref p, .int l] ∧ TieAt CP CQ H p t ∧ Q (.int (if unp t l = true then (t.s : Int) else 0)) H
def spAcross (CP CQ : Addr) : Sp := fun vs H Q _ => ∃ (p : Addr) (t : Ti) (z : Int), vs = [.ref p, .int z] ∧ TieAt CP CQ H p t ∧ Q (.int (if z = (t.one : Int) then (t.two : Int) else (t.one : Int))) H
end

/-! ### the set of unpleased ties; its price -/
def um (ts : List Ti) (l : Nat) : Nat → Nat
  | 0 => 0
  | k + 1 => if unp (ti ts k) l = true then um ts l k ||| 2 ^ k else um ts l k
def costM (ts : List Ti) (mask : Nat) : Nat → Nat
  | 0 => 0
  | k + 1 => if mask.testBit k = true then costM ts mask k + (ti ts k).s else costM ts mask k
def wm (ts : List Ti) (l : Nat) : Nat → Nat
  | 0 => 0
  | k + 1 => wm ts l k + if unp (ti ts k) l = true then (ti ts k).s else 0
theorem um_bit (ts : List Ti) (l : Nat) : ∀ k i, (um ts l k).testBit i = (decide (i < k) && unp (ti ts i) l)
  | 0, i => by simp [um]
  | k + 1, i => by
    unfold um
    by_cases hk : unp (ti ts k) l = true
    · rw [if_pos hk, Nat.testBit_or, um_bit ts l k i, Nat.testBit_two_pow]
      by_cases e : i = k
      · subst e; simp [hk]
      · have e2 : ¬ k = i := fun z => e z.symm
        by_cases h : i < k
        · simp [h, e2, show i < k + 1 by omega]
        · simp [h, e2, show ¬ i < k + 1 by omega]
    · rw [if_neg hk, um_bit ts l k i]
      by_cases e : i = k
      · subst e; simp [hk]
      · by_cases h : i < k
        · simp [h, show i < k + 1 by omega]
        · simp [h, show ¬ i < k + 1 by omega]
theorem wm_cost (ts : List Ti) (l n : Nat) : ∀ k, k ≤ n → costM ts (um ts l n) k = wm ts l k
  | 0, _ => rfl
  | k + 1, h => by
    unfold costM wm
    rw [um_bit, decide_eq_true (show k < n by omega), Bool.true_and, wm_cost ts l n k (by omega)]
    split <;> rfl
theorem um_congr (ts : List Ti) (l l' : Nat) : ∀ k, (∀ i, i < k → unp (ti ts i) l = unp (ti ts i) l') → um ts l k = um ts l' k
  | 0, _ => rfl
  | k + 1, h => by
    unfold um
    rw [h k (by omega), um_congr ts l l' k fun i hi => h i (by omega)]
theorem unp_flip {t : Ti} {l m : Nat} (h1 : t.one < m) (h2 : t.two < m) : unp t (l ^^^ (2 ^ m - 1)) = unp t l := by
  unfold unp
  rw [Nat.testBit_xor, Nat.testBit_xor, Nat.testBit_two_pow_sub_one, Nat.testBit_two_pow_sub_one, decide_eq_true h1, decide_eq_true h2]
  cases l.testBit t.one <;> cases l.testBit t.two <;> rfl
theorem pow30 : (10 : Int) ^ Int.toNat 30 = 1000000000000000000000000000000 := by decide
theorem xor_par (x y : Nat) : (x ^^^ y) % 2 = (x + y) % 2 := by
  have h := Nat.xor_mod_two_pow (a := x) (b := y) (n := 1)
  rw [Nat.pow_one] at h
  rw [h, Nat.add_mod]
  have h1 : x % 2 = 0 ∨ x % 2 = 1 := by omega
  have h2 : y % 2 = 0 ∨ y % 2 = 1 := by omega
  rcases h1 with h1 | h1 <;> rcases h2 with h2 | h2 <;> rw [h1, h2] <;> rfl
section
variable {P : Program} {w : World} {K : PySem.W.Frag} {mg : Str → Option Value} {base : Heap} {C_Pull C_Push C_Web C_Desk C_BadTie C_BadTurns C_Parted C_NotFlat C_BadText C_BadDeed C_FloorError : Addr}
theorem unl_eq (t : Ti) (l : Nat) : (!decide (Builtin.bitAnd (Builtin.bitXor ((l : Int) / 2 ^ (Int.toNat (t.one : Int))) ((l : Int) / 2 ^ (Int.toNat (t.two : Int)))) 1 = (if t.push = true then 1 else 0 : Int))) = unp t l := by
  rw [shr_nat, shr_nat, xor_nat, and_one _ (Int.natCast_nonneg _)]
  unfold unp
  rw [Nat.testBit_eq_decide_div_mod_eq, Nat.testBit_eq_decide_div_mod_eq, ← Nat.shiftRight_eq_div_pow, ← Nat.shiftRight_eq_div_pow]
  have h := par_bits (l >>> t.one) (l >>> t.two)
  rw [← xor_par] at h
  generalize l >>> t.one = x at h ⊢
  generalize l >>> t.two = y at h ⊢
  rw [show ((x ^^^ y : Nat) : Int) % 2 = (((x ^^^ y) % 2 : Nat) : Int) by omega, h]
  generalize (decide (x % 2 = 1) == decide (y % 2 = 1)) = b
  cases b <;> cases t.push <;> decide
def spUnl (K : PySem.W.Frag) (CP CQ CW : Addr) : Sp := fun vs H Q _ => ∃ (p : Addr) (M : WebM) (l : Nat), vs = [.ref p, .int l] ∧ WebAt K CP CQ CW H p M ∧ M.ts.length ≤ 1000 ∧ Q (.int (um M.ts l M.ts.length : Nat)) H
def spWorth (K : PySem.W.Frag) (CP CQ CW : Addr) : Sp := fun vs H Q _ => ∃ (p : Addr) (M : WebM) (l : Nat), vs = [.ref p, .int l] ∧ WebAt K CP CQ CW H p M ∧ Q (.int (wm M.ts l M.ts.length : Nat)) H
def spLUnp (K : PySem.W.Frag) : Sp := fun vs H Q _ => ∃ (a : Addr) (ts : List Ti) (T : Turns) (l : Nat), vs = [.ref a, .int l] ∧ BuiltAt K H a ts T ∧ ts.length ≤ 1000 ∧ Q (.int (um ts l ts.length : Nat)) H
def spCost (K : PySem.W.Frag) : Sp := fun vs H Q _ => ∃ (a : Addr) (ts : List Ti) (T : Turns) (m : Nat), vs = [.ref a, .int m] ∧ BuiltAt K H a ts T ∧ ts.length ≤ 1000 ∧ Q (.int (costM ts m ts.length : Nat)) H
def spMask : Sp := fun vs H Q _ => ∃ (c : Int) (m : Nat), vs = [.int c, .int m] ∧ m ≤ 1000 ∧ ∀ v : Nat, v < 2 ^ m → Q (.int v) H
end


/-! ### a list laid aside while an expression runs -/
theorem wo_obj {P : Program} {w : World} {H : Hp} {h : Heap} {pd : Addr} {xs : List V} (hok : HOk P w H h) (hp : H pd = some (.lst xs)) : HOk P w (wo H pd) h := fun a o e => by
  have e2 : H a = some o := wo_same a o e
  refine (hok a o e2).stay (fun _ _ _ q => q) (fun b q => wo_get q ?_) fun b ys q => wo_get q ?_
  · intro z; subst z; rw [hp] at q; cases q
  · intro z; subst z; rw [hp] at q; cases q
theorem PE.frm {X : Cx} {e : Expr} {t : TE} (h : PE X e t) : PE X e (fun σ H Q => t σ H Q ∨ ∃ (pd : Addr) (xs : List V), H pd = some (.lst xs) ∧ t σ (wo H pd) fun v H' => H' pd = none → Q v (upd H' pd (.lst xs))) := ⟨fun pins s σ H Q I q => by
  rcases q with q | ⟨pd, xs, hp, q⟩
  · exact h.run pins s σ H Q I q
  · obtain ⟨hz, its, n, r, ho⟩ := I.hok pd _ hp
    have hloc : pd ≠ X.env.locals := fun z => by have := I.free; rw [← z, hp] at this; cases this
    have hfs : pd ∉ X.fs := fun z => by
      have : pd ∈ frs X.stack := by
        rcases I.ok.stk with e | ⟨e, ef⟩
        · rw [e]; exact z
        · rw [e]
          unfold frs
          rw [List.filterMap_cons]
          split
          · exact z
          · exact List.mem_cons_of_mem _ z
      have := I.stkFree pd this
      rw [hp] at this; cases this
    have ne : ∀ {b : Addr} {o : HO}, H b = some o → (∀ ys, o ≠ .lst ys) → b ≠ pd := fun {b o} e hn z => by subst z; rw [hp] at e; cases e; exact hn _ rfl
    have I' : Inv X ((pd, { cls := .type "list", data := .seq its.toArray n }) :: pins) σ (wo H pd) s := {
      ok := I.ok
      os := I.os
      bare := I.bare
      base := {
        keep := I.base.keep
        slot := I.base.slot
        free := fun b o q n hx => by
          unfold wo
          split
          · rfl
          · exact I.base.free b o q n hx
        there := I.base.there
        tups := fun b ys q => by have e := I.base.tups b ys q; exact wo_get e (ne e fun _ z => by cases z)
        frzs := fun b o u q => by have e := I.base.frzs b o u q; exact wo_get e (ne e fun _ z => by cases z)
        tbls := fun b ps q => by obtain ⟨m, e⟩ := I.base.tbls b ps q; exact ⟨m, wo_get e (ne e fun _ z => by cases z)⟩ }
      loc := I.loc
      cell := I.cell
      free := by
        unfold wo
        split
        · rfl
        · exact I.free
      freeC := fun x c e => by
        unfold wo
        split
        · rfl
        · exact I.freeC x c e
      pin := fun p hp' => by
        rcases List.mem_append.mp hp' with hm | hm
        · obtain ⟨a1, a2, a3, a4, a5⟩ := I.pin p (List.mem_append_left _ hm)
          exact ⟨a1, by unfold wo; split; rfl; exact a2, a3, a4, a5⟩
        · rcases List.mem_cons.mp hm with rfl | hm
          · exact ⟨ho, wo_new, hloc, hfs, fun v z => by cases z⟩
          · obtain ⟨a1, a2, a3, a4, a5⟩ := I.pin p (List.mem_append_right _ hm)
            exact ⟨a1, by unfold wo; split; rfl; exact a2, a3, a4, a5⟩
      hok := wo_obj I.hok hp
      len := I.len }
    refine thn (h.run _ s σ _ _ I' q) fun u s1 hh => ?_
    obtain ⟨v, H1, I1, rv, q1⟩ := hh
    obtain ⟨p1, p2, p3, p4, p5⟩ := I1.pin (pd, { cls := .type "list", data := .seq its.toArray n }) (List.mem_append_right _ List.mem_cons_self)
    have ne1 : ∀ {b : Addr} {o : HO}, H1 b = some o → b ≠ pd := fun {b o} e z => by subst z; rw [p2] at e; cases e
    refine ⟨v, upd H1 pd (.lst xs), {
      ok := I1.ok
      os := I1.os
      bare := I1.bare
      base := {
        keep := I1.base.keep
        slot := I1.base.slot
        free := fun b o q n hx => by
          have e := I.base.free b o q n hx
          rw [upd_ne (fun z => by subst z; rw [hp] at e; cases e)]
          exact I1.base.free b o q n hx
        there := I1.base.there
        tups := fun b ys q => by have e := I1.base.tups b ys q; rw [upd_ne (ne1 e)]; exact e
        frzs := fun b o u q => by have e := I1.base.frzs b o u q; rw [upd_ne (ne1 e)]; exact e
        tbls := fun b ps q => by obtain ⟨m, e⟩ := I1.base.tbls b ps q; exact ⟨m, by rw [upd_ne (ne1 e)]; exact e⟩ }
      loc := I1.loc
      cell := I1.cell
      free := by rw [upd_ne (Ne.symm p3)]; exact I1.free
      freeC := fun x c e => by
        have := I.freeC x c e
        rw [upd_ne (fun z => by subst z; rw [hp] at this; cases this)]
        exact I1.freeC x c e
      pin := fun p hp' => by
        have hn : p.1 ≠ pd := by
          obtain ⟨_, a2, _⟩ := I.pin p hp'
          intro z
          rw [z, hp] at a2
          cases a2
        have hm : p ∈ X.pn ++ (pd, { cls := .type "list", data := .seq its.toArray n }) :: pins := by
          rcases List.mem_append.mp hp' with hm | hm
          · exact List.mem_append_left _ hm
          · exact List.mem_append_right _ (List.mem_cons_of_mem _ hm)
        obtain ⟨a1, a2, a3, a4, a5⟩ := I1.pin p hm
        exact ⟨a1, by rw [upd_ne hn]; exact a2, a3, a4, a5⟩
      hok := fun a o e => by
        by_cases ea : a = pd
        · subst ea
          rw [upd_same] at e
          cases e
          exact ⟨hz, its, n, r, p1⟩
        · rw [upd_ne ea] at e
          refine (I1.hok a o e).stay (fun _ _ _ q => q) (fun b q => ?_) fun b ys q => ?_
          · rw [upd_ne (ne1 q)]; exact q
          · rw [upd_ne (ne1 q)]; exact q
      len := I1.len }, rv, q1 p2⟩⟩
theorem wo_upd {H : Hp} {pd : Addr} {o : HO} (h : H pd = some o) : upd (wo H pd) pd o = H := by
  funext b
  by_cases e : b = pd
  · subst e; rw [upd_same, h]
  · rw [upd_ne e]; exact if_neg e
/-- the same, for an item of a comprehension -/
def tFrm (t : TE) : TE := fun σ H Q => t σ H Q ∨ ∃ (pd : Addr) (xs : List V), H pd = some (.lst xs) ∧ t σ (wo H pd) fun v H' => H' pd = none → Q v (upd H' pd (.lst xs))
theorem PE.frm2 {X : Cx} {e : Expr} {t : TE} (h : PE X e t) : PE X e (tFrm t) := PE.frm h
theorem w_frm {t : TE} {σ : L2.St} {H : Hp} {Q : VK} {pd : Addr} {xs : List V} (hp : H pd = some (.lst xs)) (h : t σ (wo H pd) fun v H' => H' pd = none → Q v (upd H' pd (.lst xs))) : tFrm t σ H Q := .inr ⟨pd, xs, hp, h⟩

section
variable {P : Program} {w : World} {K : PySem.W.Frag} {mg : Str → Option Value} {base : Heap} {C_Pull C_Push C_Web C_Desk C_BadTie C_BadTurns C_Parted C_NotFlat C_BadText C_BadDeed C_FloorError : Addr}
def spLaw (K : PySem.W.Frag) : Sp := fun vs H Q _ => ∃ (a : Addr) (ns : List Int), vs = [.ref a] ∧ LsE K H a (ns.map V.int) ∧ ns.length ≤ 63 ∧ (∀ z ∈ ns, Builtin.Int.intBits z ≤ 1048576) ∧ ∀ H', Q (.bl true) H'
end
theorem modN (z : Int) {n : Nat} (h : 0 < n) : ∃ k : Nat, z % (n : Int) = (k : Int) ∧ k < n := by
  have h1 := Int.emod_nonneg z (show (n : Int) ≠ 0 by omega)
  have h2 := Int.emod_lt_of_pos z (show (0 : Int) < n by omega)
  exact ⟨(z % (n : Int)).toNat, by omega, by omega⟩

theorem Built.mono {ts : List Ti} {T : Turns} {m n : Nat} (h : Built ts T m) (e : m ≤ n) : Built ts T n := ⟨h.flat, Nat.le_trans h.le e, h.pos, h.tl, h.tp, h.s⟩

/-! ### texts as lists of signs -/
open TL
def tS (l : List Nat) : Str := ⟨l.toArray⟩
theorem tS_tl (x : Str) : tS (TL.tl x) = x := mk_tl x
theorem tS_app (a b : List Nat) : tS a ++ tS b = tS (a ++ b) := ext_tl (by rw [tl_append]; rfl)
theorem tS_inj {a b : List Nat} (h : tS a = tS b) : a = b := congrArg (fun x : Str => x.cps.toList) h
theorem tS_len (a : List Nat) : (tS a).length = a.length := by rw [len_tl]; rfl
def tL (s : String) : List Nat := s.toList.map Char.toNat
theorem tL_lit (s : String) : Str.ofString s = tS (tL s) := ext_tl (tl_ofString s)
theorem tS_num (n : Nat) : Str.ofString (toString ((n : Nat) : Int)) = tS (numL n) := ext_tl (tl_num n)
theorem dec_tS {a b : List Nat} : decide (V.str (tS a) = V.str (tS b)) = decide (a = b) := by
  by_cases h : a = b
  · rw [h]; simp
  · rw [decide_eq_false h, decide_eq_false (fun z => h (tS_inj (by injection z)))]
def sv (ws : List (List Nat)) : List V := ws.map fun w => V.str (tS w)
theorem sv_len (ws : List (List Nat)) : (sv ws).length = ws.length := List.length_map ..
theorem sv_app (a b : List (List Nat)) : sv (a ++ b) = sv a ++ sv b := List.map_append ..
theorem sv_at {ws : List (List Nat)} {i : Nat} (h : i < ws.length) : (sv ws)[i]? = some (.str (tS (ws.getD i []))) := by
  unfold sv
  rw [List.getElem?_map, List.getElem?_eq_getElem h, List.getD_eq_getElem?_getD, List.getElem?_eq_getElem h]
  rfl
theorem sv_strs (ws : List (List Nat)) : (ws.map tS).map V.str = sv ws := by unfold sv; rw [List.map_map]; rfl
theorem map_tl_tS (ws : List (List Nat)) : (ws.map tS).map TL.tl = ws := by
  rw [List.map_map]
  exact (List.map_congr_left fun w _ => rfl).trans (List.map_id' ws)
theorem split_tS (a b : List Nat) (hb : b ≠ []) (hk : b.all (· < 256) = true) : Txt.split (tS a) (tS b) = (spl b 0 [] a).map tS := by
  refine map_tl_inj ?_
  have h : (Txt.split (tS a) (tS b)).map TL.tl = spl b 0 [] a := split_spl (tS a) (tS b) hb (kind_ok (by
    show b.toArray.all (· < 256) = true
    rw [List.all_toArray]; exact hk))
  rw [h, map_tl_tS]
theorem join_tS (a : List Nat) (ws : List (List Nat)) : Txt.join (tS a) (ws.map tS) = tS (joinL a ws) := by
  rw [join_eq]
  refine ext_tl ?_
  rw [tl_join, map_tl_tS]
  rfl
theorem tl_cps (l : List Nat) : (tS l).cps.toList = l := rfl
section
variable {X : Cx} {o e : Expr} {to te : TE}
def rJoin (K : PySem.W.Frag) : V → List V → Hp → VK → Prop := fun x xs H Q => ∃ a p, ∃ ys : List Str, x = .str a ∧ xs = [.ref p] ∧ (SqL K H p (ys.map V.str) ∨ SqT K H p (ys.map V.str)) ∧
  (ys.map fun y => y.length).sum + ys.length * a.length ≤ 16777216 ∧ Q (.str (Txt.join a ys)) H
theorem pe_joinK (K : PySem.W.Frag) {apos pos : Pos} (ho : PE X o to) (he : PE X e te) (hs : starEach [e] X.env = [(false, eval e X.env)] := by rfl) (hbase : attributeBase o "join" X.env (eval o X.env) = eval o X.env := by rfl) (hline : (apos.endLine == pos.line) = true := by rfl) (hK : X.K = K := by rfl) :
    PE X (.Call (.Attribute o "join" apos) [e] [] pos) (tM1 (rJoin K) to te) := by subst hK; exact pe_join ho he hs hbase hline
end
section
variable {σ : L2.St} {H : Hp} {Q : VK} {D : Ends} {K : PySem.W.Frag} {p : Addr} {to te : TE} {a b : List Nat} {n c : Nat}
theorem w_cS {s : String} (h : Q (.str (tS (tL s))) H) : tC (.str (Str.ofString s)) σ H Q := by rw [tL_lit]; exact h
theorem w_m1 {r : V → List V → Hp → VK → Prop} (h : to σ H fun x H1 => (∃ a, x = .str a) ∧ te σ H1 fun y H2 => r x [y] H2 Q) : tM1 r to te σ H Q := h
theorem w_isS {a : Str} {R : Prop} (h : R) : (∃ b, V.str a = .str b) ∧ R := ⟨⟨a, rfl⟩, h⟩
theorem w_split (hb : b ≠ []) (hk : b.all (· < 256) = true) (ha : a.length + 2 ≤ sizeLine) (h : ∀ p, New H p → Q (.ref p) (upd H p (.lst (sv (spl b 0 [] a))))) :
    ∃ a' b', V.str (tS a) = .str a' ∧ [V.str (tS b)] = [.str b'] ∧ (b'.length == 0) = false ∧ a'.length + 2 ≤ sizeLine ∧ rNewStrs (Txt.split a' b') H Q := by
  refine ⟨tS a, tS b, rfl, rfl, ?_, by rw [tS_len]; exact ha, ?_⟩
  · rw [tS_len]
    cases b with
    | nil => exact absurd rfl hb
    | cons => rfl
  · intro p np
    rw [split_tS a b hb hk, sv_strs]
    exact h p np
theorem w_join {ws : List (List Nat)} (hs : SqL K H p (sv ws)) (hz : (ws.map List.length).sum + ws.length * a.length ≤ 16777216) (h : Q (.str (tS (joinL a ws))) H) : rJoin K (.str (tS a)) [.ref p] H Q := by
  refine ⟨tS a, p, ws.map tS, rfl, rfl, .inl (by rw [sv_strs]; exact hs), ?_, by rw [join_tS]; exact h⟩
  rw [List.map_map, tS_len, List.length_map]
  have e : (ws.map ((fun y : Str => y.length) ∘ tS)) = ws.map List.length := List.map_congr_left fun w _ => tS_len w
  rw [e]
  exact hz
theorem w_addS (hz : a.length + b.length ≤ sizeLine) (h : Q (.str (tS (a ++ b))) H) : ∃ i j, V.str (tS a) = .str i ∧ V.str (tS b) = .str j ∧ i.length + j.length ≤ sizeLine ∧ Q (.str (i ++ j)) H :=
  ⟨tS a, tS b, rfl, rfl, by rw [tS_len, tS_len]; exact hz, by rw [tS_app]; exact h⟩
theorem log2_small {n : Nat} (h : n < 2 ^ 1900) : (n : Int).natAbs.log2 < 1920 := by
  rw [Int.natAbs_natCast]
  by_cases h0 : n = 0
  · subst h0; decide
  · exact (Nat.log2_lt h0).mpr (Nat.lt_of_lt_of_le h (Nat.pow_le_pow_right (by decide) (by decide)))
theorem w_strI (hn : n < 2 ^ 1900) (h : Q (.str (tS (numL n))) H) : ∃ i, [V.int (n : Nat)] = [.int i] ∧ i.natAbs.log2 < 1920 ∧ Q (.str (toString i)) H :=
  ⟨_, rfl, log2_small hn, by rw [tS_num]; exact h⟩
theorem w_strJ (hn : n < 2 ^ 1900) (h : Q (.str (tS (numL n))) H) : (n : Int).natAbs.log2 < 1920 ∧ Q (.str (Str.ofString (toString ((n : Nat) : Int)))) H := ⟨log2_small hn, by rw [tS_num]; exact h⟩
theorem w_eqT (h : Q (.bl (decide (a = b))) H) : rEq (.str (tS a)) (.str (tS b)) H Q := ⟨rfl, by rw [dec_tS]; exact h⟩
theorem w_neT (h : Q (.bl (!decide (a = b))) H) : rNe (.str (tS a)) (.str (tS b)) H Q := ⟨rfl, by rw [dec_tS]; exact h⟩
theorem w_1s {x : Str} {R : Str → Prop} (h : R x) : ∃ z, [V.str x] = [.str z] ∧ R z := ⟨x, rfl, h⟩
theorem w_2s {x y : Str} {R : Str → Str → Prop} (h : R x y) : ∃ i j, V.str x = .str i ∧ V.str y = .str j ∧ R i j := ⟨x, y, rfl, rfl, h⟩
theorem w_inR {R : Nat → Str → Prop} (h : R c (tS b)) : ∃ (c' : Nat) (z : Str), V.str (tS [c]) = .str ⟨#[c']⟩ ∧ V.str (tS b) = .str z ∧ R c' z := ⟨c, tS b, rfl, rfl, h⟩
theorem w_lenS (hz : a.length ≤ sizeLine) (h : Q (.int a.length) H) : ∃ z, [V.str (tS a)] = [.str z] ∧ z.length ≤ sizeLine ∧ Q (.int z.length) H := ⟨tS a, rfl, by rw [tS_len]; exact hz, by rw [tS_len]; exact h⟩
theorem w_ixS {i : Int} (hz : a.length ≤ sizeLine) (hi : atI a i = some c) (h : Q (.str (tS [c])) H) : rIxS (.str (tS a)) (.int i) H Q := ⟨tS a, i, c, rfl, rfl, by rw [tS_len]; exact hz, hi, h⟩
theorem w_inT (h : Q (.bl (decide (c ∈ b))) H) : ∃ (c' : Nat) (z : Str), V.str (tS [c]) = .str ⟨#[c']⟩ ∧ V.str (tS b) = .str z ∧ Q (.bl (decide (c' ∈ z.cps.toList))) H := ⟨c, tS b, rfl, rfl, h⟩
theorem w_ninT (h : Q (.bl (!decide (c ∈ b))) H) : ∃ (c' : Nat) (z : Str), V.str (tS [c]) = .str ⟨#[c']⟩ ∧ V.str (tS b) = .str z ∧ Q (.bl (!decide (c' ∈ z.cps.toList))) H := ⟨c, tS b, rfl, rfl, h⟩
theorem w_iStr {R : It → Hp → Prop} (h : te σ H fun v H1 => ∃ x, v = .str x ∧ R (Its x) H1) : iStr te σ H R := h
theorem w_itS {R : Str → Prop} (h : R (tS a)) : ∃ x, V.str (tS a) = .str x ∧ R x := ⟨tS a, rfl, h⟩
theorem for_str {g : TG} {tb : TS} {D : Ends} {σ : L2.St} {H : Hp} (Pv : Nat → L2.St → Hp → Prop) (h0 : Pv 0 σ H)
    (hs : ∀ i c σ H, a[i]? = some c → Pv i σ H → g (.str (tS [c])) σ H fun σ2 H2 => tb { D with nx := Pv (i + 1), ct := Pv (i + 1), bk := D.nx } σ2 H2) (hd : ∀ σ H, Pv a.length σ H → D.nx σ H) :
    ∃ W : Nat → Nat → L2.St → Hp → Prop, (∃ m, W 0 m σ H) ∧ ∀ i m σ H, W i m σ H →
      ((Its (tS a)).stop i H ∧ D.nx σ H) ∨ ((Its (tS a)).go i H ∧ ∃ N : L2.St → Hp → Prop, (∀ σ' H', N σ' H' → ∃ m', m' < m ∧ W (i + 1) m' σ' H') ∧ ∀ x H', (Its (tS a)).yld i H x H' → g x σ H' fun σ2 H2 => tb { D with nx := N, ct := N, bk := D.nx } σ2 H2) := by
  have sz : (tS a).cps.size = a.length := by simp [tS]
  refine ⟨fun i m σ H => m = a.length - i ∧ i ≤ a.length ∧ Pv i σ H, ⟨a.length, by simp, Nat.zero_le _, h0⟩, ?_⟩
  rintro i m σ H ⟨rfl, hi, p⟩
  by_cases hlt : i < a.length
  · refine .inr ⟨by show i < (tS a).cps.size; rw [sz]; exact hlt, Pv (i + 1), fun σ' H' p' => ⟨a.length - (i + 1), by omega, rfl, hlt, p'⟩, fun x H' y => ?_⟩
    obtain ⟨e, c, hc, ex⟩ := y
    subst e
    subst ex
    exact hs i c σ _ (by rw [← hc]; show _ = a.toArray[i]?; rw [List.getElem?_toArray]) p
  · have e : i = a.length := by omega
    subst e
    exact .inl ⟨by show (tS a).cps.size ≤ a.length; rw [sz]; exact Nat.le_refl _, hd σ H p⟩
end
/-! ### rows of words -/
theorem joinL_cons (s : List Nat) (h : List Nat) (ws : List (List Nat)) : joinL s (h :: ws) = h ++ (ws.map fun w => s ++ w).flatten := by
  induction ws generalizing h with
  | nil => simp [joinL]
  | cons w r ih =>
    show h ++ (s ++ joinL s (w :: r)) = _
    rw [ih]
    simp
theorem joinL_sum (s h : List Nat) (ws : List (List Nat)) : ((h :: ws).map List.length).sum + ws.length * s.length = (joinL s (h :: ws)).length := by
  rw [joinL_cons, List.length_append, List.map_cons, List.sum_cons]
  have : ((ws.map fun w => s ++ w).flatten).length = (ws.map List.length).sum + ws.length * s.length := by
    induction ws with
    | nil => simp
    | cons w r ih =>
      rw [List.map_cons, List.flatten_cons, List.length_append, ih, List.length_append, List.map_cons, List.sum_cons, List.length_cons, Nat.add_mul]
      omega
  omega
theorem joinL_nil (ws : List (List Nat)) : joinL [] ws = ws.flatten := by
  cases ws with
  | nil => rfl
  | cons h r => rw [joinL_cons]; simp
/-- a word and numbers -/
def rowB (h : List Nat) (ns : List Nat) : List Nat := h ++ (ns.map fun n => 32 :: numL n).flatten
theorem rowB_join (h : List Nat) (ns : List Nat) : joinL [32] (h :: ns.map numL) = rowB h ns := by
  rw [joinL_cons, List.map_map]
  rfl
theorem rowB_snoc (h : List Nat) (ns : List Nat) (n : Nat) : rowB h (ns ++ [n]) = rowB h ns ++ 32 :: numL n := by
  unfold rowB
  rw [List.map_append, List.flatten_append]
  simp
theorem rowB_split {h : List Nat} {ns : List Nat} (hh : 32 ∉ h) : spl [32] 0 [] (rowB h ns) = h :: ns.map numL := by
  rw [← rowB_join]
  refine spl_join (by simp) fun p hp => ?_
  rcases List.mem_cons.mp hp with rfl | hp
  · exact hh
  · obtain ⟨n, _, rfl⟩ := List.mem_map.mp hp
    exact numL_free (.inl (by decide))
theorem rowB_free {h : List Nat} {ns : List Nat} (hh : 10 ∉ h) : 10 ∉ rowB h ns := by
  unfold rowB
  intro z
  rcases List.mem_append.mp z with z | z
  · exact hh z
  · obtain ⟨l, hl, z⟩ := List.mem_flatten.mp z
    obtain ⟨n, _, rfl⟩ := List.mem_map.mp hl
    rcases List.mem_cons.mp z with z | z
    · exact absurd z (by decide)
    · exact numL_free (.inl (by decide)) z
theorem rowB_len {h : List Nat} {ns : List Nat} {k : Nat} (hk : 0 < k) (hn : ∀ n ∈ ns, n < 10 ^ k) : (rowB h ns).length ≤ h.length + (k + 1) * ns.length := by
  induction ns with
  | nil => simp [rowB]
  | cons n r ih =>
    have h1 := ih fun m hm => hn m (List.mem_cons_of_mem _ hm)
    have h2 := numL_len hk (hn n List.mem_cons_self)
    unfold rowB at h1 ⊢
    rw [List.map_cons, List.flatten_cons, List.length_append, List.length_append, List.length_cons] at *
    rw [List.length_cons, Nat.mul_add]
    omega
/-- rows, each ended -/
def endL (rs : List (List Nat)) : List Nat := (rs.map fun r => r ++ [10]).flatten
theorem endL_join (rs : List (List Nat)) : endL rs = joinL [10] (rs ++ [[]]) := by
  induction rs with
  | nil => rfl
  | cons r s ih =>
    unfold endL at ih ⊢
    rw [List.map_cons, List.flatten_cons, ih]
    cases hs : s ++ [[]] with
    | nil => simp at hs
    | cons x y =>
      show _ = joinL [10] (r :: (s ++ [[]]))
      rw [hs]
      show r ++ [10] ++ joinL [10] (x :: y) = r ++ ([10] ++ joinL [10] (x :: y))
      rw [List.append_assoc]
theorem endL_split {rs : List (List Nat)} (h : ∀ r ∈ rs, 10 ∉ r) : spl [10] 0 [] (endL rs) = rs ++ [[]] := by
  rw [endL_join]
  refine spl_join (by simp) fun p hp => ?_
  rcases List.mem_append.mp hp with hp | hp
  · exact h p hp
  · rw [List.mem_singleton.mp hp]; simp
theorem endL_snoc (rs : List (List Nat)) (r : List Nat) : endL (rs ++ [r]) = endL rs ++ r ++ [10] := by
  unfold endL
  rw [List.map_append, List.flatten_append]
  simp
theorem endL_len {rs : List (List Nat)} {k : Nat} (h : ∀ r ∈ rs, r.length ≤ k) : (endL rs).length ≤ (k + 1) * rs.length := by
  induction rs with
  | nil => simp [endL]
  | cons r s ih =>
    have h1 := ih fun q hq => h q (List.mem_cons_of_mem _ hq)
    have h2 := h r List.mem_cons_self
    unfold endL at h1 ⊢
    rw [List.map_cons, List.flatten_cons, List.length_append, List.length_append, List.length_cons, List.length_nil, List.length_cons, Nat.mul_add]
    omega
/-- no number but nought begins with nought -/
theorem numL_head : ∀ n : Nat, 0 < n → ∃ c r, numL n = c :: r ∧ c ≠ 48 := by
  intro n
  induction n using Nat.strongRecOn with
  | _ n ih =>
    intro h
    by_cases h2 : n < 10
    · exact ⟨48 + n, [], numL_lt h2, by omega⟩
    · obtain ⟨c, r, e, hc⟩ := ih (n / 10) (by omega) (by omega)
      exact ⟨c, r ++ [48 + n % 10], by rw [numL_step (by omega), e]; rfl, hc⟩
theorem numL_ok {n : Nat} {c : Nat} {r : List Nat} (h : numL n = c :: r) : ¬ (c = 48 ∧ 1 < (numL n).length) := fun ⟨a, b⟩ => by
  by_cases h0 : n = 0
  · subst h0; exact absurd b (by decide)
  · obtain ⟨c', r', e, hc⟩ := numL_head n (by omega)
    rw [e] at h
    injection h with h1 h2
    exact hc (h1.trans a)
theorem numL_fig {n c : Nat} (h : c ∈ numL n) : c ∈ tL "0123456789" := by
  have := numL_digits n c h
  have e : tL "0123456789" = [48, 49, 50, 51, 52, 53, 54, 55, 56, 57] := by decide
  rw [e]
  simp
  omega
theorem w_intS {n : Nat} {R : Int → Prop} (hn : (numL n).length ≤ 640) (h : R (n : Nat)) : ∃ a m, [V.str (tS (numL n))] = [.str a] ∧ PySem.intText? a = some m ∧ a.length ≤ 640 ∧ R m := by
  refine ⟨_, _, rfl, ?_, by rw [tS_len]; exact hn, h⟩
  rw [← tS_num]
  exact int_num (by omega)

theorem dec_lit {a : List Nat} {s : String} : decide (tS a = Str.ofString s) = decide (a = tL s) := by
  rw [tL_lit]
  by_cases h : a = tL s
  · rw [h]; simp
  · rw [decide_eq_false h, decide_eq_false (fun z => h (tS_inj z))]
theorem dec_tt {a b : List Nat} : decide (tS a = tS b) = decide (a = b) := by
  by_cases h : a = b
  · rw [h]; simp
  · rw [decide_eq_false h, decide_eq_false (fun z => h (tS_inj z))]
theorem cutV_init (xs : List V) (v : V) : cutV (xs ++ [v]) none (some (-1)) = xs := by
  have e : HT.sIx (xs ++ [v]).length (xs ++ [v]).length (some (-1)) = xs.length := by
    rw [List.length_append, List.length_singleton]
    unfold HT.sIx
    simp
    omega
  unfold cutV
  rw [e]
  have e0 : HT.sIx (xs ++ [v]).length 0 none = 0 := rfl
  rw [e0, List.drop_zero, Nat.sub_zero]
  simp
def ended (rs : List (List Nat)) : List (List Nat) := rs.map fun r => r ++ [10]
theorem ended_snoc (rs : List (List Nat)) (r : List Nat) : ended (rs ++ [r]) = ended rs ++ [r ++ [10]] := List.map_append ..

open TL
def digs (w : List Nat) : Bool := w.all fun c => decide (c ∈ tL "0123456789")
theorem fig_set : tL "0123456789" = [48, 49, 50, 51, 52, 53, 54, 55, 56, 57] := by decide
theorem digs_all {w : List Nat} (h : digs w = true) : NumText.AllDigits w := fun c hc => by
  have := List.all_eq_true.mp h c hc
  have := of_decide_eq_true this
  rw [fig_set] at this
  simp at this
  omega
/-- the parts of a text are no longer than it -/
theorem spl_len (S : List Nat) (hS : S ≠ []) : ∀ (l acc : List Nat) (k : Nat), (spl S k acc l).length ≤ l.length + 1 ∧ ∀ w ∈ spl S k acc l, w.length ≤ acc.length + l.length := by
  intro l
  induction l with
  | nil =>
    intro acc k
    rw [spl_nil]
    exact ⟨by simp, fun w hw => by rw [List.mem_singleton.mp hw]; omega⟩
  | cons c r ih =>
    intro acc k
    cases k with
    | zero =>
      cases h : pre S (c :: r) with
      | true =>
        rw [spl_hit h]
        obtain ⟨h1, h2⟩ := ih [] (S.length - 1)
        refine ⟨by rw [List.length_cons, List.length_cons]; omega, fun w hw => ?_⟩
        rcases List.mem_cons.mp hw with rfl | hw
        · omega
        · have := h2 w hw
          rw [List.length_nil] at this
          rw [List.length_cons]
          omega
      | false =>
        rw [spl_miss h]
        obtain ⟨h1, h2⟩ := ih (acc ++ [c]) 0
        refine ⟨by rw [List.length_cons]; omega, fun w hw => ?_⟩
        have := h2 w hw
        rw [List.length_append, List.length_singleton] at this
        rw [List.length_cons]
        omega
    | succ k =>
      rw [spl_pass, List.drop_succ_cons, ← spl_pass]
      obtain ⟨h1, h2⟩ := ih acc k
      exact ⟨by rw [List.length_cons]; omega, fun w hw => by have := h2 w hw; rw [List.length_cons]; omega⟩
theorem spl_ne (S : List Nat) : ∀ (l acc : List Nat) (k : Nat), spl S k acc l ≠ [] := by
  intro l
  induction l with
  | nil => intro acc k; rw [spl_nil]; simp
  | cons c r ih =>
    intro acc k
    cases k with
    | zero =>
      cases h : pre S (c :: r) with
      | true => rw [spl_hit h]; simp
      | false => rw [spl_miss h]; exact ih _ _
    | succ k => rw [spl_pass, List.drop_succ_cons, ← spl_pass]; exact ih _ _

open TL
/-! ### what a web's text tells -/
def figN (k : Nat) (w : List Nat) : Option Nat := if w = [] ∨ k < w.length ∨ (w.head? = some 48 ∧ 1 < w.length) then none else if digs w = true then some (NumText.digitsVal w) else none
theorem figN_lt {k : Nat} {w : List Nat} {n : Nat} (h : figN k w = some n) : n < 10 ^ k := by
  unfold figN at h
  split at h
  · cases h
  · rename_i hc
    split at h
    · rename_i hd
      injection h with h
      have hl : w.length ≤ k := Nat.le_of_not_lt fun z => hc (.inr (.inl z))
      have key : ∀ (l : List Nat) (a : Nat), NumText.AllDigits l → l.foldl (fun acc c => acc * 10 + (c - 48)) a < (a + 1) * 10 ^ l.length := by
        intro l
        induction l with
        | nil => intro a _; simp
        | cons c r ih =>
          intro a hr
          have hc := hr.head
          have := ih (a * 10 + (c - 48)) hr.tail
          rw [List.foldl_cons, List.length_cons, Nat.pow_succ]
          refine Nat.lt_of_lt_of_le this ?_
          rw [show (a + 1) * (10 ^ r.length * 10) = ((a + 1) * 10) * 10 ^ r.length by rw [Nat.mul_comm (10 ^ r.length) 10, Nat.mul_assoc]]
          exact Nat.mul_le_mul_right _ (by omega)
      have := key w 0 (digs_all hd)
      rw [← h]
      unfold NumText.digitsVal
      refine Nat.lt_of_lt_of_le this ?_
      rw [Nat.zero_add, Nat.one_mul]
      exact Nat.pow_le_pow_right (by decide) hl
    · cases h
theorem figN_int {k : Nat} {w : List Nat} {n : Nat} (hk : k ≤ 600) (h : figN k w = some n) : PySem.intText? (tS w) = some (n : Int) := by
  unfold figN at h
  split at h
  · cases h
  · rename_i hc
    split at h
    · rename_i hd
      injection h with h
      have hl : w.length ≤ k := Nat.le_of_not_lt fun z => hc (.inr (.inl z))
      have e := intText_digits (x := tS w) (digs_all hd) (fun z => hc (.inl z)) (by rw [tS_len]; omega)
      rw [e, ← h]
      rfl
    · cases h
theorem figN_num {k n : Nat} (hk : 0 < k) (hk2 : k ≤ 600) (h : n < 10 ^ k) : figN k (numL n) = some n := by
  have hl := numL_len hk h
  have hd : digs (numL n) = true := by
    unfold digs
    rw [List.all_eq_true]
    intro c hc
    exact decide_eq_true (numL_fig hc)
  have hno : ¬ (numL n = [] ∨ k < (numL n).length ∨ ((numL n).head? = some 48 ∧ 1 < (numL n).length)) := by
    rintro (z | z | ⟨z1, z2⟩)
    · exact numL_ne n z
    · omega
    · cases e : numL n with
      | nil => exact numL_ne n e
      | cons c r =>
        rw [e] at z1
        injection z1 with z1
        exact numL_ok e ⟨z1, z2⟩
  have e : figN k (numL n) = some (NumText.digitsVal (numL n)) := by unfold figN; rw [if_neg hno, if_pos hd]
  have e2 := figN_int hk2 e
  have e3 : PySem.intText? (tS (numL n)) = some (n : Int) := by
    rw [← tS_num]
    exact int_num (by omega)
  rw [e3] at e2
  injection e2 with e2
  rw [e]
  congr 1
  omega
def numsN (k : Nat) : List (List Nat) → Option (List Nat)
  | [] => some []
  | w :: ws => match figN k w with
    | none => none
    | some n => match numsN k ws with
      | none => none
      | some r => some (n :: r)
theorem numsN_cons (k : Nat) (w : List Nat) (ws : List (List Nat)) : numsN k (w :: ws) = match figN k w with
    | none => none
    | some n => match numsN k ws with
      | none => none
      | some r => some (n :: r) := rfl
theorem numsN_app (k : Nat) : ∀ (a b : List (List Nat)), numsN k (a ++ b) = match numsN k a with
    | none => none
    | some x => match numsN k b with
      | none => none
      | some y => some (x ++ y)
  | [], b => by
    rw [List.nil_append, show numsN k [] = some [] from rfl]
    cases numsN k b <;> rfl
  | w :: r, b => by
    have ih := numsN_app k r b
    rw [List.cons_append, numsN_cons, numsN_cons, ih]
    cases figN k w <;> cases numsN k r <;> cases numsN k b <;> rfl
theorem numsN_lt {k : Nat} : ∀ (ws : List (List Nat)) (ns : List Nat), numsN k ws = some ns → ns.length = ws.length ∧ ∀ n ∈ ns, n < 10 ^ k
  | [], ns, h => by injection h with h; subst h; exact ⟨rfl, fun n hn => absurd hn List.not_mem_nil⟩
  | w :: r, ns, h => by
    unfold numsN at h
    cases e : figN k w with
    | none => rw [e] at h; cases h
    | some n =>
      rw [e] at h
      cases e2 : numsN k r with
      | none => rw [e2] at h; cases h
      | some x =>
        rw [e2] at h
        injection h with h
        subst h
        obtain ⟨h1, h2⟩ := numsN_lt r x e2
        refine ⟨by rw [List.length_cons, List.length_cons, h1], fun m hm => ?_⟩
        rcases List.mem_cons.mp hm with rfl | hm
        · exact figN_lt e
        · exact h2 m hm
theorem numsN_none {k : Nat} {ws : List (List Nat)} {i : Nat} {w : List Nat} (h : ws[i]? = some w) (hw : figN k w = none) : numsN k ws = none := by
  have hi := (List.getElem?_eq_some_iff.mp h).1
  have e : ws = ws.take i ++ (w :: ws.drop (i + 1)) := by
    have : ws.drop i = w :: ws.drop (i + 1) := by
      rw [List.drop_eq_getElem_cons hi, (List.getElem?_eq_some_iff.mp h).2]
    rw [← this, List.take_append_drop]
  rw [e, numsN_app]
  have : numsN k (w :: ws.drop (i + 1)) = none := by unfold numsN; rw [hw]
  rw [this]
  cases numsN k (ws.take i) <;> rfl
theorem numsN_snoc {k : Nat} {a : List (List Nat)} {x : List Nat} {w : List Nat} {n : Nat} (h : numsN k a = some x) (hw : figN k w = some n) : numsN k (a ++ [w]) = some (x ++ [n]) := by
  rw [numsN_app, h]
  have : numsN k [w] = some [n] := by unfold numsN; rw [hw]; rfl
  rw [this]
theorem numsN_nums {k : Nat} (hk : 0 < k) (hk2 : k ≤ 600) : ∀ (ns : List Nat), (∀ n ∈ ns, n < 10 ^ k) → numsN k (ns.map numL) = some ns
  | [], _ => rfl
  | n :: r, h => by
    rw [List.map_cons, numsN_cons, figN_num hk hk2 (h n List.mem_cons_self), numsN_nums hk hk2 r fun m hm => h m (List.mem_cons_of_mem _ hm)]
/-- the first word and the others -/
def hdW (row : List Nat) : List Nat := (spl [32] 0 [] row).headD []
def tlW (row : List Nat) : List (List Nat) := (spl [32] 0 [] row).tail
theorem spl_hd (row : List Nat) : spl [32] 0 [] row = hdW row :: tlW row := by
  unfold hdW tlW
  cases e : spl [32] 0 [] row with
  | nil => exact absurd e (spl_ne _ _ _ _)
  | cons a b => rfl
def placesM (row : List Nat) : Option Nat := if hdW row = tL "places" then (match numsN 31 (tlW row) with
    | some [n] => if n < 2 ∨ 40 < n then none else some n
    | _ => none) else none
abbrev Trow := List Nat × Nat × Nat × Nat
def tieM (row : List Nat) : Option Trow := match numsN 31 (tlW row) with
  | some [a, b, c] => if 10 ^ 30 < c then none else some (hdW row, a, b, c)
  | _ => none
def turnsM (row : List Nat) (p : Nat) : Option (List Nat) := if hdW row = tL "about" then (match numsN 31 (tlW row) with
    | some (n :: r) => if n = p then some r else none
    | _ => none) else none
def isTie (row : List Nat) : Bool := decide (hdW row = tL "pull" ∨ hdW row = tL "push")
def tiesW (ws : List (List Nat)) : Nat → Nat → List Trow → Sum Nat (Nat × List Trow)
  | 0, _, _ => .inl 0
  | f + 1, k, told => if ws.length ≤ k + 1 then .inl ws.length else if isTie (ws.getD k []) = true then
      (if told.length = 80 then .inl (k + 1) else match tieM (ws.getD k []) with
        | none => .inl (k + 1)
        | some t => tiesW ws f (k + 1) (told ++ [t])) else .inr (k, told)
def turnsW (ws : List (List Nat)) : Nat → Nat → Nat → List (List Nat) → Sum Nat (Nat × List (List Nat))
  | 0, _, k, T => .inr (k, T)
  | n + 1, p, k, T => if ws.length ≤ k + 1 then .inl ws.length else match turnsM (ws.getD k []) p with
    | none => .inl (k + 1)
    | some r => turnsW ws n (p + 1) (k + 1) (T ++ [r])
abbrev WebW := Nat × List Trow × List (List Nat)
def readL (ws : List (List Nat)) : Sum Nat WebW := if ws.length ≤ 1 then .inl ws.length else match placesM (ws.getD 0 []) with
  | none => .inl 1
  | some m => match tiesW ws ws.length 1 [] with
    | .inl a => .inl a
    | .inr (k, told) => match turnsW ws m 0 k [] with
      | .inl a => .inl a
      | .inr (k2, T) => if k2 + 1 = ws.length ∧ ws.getD k2 [] = [] then .inr (m, told, T) else .inl (k2 + 1)
def readW (text : List Nat) : Sum Nat WebW := readL (spl [10] 0 [] text)
def tiR (t : Trow) : Ti := ⟨decide (t.1 = tL "push"), t.2.1, t.2.2.1, t.2.2.2⟩
/-! ### the text of a web -/
def kindW (b : Bool) : List Nat := if b = true then tL "push" else tL "pull"
def tieRow (t : Ti) : List Nat := rowB (kindW t.push) [t.one, t.two, t.s]
def aboutRow (T : Turns) (p : Nat) : List Nat := rowB (tL "about") (p :: row T p)
def headRow (n : Nat) : List Nat := rowB (tL "places") [n]
def webRows (ts : List Ti) (T : Turns) : List (List Nat) := headRow T.length :: (ts.map tieRow ++ (List.range T.length).map (aboutRow T))
def webText (ts : List Ti) (T : Turns) : List Nat := endL (webRows ts T)
structure TextOk (ts : List Ti) (T : Turns) : Prop where
  two : 2 ≤ T.length
  most : T.length ≤ 40
  ties : ts.length ≤ 80
  ends : ∀ t ∈ ts, t.one < 40 ∧ t.two < 40
  str : ∀ t ∈ ts, t.s ≤ 10 ^ 30
  turns : ∀ p, ∀ n ∈ row T p, n < 80
theorem rowB_hd {h : List Nat} {ns : List Nat} (hh : 32 ∉ h) : hdW (rowB h ns) = h ∧ tlW (rowB h ns) = ns.map numL := by
  unfold hdW tlW
  rw [rowB_split hh]
  exact ⟨rfl, rfl⟩
theorem placesM_row {n : Nat} (h : 2 ≤ n) (h2 : n ≤ 40) : placesM (headRow n) = some n := by
  obtain ⟨e1, e2⟩ := rowB_hd (h := tL "places") (ns := [n]) (by decide)
  unfold placesM headRow
  rw [e1, e2, if_pos rfl, numsN_nums (by decide) (by decide) [n] fun m hm => by
    rw [List.mem_singleton.mp hm]
    exact Nat.lt_of_le_of_lt h2 (by decide)]
  show (if n < 2 ∨ 40 < n then none else some n) = some n
  rw [if_neg (by omega)]
def tR (t : Ti) : Trow := (kindW t.push, t.one, t.two, t.s)
theorem tiR_tR (t : Ti) : tiR (tR t) = t := by
  cases t with
  | mk p a b c => cases p <;> rfl
theorem tieRow_is (t : Ti) : isTie (tieRow t) = true := by
  cases t with
  | mk p a b c =>
    unfold isTie tieRow
    cases p
    · rw [(rowB_hd (h := kindW false) (by decide)).1]; decide
    · rw [(rowB_hd (h := kindW true) (by decide)).1]; decide
theorem tieM_row {t : Ti} (h1 : t.one < 40) (h2 : t.two < 40) (h3 : t.s ≤ 10 ^ 30) : tieM (tieRow t) = some (tR t) := by
  have hh : 32 ∉ kindW t.push := by cases t.push <;> decide
  obtain ⟨e1, e2⟩ := rowB_hd (ns := [t.one, t.two, t.s]) hh
  unfold tieM tieRow
  rw [e1, e2, numsN_nums (by decide) (by decide) [t.one, t.two, t.s] fun m hm => by
    have hm : m = t.one ∨ m = t.two ∨ m = t.s := by simpa using hm
    rcases hm with rfl | rfl | rfl
    · exact Nat.lt_trans h1 (by decide)
    · exact Nat.lt_trans h2 (by decide)
    · exact Nat.lt_of_le_of_lt h3 (by decide)]
  show (if 10 ^ 30 < t.s then none else some (kindW t.push, t.one, t.two, t.s)) = _
  rw [if_neg (by omega)]
  rfl
theorem aboutRow_not (T : Turns) (p : Nat) : isTie (aboutRow T p) = false := by
  unfold isTie aboutRow
  rw [(rowB_hd (h := tL "about") (by decide)).1]
  decide
theorem turnsM_row {T : Turns} {p : Nat} (hp : p < 40) (h : ∀ n ∈ row T p, n < 80) : turnsM (aboutRow T p) p = some (row T p) := by
  obtain ⟨e1, e2⟩ := rowB_hd (h := tL "about") (ns := p :: row T p) (by decide)
  unfold turnsM aboutRow
  rw [e1, e2, if_pos rfl, numsN_nums (by decide) (by decide) (p :: row T p) fun m hm => by
    rcases List.mem_cons.mp hm with rfl | hm
    · exact Nat.lt_trans hp (by decide)
    · exact Nat.lt_trans (h m hm) (by decide)]
  show (if p = p then some (row T p) else none) = _
  rw [if_pos rfl]
theorem tiesW_rows (ws : List (List Nat)) (u : List (List Nat)) (hn : isTie (u.headD []) = false) (hul : 2 ≤ u.length) : ∀ (ts : List Ti) (k f : Nat) (told : List Trow), ws.drop k = ts.map tieRow ++ u → ts.length < f → told.length + ts.length ≤ 80 → (∀ t ∈ ts, t.one < 40 ∧ t.two < 40 ∧ t.s ≤ 10 ^ 30) → tiesW ws f k told = .inr (k + ts.length, told ++ ts.map tR)
  | [], k, f + 1, told, hd, _, _, _ => by
    have hl : ws.length - k = u.length := by rw [← List.length_drop, hd]; rfl
    have hg : ws.getD k [] = u.headD [] := by
      have e : (ws.drop k).headD [] = ws.getD k [] := by
        rw [List.headD_eq_head?_getD, List.head?_drop, List.getD_eq_getElem?_getD]
      rw [← e, hd]
      rfl
    unfold tiesW
    rw [if_neg (by omega), hg, hn, if_neg (by decide), List.map_nil, List.append_nil]
    rfl
  | t :: r, k, f + 1, told, hd, hf, h80, hok => by
    have hl : ws.length - k = (t :: r).length + u.length := by rw [← List.length_drop, hd]; simp; omega
    have hg : ws.getD k [] = tieRow t := by
      have e : (ws.drop k).headD [] = ws.getD k [] := by
        rw [List.headD_eq_head?_getD, List.head?_drop, List.getD_eq_getElem?_getD]
      rw [← e, hd]
      rfl
    have hd2 : ws.drop (k + 1) = r.map tieRow ++ u := by
      rw [← List.drop_drop, hd]
      rfl
    obtain ⟨h1, h2, h3⟩ := hok t List.mem_cons_self
    rw [List.length_cons] at hl hf h80
    unfold tiesW
    rw [if_neg (by omega), hg, tieRow_is, if_pos rfl, if_neg (by omega), tieM_row h1 h2 h3]
    show tiesW ws f (k + 1) (told ++ [tR t]) = _
    rw [tiesW_rows ws u hn hul r (k + 1) f (told ++ [tR t]) hd2 (by omega) (by rw [List.length_append, List.length_singleton]; omega) fun x hx => hok x (List.mem_cons_of_mem _ hx)]
    rw [List.append_assoc, List.length_cons, List.map_cons, show k + 1 + r.length = k + (r.length + 1) by omega]
    rfl
theorem turnsW_rows (ws : List (List Nat)) (T : Turns) (hb : ∀ p, ∀ n ∈ row T p, n < 80) : ∀ (n p k : Nat) (acc : List (List Nat)), p + n ≤ 40 → (∀ i, i < n → ws.getD (k + i) [] = aboutRow T (p + i)) → k + n < ws.length → turnsW ws n p k acc = .inr (k + n, acc ++ (List.range n).map fun i => row T (p + i))
  | 0, p, k, acc, _, _, _ => by unfold turnsW; simp
  | n + 1, p, k, acc, h40, hrow, hl => by
    have h0 := hrow 0 (by omega)
    rw [Nat.add_zero, Nat.add_zero] at h0
    unfold turnsW
    rw [if_neg (by omega), h0, turnsM_row (by omega) (hb p)]
    show turnsW ws n (p + 1) (k + 1) (acc ++ [row T p]) = _
    rw [turnsW_rows ws T hb n (p + 1) (k + 1) (acc ++ [row T p]) (by omega) (fun i hi => by
      have := hrow (i + 1) (by omega)
      rw [show k + 1 + i = k + (i + 1) by omega, show p + 1 + i = p + (i + 1) by omega]
      exact this) (by omega)]
    rw [List.range_succ_eq_map, List.map_cons, List.map_map, List.append_assoc, show k + 1 + n = k + (n + 1) by omega]
    congr 3
    show [row T p] ++ _ = _
    rw [List.singleton_append]
    congr 1
    refine List.map_congr_left fun i _ => ?_
    show row T (p + 1 + i) = row T (p + (i + 1))
    congr 1
    omega
theorem rows_self (T : Turns) : ((List.range T.length).map fun i => row T (0 + i)) = T := by
  refine List.ext_getElem (by simp) fun i h1 h2 => ?_
  rw [List.getElem_map, List.getElem_range, Nat.zero_add]
  unfold row
  rw [List.getD_eq_getElem?_getD, List.getElem?_eq_getElem h2]
  rfl
theorem webRows_len (ts : List Ti) (T : Turns) : (webRows ts T).length = 1 + ts.length + T.length := by
  unfold webRows
  rw [List.length_cons, List.length_append, List.length_map, List.length_map, List.length_range]
  omega
theorem webRows_free {ts : List Ti} {T : Turns} : ∀ r ∈ webRows ts T, 10 ∉ r := by
  intro r hr
  unfold webRows at hr
  rcases List.mem_cons.mp hr with rfl | hr
  · exact rowB_free (by decide)
  · rcases List.mem_append.mp hr with hr | hr
    · obtain ⟨t, _, rfl⟩ := List.mem_map.mp hr
      exact rowB_free (by cases t.push <;> decide)
    · obtain ⟨p, _, rfl⟩ := List.mem_map.mp hr
      exact rowB_free (by decide)
theorem webRows_about {ts : List Ti} {T : Turns} (x : List (List Nat)) {i : Nat} (hi : i < T.length) : (webRows ts T ++ x).getD (1 + ts.length + i) [] = aboutRow T (0 + i) := by
  rw [List.getD_eq_getElem?_getD, List.getElem?_append_left (by rw [webRows_len]; omega)]
  unfold webRows
  rw [show 1 + ts.length + i = (ts.length + i) + 1 by omega, List.getElem?_cons_succ, List.getElem?_append_right (by rw [List.length_map]; omega), List.length_map, Nat.add_sub_cancel_left, List.getElem?_map, List.getElem?_range hi, Nat.zero_add]
  rfl
theorem webRows_drop (ts : List Ti) (T : Turns) (x : List (List Nat)) : (webRows ts T ++ x).drop 1 = ts.map tieRow ++ ((List.range T.length).map (aboutRow T) ++ x) := by
  unfold webRows
  rw [List.cons_append, List.drop_one, List.tail_cons, List.append_assoc]
/-- the text, read -/
theorem readL_ok {ts : List Ti} {T : Turns} (h : TextOk ts T) : readL (webRows ts T ++ [[]]) = .inr (T.length, ts.map tR, T) := by
  have h2 := h.two
  have hl : (webRows ts T ++ [[]]).length = 2 + ts.length + T.length := by rw [List.length_append, webRows_len]; simp; omega
  have h0 : (webRows ts T ++ [[]]).getD 0 [] = headRow T.length := rfl
  have ht := tiesW_rows (webRows ts T ++ [[]]) ((List.range T.length).map (aboutRow T) ++ [[]]) (by
      obtain ⟨n, hn⟩ : ∃ n, T.length = n + 1 := ⟨T.length - 1, by omega⟩
      rw [hn, List.range_succ_eq_map]; exact aboutRow_not T 0) (by simp; omega) ts 1 (webRows ts T ++ [[]]).length [] (webRows_drop ts T [[]]) (by omega) (by rw [List.length_nil, Nat.zero_add]; exact h.ties) fun t ht => ⟨(h.ends t ht).1, (h.ends t ht).2, h.str t ht⟩
  have hu := turnsW_rows (webRows ts T ++ [[]]) T h.turns T.length 0 (1 + ts.length) [] (by have := h.most; omega) (fun i hi => webRows_about [[]] hi) (by omega)
  unfold readL
  rw [if_neg (by omega), h0, placesM_row h2 h.most]
  show (match tiesW (webRows ts T ++ [[]]) (webRows ts T ++ [[]]).length 1 [] with
    | .inl a => Sum.inl a
    | .inr (k, told) => match turnsW (webRows ts T ++ [[]]) T.length 0 k [] with
      | .inl a => .inl a
      | .inr (k2, T') => if k2 + 1 = (webRows ts T ++ [[]]).length ∧ (webRows ts T ++ [[]]).getD k2 [] = [] then .inr (T.length, told, T') else .inl (k2 + 1)) = _
  rw [ht]
  show (match turnsW (webRows ts T ++ [[]]) T.length 0 (1 + ts.length) [] with
      | .inl a => Sum.inl a
      | .inr (k2, T') => if k2 + 1 = (webRows ts T ++ [[]]).length ∧ (webRows ts T ++ [[]]).getD k2 [] = [] then .inr (T.length, [] ++ ts.map tR, T') else .inl (k2 + 1)) = _
  rw [hu]
  show (if 1 + ts.length + T.length + 1 = (webRows ts T ++ [[]]).length ∧ (webRows ts T ++ [[]]).getD (1 + ts.length + T.length) [] = [] then Sum.inr (T.length, [] ++ ts.map tR, [] ++ (List.range T.length).map fun i => row T (0 + i)) else .inl (1 + ts.length + T.length + 1)) = _
  rw [if_pos ⟨by omega, by rw [List.getD_eq_getElem?_getD, ← webRows_len, List.getElem?_append_right (Nat.le_refl _), Nat.sub_self]; rfl⟩, rows_self]
  rfl
theorem readW_ok {ts : List Ti} {T : Turns} (h : TextOk ts T) : readW (webText ts T) = .inr (T.length, ts.map tR, T) := by
  unfold readW webText
  rw [endL_split webRows_free]
  exact readL_ok h
theorem tiR_all (ts : List Ti) : (ts.map tR).map tiR = ts := by
  rw [List.map_map]
  exact (List.map_congr_left fun t _ => tiR_tR t).trans (List.map_id' ts)
theorem webText_len {ts : List Ti} {T : Turns} (h : TextOk ts T) (hT : ∀ p, (row T p).length ≤ 80) : (webText ts T).length ≤ 70000 := by
  have h1 : ∀ r ∈ webRows ts T, r.length ≤ 400 := by
    intro r hr
    unfold webRows at hr
    rcases List.mem_cons.mp hr with rfl | hr
    · have := rowB_len (h := tL "places") (ns := [T.length]) (k := 31) (by decide) fun m hm => by rw [List.mem_singleton.mp hm]; exact Nat.lt_of_le_of_lt h.most (by decide)
      have e : (tL "places").length = 6 := by decide
      rw [e] at this
      exact Nat.le_trans this (by simp)
    · rcases List.mem_append.mp hr with hr | hr
      · obtain ⟨t, ht, rfl⟩ := List.mem_map.mp hr
        have := rowB_len (h := kindW t.push) (ns := [t.one, t.two, t.s]) (k := 31) (by decide) fun m hm => by
          have hm : m = t.one ∨ m = t.two ∨ m = t.s := by simpa using hm
          rcases hm with rfl | rfl | rfl
          · exact Nat.lt_trans (h.ends t ht).1 (by decide)
          · exact Nat.lt_trans (h.ends t ht).2 (by decide)
          · exact Nat.lt_of_le_of_lt (h.str t ht) (by decide)
        have e : (kindW t.push).length = 4 := by cases t.push <;> decide
        rw [e] at this
        exact Nat.le_trans this (by simp)
      · obtain ⟨p, hp, rfl⟩ := List.mem_map.mp hr
        have hp := List.mem_range.mp hp
        have := rowB_len (h := tL "about") (ns := p :: row T p) (k := 2) (by decide) fun m hm => by
          rcases List.mem_cons.mp hm with rfl | hm
          · have := h.most; show _ < 100; omega
          · have := h.turns p m hm; show _ < 100; omega
        have e : (tL "about").length = 5 := by decide
        rw [e, List.length_cons] at this
        have := hT p
        exact Nat.le_trans ‹_› (by omega)
  have := endL_len h1
  rw [webRows_len] at this
  have := h.most
  have := h.ties
  unfold webText
  omega
theorem figN_len {k : Nat} {w : List Nat} {n : Nat} (h : figN k w = some n) : w.length ≤ k := by
  unfold figN at h
  split at h
  · cases h
  · rename_i hc
    exact Nat.le_of_not_lt fun z => hc (.inr (.inl z))
theorem numsN_at {k : Nat} : ∀ {ws : List (List Nat)} {ns : List Nat} {i : Nat} {w : List Nat}, numsN k ws = some ns → ws[i]? = some w → figN k w = some (ns.getD i 0)
  | [], _, i, w, _, h => by simp at h
  | u :: r, ns, i, w, hn, h => by
    rw [numsN_cons] at hn
    cases e : figN k u with
    | none => rw [e] at hn; cases hn
    | some n =>
      rw [e] at hn
      cases e2 : numsN k r with
      | none => rw [e2] at hn; cases hn
      | some x =>
        rw [e2] at hn
        injection hn with hn
        subst hn
        cases i with
        | zero =>
          injection h with h
          rw [← h, e]
          rfl
        | succ i =>
          have := numsN_at e2 (i := i) (w := w) h
          rw [this]
          rfl

/-! ### lists whose members stand beside them -/
theorem wo_self {H : Hp} {D : Addr} (h : H D = none) : wo H D = H := by
  funext b
  by_cases e : b = D
  · subst e; rw [h]; exact if_pos rfl
  · exact if_neg e
def GrD (K : PySem.W.Frag) (H : Hp) (D : Addr) (ds : List PyData) : Prop := ∃ xs, H D = some (.lst xs) ∧ DpAll K (wo H D) xs ds
theorem GrD.new {K : PySem.W.Frag} {H : Hp} {D : Addr} : GrD K (upd H D (.lst [])) D [] := ⟨[], upd_same, .nil⟩
theorem GrD.same {K : PySem.W.Frag} {H H' : Hp} {D : Addr} {ds : List PyData} (h : GrD K H D ds) (e : Same H H') : GrD K H' D ds := by
  obtain ⟨xs, h1, h2⟩ := h
  exact ⟨xs, e _ _ h1, h2.same (wo_mono e)⟩
theorem GrD.dp {K : PySem.W.Frag} {H : Hp} {D : Addr} {ds : List PyData} (h : GrD K H D ds) : Dp K H (.ref D) (.list ds) := by
  obtain ⟨xs, h1, h2⟩ := h
  exact .lst (SqL.of h1) (h2.same wo_same)
/-- put at the end, the list laid aside while the member was made -/
theorem GrD.put {K : PySem.W.Frag} {H H' : Hp} {D : Addr} {ds : List PyData} {d : PyData} {v : V} {xs : List V} (h : DpAll K (wo H D) xs ds) (e : Same (wo H D) H') (n : H' D = none) (hv : Dp K H' v d) {o : HO} : GrD K (upd (upd H' D o) D (.lst (xs ++ [v]))) D (ds ++ [d]) := by
  refine ⟨xs ++ [v], upd_same, ?_⟩
  rw [wo_eq, wo_eq, wo_self n]
  exact dpaApp (h.same e) (.cons hv .nil)
/-- put at the end -/
theorem GrD.push {K : PySem.W.Frag} {H H' : Hp} {D : Addr} {ds : List PyData} {d : PyData} {v : V} {xs : List V} (h : DpAll K (wo H D) xs ds) (e : Same H H') (hv : Dp K (wo H' D) v d) : GrD K (upd H' D (.lst (xs ++ [v]))) D (ds ++ [d]) :=
  ⟨xs ++ [v], upd_same, dpaPush h e hv⟩
theorem GrD.len {K : PySem.W.Frag} {H : Hp} {D : Addr} {xs : List V} {ds : List PyData} (h : DpAll K (wo H D) xs ds) : xs.length = ds.length := dpaLen h
theorem range_snoc {α : Type} (f : Nat → α) (i : Nat) : (List.range (i + 1)).map f = (List.range i).map f ++ [f i] := by rw [List.range_succ, List.map_append]; rfl
theorem w_islS {K : PySem.W.Frag} {H : Hp} {Q : VK} {p : Addr} {xs : List V} {s : String} {b : Bool} (hp : SqL K H p xs) (hk : kitB "list" s = some b) (h : Q (.bl b) H) : rIsi K [.ref p, .ty s] H Q := by
  rcases hp with (hp | ⟨o, hp⟩) | ⟨o, its, n, h1, h2, _⟩
  · exact ⟨_, _, _, _, b, rfl, .ty _, .base (.lst hp), kit_ty hk, h⟩
  · exact ⟨_, _, _, _, b, rfl, .ty _, .base (.frz hp), kit_ty hk, h⟩
  · exact ⟨_, _, _, _, b, rfl, .ty _, .kList h1 h2, kit_ty hk, h⟩
theorem range_put {α β : Type} (g : α → β) (A : Nat → α) (f : α) (i : Nat) : (List.range (i + 1)).map (fun s => g (if s = i then f else A s)) = (List.range i).map (fun s => g (A s)) ++ [g f] := by
  rw [range_snoc, if_pos rfl, List.map_congr_left fun s hs => by rw [if_neg (by have := List.mem_range.mp hs; omega)]]

section
variable {P : Program} {w : World} {K : PySem.W.Frag} {mg : Str → Option Value} {base : Heap} {C_Pull C_Push C_Web C_Desk C_BadTie C_BadTurns C_Parted C_NotFlat C_BadText C_BadDeed C_FloorError : Addr}
def XB (K : PySem.W.Frag) (C : Addr) (E : XK) (H : Hp) (a : Int) : Prop := ∀ d H', Same H H' → New H' d → E (.ref C) (some d) (upd H' d (.xd [("at", .int a)]))
theorem XB.same {K : PySem.W.Frag} {C : Addr} {E : XK} {H H1 : Hp} {a : Int} (h : XB K C E H a) (s : Same H H1) : XB K C E H1 a := fun d H' s2 n => h d H' (s.trans s2) n
end

section
variable {P : Program} {w : World} {K : PySem.W.Frag} {mg : Str → Option Value} {base : Heap} {C_Pull C_Push C_Web C_Desk C_BadTie C_BadTurns C_Parted C_NotFlat C_BadText C_BadDeed C_FloorError : Addr}
theorem ok_BadText___init__ {f : Addr} {fd : FuncData} (F : Fun K "__init__" "BadText.__init__" s_BadText___init__ f fd) (B : Bl mg) {C_Pull C_Push C_Web C_Desk C_BadTie C_BadTurns C_Parted C_NotFlat C_BadText C_BadDeed C_FloorError : Addr} (T : Txt K mg C_Pull C_Push C_Web C_Desk C_BadTie C_BadTurns C_Parted C_NotFlat C_BadText C_BadDeed C_FloorError) : HasFn P w K mg base CX0 1 f ["self", "at"] (spKeep K C_BadText) := by
  refine HasFn.mk' F (F.binds (ps := ["self", "at"]) fun _ _ _ _ _ _ us hl => match us, hl with | [_, _], _ => rfl) sc_BadText___init__ (by walk_at "len") (fun cdv A outer s H vs Q E hr h => ?_)
  obtain ⟨a, v, rfl, O, n, e, q⟩ := h
  refine ⟨_, (pss_one (ps_ost (pv 0) (pv 1))), ?_⟩
  walk_at "sts"
  refine ⟨a, C_BadText, rfl, O, n, .inl ⟨e, fun d nd hda => ?_⟩⟩
  exact q d nd hda
end

section
variable {P : Program} {w : World} {K : PySem.W.Frag} {mg : Str → Option Value} {base : Heap} {C_Pull C_Push C_Web C_Desk C_BadTie C_BadTurns C_Parted C_NotFlat C_BadText C_BadDeed C_FloorError : Addr}
theorem w_eqNilI {H : Hp} {Q : VK} {p e : Addr} {ys : List Nat} (h1 : SqL K H p (iv ys)) (he : H e = some (.lst [])) (h : Q (.bl (decide (ys = []))) H) : rEqD K (.ref p) (.ref e) H Q := by
  refine ⟨dRow ys, .list [], dpRow h1, .lst (SqL.of he) .nil, (goodRow ys).shaped (by decide), (goodLst (n := 0) (ds := []) fun d hd => (by cases hd)).shaped (by decide), ?_⟩
  cases ys with
  | nil => exact h
  | cons t l => exact h
end

open TL
section
variable {P : Program} {w : World} {K : PySem.W.Frag} {mg : Str → Option Value} {base : Heap} {C_Pull C_Push C_Web C_Desk C_BadTie C_BadTurns C_Parted C_NotFlat C_BadText C_BadDeed C_FloorError : Addr}
def spNumOf (K : PySem.W.Frag) : Sp := fun vs H Q _ => ∃ (w : List Nat), vs = [.str (tS w)] ∧ w.length ≤ 100000 ∧ (∀ n, figN 31 w = some n → Q (.int (n : Nat)) H) ∧ (figN 31 w = none → Q .non H)
theorem ok_number_of {f : Addr} {fd : FuncData} (F : Fun K "number_of" "number_of" s_number_of f fd) (gf : mg "number_of" = some (.ref f)) (B : Bl mg) {C_Pull C_Push C_Web C_Desk C_BadTie C_BadTurns C_Parted C_NotFlat C_BadText C_BadDeed C_FloorError : Addr} (T : Txt K mg C_Pull C_Push C_Web C_Desk C_BadTie C_BadTurns C_Parted C_NotFlat C_BadText C_BadDeed C_FloorError) : Has P w K mg base CX0 1 "number_of" ["word"] (spNumOf K) := by
  refine Has.mk' F gf (F.binds (ps := ["word"]) fun _ _ _ _ _ _ us hl => match us, hl with | [_], _ => rfl) sc_number_of (by walk_at "len") (fun cdv A outer s H vs Q E hr h => ?_)
  obtain ⟨w, rfl, hw, q, qn⟩ := h
  have hz : w.length ≤ sizeLine := by rw [sizeLine_eq]; omega
  have hz0 : tL "0" = [48] := by decide
  have hbad : (w = [] ∨ 31 < w.length ∨ (w.head? = some 48 ∧ 1 < w.length)) → figN 31 w = none := fun h => if_pos h
  refine ⟨_, (pss_cons (ps_if (PW.pt (pw_or (pt_cmpR op_eq (pv 0) pe_str (nomark _)) (pw_or1 (pt_cmpR op_gt (pe_callB call_len_str (by rfl) B.len (by decide +kernel) (pa_cons (pv 0) pa_nil)) (pe_glob (v := .int 31) (by rfl) T.k_MOST_FIGURES_texts.choose_spec ⟨_, rfl⟩) (nomark _))))) (pss_one (ps_ret pe_non)) pss_nil)
 (pss_cutX (ps_if (PW.pt (pw_and (pt_cmpR op_eq (pe_ix ix_str (pv 0) pe_int (fun _ _ => rfl)) pe_str (nomark _)) (pw_and1 (pt_cmpR op_gt (pe_callB call_len_str (by rfl) B.len (by decide +kernel) (pa_cons (pv 0) pa_nil)) pe_int (nomark _))))) (pss_one (ps_ret pe_non)) pss_nil)
 (pss_cons (ps_for PassesOwn.never rfl (pi_str (pv 0)) (pg_name (i := 1) sc_number_of.nd rfl (.inl rfl)) (pss_one (ps_if (pt_cmpR op_notIn_sign (pv 1) (pe_glob (v := .str "0123456789") (by rfl) T.k_FIGURES_texts.choose_spec ⟨_, rfl⟩) (by rfl)) (pss_one (ps_ret pe_non)) pss_nil)))
 (pss_one (ps_ret (pe_callTy call_int_str (by rfl) B.int (by decide +kernel) (pa_cons (pv 0) pa_nil))))))), ?_⟩
  walk_at "sts"
  rw [dec_lit]
  refine ifd (fun h1 => ?_) (fun h1 => ?_)
  · walk_at "sts"
    exact qn (hbad (.inl h1))
  walk_at "sts"
  refine w_1s ⟨by rw [tS_len]; exact hz, ?_⟩
  rw [tS_len]
  walk_at "sts"
  refine ifd (fun h2 => ?_) (fun h2 => ?_)
  · walk_at "sts"
    exact qn (hbad (.inr (.inl (by omega))))
  obtain ⟨c0, r0, e0⟩ : ∃ c r, w = c :: r := by
    cases w with
    | nil => exact absurd rfl h1
    | cons c r => exact ⟨c, r, rfl⟩
  have hh : w.head? = some c0 := by rw [e0]; rfl
  walk_at "sts"
  try dsimp only
  refine w_cut (fun σ' H' => σ' = [some (.str (tS w)), none] ∧ H' = H ∧ ¬ (w = [] ∨ 31 < w.length ∨ (w.head? = some 48 ∧ 1 < w.length))) ?_ ?_
  · walk_at "sts"
    refine w_ixS (c := c0) hz (by rw [e0]; exact atI_nat (j := 0) rfl) ?_
    walk_at "sts"
    rw [dec_lit]
    refine ifd (fun h3 => ?_) (fun h3 => ?_)
    · have h48 : c0 = 48 := by rw [hz0] at h3; injection h3
      walk_at "sts"
      refine w_1s ⟨by rw [tS_len]; exact hz, ?_⟩
      rw [tS_len]
      walk_at "sts"
      refine ifd (fun h4 => ?_) (fun h4 => ?_)
      · walk_at "sts"
        exact qn (hbad (.inr (.inr ⟨by rw [hh, h48], by omega⟩)))
      · walk_at "sts"
        refine ⟨rfl, rfl, fun z => ?_⟩
        rcases z with z | z | z
        · exact h1 z
        · omega
        · omega
    · walk_at "sts"
      refine ⟨rfl, rfl, fun z => ?_⟩
      rcases z with z | z | z
      · exact h1 z
      · omega
      · refine h3 ?_
        rw [hh] at z
        have := Option.some.inj z.1
        rw [this, hz0]
  rintro σ' H ⟨rfl, rfl, hok⟩
  have hfig : figN 31 w = if digs w = true then some (NumText.digitsVal w) else none := if_neg hok
  walk_at "sts"
  refine w_iStr ?_
  walk_at "sts"
  refine w_itS ?_
  refine for_str (fun i σ H' => ∃ y : Option V, σ = [some (.str (tS w)), y] ∧ H' = H ∧ digs (w.take i) = true) ?_ ?_ ?_
  · exact ⟨_, rfl, rfl, rfl⟩
  · rintro i c σ H' hc ⟨y, rfl, rfl, hd⟩
    have hi := (List.getElem?_eq_some_iff.mp hc).1
    have et : w.take (i + 1) = w.take i ++ [c] := by rw [List.take_add_one, hc]; rfl
    have ed : digs (w.take (i + 1)) = decide (c ∈ tL "0123456789") := by
      rw [et]
      unfold digs at hd ⊢
      rw [List.all_append, hd]
      simp
    walk_at "sts"
    rw [tL_lit]
    refine w_inR ?_
    rw [tl_cps]
    walk_at "sts"
    refine ifnd (fun hm => ?_) (fun hm => ?_)
    · walk_at "sts"
      refine qn ?_
      rw [hfig, if_neg]
      intro z
      unfold digs at z
      exact hm (of_decide_eq_true (List.all_eq_true.mp z c (List.mem_of_getElem? hc)))
    · walk_at "sts"
      exact ⟨_, rfl, rfl, by rw [ed, decide_eq_true hm]⟩
  · rintro σ H' ⟨y, rfl, rfl, hd⟩
    rw [List.take_length] at hd
    rw [if_pos hd] at hfig
    have hl : w.length ≤ 31 := Nat.le_of_not_lt fun z => hok (.inr (.inl z))
    walk_at "sts"
    refine ⟨_, _, rfl, figN_int (by decide) hfig, by rw [tS_len]; omega, ?_⟩
    exact q _ hfig
def spNumsOf (K : PySem.W.Frag) : Sp := fun vs H Q _ => ∃ (a : Addr) (ws : List (List Nat)), vs = [.ref a] ∧ SqL K H a (sv ws) ∧ (∀ w ∈ ws, w.length ≤ 100000) ∧ ws.length ≤ 100001 ∧ (∀ ns, numsN 31 ws = some ns → ns.length = ws.length → (∀ n ∈ ns, n < 10 ^ 31) → ∀ p H', Same H H' → New H p → H' p = some (.lst (iv ns)) → Q (.ref p) H') ∧ (numsN 31 ws = none → ∀ H', Same H H' → Q .non H')
theorem ok_numbers_of {f : Addr} {fd : FuncData} (F : Fun K "numbers_of" "numbers_of" s_numbers_of f fd) (gf : mg "numbers_of" = some (.ref f)) (B : Bl mg) {C_Pull C_Push C_Web C_Desk C_BadTie C_BadTurns C_Parted C_NotFlat C_BadText C_BadDeed C_FloorError : Addr} (T : Txt K mg C_Pull C_Push C_Web C_Desk C_BadTie C_BadTurns C_Parted C_NotFlat C_BadText C_BadDeed C_FloorError) (h_number_of : Has P w K mg base CX0 1 "number_of" ["word"] (spNumOf K)) : Has P w K mg base CX0 2 "numbers_of" ["words"] (spNumsOf K) := by
  refine Has.mk' F gf (F.binds (ps := ["words"]) fun _ _ _ _ _ _ us hl => match us, hl with | [_], _ => rfl) sc_numbers_of (by walk_at "len") (fun cdv A outer s H vs Q E hr h => ?_)
  obtain ⟨a, ws, rfl, hA, hwl, hws, q, qn⟩ := h
  refine ⟨_, (pss_cons (ps_set (i := 1) sc_numbers_of.nd rfl (.inl rfl) (pe_lst pa_nil))
 (pss_cons (ps_for PassesOwn.never rfl (pi_listK K (pv 0)) (pg_name (i := 2) sc_numbers_of.nd rfl (.inl rfl)) (pss_cons (ps_set (i := 3) sc_numbers_of.nd rfl (.inl rfl) (pe_fn h_number_of (hr.mono (by decide)) (by rfl) (pa_cons (pv 2) pa_nil)))
 (pss_cons (ps_if (pt_cmpR op_isN (pv 3) pe_non (nomark _)) (pss_one (ps_ret pe_non)) pss_nil)
 (pss_one (ps_expr (pe_bmK K (pe_bm PySem.F.plainAttrs_list PySem.F.slot_list_append PySem.F.type_list_append mt_append (pv 1) (pa_cons (pv 3) pa_nil))))))))
 (pss_one (ps_ret (pv 1))))), ?_⟩
  walk_at "sts"
  refine w_new fun D nD => ?_
  walk_at "sts"
  refine for_list (xs := sv ws) (fun i σ H' => ∃ (ns : List Nat) (y2 y3 : Option V), σ = [some (.ref a), some (.ref D), y2, y3] ∧ numsN 31 (ws.take i) = some ns ∧ H' D = some (.lst (iv ns)) ∧ Same H H') ?_ ?_ ?_ ?_
  · exact ⟨[], _, _, rfl, rfl, upd_same, same_upd nD⟩
  · rintro i σ H' _ ⟨_, _, _, _, _, _, s3⟩
    exact s3.seq hA
  · rintro i x σ H' hx ⟨ns, y2, y3, rfl, hns, l3, s3⟩
    have hi : i < ws.length := by
      have := (List.getElem?_eq_some_iff.mp hx).1
      rwa [sv_len] at this
    rw [sv_at hi] at hx
    injection hx with hx
    subst hx
    have hg : ws[i]? = some (ws.getD i []) := by rw [List.getD_eq_getElem?_getD, List.getElem?_eq_getElem hi]; rfl
    have hw := hwl _ (List.mem_of_getElem? hg)
    have et : ws.take (i + 1) = ws.take i ++ [ws.getD i []] := by rw [List.take_add_one, hg]; rfl
    have hnl := (numsN_lt _ _ hns).1
    rw [List.length_take] at hnl
    generalize ws.getD i [] = w at hg hw et
    walk_at "sts"
    refine ⟨w, rfl, hw, fun n hn => ?_, fun hn => ?_⟩
    · have hsz : (iv ns).length < sizeLine := szlt (by rw [iv_len]; omega)
      walk_at "sts"
      refine ifd (fun z => absurd z (by simp)) (fun _ => ?_)
      walk_at "sts"
      exact ⟨ns ++ [n], _, _, rfl, by rw [et]; exact numsN_snoc hns hn, by rw [upd_same, iv_app]; rfl, s3.mut nD⟩
    · walk_at "sts"
      rw [decide_eq_true rfl]
      walk_at "sts"
      exact qn (numsN_none hg hn) H' s3
  · rintro σ H' ⟨ns, y2, y3, rfl, hns, l3, s3⟩
    rw [sv_len, List.take_length] at hns
    walk_at "sts"
    obtain ⟨h1, h2⟩ := numsN_lt _ _ hns
    exact q ns hns h1 h2 D H' s3 nD l3
def spRowAt (K : PySem.W.Frag) (CB : Addr) : Sp := fun vs H Q E => ∃ (a : Addr) (k : Nat) (ws : List (List Nat)), vs = [.ref a, .int (k : Nat)] ∧ SqL K H a (sv ws) ∧ (k + 1 < ws.length → Q (.str (tS (ws.getD k []))) H) ∧ (ws.length ≤ k + 1 → XB K CB E H (ws.length : Nat))
theorem ok_row_at {f : Addr} {fd : FuncData} (F : Fun K "row_at" "row_at" s_row_at f fd) (gf : mg "row_at" = some (.ref f)) (B : Bl mg) {C_Pull C_Push C_Web C_Desk C_BadTie C_BadTurns C_Parted C_NotFlat C_BadText C_BadDeed C_FloorError : Addr} (T : Txt K mg C_Pull C_Push C_Web C_Desk C_BadTie C_BadTurns C_Parted C_NotFlat C_BadText C_BadDeed C_FloorError) (h_xm_BadText : HasXM P w K mg base 1 "BadText" C_BadText ["self", "at"] (spKeep K C_BadText)) : Has P w K mg base (L2.CX P w) 3 "row_at" ["rows", "k"] (spRowAt K C_BadText) := by
  refine Has.mkX F gf (F.binds (ps := ["rows", "k"]) fun _ _ _ _ _ _ us hl => match us, hl with | [_, _], _ => rfl) sc_row_at (by walk_at "len") (fun cdv A outer s H vs Q E hr h => ?_)
  obtain ⟨a, k, ws, rfl, hA, q, qe⟩ := h
  have hl := sv_len ws
  refine ⟨_, (pss_cons (ps_if (pt_cmpR op_ge (pe_op op_add (pv 1) pe_int) (pe_callB (call_lenK K) (by rfl) B.len (by decide +kernel) (pa_cons (pv 0) pa_nil)) (nomark _)) (pss_one (ps_raise rfl (takes_of rfl rfl rfl rfl) (pmk_xm h_xm_BadText (hr.mono (by decide)) (by rfl) (pa_cons (pe_callB (call_lenK K) (by rfl) B.len (by decide +kernel) (pa_cons (pv 0) pa_nil)) pa_nil)))) pss_nil)
 (pss_one (ps_ret (pe_ix (ix_listK K) (pv 0) (pv 1) (fun _ _ => rfl))))), ?_⟩
  walk_at "sts"
  rw [hl]
  refine ifd (fun h1 => ?_) (fun h1 => ?_)
  · walk_at "sts"
    rw [hl]
    exact w_raiseK T.ox_BadText T.na_BadText fun d nd => qe (by omega) d H (Same.refl _) nd
  have ai := sv_at (ws := ws) (i := k) (by omega)
  walk_at "sts"
  exact q (by omega)
/-- a row's words, and the numbers behind the first -/
def spPlaces (K : PySem.W.Frag) (CB : Addr) : Sp := fun vs H Q E => ∃ (row : List Nat), vs = [.str (tS row)] ∧ row.length ≤ 100000 ∧ (∀ n, placesM row = some n → ∀ H', Same H H' → Q (.int (n : Nat)) H') ∧ (placesM row = none → XB K CB E H 1)
theorem ok_places_told {f : Addr} {fd : FuncData} (F : Fun K "places_told" "places_told" s_places_told f fd) (gf : mg "places_told" = some (.ref f)) (B : Bl mg) {C_Pull C_Push C_Web C_Desk C_BadTie C_BadTurns C_Parted C_NotFlat C_BadText C_BadDeed C_FloorError : Addr} (T : Txt K mg C_Pull C_Push C_Web C_Desk C_BadTie C_BadTurns C_Parted C_NotFlat C_BadText C_BadDeed C_FloorError) (h_numbers_of : Has P w K mg base CX0 2 "numbers_of" ["words"] (spNumsOf K)) (h_xm_BadText : HasXM P w K mg base 1 "BadText" C_BadText ["self", "at"] (spKeep K C_BadText)) : Has P w K mg base (L2.CX P w) 3 "places_told" ["row"] (spPlaces K C_BadText) := by
  refine Has.mkX F gf (F.binds (ps := ["row"]) fun _ _ _ _ _ _ us hl => match us, hl with | [_], _ => rfl) sc_places_told (by walk_at "len") (fun cdv A outer s H vs Q E hr h => ?_)
  obtain ⟨row, rfl, hsz, q, qe⟩ := h
  obtain ⟨hl1, hl2⟩ := spl_len [32] (by decide) row [] 0
  rw [spl_hd row] at hl1 hl2
  have hpm : placesM row = if hdW row = tL "places" then (match numsN 31 (tlW row) with
    | some [n] => if n < 2 ∨ 40 < n then none else some n
    | _ => none) else none := rfl
  refine ⟨_, (pss_cons (ps_set (i := 1) sc_places_told.nd rfl (.inl rfl) (pe_split (pv 0) pe_str))
 (pss_cons (ps_set (i := 2) sc_places_told.nd rfl (.inl rfl) (pe_fn h_numbers_of (hr.mono (by decide)) (by rfl) (pa_cons (pe_slice (sl_listK K) (pv 1) (po_some pe_int) po_none) pa_nil)))
 (pss_cons (ps_if (PW.pt (pw_or (pt_cmpR op_ne (pe_ix (ix_listK K) (pv 1) pe_int (fun _ _ => rfl)) pe_str (nomark _)) (pw_or (pt_cmpR op_isN (pv 2) pe_non (nomark _)) (pw_or1 (pt_cmpR op_ne (pe_callB (call_lenK K) (by rfl) B.len (by decide +kernel) (pa_cons (pv 2) pa_nil)) pe_int (nomark _)))))) (pss_one (ps_raise rfl (takes_of rfl rfl rfl rfl) (pmk_xm h_xm_BadText (hr.mono (by decide)) (by rfl) (pa_cons pe_int pa_nil)))) pss_nil)
 (pss_cons (ps_if (PW.pt (pw_or (pt_cmpR op_lt (pe_ix (ix_listK K) (pv 2) pe_int (fun _ _ => rfl)) pe_int (nomark _)) (pw_or1 (pt_cmpR op_gt (pe_ix (ix_listK K) (pv 2) pe_int (fun _ _ => rfl)) (pe_glob (v := .int 40) (by rfl) T.k_MOST_PLACES.choose_spec ⟨_, rfl⟩) (nomark _))))) (pss_one (ps_raise rfl (takes_of rfl rfl rfl rfl) (pmk_xm h_xm_BadText (hr.mono (by decide)) (by rfl) (pa_cons pe_int pa_nil)))) pss_nil)
 (pss_one (ps_ret (pe_ix (ix_listK K) (pv 2) pe_int (fun _ _ => rfl)))))))), ?_⟩
  walk_at "sts"
  rw [tL_lit]
  refine w_m1 ?_
  walk_at "sts"
  refine w_isS ?_
  walk_at "sts"
  rw [tL_lit]
  refine w_split (by decide) (by decide) (by rw [sizeLine_eq]; omega) fun p1 n1 => ?_
  rw [show tL " " = [32] from rfl, spl_hd row]
  generalize hdW row = w0 at *
  generalize tlW row = ws at *
  rw [List.length_cons] at hl1
  have s1 := same_upd (o := .lst (sv (w0 :: ws))) n1
  have l1 : upd H p1 (.lst (sv (w0 :: ws))) p1 = some (.lst (sv (w0 :: ws))) := upd_same
  generalize upd H p1 (.lst (sv (w0 :: ws))) = H1 at s1 l1 ⊢
  have l1s := SqL.of (K := K) l1
  walk_at "sts"
  refine w_new fun p2 n2 => ?_
  have e2 : cutV (sv (w0 :: ws)) (some 1) none = sv ws := cutV_from _ 1
  rw [e2]
  have s2 := same_upd (o := .lst (sv ws)) n2
  have l2 : upd H1 p2 (.lst (sv ws)) p2 = some (.lst (sv ws)) := upd_same
  generalize upd H1 p2 (.lst (sv ws)) = H2 at s2 l2 ⊢
  have a0 : atI (sv (w0 :: ws)) 0 = some (.str (tS w0)) := atI_nat (j := 0) rfl
  walk_at "sts"
  refine ⟨p2, ws, rfl, SqL.of l2, fun w hw => by have := hl2 w (List.mem_cons_of_mem _ hw); simp at this; omega, by omega, fun ns hns hnl hnb p3 H3 s3 n3 l3 => ?_, fun hns H3 s3 => ?_⟩
  · have l13 := SqL.of (K := K) (s3 _ _ (s2 _ _ l1))
    have l3s := SqL.of (K := K) l3
    have hvl := iv_len ns
    rw [hns] at hpm
    walk_at "sts"
    rw [dec_lit]
    refine ifnd (fun h1 => ?_) (fun h1 => ?_)
    · walk_at "sts"
      exact w_raiseK T.ox_BadText T.na_BadText fun d nd => qe (by rw [hpm, if_neg h1]) d H3 (s1.trans (s2.trans s3)) nd
    rw [if_pos h1] at hpm
    walk_at "sts"
    refine ifd (fun z => absurd z (by simp)) (fun _ => ?_)
    walk_at "sts"
    refine ifnd (fun h2 => ?_) (fun h2 => ?_)
    · walk_at "sts"
      refine w_raiseK T.ox_BadText T.na_BadText fun d nd => qe ?_ d H3 (s1.trans (s2.trans s3)) nd
      rw [hpm]
      cases ns with
      | nil => rfl
      | cons a r =>
        cases r with
        | nil => exact absurd rfl h2
        | cons b r => rfl
    obtain ⟨n, rfl⟩ : ∃ a, ns = [a] := by
      cases ns with
      | nil => rw [hvl] at h2; simp at h2
      | cons a r =>
        cases r with
        | nil => exact ⟨a, rfl⟩
        | cons b r => rw [hvl] at h2; simp at h2; omega
    have hpm2 : placesM row = if n < 2 ∨ 40 < n then none else some n := hpm
    have a1 : atI (iv [n]) 0 = some (.int (n : Nat)) := atI_nat (j := 0) rfl
    walk_at "sts"
    refine ifd (fun h3 => ?_) (fun h3 => ?_)
    · walk_at "sts"
      exact w_raiseK T.ox_BadText T.na_BadText fun d nd => qe (by rw [hpm2, if_pos (by omega)]) d H3 (s1.trans (s2.trans s3)) nd
    walk_at "sts"
    refine ifd (fun h4 => ?_) (fun h4 => ?_)
    · walk_at "sts"
      exact w_raiseK T.ox_BadText T.na_BadText fun d nd => qe (by rw [hpm2, if_pos (by omega)]) d H3 (s1.trans (s2.trans s3)) nd
    walk_at "sts"
    exact q n (by rw [hpm2, if_neg (by omega)]) H3 (s1.trans (s2.trans s3))
  · have l13 := SqL.of (K := K) (s3 _ _ (s2 _ _ l1))
    have hno : placesM row = none := by
      rw [hpm, hns]
      split <;> rfl
    walk_at "sts"
    rw [dec_lit]
    refine ifnd (fun h1 => ?_) (fun h1 => ?_)
    · walk_at "sts"
      exact w_raiseK T.ox_BadText T.na_BadText fun d nd => qe hno d H3 (s1.trans (s2.trans s3)) nd
    walk_at "sts"
    rw [decide_eq_true rfl]
    walk_at "sts"
    exact w_raiseK T.ox_BadText T.na_BadText fun d nd => qe hno d H3 (s1.trans (s2.trans s3)) nd
def spTieTold (K : PySem.W.Frag) (CB : Addr) : Sp := fun vs H Q E => ∃ (row : List Nat) (at_ : Int), vs = [.str (tS row), .int at_] ∧ row.length ≤ 100000 ∧ (∀ t : Trow, tieM row = some t → ∀ p H', Same H H' → New H p → H' p = some (.tup [.str (tS t.1), .int (t.2.1 : Nat), .int (t.2.2.1 : Nat), .int (t.2.2.2 : Nat)]) → Q (.ref p) H') ∧ (tieM row = none → XB K CB E H at_)
theorem ok_tie_told {f : Addr} {fd : FuncData} (F : Fun K "tie_told" "tie_told" s_tie_told f fd) (gf : mg "tie_told" = some (.ref f)) (B : Bl mg) {C_Pull C_Push C_Web C_Desk C_BadTie C_BadTurns C_Parted C_NotFlat C_BadText C_BadDeed C_FloorError : Addr} (T : Txt K mg C_Pull C_Push C_Web C_Desk C_BadTie C_BadTurns C_Parted C_NotFlat C_BadText C_BadDeed C_FloorError) (h_numbers_of : Has P w K mg base CX0 2 "numbers_of" ["words"] (spNumsOf K)) (h_xm_BadText : HasXM P w K mg base 1 "BadText" C_BadText ["self", "at"] (spKeep K C_BadText)) : Has P w K mg base (L2.CX P w) 3 "tie_told" ["row", "at"] (spTieTold K C_BadText) := by
  refine Has.mkX F gf (F.binds (ps := ["row", "at"]) fun _ _ _ _ _ _ us hl => match us, hl with | [_, _], _ => rfl) sc_tie_told (by walk_at "len") (fun cdv A outer s H vs Q E hr h => ?_)
  obtain ⟨row, at_, rfl, hsz, q, qe⟩ := h
  obtain ⟨hl1, hl2⟩ := spl_len [32] (by decide) row [] 0
  rw [spl_hd row] at hl1 hl2
  have hpm : tieM row = match numsN 31 (tlW row) with
    | some [a, b, c] => if 10 ^ 30 < c then none else some (hdW row, a, b, c)
    | _ => none := rfl
  refine ⟨_, (pss_cons (ps_set (i := 2) sc_tie_told.nd rfl (.inl rfl) (pe_split (pv 0) pe_str))
 (pss_cons (ps_set (i := 3) sc_tie_told.nd rfl (.inl rfl) (pe_fn h_numbers_of (hr.mono (by decide)) (by rfl) (pa_cons (pe_slice (sl_listK K) (pv 2) (po_some pe_int) po_none) pa_nil)))
 (pss_cons (ps_if (PW.pt (pw_or (pt_cmpR op_isN (pv 3) pe_non (nomark _)) (pw_or (pt_cmpR op_ne (pe_callB (call_lenK K) (by rfl) B.len (by decide +kernel) (pa_cons (pv 3) pa_nil)) pe_int (nomark _)) (pw_or1 (pt_cmpR op_gt (pe_ix (ix_listK K) (pv 3) pe_int (fun _ _ => rfl)) (pe_glob (v := .int 1000000000000000000000000000000) (by rfl) T.k_MOST_STRENGTH_texts.choose_spec ⟨_, rfl⟩) (nomark _)))))) (pss_one (ps_raise rfl (takes_of rfl rfl rfl rfl) (pmk_xm h_xm_BadText (hr.mono (by decide)) (by rfl) (pa_cons (pv 1) pa_nil)))) pss_nil)
 (pss_one (ps_ret (pe_tup (pa_cons (pe_ix (ix_listK K) (pv 2) pe_int (fun _ _ => rfl)) (pa_cons (pe_ix (ix_listK K) (pv 3) pe_int (fun _ _ => rfl)) (pa_cons (pe_ix (ix_listK K) (pv 3) pe_int (fun _ _ => rfl)) (pa_cons (pe_ix (ix_listK K) (pv 3) pe_int (fun _ _ => rfl)) pa_nil)))))))))), ?_⟩
  walk_at "sts"
  rw [tL_lit]
  refine w_m1 ?_
  walk_at "sts"
  refine w_isS ?_
  walk_at "sts"
  rw [tL_lit]
  refine w_split (by decide) (by decide) (by rw [sizeLine_eq]; omega) fun p1 n1 => ?_
  rw [show tL " " = [32] from rfl, spl_hd row]
  generalize hdW row = w0 at *
  generalize tlW row = ws at *
  rw [List.length_cons] at hl1
  have s1 := same_upd (o := .lst (sv (w0 :: ws))) n1
  have l1 : upd H p1 (.lst (sv (w0 :: ws))) p1 = some (.lst (sv (w0 :: ws))) := upd_same
  generalize upd H p1 (.lst (sv (w0 :: ws))) = H1 at s1 l1 ⊢
  have l1s := SqL.of (K := K) l1
  walk_at "sts"
  refine w_new fun p2 n2 => ?_
  have e2 : cutV (sv (w0 :: ws)) (some 1) none = sv ws := cutV_from _ 1
  rw [e2]
  have s2 := same_upd (o := .lst (sv ws)) n2
  have l2 : upd H1 p2 (.lst (sv ws)) p2 = some (.lst (sv ws)) := upd_same
  generalize upd H1 p2 (.lst (sv ws)) = H2 at s2 l2 ⊢
  have a0 : atI (sv (w0 :: ws)) 0 = some (.str (tS w0)) := atI_nat (j := 0) rfl
  walk_at "sts"
  refine ⟨p2, ws, rfl, SqL.of l2, fun w hw => by have := hl2 w (List.mem_cons_of_mem _ hw); simp at this; omega, by omega, fun ns hns hnl hnb p3 H3 s3 n3 l3 => ?_, fun hns H3 s3 => ?_⟩
  · have l13 := SqL.of (K := K) (s3 _ _ (s2 _ _ l1))
    have l3s := SqL.of (K := K) l3
    have hvl := iv_len ns
    rw [hns] at hpm
    walk_at "sts"
    refine ifd (fun z => absurd z (by simp)) (fun _ => ?_)
    walk_at "sts"
    refine ifnd (fun h2 => ?_) (fun h2 => ?_)
    · walk_at "sts"
      refine w_raiseK T.ox_BadText T.na_BadText fun d nd => qe ?_ d H3 (s1.trans (s2.trans s3)) nd
      rw [hpm]
      rcases ns with _ | ⟨a, _ | ⟨b, _ | ⟨c, _ | ⟨d, r⟩⟩⟩⟩
      · rfl
      · rfl
      · rfl
      · exact absurd rfl h2
      · rfl
    obtain ⟨a, b, c, rfl⟩ : ∃ a b c, ns = [a, b, c] := by
      rw [hvl] at h2
      rcases ns with _ | ⟨a, _ | ⟨b, _ | ⟨c, _ | ⟨d, r⟩⟩⟩⟩
      · simp at h2
      · simp at h2
      · simp at h2
      · exact ⟨a, b, c, rfl⟩
      · simp at h2; omega
    have hpm2 : tieM row = if 10 ^ 30 < c then none else some (w0, a, b, c) := hpm
    have a1 : atI (iv [a, b, c]) 0 = some (.int (a : Nat)) := atI_nat (j := 0) rfl
    have a2 : atI (iv [a, b, c]) 1 = some (.int (b : Nat)) := atI_nat (j := 1) rfl
    have a3 : atI (iv [a, b, c]) 2 = some (.int (c : Nat)) := atI_nat (j := 2) rfl
    walk_at "sts"
    refine ifd (fun h3 => ?_) (fun h3 => ?_)
    · walk_at "sts"
      exact w_raiseK T.ox_BadText T.na_BadText fun d nd => qe (by rw [hpm2, if_pos (by omega)]) d H3 (s1.trans (s2.trans s3)) nd
    walk_at "sts"
    refine w_new fun p4 n4 => ?_
    exact q (w0, a, b, c) (by rw [hpm2, if_neg (by omega)]) p4 _ ((s1.trans (s2.trans s3)).trans (same_upd n4)) (n4.of (s1.trans (s2.trans s3))) upd_same
  · have hno : tieM row = none := by rw [hpm, hns]
    walk_at "sts"
    rw [decide_eq_true rfl]
    walk_at "sts"
    exact w_raiseK T.ox_BadText T.na_BadText fun d nd => qe hno d H3 (s1.trans (s2.trans s3)) nd
def spTurnsTold (K : PySem.W.Frag) (CB : Addr) : Sp := fun vs H Q E => ∃ (row : List Nat) (p : Nat) (at_ : Int), vs = [.str (tS row), .int (p : Nat), .int at_] ∧ row.length ≤ 100000 ∧ (∀ r : List Nat, turnsM row p = some r → r.length ≤ 100000 → ∀ q H', Same H H' → New H q → H' q = some (.lst (iv r)) → Q (.ref q) H') ∧ (turnsM row p = none → XB K CB E H at_)
theorem ok_turns_told {f : Addr} {fd : FuncData} (F : Fun K "turns_told" "turns_told" s_turns_told f fd) (gf : mg "turns_told" = some (.ref f)) (B : Bl mg) {C_Pull C_Push C_Web C_Desk C_BadTie C_BadTurns C_Parted C_NotFlat C_BadText C_BadDeed C_FloorError : Addr} (T : Txt K mg C_Pull C_Push C_Web C_Desk C_BadTie C_BadTurns C_Parted C_NotFlat C_BadText C_BadDeed C_FloorError) (h_numbers_of : Has P w K mg base CX0 2 "numbers_of" ["words"] (spNumsOf K)) (h_xm_BadText : HasXM P w K mg base 1 "BadText" C_BadText ["self", "at"] (spKeep K C_BadText)) : Has P w K mg base (L2.CX P w) 3 "turns_told" ["row", "place", "at"] (spTurnsTold K C_BadText) := by
  refine Has.mkX F gf (F.binds (ps := ["row", "place", "at"]) fun _ _ _ _ _ _ us hl => match us, hl with | [_, _, _], _ => rfl) sc_turns_told (by walk_at "len") (fun cdv A outer s H vs Q E hr h => ?_)
  obtain ⟨row, p, at_, rfl, hsz, q, qe⟩ := h
  obtain ⟨hl1, hl2⟩ := spl_len [32] (by decide) row [] 0
  rw [spl_hd row] at hl1 hl2
  have hpm : turnsM row p = if hdW row = tL "about" then (match numsN 31 (tlW row) with
    | some (n :: r) => if n = p then some r else none
    | _ => none) else none := rfl
  refine ⟨_, (pss_cons (ps_set (i := 3) sc_turns_told.nd rfl (.inl rfl) (pe_split (pv 0) pe_str))
 (pss_cons (ps_set (i := 4) sc_turns_told.nd rfl (.inl rfl) (pe_fn h_numbers_of (hr.mono (by decide)) (by rfl) (pa_cons (pe_slice (sl_listK K) (pv 3) (po_some pe_int) po_none) pa_nil)))
 (pss_cons (ps_if (PW.pt (pw_or (pt_cmpR op_ne (pe_ix (ix_listK K) (pv 3) pe_int (fun _ _ => rfl)) pe_str (nomark _)) (pw_or (pt_cmpR op_isN (pv 4) pe_non (nomark _)) (pw_or (pt_cmpR (op_eqDK K hr.units) (pv 4) (pe_lst pa_nil) (nomark _)) (pw_or1 (pt_cmpR op_ne (pe_ix (ix_listK K) (pv 4) pe_int (fun _ _ => rfl)) (pv 1) (nomark _))))))) (pss_one (ps_raise rfl (takes_of rfl rfl rfl rfl) (pmk_xm h_xm_BadText (hr.mono (by decide)) (by rfl) (pa_cons (pv 2) pa_nil)))) pss_nil)
 (pss_one (ps_ret (pe_slice (sl_listK K) (pv 4) (po_some pe_int) po_none)))))), ?_⟩
  walk_at "sts"
  rw [tL_lit]
  refine w_m1 ?_
  walk_at "sts"
  refine w_isS ?_
  walk_at "sts"
  rw [tL_lit]
  refine w_split (by decide) (by decide) (by rw [sizeLine_eq]; omega) fun p1 n1 => ?_
  rw [show tL " " = [32] from rfl, spl_hd row]
  generalize hdW row = w0 at *
  generalize tlW row = ws at *
  rw [List.length_cons] at hl1
  have s1 := same_upd (o := .lst (sv (w0 :: ws))) n1
  have l1 : upd H p1 (.lst (sv (w0 :: ws))) p1 = some (.lst (sv (w0 :: ws))) := upd_same
  generalize upd H p1 (.lst (sv (w0 :: ws))) = H1 at s1 l1 ⊢
  have l1s := SqL.of (K := K) l1
  walk_at "sts"
  refine w_new fun p2 n2 => ?_
  have e2 : cutV (sv (w0 :: ws)) (some 1) none = sv ws := cutV_from _ 1
  rw [e2]
  have s2 := same_upd (o := .lst (sv ws)) n2
  have l2 : upd H1 p2 (.lst (sv ws)) p2 = some (.lst (sv ws)) := upd_same
  generalize upd H1 p2 (.lst (sv ws)) = H2 at s2 l2 ⊢
  have a0 : atI (sv (w0 :: ws)) 0 = some (.str (tS w0)) := atI_nat (j := 0) rfl
  walk_at "sts"
  refine ⟨p2, ws, rfl, SqL.of l2, fun w hw => by have := hl2 w (List.mem_cons_of_mem _ hw); simp at this; omega, by omega, fun ns hns hnl hnb p3 H3 s3 n3 l3 => ?_, fun hns H3 s3 => ?_⟩
  · have l13 := SqL.of (K := K) (s3 _ _ (s2 _ _ l1))
    have l3s := SqL.of (K := K) l3
    have hvl := iv_len ns
    rw [hns] at hpm
    walk_at "sts"
    rw [dec_lit]
    refine ifnd (fun h1 => ?_) (fun h1 => ?_)
    · walk_at "sts"
      exact w_raiseK T.ox_BadText T.na_BadText fun d nd => qe (by rw [hpm, if_neg h1]) d H3 (s1.trans (s2.trans s3)) nd
    rw [if_pos h1] at hpm
    walk_at "sts"
    refine ifd (fun z => absurd z (by simp)) (fun _ => ?_)
    walk_at "sts"
    refine w_new fun p4 n4 => ?_
    have s4 := same_upd (o := .lst []) n4
    have l4 : upd H3 p4 (.lst []) p4 = some (.lst []) := upd_same
    generalize upd H3 p4 (.lst []) = H4 at s4 l4 ⊢
    have l34 := s4 _ _ l3
    have l34s := SqL.of (K := K) l34
    have s14 := s1.trans (s2.trans (s3.trans s4))
    refine w_eqNilI l34s l4 ?_
    walk_at "sts"
    refine ifd (fun h2 => ?_) (fun h2 => ?_)
    · walk_at "sts"
      exact w_raiseK T.ox_BadText T.na_BadText fun d nd => qe (by rw [hpm, h2]) d H4 s14 nd
    obtain ⟨n, r, rfl⟩ : ∃ n r, ns = n :: r := by
      cases ns with
      | nil => exact absurd rfl h2
      | cons n r => exact ⟨n, r, rfl⟩
    have hpm2 : turnsM row p = if n = p then some r else none := hpm
    have a1 : atI (iv (n :: r)) 0 = some (.int (n : Nat)) := atI_nat (j := 0) rfl
    walk_at "sts"
    refine ifnd (fun h3 => ?_) (fun h3 => ?_)
    · walk_at "sts"
      exact w_raiseK T.ox_BadText T.na_BadText fun d nd => qe (by rw [hpm2, if_neg (by omega)]) d H4 s14 nd
    walk_at "sts"
    refine w_new fun p5 n5 => ?_
    rw [show cutV (iv (n :: r)) (some 1) none = iv r from cutV_from _ 1]
    exact q r (by rw [hpm2, if_pos (by omega)]) (by rw [List.length_cons] at hnl; omega) p5 _ (s14.trans (same_upd n5)) (n5.of s14) upd_same
  · have l13 := SqL.of (K := K) (s3 _ _ (s2 _ _ l1))
    have hno : turnsM row p = none := by
      rw [hpm, hns]
      split <;> rfl
    walk_at "sts"
    rw [dec_lit]
    refine ifnd (fun h1 => ?_) (fun h1 => ?_)
    · walk_at "sts"
      exact w_raiseK T.ox_BadText T.na_BadText fun d nd => qe hno d H3 (s1.trans (s2.trans s3)) nd
    walk_at "sts"
    rw [decide_eq_true rfl]
    walk_at "sts"
    exact w_raiseK T.ox_BadText T.na_BadText fun d nd => qe hno d H3 (s1.trans (s2.trans s3)) nd
end

open TL
section
variable {P : Program} {w : World} {K : PySem.W.Frag} {mg : Str → Option Value} {base : Heap} {C_Pull C_Push C_Web C_Desk C_BadTie C_BadTurns C_Parted C_NotFlat C_BadText C_BadDeed C_FloorError : Addr}
def dTrow (t : Trow) : PyData := .tuple [.str (tS t.1), .int (t.2.1 : Nat), .int (t.2.2.1 : Nat), .int (t.2.2.2 : Nat)]
def trowV (t : Trow) : List V := [.str (tS t.1), .int (t.2.1 : Nat), .int (t.2.2.1 : Nat), .int (t.2.2.2 : Nat)]
theorem dpTrow {K : PySem.W.Frag} {H : Hp} {p : Addr} {t : Trow} (h : SqT K H p (trowV t)) : Dp K H (.ref p) (dTrow t) := .tup h (.cons (.str _) (.cons (.int _) (.cons (.int _) (.cons (.int _) .nil))))
theorem dpTrowAt {K : PySem.W.Frag} {H : Hp} {v : V} {t : Trow} (h : Dp K H v (dTrow t)) : ∃ p, v = .ref p ∧ SqT K H p (trowV t) := by
  obtain ⟨p, xs, rfl, h1, h2⟩ := dpTup h
  cases h2 with
  | cons a1 h2 => cases a1; cases h2 with
    | cons a2 h2 => cases a2; cases h2 with
      | cons a3 h2 => cases a3; cases h2 with
        | cons a4 h2 => cases a4; cases h2; exact ⟨p, rfl, h1⟩
def spTieMade (K : PySem.W.Frag) (CP CQ : Addr) : Sp := fun vs H Q _ => ∃ (p : Addr) (t : Trow), vs = [.ref p] ∧ SqT K H p (trowV t) ∧ t.2.1 ≠ t.2.2.1 ∧ ∀ x H', Same H H' → New H x → TieAt CP CQ H' x (tiR t) → Q (.ref x) H'
theorem ok_tie_made {f : Addr} {fd : FuncData} (F : Fun K "tie_made" "tie_made" s_tie_made f fd) (gf : mg "tie_made" = some (.ref f)) (B : Bl mg) {C_Pull C_Push C_Web C_Desk C_BadTie C_BadTurns C_Parted C_NotFlat C_BadText C_BadDeed C_FloorError : Addr} (T : Txt K mg C_Pull C_Push C_Web C_Desk C_BadTie C_BadTurns C_Parted C_NotFlat C_BadText C_BadDeed C_FloorError) (h_mk_Pull : HasMk P w K mg base CX0 1 "Pull" C_Pull ["self", "one", "two", "strength"] (spTInit C_Pull C_Push)) (h_mk_Push : HasMk P w K mg base CX0 1 "Push" C_Push ["self", "one", "two", "strength"] (spTInit C_Pull C_Push)) : Has P w K mg base CX0 3 "tie_made" ["told"] (spTieMade K C_Pull C_Push) := by
  refine Has.mk' F gf (F.binds (ps := ["told"]) fun _ _ _ _ _ _ us hl => match us, hl with | [_], _ => rfl) sc_tie_made (by walk_at "len") (fun cdv A outer s H vs Q E hr h => ?_)
  obtain ⟨p, t, rfl, hp, hne, q⟩ := h
  have a0 : atI (trowV t) 0 = some (.str (tS t.1)) := atI_nat (j := 0) rfl
  have a1 : atI (trowV t) 1 = some (.int (t.2.1 : Nat)) := atI_nat (j := 1) rfl
  have a2 : atI (trowV t) 2 = some (.int (t.2.2.1 : Nat)) := atI_nat (j := 2) rfl
  have a3 : atI (trowV t) 3 = some (.int (t.2.2.2 : Nat)) := atI_nat (j := 3) rfl
  have hne' : (tiR t).one ≠ (tiR t).two := hne
  refine ⟨_, (pss_cons (ps_if (pt_cmpR op_eq (pe_ix (ix_tupK K) (pv 0) pe_int (fun _ _ => rfl)) pe_str (nomark _)) (pss_one (ps_ret (pe_mk h_mk_Push (hr.mono (by decide)) (by rfl) (pa_cons (pe_ix (ix_tupK K) (pv 0) pe_int (fun _ _ => rfl)) (pa_cons (pe_ix (ix_tupK K) (pv 0) pe_int (fun _ _ => rfl)) (pa_cons (pe_ix (ix_tupK K) (pv 0) pe_int (fun _ _ => rfl)) pa_nil)))))) pss_nil)
 (pss_one (ps_ret (pe_mk h_mk_Pull (hr.mono (by decide)) (by rfl) (pa_cons (pe_ix (ix_tupK K) (pv 0) pe_int (fun _ _ => rfl)) (pa_cons (pe_ix (ix_tupK K) (pv 0) pe_int (fun _ _ => rfl)) (pa_cons (pe_ix (ix_tupK K) (pv 0) pe_int (fun _ _ => rfl)) pa_nil))))))), ?_⟩
  walk_at "sts"
  rw [dec_lit]
  refine ifd (fun hc => ?_) (fun hc => ?_)
  · have hp1 : (tiR t).push = true := decide_eq_true hc
    walk_at "sts"
    intro x dx nx nd hxd
    refine ⟨x, dx, tiR t, rfl, ?_, hne', rfl, ?_⟩
    · rw [hp1]; exact upd_same
    · rw [upd_upd, hp1]
      walk_at "sts"
      refine q x _ (made_same nx nd hxd) nx ⟨dx, ?_⟩
      rw [upd_same, hp1]
  · have hp1 : (tiR t).push = false := decide_eq_false hc
    walk_at "sts"
    intro x dx nx nd hxd
    refine ⟨x, dx, tiR t, rfl, ?_, hne', rfl, ?_⟩
    · rw [hp1]; exact upd_same
    · rw [upd_upd, hp1]
      walk_at "sts"
      refine q x _ (made_same nx nd hxd) nx ⟨dx, ?_⟩
      rw [upd_same, hp1]
theorem inV_sv (w : List Nat) (ws : List (List Nat)) : inV (.str (tS w)) (sv ws) = decide (w ∈ ws) := by
  unfold inV sv
  induction ws with
  | nil => rfl
  | cons a r ih =>
    rw [List.map_cons, List.any_cons, ih]
    have : eqV (.str (tS a)) (.str (tS w)) = decide (a = w) := by
      show decide _ = _
      exact dec_tt
    rw [this]
    by_cases h : w = a
    · subst h; simp
    · simp [h, Ne.symm h]
theorem sv_flat (ws : List (List Nat)) : (sv ws).all flatV = true := by
  unfold sv
  rw [List.all_map]
  exact List.all_eq_true.mpr fun x _ => rfl
theorem w_inSV {K : PySem.W.Frag} {H : Hp} {Q : VK} {p : Addr} {ws : List (List Nat)} {w : List Nat} (hs : SqT K H p (sv ws)) (h : Q (.bl (decide (w ∈ ws))) H) : rIn K false (.str (tS w)) (.ref p) H Q :=
  ⟨p, sv ws, rfl, .inr hs, rfl, sv_flat ws, by rw [inV_sv]; exact h⟩
theorem isTie_dec (row : List Nat) : decide (hdW row ∈ [tL "pull", tL "push"]) = isTie row := by
  unfold isTie
  simp
theorem tiesW_len {ws : List (List Nat)} : ∀ (f k : Nat) (told : List Trow) (k2 : Nat) (told2 : List Trow), told.length ≤ 80 → tiesW ws f k told = .inr (k2, told2) → told2.length ≤ 80
  | 0, _, _, _, _, _, h => by cases h
  | f + 1, k, told, k2, told2, hl, h => by
    unfold tiesW at h
    split at h
    · cases h
    · split at h
      · split at h
        · cases h
        · split at h
          · cases h
          · exact tiesW_len f (k + 1) _ k2 told2 (by rw [List.length_append, List.length_singleton]; omega) h
      · injection h with h
        injection h with h1 h2
        rw [← h2]
        exact hl
def spReadX (K : PySem.W.Frag) (CP CQ CW CB C1 C2 C3 C4 : Addr) : Sp := fun vs H Q E => ∃ (text : List Nat), vs = [.str (tS text)] ∧ text.length ≤ 90000 ∧ (∀ a, readW text = .inl a → XB K CB E H (a : Nat)) ∧
  (∀ m told T, readW text = .inr (m, told, T) → (∀ t ∈ told, t.2.1 ≠ t.2.2.1) ∧ 1 ≤ m ∧ m ≤ 40 ∧ WebSays (told.map tiR) m (T.map castI) (∀ H', Same H H' → E (.ref C1) none H') (∀ H', Same H H' → E (.ref C2) none H') (∀ H', Same H H' → E (.ref C3) none H') (∀ H', Same H H' → E (.ref C4) none H')
    (fun T' => ∀ p H' R, Same H H' → New H p → WebOk ⟨told.map tiR, T', R⟩ → WebAt K CP CQ CW H' p ⟨told.map tiR, T', R⟩ → Q (.ref p) H'))
theorem turnsM_len {row : List Nat} {p : Nat} {r : List Nat} (h : turnsM row p = some r) : True := trivial
theorem ok_read {f : Addr} {fd : FuncData} (F : Fun K "read" "read" s_read f fd) (gf : mg "read" = some (.ref f)) (B : Bl mg) {C_Pull C_Push C_Web C_Desk C_BadTie C_BadTurns C_Parted C_NotFlat C_BadText C_BadDeed C_FloorError : Addr} (T : Txt K mg C_Pull C_Push C_Web C_Desk C_BadTie C_BadTurns C_Parted C_NotFlat C_BadText C_BadDeed C_FloorError) (h_places_told : Has P w K mg base (L2.CX P w) 3 "places_told" ["row"] (spPlaces K C_BadText)) (h_row_at : Has P w K mg base (L2.CX P w) 3 "row_at" ["rows", "k"] (spRowAt K C_BadText)) (h_tie_told : Has P w K mg base (L2.CX P w) 3 "tie_told" ["row", "at"] (spTieTold K C_BadText)) (h_turns_told : Has P w K mg base (L2.CX P w) 3 "turns_told" ["row", "place", "at"] (spTurnsTold K C_BadText)) (h_tie_made : Has P w K mg base CX0 3 "tie_made" ["told"] (spTieMade K C_Pull C_Push)) (h_mk_Web : HasMk P w K mg base (L2.CX P w) 5 "Web" C_Web ["self", "many", "ties", "turns"] (spWebX K C_Pull C_Push C_Web C_BadTie C_BadTurns C_Parted C_NotFlat)) (h_xm_BadText : HasXM P w K mg base 1 "BadText" C_BadText ["self", "at"] (spKeep K C_BadText)) : Has P w K mg base (L2.CX P w) 7 "read" ["text"] (spReadX K C_Pull C_Push C_Web C_BadText C_BadTie C_BadTurns C_Parted C_NotFlat) := by
  refine Has.mkX F gf (F.binds (ps := ["text"]) fun _ _ _ _ _ _ us hl => match us, hl with | [_], _ => rfl) sc_read (by walk_at "len") (fun cdv A outer s H vs Q E hr h => ?_)
  obtain ⟨text, rfl, hsz, qe, q⟩ := h
  obtain ⟨hl1, hl2⟩ := spl_len [10] (by decide) text [] 0
  unfold readW at qe q
  refine ⟨_, (pss_cons (ps_set (i := 1) sc_read.nd rfl (.inl rfl) (pe_split (pv 0) pe_str))
 (pss_cons (ps_set (i := 2) sc_read.nd rfl (.inl rfl) (pe_fnS (takes_of rfl rfl rfl rfl) h_places_told (hr.mono (by decide)) (by rfl) (pa_cons (pe_fnS (takes_of rfl rfl rfl rfl) h_row_at (hr.mono (by decide)) (by rfl) (pa_cons (pv 1) (pa_cons pe_int pa_nil))) pa_nil)))
 (pss_cons (ps_set (i := 3) sc_read.nd rfl (.inl rfl) (pe_lst pa_nil))
 (pss_cons (ps_set (i := 4) sc_read.nd rfl (.inl rfl) pe_int)
 (pss_cons (ps_while (passes_of rfl) (pt_cmpR (op_inK K) (pe_ix (ix_listK K) (pe_split (pe_fnS (takes_of rfl rfl rfl rfl) h_row_at (hr.mono (by decide)) (by rfl) (pa_cons (pv 1) (pa_cons (pv 4) pa_nil))) pe_str) pe_int (fun _ _ => rfl)) (pe_tup (pa_cons pe_str (pa_cons pe_str pa_nil))) (by rfl)) (pss_cons (ps_if (pt_cmpR op_eq (pe_callB (call_lenK K) (by rfl) B.len (by decide +kernel) (pa_cons (pv 3) pa_nil)) (pe_glob (v := .int 80) (by rfl) T.k_MOST_TIES.choose_spec ⟨_, rfl⟩) (nomark _)) (pss_one (ps_raise rfl (takes_of rfl rfl rfl rfl) (pmk_xm h_xm_BadText (hr.mono (by decide)) (by rfl) (pa_cons (pe_op op_add (pv 4) pe_int) pa_nil)))) pss_nil)
 (pss_cons (ps_expr (pe_bmK K (pe_bm PySem.F.plainAttrs_list PySem.F.slot_list_append PySem.F.type_list_append mt_append (pv 3) (pa_cons (pe_fnS (takes_of rfl rfl rfl rfl) h_tie_told (hr.mono (by decide)) (by rfl) (pa_cons (pe_ix (ix_listK K) (pv 1) (pv 4) (fun _ _ => rfl)) (pa_cons (pe_op op_add (pv 4) pe_int) pa_nil))) pa_nil))))
 (pss_one (ps_aug (i := 4) sc_read.nd rfl (.inl rfl) pe_int ip_add)))))
 (pss_cons (ps_set (i := 5) sc_read.nd rfl (.inl rfl) (pe_lst pa_nil))
 (pss_cons (ps_for (passes_of rfl) rfl (pi_range1 (by rfl) B.range (pa_cons (pv 2) pa_nil)) (pg_name (i := 6) sc_read.nd rfl (.inl rfl)) (pss_cons (ps_expr (pe_bmK K (pe_bm PySem.F.plainAttrs_list PySem.F.slot_list_append PySem.F.type_list_append mt_append (pv 5) (pa_cons (pe_fnS (takes_of rfl rfl rfl rfl) h_turns_told (hr.mono (by decide)) (by rfl) (pa_cons (pe_fnS (takes_of rfl rfl rfl rfl) h_row_at (hr.mono (by decide)) (by rfl) (pa_cons (pv 1) (pa_cons (pv 4) pa_nil))) (pa_cons (pv 6) (pa_cons (pe_op op_add (pv 4) pe_int) pa_nil)))) pa_nil))))
 (pss_one (ps_aug (i := 4) sc_read.nd rfl (.inl rfl) pe_int ip_add))))
 (pss_cons (ps_if (PW.pt (pw_or (pt_cmpR op_ne (pe_op op_add (pv 4) pe_int) (pe_callB (call_lenK K) (by rfl) B.len (by decide +kernel) (pa_cons (pv 1) pa_nil)) (nomark _)) (pw_or1 (pt_cmpR op_ne (pe_ix (ix_listK K) (pv 1) (pv 4) (fun _ _ => rfl)) pe_str (nomark _))))) (pss_one (ps_raise rfl (takes_of rfl rfl rfl rfl) (pmk_xm h_xm_BadText (hr.mono (by decide)) (by rfl) (pa_cons (pe_op op_add (pv 4) pe_int) pa_nil)))) pss_nil)
 (pss_one (ps_ret (pe_mkX (takes_of rfl rfl rfl rfl) h_mk_Web (hr.mono (by decide)) (by rfl) (pa_cons (pv 2) (pa_cons (pe_lc (own := [("each", 7)]) rfl sc_read.nd (pi_listK K (pv 3)) (blkOk_by (own := [("each", 7)]) (N := ["text", "rows", "many", "told", "k", "turns", "place", "each"]) (sc := defScope s_read) (by decide +kernel)) (fun _ _ _ _ _ => pg_name (i := 7) sc_read.nd rfl (Or.inl rfl)) (fun _ _ _ _ _ => pts_nil) (fun _ _ _ _ _ => (pe_fn h_tie_made (hr.mono (by decide)) (by rfl) (pa_cons (pv 7) pa_nil)))) (pa_cons (pv 5) pa_nil)))))))))))))), ?_⟩
  walk_at "sts"
  rw [tL_lit]
  refine w_m1 ?_
  walk_at "sts"
  refine w_isS ?_
  walk_at "sts"
  rw [tL_lit]
  refine w_split (by decide) (by decide) (by rw [sizeLine_eq]; omega) fun p1 n1 => ?_
  rw [show tL "\n" = [10] from rfl]
  generalize spl [10] 0 [] text = ws at *
  have hwl : ∀ i, (ws.getD i []).length ≤ 100000 := fun i => by
    rw [List.getD_eq_getElem?_getD]
    cases e : ws[i]? with
    | none => simp
    | some w =>
      have := hl2 w (List.mem_of_getElem? e)
      simp at this ⊢
      omega
  have s1 := same_upd (o := .lst (sv ws)) n1
  have l1 : upd H p1 (.lst (sv ws)) p1 = some (.lst (sv ws)) := upd_same
  generalize upd H p1 (.lst (sv ws)) = H1 at s1 l1 ⊢
  have l1s := SqL.of (K := K) l1
  have hsl := sv_len ws
  have hr : readL ws = if ws.length ≤ 1 then .inl ws.length else match placesM (ws.getD 0 []) with
    | none => .inl 1
    | some m => match tiesW ws ws.length 1 [] with
      | .inl a => .inl a
      | .inr (k, told) => match turnsW ws m 0 k [] with
        | .inl a => .inl a
        | .inr (k2, T) => if k2 + 1 = ws.length ∧ ws.getD k2 [] = [] then .inr (m, told, T) else .inl (k2 + 1) := rfl
  walk_at "sts"
  refine ⟨p1, 0, ws, rfl, l1s, fun h0 => ?_, fun h0 => (qe ws.length (by rw [hr, if_pos (by omega)])).same s1⟩
  rw [if_neg (by omega)] at hr
  walk_at "sts"
  refine ⟨ws.getD 0 [], rfl, hwl 0, fun m hm H2 s2 => ?_, fun hm => (qe 1 (by rw [hr, hm])).same s1⟩
  have hm40 : m ≤ 40 := by
    unfold placesM at hm
    split at hm
    · split at hm
      · split at hm
        · cases hm
        · injection hm with hm
          omega
      · cases hm
    · cases hm
  rw [hm] at hr
  have s12 := s1.trans s2
  have l2 := s2 _ _ l1
  walk_at "sts"
  refine w_new fun pt nt => ?_
  have st := same_upd (o := .lst []) nt
  walk_at "sts"
  refine ⟨fun mm σ H' => ∃ (k : Nat) (told : List Trow), σ = [some (.str (tS text)), some (.ref p1), some (.int (m : Nat)), some (.ref pt), some (.int (k : Nat)), none, none, none] ∧ Same H2 H' ∧ GrD K H' pt (told.map dTrow) ∧ told.length ≤ 80 ∧ k ≤ ws.length ∧ mm + k = ws.length + 1 ∧ tiesW ws mm k told = tiesW ws ws.length 1 [], ⟨ws.length, 1, [], rfl, st, GrD.new, by simp, by omega, by omega, rfl⟩, ?_⟩
  rintro mm σ H3 ⟨k, told, rfl, s3, hG, htl, hkw, hmk, hrun⟩
  have l3 := s3 _ _ l2
  have l3s := SqL.of (K := K) l3
  obtain ⟨xs, hxs, hxd⟩ := id hG
  have hxl : xs.length = told.length := by have := GrD.len hxd; simpa using this
  have hwk := hwl k
  have s03 := s12.trans s3
  have hfin : ∀ a, tiesW ws ws.length 1 [] = .inl a → XB K C_BadText E H (a : Nat) := fun a ha => by
    refine qe a ?_
    rw [hr]
    show (match tiesW ws ws.length 1 [] with
      | .inl a => Sum.inl a
      | .inr (k, told) => match turnsW ws m 0 k [] with
        | .inl a => .inl a
        | .inr (k2, T) => if k2 + 1 = ws.length ∧ ws.getD k2 [] = [] then .inr (m, told, T) else .inl (k2 + 1)) = _
    rw [ha]
  obtain ⟨mm, rfl⟩ : ∃ n, mm = n + 1 := ⟨mm - 1, by omega⟩
  have hstep : tiesW ws (mm + 1) k told = if ws.length ≤ k + 1 then .inl ws.length else if isTie (ws.getD k []) = true then
      (if told.length = 80 then .inl (k + 1) else match tieM (ws.getD k []) with
        | none => .inl (k + 1)
        | some t => tiesW ws mm (k + 1) (told ++ [t])) else .inr (k, told) := rfl
  rw [hrun] at hstep
  walk_at "sts"
  refine w_m1 ?_
  walk_at "sts"
  refine ⟨p1, k, ws, rfl, l3s, fun h1 => ?_, fun h1 => (hfin ws.length (by rw [hstep, if_pos h1])).same s03⟩
  rw [if_neg (by omega)] at hstep
  have ai := sv_at (ws := ws) (i := k) (by omega)
  generalize hrow : ws.getD k [] = rw_ at *
  refine w_isS ?_
  walk_at "sts"
  rw [tL_lit]
  refine w_split (by decide) (by decide) (by rw [sizeLine_eq]; omega) fun p4 n4 => ?_
  rw [show tL " " = [32] from rfl, spl_hd rw_]
  have s4 := same_upd (o := .lst (sv (hdW rw_ :: tlW rw_))) n4
  have l4 : upd H3 p4 (.lst (sv (hdW rw_ :: tlW rw_))) p4 = some (.lst (sv (hdW rw_ :: tlW rw_))) := upd_same
  generalize upd H3 p4 (.lst (sv (hdW rw_ :: tlW rw_))) = H4 at s4 l4 ⊢
  have l4s := SqL.of (K := K) l4
  have a0 : atI (sv (hdW rw_ :: tlW rw_)) 0 = some (.str (tS (hdW rw_))) := atI_nat (j := 0) rfl
  walk_at "sts"
  refine w_new fun p5 n5 => ?_
  rw [tL_lit, tL_lit]
  have s5 := same_upd (o := .tup [V.str (tS (tL "pull")), V.str (tS (tL "push"))]) n5
  have l5 : upd H4 p5 (.tup [V.str (tS (tL "pull")), V.str (tS (tL "push"))]) p5 = some (.tup [V.str (tS (tL "pull")), V.str (tS (tL "push"))]) := upd_same
  generalize upd H4 p5 (.tup [V.str (tS (tL "pull")), V.str (tS (tL "push"))]) = H5 at s5 l5 ⊢
  refine w_inSV (ws := [tL "pull", tL "push"]) (SqT.of l5) ?_
  rw [isTie_dec]
  refine ⟨_, rfl, ?_⟩
  have s35 := s4.trans s5
  have hxs5 := s35 _ _ hxs
  have l15 := s35 _ _ l3
  have l15s := SqL.of (K := K) l15
  have hxs5s := SqL.of (K := K) hxs5
  refine ifb (fun hc => w_wt ?_) (fun hc => ?_)
  · rw [hc, if_pos rfl] at hstep
    walk_at "sts"
    rw [hxl]
    refine ifd (fun h2 => ?_) (fun h2 => ?_)
    · walk_at "sts"
      rw [show ((k : Int) + 1) = ((k + 1 : Nat) : Int) by omega]
      refine w_raiseK T.ox_BadText T.na_BadText fun d nd => (hfin (k + 1) (by rw [hstep, if_pos (by omega)])) d H5 (s03.trans s35) nd
    rw [if_neg (by omega)] at hstep
    walk_at "sts"
    rw [show ((k : Int) + 1) = ((k + 1 : Nat) : Int) by omega]
    refine ⟨rw_, _, rfl, hwk, fun t ht p6 H6 s6 n6 l6 => ?_, fun ht d H' s6 nd => hfin (k + 1) (by rw [hstep, ht]) d H' (s03.trans (s35.trans s6)) nd⟩
    rw [ht] at hstep
    have hxs6 := s6 _ _ hxs5
    have hsz2 : xs.length < sizeLine := szlt (by omega)
    have nt6 : pt ≠ p6 := ne_new hxs5 n6
    walk_at "sts"
    refine ⟨mm, by omega, k + 1, told ++ [t], rfl, (s3.trans (s35.trans s6)).mut nt, ?_, by rw [List.length_append, List.length_singleton]; omega, by omega, by omega, hstep.symm⟩
    rw [List.map_append]
    exact GrD.push hxd (s35.trans s6) (dpTrow (SqT.of (wo_get l6 (Ne.symm nt6))))
  · rw [hc, if_neg (by decide)] at hstep
    rw [hstep] at hr
    have hr : readL ws = match turnsW ws m 0 k [] with
        | .inl a => .inl a
        | .inr (k2, T) => if k2 + 1 = ws.length ∧ ws.getD k2 [] = [] then .inr (m, told, T) else .inl (k2 + 1) := hr
    have s05 := s03.trans s35
    have hG5 := hG.same s35
    have hD5 := hxd.same (wo_mono s35)
    walk_at "sts"
    refine w_new fun pu nu => ?_
    have su := same_upd (o := .lst []) nu
    walk_at "sts"
    refine for_r0 (n := m) rfl (fun i σ H' => ∃ (T : List (List Nat)) (y7 : Option V), σ = [some (.str (tS text)), some (.ref p1), some (.int (m : Nat)), some (.ref pt), some (.int ((k + i : Nat) : Int)), some (.ref pu), y7, none] ∧ Same H5 H' ∧ GrD K H' pu (T.map dRow) ∧ T.length = i ∧ turnsW ws (m - i) i (k + i) T = turnsW ws m 0 k []) ?_ ?_ ?_
    · exact ⟨[], _, rfl, su, GrD.new, rfl, rfl⟩
    · rintro i σ H6 hi ⟨T', y7, rfl, s6, hT, hTl, hrT⟩
      obtain ⟨ys, hys, hyd⟩ := id hT
      have hyl : ys.length = T'.length := by have := GrD.len hyd; simpa using this
      have l16 := SqL.of (K := K) (s6 _ _ l15)
      have hwk2 := hwl (k + i)
      obtain ⟨n, hn⟩ : ∃ n, m - i = n + 1 := ⟨m - i - 1, by omega⟩
      rw [hn] at hrT
      have hst : turnsW ws (n + 1) i (k + i) T' = if ws.length ≤ k + i + 1 then .inl ws.length else match turnsM (ws.getD (k + i) []) i with
          | none => .inl (k + i + 1)
          | some r => turnsW ws n (i + 1) (k + i + 1) (T' ++ [r]) := rfl
      rw [hrT] at hst
      have hfin2 : ∀ a, turnsW ws m 0 k [] = .inl a → XB K C_BadText E H (a : Nat) := fun a ha => qe a (by rw [hr, ha])
      walk_at "sts"
      refine ⟨p1, k + i, ws, rfl, l16, fun h3 => ?_, fun h3 => (hfin2 ws.length (by rw [hst, if_pos h3])).same (s05.trans s6)⟩
      rw [if_neg (by omega)] at hst
      walk_at "sts"
      rw [show (((k + i : Nat) : Int) + 1) = ((k + i + 1 : Nat) : Int) by omega]
      refine ⟨ws.getD (k + i) [], i, _, rfl, hwk2, fun r hrr hrl q H7 s7 n7 l7 => ?_, fun hrr d H' s7 nd => hfin2 (k + i + 1) (by rw [hst, hrr]) d H' (s05.trans (s6.trans s7)) nd⟩
      rw [hrr] at hst
      have hys7 := s7 _ _ hys
      have hsz2 : ys.length < sizeLine := szlt (by omega)
      have nu7 : pu ≠ q := ne_new hys n7
      walk_at "sts"
      refine ⟨T' ++ [r], _, rfl, (s6.trans s7).mut nu, ?_, by rw [List.length_append, hTl]; rfl, ?_⟩
      · rw [List.map_append]
        exact GrD.push hyd s7 (dpRow (SqL.of (wo_get l7 (Ne.symm nu7))))
      · rw [show m - (i + 1) = n by omega]
        exact hst.symm
    rintro σ H6 ⟨T', y7, rfl, s6, hT, hTl, hrT⟩
    rw [Nat.sub_self] at hrT
    have hrT2 : turnsW ws m 0 k [] = .inr (k + m, T') := hrT.symm
    rw [hrT2] at hr
    have hr : readL ws = if k + m + 1 = ws.length ∧ ws.getD (k + m) [] = [] then .inr (m, told, T') else .inl (k + m + 1) := hr
    have s06 := s05.trans s6
    have l16 := SqL.of (K := K) (s6 _ _ l15)
    walk_at "sts"
    rw [hsl]
    refine ifnd (fun h3 => ?_) (fun h3 => ?_)
    · walk_at "sts"
      rw [show (((k + m : Nat) : Int) + 1) = ((k + m + 1 : Nat) : Int) by omega]
      exact w_raiseK T.ox_BadText T.na_BadText fun d nd => qe (k + m + 1) (by rw [hr, if_neg (fun z => h3 (by omega))]) d H6 s06 nd
    have ai2 := sv_at (ws := ws) (i := k + m) (by omega)
    walk_at "sts"
    rw [dec_lit]
    refine ifnd (fun h4 => ?_) (fun h4 => ?_)
    · walk_at "sts"
      rw [show (((k + m : Nat) : Int) + 1) = ((k + m + 1 : Nat) : Int) by omega]
      exact w_raiseK T.ox_BadText T.na_BadText fun d nd => qe (k + m + 1) (by rw [hr, if_neg (fun z => h4 z.2)]) d H6 s06 nd
    have h4' : ws.getD (k + m) [] = [] := h4
    obtain ⟨hne0, hm1, _, says⟩ := q m told T' (by rw [hr, if_pos ⟨by omega, h4'⟩])
    have hD6 : DpAll K H6 xs (told.map dTrow) := (hD5.same wo_same).same s6
    have hxs6 := s6 _ _ hxs5
    walk_at "sts"
    intro D nD
    refine lc_list (K := K) (xs := xs) (fun i H' => ∃ ps : List Addr, H' D = some (.lst (ps.map V.ref)) ∧ TiesIn C_Pull C_Push H' ps ((told.take i).map tiR) ∧ Same H6 H') ?_ ?_ ?_ ?_
    · exact ⟨[], upd_same, TiesIn.nil, same_upd nD⟩
    · rintro i H' _ ⟨_, _, _, s7⟩
      exact SqL.of (s7 _ _ hxs6)
    · rintro i x H' hx ⟨ps, l7, t7, s7⟩
      have hi : i < told.length := by rw [← hxl]; exact (List.getElem?_eq_some_iff.mp hx).1
      have htg : told[i]? = some told[i] := List.getElem?_eq_getElem hi
      have ht := hne0 told[i] (List.getElem_mem hi)
      have et : told.take (i + 1) = told.take i ++ [told[i]] := by rw [List.take_add_one, htg]; rfl
      generalize told[i] = t at *
      obtain ⟨v, e1, e2⟩ := dpaGet (i := i) (d := dTrow t) hD6 (by rw [List.getElem?_map, htg]; rfl)
      rw [hx] at e1
      cases e1
      obtain ⟨pq, rfl, hpq⟩ := dpTrowAt e2
      have hpl : ps.length ≤ 80 := by have := t7.1; rw [List.length_map, List.length_take] at this; omega
      walk_at "sts"
      refine ⟨pq, t, rfl, same_read s7 hpq, ht, fun x H8 s8 n8 t8 => ?_⟩
      have l8 := s8 _ _ l7
      refine ⟨_, l8, szlt (by rw [List.length_map]; omega), ps ++ [x], ?_, ?_, (s7.trans s8).mut nD⟩
      · rw [upd_same, List.map_append]; rfl
      · rw [et, List.map_append]
        exact ((t7.same s8).push t8).lst l8
    rintro H7 ⟨ps, l7, t7, s7⟩
    rw [hxl, List.take_length] at t7
    have hT7 := hT.same s7
    walk_at "sts"
    intro x dx nx nd hxd
    have sm : Same H7 (upd (upd H7 dx (.own x)) x (.ins C_Web dx [])) := made_same nx nd hxd
    have sw : Same H7 (wo (upd (upd H7 dx (.own x)) x (.ins C_Web dx [])) x) := same_wo sm nx
    refine ⟨x, dx, D, pu, told.map tiR, m, T'.map castI, rfl, upd_same, ⟨ps, SqL.of (sw _ _ l7), t7.same sw⟩, by rw [dRowsI_cast]; exact hT7.dp.same sw, fun i hi => ?_, by omega, by rw [List.length_map]; omega, by omega, says.imp (fun e H' s8 => e H' ?_) (fun e H' s8 => e H' ?_) (fun e H' s8 => e H' ?_) (fun e H' s8 => e H' ?_) fun T2 _ q H' R s8 w1 w2 => ?_⟩
    · rw [List.length_map] at hi
      have hte : ti (told.map tiR) i = tiR told[i] := by unfold ti; rw [List.getD_eq_getElem?_getD, List.getElem?_map, List.getElem?_eq_getElem hi]; rfl
      rw [hte]
      exact hne0 _ (List.getElem_mem hi)
    · exact s06.trans (s7.trans (sm.trans s8))
    · exact s06.trans (s7.trans (sm.trans s8))
    · exact s06.trans (s7.trans (sm.trans s8))
    · exact s06.trans (s7.trans (sm.trans s8))
    · refine ⟨rfl, ?_⟩
      walk_at "sts"
      exact q x H' R (s06.trans (s7.trans (sw.trans s8))) (nx.of (s06.trans s7)) w1 w2
end

open TL
section
variable {P : Program} {w : World} {K : PySem.W.Frag} {mg : Str → Option Value} {base : Heap} {C_Pull C_Push C_Web C_Desk C_BadTie C_BadTurns C_Parted C_NotFlat C_BadText C_BadDeed C_FloorError : Addr}
theorem tieRow_len {t : Ti} (h1 : t.one < 40) (h2 : t.two < 40) (h3 : t.s ≤ 10 ^ 30) : (tieRow t).length ≤ 200 := by
  have := rowB_len (h := kindW t.push) (ns := [t.one, t.two, t.s]) (k := 31) (by decide) fun m hm => by
    have hm : m = t.one ∨ m = t.two ∨ m = t.s := by simpa using hm
    rcases hm with rfl | rfl | rfl
    · exact Nat.lt_trans h1 (by decide)
    · exact Nat.lt_trans h2 (by decide)
    · exact Nat.lt_of_le_of_lt h3 (by decide)
  have e : (kindW t.push).length = 4 := by cases t.push <;> decide
  rw [e] at this
  exact Nat.le_trans this (by simp)
theorem aboutRow_len {T : Turns} {p : Nat} (hp : p < 40) (h : ∀ n ∈ row T p, n < 80) (hl : (row T p).length ≤ 80) : (aboutRow T p).length ≤ 400 := by
  have := rowB_len (h := tL "about") (ns := p :: row T p) (k := 2) (by decide) fun m hm => by
    rcases List.mem_cons.mp hm with rfl | hm
    · show _ < 100; omega
    · have := h m hm; show _ < 100; omega
  have e : (tL "about").length = 5 := by decide
  rw [e, List.length_cons] at this
  exact Nat.le_trans this (by omega)
/-- the rows joined, and the last one ended -/
theorem endL_join2 {rs : List (List Nat)} (h : rs ≠ []) : joinL [10] rs ++ [10] = endL rs := by
  cases rs with
  | nil => exact absurd rfl h
  | cons r s =>
    rw [endL_join]
    rw [joinL_cons, List.cons_append, joinL_cons, List.map_append, List.flatten_append]
    simp
theorem kind_at (b : Bool) : atI [V.str (tS (tL "pull")), V.str (tS (tL "push"))] (if b = true then 1 else 0) = some (.str (tS (kindW b))) := by
  cases b
  · exact atI_nat (j := 0) rfl
  · exact atI_nat (j := 1) rfl
def rowsAt (ts : List Ti) (T : Turns) (n k : Nat) : List (List Nat) := headRow T.length :: ((ts.take n).map tieRow ++ (List.range k).map (aboutRow T))
theorem rowsAt_len (ts : List Ti) (T : Turns) (n k : Nat) : (rowsAt ts T n k).length ≤ 1 + n + k := by
  unfold rowsAt
  rw [List.length_cons, List.length_append, List.length_map, List.length_map, List.length_range, List.length_take]
  omega
def spWebText (K : PySem.W.Frag) : Sp := fun vs H Q _ => ∃ (a : Addr) (ts : List Ti) (T : Turns), vs = [.ref a] ∧ BuiltAt K H a ts T ∧ TextOk ts T ∧ (∀ p, (row T p).length ≤ 80) ∧ ∀ H', Same H H' → Q (.str (tS (webText ts T))) H'
theorem ok_law_web_text {f : Addr} {fd : FuncData} (F : Fun K "_law_web_text" "_law_web_text" s_law_web_text f fd) (gf : mg "_law_web_text" = some (.ref f)) (B : Bl mg) {C_Pull C_Push C_Web C_Desk C_BadTie C_BadTurns C_Parted C_NotFlat C_BadText C_BadDeed C_FloorError : Addr} (T : Txt K mg C_Pull C_Push C_Web C_Desk C_BadTie C_BadTurns C_Parted C_NotFlat C_BadText C_BadDeed C_FloorError) : Has P w K mg base CX0 1 "_law_web_text" ["built"] (spWebText K) := by
  refine Has.mk' F gf (F.binds (ps := ["built"]) fun _ _ _ _ _ _ us hl => match us, hl with | [_], _ => rfl) sc_law_web_text (by walk_at "len") (fun cdv A outer s H vs Q E hr h => ?_)
  obtain ⟨a, ts, Tu, rfl, hB, hok, hrl, q⟩ := h
  obtain ⟨e, t, d, hA, hE, hTu, hD⟩ := id hB
  obtain ⟨es, he, hEs⟩ := dpLstA hE
  obtain ⟨ds, hd, hDs⟩ := dpLstA hD
  obtain ⟨us, hu, hus⟩ := dpLstA hTu
  have hel : es.length = ts.length := by have := dpaLen hEs; rw [List.length_map, endsOf_len] at this; exact this
  have hul : us.length = Tu.length := by have := dpaLen hus; simpa using this
  have h40 := hok.most
  have h80 := hok.ties
  have htxt := webText_len hok hrl
  refine ⟨_, (pss_cons (ps_set (i := 1) sc_law_web_text.nd rfl (.inl rfl) (pe_lst (pa_cons (pe_op op_add_str pe_str (pe_callTy call_str_int (by rfl) B.str (by decide +kernel) (pa_cons (pe_callB (call_lenK K) (by rfl) B.len (by decide +kernel) (pa_cons (pe_ix (ix_tupK K) (pv 0) pe_int (fun _ _ => rfl)) pa_nil)) pa_nil))) pa_nil)))
 (pss_cons (ps_for PassesOwn.never rfl (pi_range1 (by rfl) B.range (pa_cons (pe_callB (call_lenK K) (by rfl) B.len (by decide +kernel) (pa_cons (pe_ix (ix_tupK K) (pv 0) pe_int (fun _ _ => rfl)) pa_nil)) pa_nil)) (pg_name (i := 2) sc_law_web_text.nd rfl (.inl rfl)) (pss_cons (ps_set (i := 3) sc_law_web_text.nd rfl (.inl rfl) (pe_ix (ix_listK K) (pe_lst (pa_cons pe_str (pa_cons pe_str pa_nil))) (pe_ix (ix_tupK K) (pe_ix (ix_listK K) (pe_ix (ix_tupK K) (pv 0) pe_int (fun _ _ => rfl)) (pv 2) (fun _ _ => rfl)) pe_int (fun _ _ => rfl)) (fun _ _ => rfl)))
 (pss_one (ps_expr (pe_bmK K (pe_bm PySem.F.plainAttrs_list PySem.F.slot_list_append PySem.F.type_list_append mt_append (pv 1) (pa_cons (pe_joinK K pe_str (pe_lst (pa_cons (pv 3) (pa_cons (pe_callTy call_str_int (by rfl) B.str (by decide +kernel) (pa_cons (pe_ix (ix_tupK K) (pe_ix (ix_listK K) (pe_ix (ix_tupK K) (pv 0) pe_int (fun _ _ => rfl)) (pv 2) (fun _ _ => rfl)) pe_int (fun _ _ => rfl)) pa_nil)) (pa_cons (pe_callTy call_str_int (by rfl) B.str (by decide +kernel) (pa_cons (pe_ix (ix_tupK K) (pe_ix (ix_listK K) (pe_ix (ix_tupK K) (pv 0) pe_int (fun _ _ => rfl)) (pv 2) (fun _ _ => rfl)) pe_int (fun _ _ => rfl)) pa_nil)) (pa_cons (pe_callTy call_str_int (by rfl) B.str (by decide +kernel) (pa_cons (pe_ix (ix_tupK K) (pe_ix (ix_listK K) (pe_ix (ix_tupK K) (pv 0) pe_int (fun _ _ => rfl)) (pv 2) (fun _ _ => rfl)) pe_int (fun _ _ => rfl)) pa_nil)) pa_nil)))))) pa_nil)))))))
 (pss_cons (ps_for PassesOwn.never rfl (pi_range1 (by rfl) B.range (pa_cons (pe_callB (call_lenK K) (by rfl) B.len (by decide +kernel) (pa_cons (pe_ix (ix_tupK K) (pv 0) pe_int (fun _ _ => rfl)) pa_nil)) pa_nil)) (pg_name (i := 4) sc_law_web_text.nd rfl (.inl rfl)) (pss_one (ps_expr (pe_bmK K (pe_bm PySem.F.plainAttrs_list PySem.F.slot_list_append PySem.F.type_list_append mt_append (pv 1) (pa_cons (pe_joinK K pe_str (pe_op op_catE (pe_lst (pa_cons pe_str (pa_cons (pe_callTy call_str_int (by rfl) B.str (by decide +kernel) (pa_cons (pv 4) pa_nil)) pa_nil))) (pe_lc (own := [("k", 2)]) rfl sc_law_web_text.nd (pi_listK K (pe_ix (ix_listK K) (pe_ix (ix_tupK K) (pv 0) pe_int (fun _ _ => rfl)) (pv 4) (fun _ _ => rfl))) (blkOk_by (own := [("k", 2)]) (N := ["built", "rows", "k", "word", "place"]) (sc := defScope s_law_web_text) (by decide +kernel)) (fun _ _ _ _ _ => pg_name (i := 2) sc_law_web_text.nd rfl (Or.inl rfl)) (fun _ _ _ _ _ => pts_nil) (fun _ _ _ _ _ => (pe_callTy call_str_int (by rfl) B.str (by decide +kernel) (pa_cons (pv 2) pa_nil)))))) pa_nil))))))
 (pss_one (ps_ret (pe_op op_add_str (pe_joinK K pe_str (pv 1)) pe_str)))))), ?_⟩
  walk_at "sts"
  rw [hul]
  rw [tL_lit]
  refine ⟨log2_small (Nat.lt_of_le_of_lt h40 (by decide +kernel)), ?_⟩
  rw [tS_num]
  have hnl := numL_len (n := Tu.length) (k := 31) (by decide) (Nat.lt_of_le_of_lt h40 (by decide))
  have lpl : (tL "places ").length = 7 := by decide
  refine w_2s ⟨by rw [tS_len, tS_len, sizeLine_eq]; omega, ?_⟩
  have e0 : tL "places " ++ numL Tu.length = headRow Tu.length := by
    have : tL "places " = tL "places" ++ [32] := by decide
    rw [this]
    unfold headRow rowB
    simp
  rw [tS_app, e0]
  walk_at "sts"
  refine w_new fun D nD => ?_
  walk_at "sts"
  refine for_r0 (n := ts.length) ?_ (fun i σ H' => ∃ (y2 y3 y4 : Option V), σ = [some (.ref a), some (.ref D), y2, y3, y4] ∧ Same H H' ∧ H' D = some (.lst (sv (rowsAt ts Tu i 0)))) ?_ ?_ ?_
  · rw [hel]
  · exact ⟨_, _, _, rfl, same_upd nD, by rw [upd_same]; rfl⟩
  · rintro i σ H1 hi ⟨y2, y3, y4, rfl, s1, lD⟩
    obtain ⟨p0, b1, b2⟩ := dpEndsAt hEs (show i < (endsOf ts).length by rw [endsOf_len]; exact hi)
    obtain ⟨p1, b3, b4⟩ := toldAt hDs hi
    rw [en_ti hi] at b2
    have hm : ti ts i ∈ ts := List.mem_of_getElem? (ti_at hi)
    obtain ⟨e1, e2⟩ := hok.ends _ hm
    have e3 := hok.str _ hm
    have etk : ts.take (i + 1) = ts.take i ++ [ti ts i] := by rw [List.take_add_one, ti_at hi]; rfl
    generalize ti ts i = t at b2 b4 e1 e2 e3 etk
    have hA1 := same_read s1 hA
    have he1 := s1.seq he
    have hd1 := s1.seq hd
    have b21 := same_read s1 b2
    have b41 := same_read s1 b4
    have hka := kind_at t.push
    have hrl := rowsAt_len ts Tu i 0
    have htr := tieRow_len e1 e2 e3
    have hrs : rowsAt ts Tu (i + 1) 0 = rowsAt ts Tu i 0 ++ [tieRow t] := by unfold rowsAt; rw [etk, List.map_append]; simp
    walk_at "sts"
    refine w_new fun p2 n2 => ?_
    rw [tL_lit, tL_lit]
    have s2 := same_upd (o := .lst [V.str (tS (tL "pull")), V.str (tS (tL "push"))]) n2
    have l2 : upd H1 p2 (.lst [V.str (tS (tL "pull")), V.str (tS (tL "push"))]) p2 = some (.lst [V.str (tS (tL "pull")), V.str (tS (tL "push"))]) := upd_same
    generalize upd H1 p2 (.lst [V.str (tS (tL "pull")), V.str (tS (tL "push"))]) = H2 at s2 l2 ⊢
    have l2s := SqL.of (K := K) l2
    have hA2 := same_read s2 hA1
    have he2 := s2.seq he1
    have hd2 := s2.seq hd1
    have b22 := same_read s2 b21
    have b42 := same_read s2 b41
    have lD2 := s2 _ _ lD
    walk_at "sts"
    refine w_m1 (w_cS ?_)
    refine w_isS ?_
    walk_at "sts"
    refine ⟨log2_small (Nat.lt_trans e1 (by decide +kernel)), ?_⟩
    rw [tS_num]
    walk_at "sts"
    refine ⟨log2_small (Nat.lt_trans e2 (by decide +kernel)), ?_⟩
    rw [tS_num]
    walk_at "sts"
    refine ⟨log2_small (Nat.lt_of_le_of_lt e3 (by decide +kernel)), ?_⟩
    rw [tS_num]
    walk_at "sts"
    refine w_new fun p3 n3 => ?_
    refine w_join (a := tL " ") (ws := kindW t.push :: [t.one, t.two, t.s].map numL) (SqL.of (by rw [upd_same]; rfl)) ?_ ?_
    · have h1 := joinL_sum (tL " ") (kindW t.push) ([t.one, t.two, t.s].map numL)
      rw [show tL " " = [32] from rfl, rowB_join] at h1
      rw [show (tL " ").length = 1 from rfl, List.length_cons, List.length_map]
      rw [List.length_map, show ([32] : List Nat).length = 1 from rfl] at h1
      unfold tieRow at htr
      omega
    rw [show tL " " = [32] from rfl, rowB_join]
    have s3 := same_upd (o := .lst [V.str (tS (kindW t.push)), V.str (tS (numL t.one)), V.str (tS (numL t.two)), V.str (tS (numL t.s))]) n3
    have lD3 := s3 _ _ lD2
    have hsz : (sv (rowsAt ts Tu i 0)).length < sizeLine := szlt (by rw [sv_len]; omega)
    generalize upd H2 p3 _ = H3 at s3 lD3 ⊢
    walk_at "sts"
    refine ⟨_, _, _, rfl, (s1.trans (s2.trans s3)).mut nD, ?_⟩
    rw [upd_same, hrs, sv_app]
    rfl
  rintro σ H1 ⟨y2, y3, y4, rfl, s1, lD⟩
  have hA1 := same_read s1 hA
  have hu1 := s1.seq hu
  walk_at "sts"
  refine for_r0 (n := Tu.length) ?_ (fun i σ H' => ∃ (y2 y3 y4 : Option V), σ = [some (.ref a), some (.ref D), y2, y3, y4] ∧ Same H H' ∧ H' D = some (.lst (sv (rowsAt ts Tu ts.length i)))) ?_ ?_ ?_
  · rw [hul]
  · exact ⟨_, _, _, rfl, s1, lD⟩
  · rintro i σ H2 hi ⟨y2, y3, y4, rfl, s2, lD⟩
    obtain ⟨pr, b1, b2⟩ := dpRowsAt hus hi
    have b3 := s2.seq b2
    have hA2 := same_read s2 hA
    have hu2 := s2.seq hu
    have hi40 : i < 40 := by omega
    have hrl2 := rowsAt_len ts Tu ts.length i
    have hab := aboutRow_len hi40 (hok.turns i) (hrl i)
    have hrr := hrl i
    have hrs : rowsAt ts Tu ts.length (i + 1) = rowsAt ts Tu ts.length i ++ [aboutRow Tu i] := by unfold rowsAt; rw [List.range_succ, List.map_append, ← List.append_assoc]; rfl
    walk_at "sts"
    refine w_m1 (w_cS ?_)
    refine w_isS ?_
    walk_at "sts"
    rw [tL_lit]
    walk_at "sts"
    refine ⟨log2_small (Nat.lt_trans hi40 (by decide +kernel)), ?_⟩
    rw [tS_num]
    walk_at "sts"
    refine w_new fun p3 n3 => ?_
    have s3 := same_upd (o := .lst [V.str (tS (tL "about")), V.str (tS (numL i))]) n3
    have l3 : upd H2 p3 (.lst [V.str (tS (tL "about")), V.str (tS (numL i))]) p3 = some (.lst [V.str (tS (tL "about")), V.str (tS (numL i))]) := upd_same
    have lD3 := s3 _ _ lD
    generalize upd H2 p3 (.lst [V.str (tS (tL "about")), V.str (tS (numL i))]) = H3 at s3 l3 lD3 ⊢
    have b4 := s3.seq b3
    have hA3 := same_read s3 hA2
    have hu3 := s3.seq hu2
    walk_at "sts"
    intro E nE
    refine lc_list (K := K) (xs := iv (row Tu i)) (fun j H' => H' E = some (.lst (sv (((row Tu i).take j).map numL))) ∧ Same H3 H') ?_ ?_ ?_ ?_
    · exact ⟨upd_same, same_upd nE⟩
    · rintro j H' _ ⟨_, s4⟩
      exact s4.seq b4
    · rintro j x H' hx ⟨l4, s4⟩
      have hj : j < (row Tu i).length := by
        have := (List.getElem?_eq_some_iff.mp hx).1
        rwa [iv_len] at this
      rw [iv_at hj] at hx
      injection hx with hx
      subst hx
      have hlt := hok.turns i ((row Tu i).getD j 0) (by rw [List.getD_eq_getElem?_getD, List.getElem?_eq_getElem hj]; exact List.getElem_mem hj)
      walk_at "sts"
      refine ⟨log2_small (Nat.lt_trans hlt (by decide +kernel)), ?_⟩
      rw [tS_num]
      refine ⟨_, l4, szlt (by rw [sv_len, List.length_map, List.length_take]; omega), ?_, s4.mut nE⟩
      rw [upd_same, take_snoc hj, List.map_append, sv_app]
      rfl
    rintro H4 ⟨l4, s4⟩
    rw [iv_len, List.take_length] at l4
    have l34 := s4 _ _ l3
    have lD4 := s4 _ _ lD3
    refine w_catE (LsE.of l34) (LsE.of l4) (by rw [sv_len, List.length_map, sizeLine_eq]; show 2 + _ ≤ _; omega) fun p5 n5 => ?_
    refine w_join (a := tL " ") (ws := tL "about" :: (i :: row Tu i).map numL) (SqL.of (by rw [upd_same]; rfl)) ?_ ?_
    · have h1 := joinL_sum (tL " ") (tL "about") ((i :: row Tu i).map numL)
      rw [show tL " " = [32] from rfl, rowB_join] at h1
      rw [show (tL " ").length = 1 from rfl, List.length_cons, List.length_map, List.length_cons]
      rw [List.length_map, List.length_cons, show ([32] : List Nat).length = 1 from rfl] at h1
      unfold aboutRow at hab
      omega
    rw [show tL " " = [32] from rfl, rowB_join]
    have s5 := same_upd (o := .lst ([V.str (tS (tL "about")), V.str (tS (numL i))] ++ sv ((row Tu i).map numL))) n5
    have lD5 := s5 _ _ lD4
    generalize upd H4 p5 _ = H5 at s5 lD5 ⊢
    have hsz : (sv (rowsAt ts Tu ts.length i)).length < sizeLine := szlt (by rw [sv_len]; omega)
    walk_at "sts"
    refine ⟨_, _, _, rfl, ?_, ?_⟩
    · exact (s2.trans (s3.trans (s4.trans s5))).mut nD
    · rw [upd_same, hrs, sv_app]
      rfl
  rintro σ H2 ⟨y2, y3, y4, rfl, s2, lD⟩
  have hall : rowsAt ts Tu ts.length Tu.length = webRows ts Tu := by unfold rowsAt webRows; rw [List.take_length]
  rw [hall] at lD
  have hne : webRows ts Tu ≠ [] := by unfold webRows; simp
  have he2 := endL_join2 hne
  have hjl : (joinL [10] (webRows ts Tu)).length ≤ 70000 := by
    have : (joinL [10] (webRows ts Tu)).length + 1 = (webText ts Tu).length := by unfold webText; rw [← he2, List.length_append]; rfl
    omega
  walk_at "sts"
  refine w_m1 (w_cS ?_)
  refine w_isS ?_
  walk_at "sts"
  refine w_join (a := tL "\n") (ws := webRows ts Tu) (SqL.of lD) ?_ ?_
  · have h1 := joinL_sum (tL "\n") (headRow Tu.length) (ts.map tieRow ++ (List.range Tu.length).map (aboutRow Tu))
    have h2 : headRow Tu.length :: (ts.map tieRow ++ (List.range Tu.length).map (aboutRow Tu)) = webRows ts Tu := rfl
    rw [h2, show tL "\n" = [10] from rfl] at h1
    rw [show (tL "\n").length = 1 from rfl, ← h2, List.length_cons]
    rw [h2]
    rw [show ([10] : List Nat).length = 1 from rfl] at h1
    omega
  rw [show tL "\n" = [10] from rfl]
  walk_at "sts"
  rw [tL_lit]
  refine w_addS (by rw [show (tL "\n").length = 1 from rfl, sizeLine_eq]; omega) ?_
  rw [show tL "\n" = [10] from rfl, he2]
  walk_at "sts"
  exact q _ s2
end

open TL
theorem row_out {T : Turns} {p : Nat} (h : T.length ≤ p) : row T p = [] := by unfold row; rw [List.getD_eq_getElem?_getD, List.getElem?_eq_none h]; rfl
theorem Built.text {ts : List Ti} {T : Turns} {m : Nat} (h : Built ts T m) (hm : m ≤ 39) : TextOk ts T := by
  have ok := h.flat.ok
  have h1 := h.le
  have h2 := h.tl
  refine ⟨h.tp, by omega, by omega, fun t ht => ?_, fun t ht => ?_, fun p n hn => ?_⟩
  · obtain ⟨i, hi, rfl⟩ := List.mem_iff_getElem.mp ht
    have := ok.ends i (by rw [endsOf_len]; exact hi)
    rw [en_ti hi] at this
    have e : ti ts i = ts[i] := by unfold ti; rw [List.getD_eq_getElem?_getD, List.getElem?_eq_getElem hi]; rfl
    rw [e] at this
    omega
  · obtain ⟨i, hi, rfl⟩ := List.mem_iff_getElem.mp ht
    have := h.s i
    have e : ti ts i = ts[i] := by unfold ti; rw [List.getD_eq_getElem?_getD, List.getElem?_eq_getElem hi]; rfl
    rw [e] at this
    exact this
  · by_cases hp : p < T.length
    · have := (ok.mem p hp n).mp hn
      rw [endsOf_len] at this
      omega
    · rw [row_out (by omega)] at hn
      exact absurd hn List.not_mem_nil
theorem Built.rowle {ts : List Ti} {T : Turns} {m : Nat} (h : Built ts T m) (hm : m ≤ 80) (p : Nat) : (row T p).length ≤ 80 := by
  have ok := h.flat.ok
  have h1 := h.le
  by_cases hp : p < T.length
  · have := nodup_sub_len (ys := List.range ts.length) (ok.nd p hp) fun x hx => List.mem_range.mpr (by have := (ok.mem p hp x).mp hx; rw [endsOf_len] at this; exact this.1)
    rw [List.length_range] at this
    omega
  · rw [row_out (by omega)]
    exact Nat.zero_le _
theorem turnsW_short (ws : List (List Nat)) (T : Turns) (hb : ∀ p, ∀ n ∈ row T p, n < 80) : ∀ (n p k : Nat) (acc : List (List Nat)), p + n ≤ 40 → 0 < n → (∀ i, i < n → ws.getD (k + i) [] = aboutRow T (p + i)) → k + n = ws.length → turnsW ws n p k acc = .inl ws.length
  | 0, p, k, acc, _, h, _, _ => absurd h (by omega)
  | n + 1, p, k, acc, h40, _, hrow, hl => by
    have h0 := hrow 0 (by omega)
    rw [Nat.add_zero, Nat.add_zero] at h0
    unfold turnsW
    by_cases hn : n = 0
    · rw [if_pos (by omega)]
    · rw [if_neg (by omega), h0, turnsM_row (by omega) (hb p)]
      show turnsW ws n (p + 1) (k + 1) (acc ++ [row T p]) = _
      exact turnsW_short ws T hb n (p + 1) (k + 1) (acc ++ [row T p]) (by omega) (by omega) (fun i hi => by
        have := hrow (i + 1) (by omega)
        rw [show k + 1 + i = k + (i + 1) by omega, show p + 1 + i = p + (i + 1) by omega]
        exact this) (by omega)
/-- the rows without the last end -/
theorem readL_cut {ts : List Ti} {T : Turns} (h : TextOk ts T) : readL (webRows ts T) = .inl (1 + ts.length + T.length) := by
  have h2 := h.two
  have hl := webRows_len ts T
  have h0 : (webRows ts T).getD 0 [] = headRow T.length := rfl
  have ht := tiesW_rows (webRows ts T) ((List.range T.length).map (aboutRow T)) (by
      obtain ⟨n, hn⟩ : ∃ n, T.length = n + 1 := ⟨T.length - 1, by omega⟩
      rw [hn, List.range_succ_eq_map]; exact aboutRow_not T 0) (by simp; omega) ts 1 (webRows ts T).length [] (by
      have := webRows_drop ts T []
      rw [List.append_nil, List.append_nil] at this
      exact this) (by omega) (by rw [List.length_nil, Nat.zero_add]; exact h.ties) fun t ht => ⟨(h.ends t ht).1, (h.ends t ht).2, h.str t ht⟩
  have hu := turnsW_short (webRows ts T) T h.turns T.length 0 (1 + ts.length) [] (by have := h.most; omega) (by omega) (fun i hi => by
    have := webRows_about (ts := ts) (T := T) [] hi
    rw [List.append_nil] at this
    exact this) (by omega)
  unfold readL
  rw [if_neg (by omega), h0, placesM_row h2 h.most]
  show (match tiesW (webRows ts T) (webRows ts T).length 1 [] with
    | .inl a => Sum.inl a
    | .inr (k, told) => match turnsW (webRows ts T) T.length 0 k [] with
      | .inl a => .inl a
      | .inr (k2, T') => if k2 + 1 = (webRows ts T).length ∧ (webRows ts T).getD k2 [] = [] then .inr (T.length, told, T') else .inl (k2 + 1)) = _
  rw [ht]
  show (match turnsW (webRows ts T) T.length 0 (1 + ts.length) [] with
      | .inl a => Sum.inl a
      | .inr (k2, T') => if k2 + 1 = (webRows ts T).length ∧ (webRows ts T).getD k2 [] = [] then .inr (T.length, [] ++ ts.map tR, T') else .inl (k2 + 1)) = _
  rw [hu, hl]
theorem readW_cut {ts : List Ti} {T : Turns} (h : TextOk ts T) : readW (joinL [10] (webRows ts T)) = .inl (1 + ts.length + T.length) := by
  unfold readW
  rw [spl_join (by unfold webRows; simp) fun p hp => webRows_free p hp]
  exact readL_cut h

open TL
section
variable {P : Program} {w : World} {K : PySem.W.Frag} {mg : Str → Option Value} {base : Heap} {C_Pull C_Push C_Web C_Desk C_BadTie C_BadTurns C_Parted C_NotFlat C_BadText C_BadDeed C_FloorError : Addr}
def spWritten (K : PySem.W.Frag) (CP CQ CW : Addr) : Sp := fun vs H Q _ => ∃ (p : Addr) (M : WebM), vs = [.ref p] ∧ WebAt K CP CQ CW H p M ∧ TextOk M.ts M.T ∧ (∀ p, (row M.T p).length ≤ 80) ∧ ∀ H', Same H H' → Q (.str (tS (webText M.ts M.T))) H'
theorem ok_written {f : Addr} {fd : FuncData} (F : Fun K "written" "written" s_written f fd) (gf : mg "written" = some (.ref f)) (B : Bl mg) {C_Pull C_Push C_Web C_Desk C_BadTie C_BadTurns C_Parted C_NotFlat C_BadText C_BadDeed C_FloorError : Addr} (T : Txt K mg C_Pull C_Push C_Web C_Desk C_BadTie C_BadTurns C_Parted C_NotFlat C_BadText C_BadDeed C_FloorError) (h_Pull_wish : HasMeth P w K mg base CX0 1 C_Pull "wish" ["self"] (spWish C_Pull C_Push false)) (h_Push_wish : HasMeth P w K mg base CX0 1 C_Push "wish" ["self"] (spWish C_Pull C_Push true)) : Has P w K mg base CX0 2 "written" ["web"] (spWritten K C_Pull C_Push C_Web) := by
  refine Has.mk' F gf (F.binds (ps := ["web"]) fun _ _ _ _ _ _ us hl => match us, hl with | [_], _ => rfl) sc_written (by walk_at "len") (fun cdv A outer s H vs Q E hr h => ?_)
  obtain ⟨p, M, rfl, hW, hok, hrl, q⟩ := h
  obtain ⟨dx, wa, wb, wc, wd, wxs, hp, ⟨ps, hps, hin⟩, hT, _, _⟩ := id hW.at_
  obtain ⟨ts, Tu, R⟩ := M
  have hps : SqL K H wa (ps.map V.ref) := hps
  have hin : TiesIn C_Pull C_Push H ps ts := hin
  have hT : Dp K H (.ref wb) (dRows Tu) := hT
  have hp : H p = some (.ins C_Web dx (wf (Tu.length : Nat) wa wb wc wd)) := hp
  have hok : TextOk ts Tu := hok
  have hrl : ∀ p, (row Tu p).length ≤ 80 := hrl
  have q : ∀ H', Same H H' → Q (.str (tS (webText ts Tu))) H' := q
  obtain ⟨us, hu, hus⟩ := dpLstA hT
  have hpl : (ps.map V.ref).length = ts.length := by rw [List.length_map]; exact hin.1
  have hul : us.length = Tu.length := by have := dpaLen hus; simpa using this
  have h40 := hok.most
  have h80 := hok.ties
  have htxt := webText_len hok hrl
  refine ⟨_, (pss_cons (ps_set (i := 1) sc_written.nd rfl (.inl rfl) (pe_lst (pa_cons (pe_op op_add_str pe_str (pe_callTy call_str_int (by rfl) B.str (by decide +kernel) (pa_cons (pe_fldK K (pv 0) rfl) pa_nil))) pa_nil)))
 (pss_cons (ps_for PassesOwn.never rfl (pi_listK K (pe_fldK K (pv 0) rfl)) (pg_name (i := 2) sc_written.nd rfl (.inl rfl)) (pss_cutX (ps_set (i := 3) sc_written.nd rfl (.inl rfl) (pe_ifExp (pt_cmpR op_eq (PE.or (pe_mt0 h_Pull_wish (pv 2) (hr.mono (by decide))) (pe_mt0 h_Push_wish (pv 2) (hr.mono (by decide)))) pe_int (nomark _)) pe_str pe_str))
 (pss_one (ps_expr (pe_bmK K (pe_bm PySem.F.plainAttrs_list PySem.F.slot_list_append PySem.F.type_list_append mt_append (pv 1) (pa_cons (pe_joinK K pe_str (pe_lst (pa_cons (pv 3) (pa_cons (pe_callTy call_str_int (by rfl) B.str (by decide +kernel) (pa_cons (pe_fldK K (pv 2) rfl) pa_nil)) (pa_cons (pe_callTy call_str_int (by rfl) B.str (by decide +kernel) (pa_cons (pe_fldK K (pv 2) rfl) pa_nil)) (pa_cons (pe_callTy call_str_int (by rfl) B.str (by decide +kernel) (pa_cons (pe_fldK K (pv 2) rfl) pa_nil)) pa_nil)))))) pa_nil)))))))
 (pss_cons (ps_for PassesOwn.never rfl (pi_enum (by rfl) B.enumerate (pa_cons (pe_fldK K (pv 0) rfl) pa_nil)) (pg_tupK K rfl (pgs_cons (pg_name (i := 4) sc_written.nd rfl (.inl rfl)) (pgs_cons (pg_name (i := 5) sc_written.nd rfl (.inl rfl)) pgs_nil))) (pss_one (ps_expr (pe_bmK K (pe_bm PySem.F.plainAttrs_list PySem.F.slot_list_append PySem.F.type_list_append mt_append (pv 1) (pa_cons (pe_joinK K pe_str (pe_op op_catE (pe_lst (pa_cons pe_str (pa_cons (pe_callTy call_str_int (by rfl) B.str (by decide +kernel) (pa_cons (pv 4) pa_nil)) pa_nil))) (pe_lc (own := [("i", 6)]) rfl sc_written.nd (pi_listK K (pv 5)) (blkOk_by (own := [("i", 6)]) (N := ["web", "rows", "tie", "word", "place", "row", "i"]) (sc := defScope s_written) (by decide +kernel)) (fun _ _ _ _ _ => pg_name (i := 6) sc_written.nd rfl (Or.inl rfl)) (fun _ _ _ _ _ => pts_nil) (fun _ _ _ _ _ => (pe_callTy call_str_int (by rfl) B.str (by decide +kernel) (pa_cons (pv 6) pa_nil)))))) pa_nil))))))
 (pss_one (ps_ret (pe_joinK K pe_str (pe_lc (own := [("row", 5)]) rfl sc_written.nd (pi_listK K (pv 1)) (blkOk_by (own := [("row", 5)]) (N := ["web", "rows", "tie", "word", "place", "row", "i"]) (sc := defScope s_written) (by decide +kernel)) (fun _ _ _ _ _ => pg_name (i := 5) sc_written.nd rfl (Or.inl rfl)) (fun _ _ _ _ _ => pts_nil) (fun _ _ _ _ _ => (pe_op op_add_str (pv 5) pe_str))))))))), ?_⟩
  walk_at "sts"
  refine w_fld hp T.cl_Web T.n_Web_many (wf_many _ _ _ _ _) ?_
  walk_at "sts"
  refine ⟨log2_small (Nat.lt_of_le_of_lt h40 (by decide +kernel)), ?_⟩
  rw [tS_num, tL_lit]
  have hnl := numL_len (n := Tu.length) (k := 31) (by decide) (Nat.lt_of_le_of_lt h40 (by decide))
  have lpl : (tL "places ").length = 7 := by decide
  refine w_2s ⟨by rw [tS_len, tS_len, sizeLine_eq]; omega, ?_⟩
  have e0 : tL "places " ++ numL Tu.length = headRow Tu.length := by
    have : tL "places " = tL "places" ++ [32] := by decide
    rw [this]
    unfold headRow rowB
    simp
  rw [tS_app, e0]
  walk_at "sts"
  refine w_new fun D nD => ?_
  have s0 : Same H (upd H D (.lst [V.str (tS (headRow Tu.length))])) := same_upd nD
  have hp0 := s0 _ _ hp
  walk_at "sts"
  refine w_fld hp0 T.cl_Web T.n_Web_ties (wf_ties _ _ _ _ _) ?_
  walk_at "sts"
  refine for_list (xs := ps.map V.ref) (fun i σ H' => ∃ (y2 y3 : Option V), σ = [some (.ref p), some (.ref D), y2, y3, none, none, none] ∧ Same H H' ∧ H' D = some (.lst (sv (rowsAt ts Tu i 0)))) ?_ ?_ ?_ ?_
  · exact ⟨_, _, rfl, s0, by rw [upd_same]; rfl⟩
  · rintro i σ H' _ ⟨_, _, _, s1, _⟩
    exact s1.seq hps
  · rintro i x σ H1 hx ⟨y2, y3, rfl, s1, lD⟩
    rw [List.getElem?_map] at hx
    obtain ⟨pt, hpt, rfl⟩ := Option.map_eq_some_iff.mp hx
    have hi : i < ts.length := by rw [← hin.1]; exact (List.getElem?_eq_some_iff.mp hpt).1
    have ht := (hin.2 i pt _ hpt (ti_at hi)).same s1
    have hm : ti ts i ∈ ts := List.mem_of_getElem? (ti_at hi)
    obtain ⟨e1, e2⟩ := hok.ends _ hm
    have e3 := hok.str _ hm
    have etk : ts.take (i + 1) = ts.take i ++ [ti ts i] := by rw [List.take_add_one, ti_at hi]; rfl
    generalize ti ts i = t at ht e1 e2 e3 etk
    have hrl := rowsAt_len ts Tu i 0
    have htr := tieRow_len e1 e2 e3
    have hrs : rowsAt ts Tu (i + 1) 0 = rowsAt ts Tu i 0 ++ [tieRow t] := by unfold rowsAt; rw [etk, List.map_append]; simp
    walk_at "sts"
    try dsimp only
    refine w_cut (fun σ' H2 => σ' = [some (.ref p), some (.ref D), some (.ref pt), some (.str (tS (kindW t.push))), none, none, none] ∧ H2 = H1) ?_ ?_
    · walk_at "sts"
      refine w_mt2 (p := pt) (t := t) (by decide +kernel) (by decide +kernel) (by decide +kernel) (fun R h => ?_) ht (fun hb => ?_) (fun hb => ?_)
      · walk_at "sts"
        exact h
      · walk_at "sts"
        refine ⟨pt, _, rfl, hb, ht, ?_⟩
        unfold wishOf
        rw [hb, if_neg (by decide)]
        walk_at "sts"
        rw [tL_lit]
        exact ⟨rfl, rfl⟩
      · walk_at "sts"
        refine ⟨pt, _, rfl, hb, ht, ?_⟩
        unfold wishOf
        rw [hb, if_pos rfl]
        walk_at "sts"
        rw [tL_lit]
        exact ⟨rfl, rfl⟩
    rintro σ' H1 ⟨rfl, rfl⟩
    walk_at "sts"
    refine w_m1 (w_cS ?_)
    refine w_isS ?_
    walk_at "sts"
    refine w_t1 T.tie ht ?_
    walk_at "sts"
    refine ⟨log2_small (Nat.lt_trans e1 (by decide +kernel)), ?_⟩
    rw [tS_num]
    walk_at "sts"
    refine w_t2 T.tie ht ?_
    walk_at "sts"
    refine ⟨log2_small (Nat.lt_trans e2 (by decide +kernel)), ?_⟩
    rw [tS_num]
    walk_at "sts"
    refine w_t3 T.tie ht ?_
    walk_at "sts"
    refine ⟨log2_small (Nat.lt_of_le_of_lt e3 (by decide +kernel)), ?_⟩
    rw [tS_num]
    walk_at "sts"
    refine w_new fun p3 n3 => ?_
    refine w_join (a := tL " ") (ws := kindW t.push :: [t.one, t.two, t.s].map numL) (SqL.of (by rw [upd_same]; rfl)) ?_ ?_
    · have h1 := joinL_sum (tL " ") (kindW t.push) ([t.one, t.two, t.s].map numL)
      rw [show tL " " = [32] from rfl, rowB_join] at h1
      rw [show (tL " ").length = 1 from rfl, List.length_cons, List.length_map]
      rw [List.length_map, show ([32] : List Nat).length = 1 from rfl] at h1
      unfold tieRow at htr
      omega
    rw [show tL " " = [32] from rfl, rowB_join]
    have s3 := same_upd (o := .lst [V.str (tS (kindW t.push)), V.str (tS (numL t.one)), V.str (tS (numL t.two)), V.str (tS (numL t.s))]) n3
    have lD3 := s3 _ _ lD
    have hsz : (sv (rowsAt ts Tu i 0)).length < sizeLine := szlt (by rw [sv_len]; omega)
    generalize upd H1 p3 _ = H3 at s3 lD3 ⊢
    walk_at "sts"
    refine ⟨_, _, rfl, (s1.trans s3).mut nD, ?_⟩
    rw [upd_same, hrs, sv_app]
    rfl
  rintro σ H1 ⟨y2, y3, rfl, s1, lD⟩
  rw [hpl] at lD
  have hp1 := s1 _ _ hp
  walk_at "sts"
  refine w_fld hp1 T.cl_Web T.n_Web_turns (wf_turns _ _ _ _ _) ?_
  walk_at "sts"
  refine w_enq (s1.seq hu) ?_
  refine for_enumX (xs := us) (fun i σ H' => ∃ (y4 y5 y6 : Option V), σ = [some (.ref p), some (.ref D), y2, y3, y4, y5, y6] ∧ Same H H' ∧ H' D = some (.lst (sv (rowsAt ts Tu ts.length i)))) ?_ ?_ ?_ ?_
  · exact ⟨_, _, _, rfl, s1, lD⟩
  · rintro i σ H' _ ⟨_, _, _, _, s2, _⟩
    exact s2.seq hu
  · rintro i x σ H2 E1 hx ⟨y4, y5, y6, rfl, s2, lD⟩ nE1
    have hi : i < Tu.length := by rw [← hul]; exact (List.getElem?_eq_some_iff.mp hx).1
    obtain ⟨pr, b1, b2⟩ := dpRowsAt hus hi
    rw [hx] at b1
    cases b1
    have hi40 : i < 40 := by omega
    have hrl2 := rowsAt_len ts Tu ts.length i
    have hab := aboutRow_len hi40 (hok.turns i) (hrl i)
    have hrr := hrl i
    have hrs : rowsAt ts Tu ts.length (i + 1) = rowsAt ts Tu ts.length i ++ [aboutRow Tu i] := by unfold rowsAt; rw [List.range_succ, List.map_append, ← List.append_assoc]; rfl
    refine w_gt (SqT.of upd_same) rfl ?_
    have se := same_upd (o := .tup [.int (i : Nat), .ref pr]) nE1
    have lD2 := se _ _ lD
    generalize upd H2 E1 (.tup [.int (i : Nat), .ref pr]) = H2' at se lD2 ⊢
    have s2' := s2.trans se
    have b3 := s2'.seq b2
    walk_at "sts"
    refine w_m1 (w_cS ?_)
    refine w_isS ?_
    walk_at "sts"
    rw [tL_lit]
    walk_at "sts"
    refine ⟨log2_small (Nat.lt_trans hi40 (by decide +kernel)), ?_⟩
    rw [tS_num]
    walk_at "sts"
    refine w_new fun p3 n3 => ?_
    have s3 := same_upd (o := .lst [V.str (tS (tL "about")), V.str (tS (numL i))]) n3
    have l3 : upd H2' p3 (.lst [V.str (tS (tL "about")), V.str (tS (numL i))]) p3 = some (.lst [V.str (tS (tL "about")), V.str (tS (numL i))]) := upd_same
    have lD3 := s3 _ _ lD2
    generalize upd H2' p3 (.lst [V.str (tS (tL "about")), V.str (tS (numL i))]) = H3 at s3 l3 lD3 ⊢
    have b4 := s3.seq b3
    walk_at "sts"
    intro E nE
    refine lc_list (K := K) (xs := iv (row Tu i)) (fun j H' => H' E = some (.lst (sv (((row Tu i).take j).map numL))) ∧ Same H3 H') ?_ ?_ ?_ ?_
    · exact ⟨upd_same, same_upd nE⟩
    · rintro j H' _ ⟨_, s4⟩
      exact s4.seq b4
    · rintro j x H' hx ⟨l4, s4⟩
      have hj : j < (row Tu i).length := by
        have := (List.getElem?_eq_some_iff.mp hx).1
        rwa [iv_len] at this
      rw [iv_at hj] at hx
      injection hx with hx
      subst hx
      have hlt := hok.turns i ((row Tu i).getD j 0) (by rw [List.getD_eq_getElem?_getD, List.getElem?_eq_getElem hj]; exact List.getElem_mem hj)
      walk_at "sts"
      refine ⟨log2_small (Nat.lt_trans hlt (by decide +kernel)), ?_⟩
      rw [tS_num]
      refine ⟨_, l4, szlt (by rw [sv_len, List.length_map, List.length_take]; omega), ?_, s4.mut nE⟩
      rw [upd_same, take_snoc hj, List.map_append, sv_app]
      rfl
    rintro H4 ⟨l4, s4⟩
    rw [iv_len, List.take_length] at l4
    have l34 := s4 _ _ l3
    have lD4 := s4 _ _ lD3
    refine w_catE (LsE.of l34) (LsE.of l4) (by rw [sv_len, List.length_map, sizeLine_eq]; show 2 + _ ≤ _; omega) fun p5 n5 => ?_
    refine w_join (a := tL " ") (ws := tL "about" :: (i :: row Tu i).map numL) (SqL.of (by rw [upd_same]; rfl)) ?_ ?_
    · have h1 := joinL_sum (tL " ") (tL "about") ((i :: row Tu i).map numL)
      rw [show tL " " = [32] from rfl, rowB_join] at h1
      rw [show (tL " ").length = 1 from rfl, List.length_cons, List.length_map, List.length_cons]
      rw [List.length_map, List.length_cons, show ([32] : List Nat).length = 1 from rfl] at h1
      unfold aboutRow at hab
      omega
    rw [show tL " " = [32] from rfl, rowB_join]
    have s5 := same_upd (o := .lst ([V.str (tS (tL "about")), V.str (tS (numL i))] ++ sv ((row Tu i).map numL))) n5
    have lD5 := s5 _ _ lD4
    generalize upd H4 p5 _ = H5 at s5 lD5 ⊢
    have hsz : (sv (rowsAt ts Tu ts.length i)).length < sizeLine := szlt (by rw [sv_len]; omega)
    walk_at "sts"
    refine ⟨_, _, _, rfl, ?_, ?_⟩
    · exact (s2'.trans (s3.trans (s4.trans s5))).mut nD
    · rw [upd_same, hrs, sv_app]
      rfl
  rintro σ H2 ⟨y4, y5, y6, rfl, s2, lD⟩
  have hall : rowsAt ts Tu ts.length Tu.length = webRows ts Tu := by unfold rowsAt webRows; rw [List.take_length]
  rw [hul, hall] at lD
  have lDs := SqL.of (K := K) lD
  have hwr := webRows_len ts Tu
  have hml : ∀ w ∈ webRows ts Tu, w.length ≤ 400 := fun w hw => by
    unfold webRows at hw
    rcases List.mem_cons.mp hw with rfl | hw
    · unfold headRow rowB
      rw [List.length_append, List.map_cons, List.map_nil, List.flatten_cons, List.length_append, List.length_cons]
      simp
      have : (tL "places").length = 6 := by decide
      omega
    · rcases List.mem_append.mp hw with hw | hw
      · obtain ⟨t, ht, rfl⟩ := List.mem_map.mp hw
        have := tieRow_len (hok.ends t ht).1 (hok.ends t ht).2 (hok.str t ht)
        omega
      · obtain ⟨i, hi, rfl⟩ := List.mem_map.mp hw
        have hi := List.mem_range.mp hi
        exact aboutRow_len (by omega) (hok.turns i) (hrl i)
  walk_at "sts"
  refine w_m1 (w_cS ?_)
  refine w_isS ?_
  walk_at "sts"
  intro E nE
  refine lc_list (K := K) (xs := sv (webRows ts Tu)) (fun j H' => H' E = some (.lst (sv (ended ((webRows ts Tu).take j)))) ∧ Same H2 H') ?_ ?_ ?_ ?_
  · exact ⟨upd_same, same_upd nE⟩
  · rintro j H' _ ⟨_, s4⟩
    exact s4.seq lDs
  · rintro j x H' hx ⟨l4, s4⟩
    have hj : j < (webRows ts Tu).length := by
      have := (List.getElem?_eq_some_iff.mp hx).1
      rwa [sv_len] at this
    rw [sv_at hj] at hx
    injection hx with hx
    subst hx
    have hg : (webRows ts Tu)[j]? = some ((webRows ts Tu).getD j []) := by rw [List.getD_eq_getElem?_getD, List.getElem?_eq_getElem hj]; rfl
    have hwl := hml _ (List.mem_of_getElem? hg)
    have etk : (webRows ts Tu).take (j + 1) = (webRows ts Tu).take j ++ [(webRows ts Tu).getD j []] := by rw [List.take_add_one, hg]; rfl
    generalize (webRows ts Tu).getD j [] = wd at hg hwl etk
    walk_at "sts"
    rw [tL_lit]
    refine w_2s ⟨by rw [tS_len, tS_len, show (tL "\n").length = 1 from rfl, sizeLine_eq]; omega, ?_⟩
    rw [tS_app, show tL "\n" = [10] from rfl]
    refine ⟨_, l4, szlt (by rw [sv_len]; unfold ended; rw [List.length_map, List.length_take]; omega), ?_, s4.mut nE⟩
    rw [upd_same, etk, ended_snoc, sv_app]
    rfl
  rintro H4 ⟨l4, s4⟩
  rw [sv_len, List.take_length] at l4
  refine w_join (a := tL "") (ws := ended (webRows ts Tu)) (SqL.of l4) ?_ ?_
  · rw [← List.length_flatten]
    show (endL (webRows ts Tu)).length + _ * 0 ≤ _
    unfold webText at htxt
    omega
  · rw [show tL "" = [] from rfl, joinL_nil]
    walk_at "sts"
    exact q H4 (s2.trans s4)
end

/-! ### methods that may raise -/
section
variable {X : Cx} {k : Nat} {ps : List Str} {sp : Sp} {m : Str} {pos apos : Pos} {e o : Expr} {es : List Expr} {tl : TA} {ta : TE} {C : Addr}
def tMethX (C : Addr) (m : Str) (sp : Sp) (E : L2.St → XK) (ta : TE) (tl : TA) : TE := fun σ H Q =>
  ta σ H fun x H1 => ∃ a dx fs, x = .ref a ∧ H1 a = some (.ins C dx fs) ∧ fs.lookup m = none ∧ tl σ H1 fun vs H2 => sp (x :: vs) H2 Q (E σ)
theorem w_methX {σ : L2.St} {H : Hp} {Q : VK} {E : L2.St → XK} (h : ta σ H fun x H1 => ∃ a dx fs, x = .ref a ∧ H1 a = some (.ins C dx fs) ∧ fs.lookup m = none ∧ tl σ H1 fun vs H2 => sp (x :: vs) H2 Q (E σ)) : tMethX C m sp E ta tl σ H Q := h
theorem pe_mtS {W : WX} {pl : Sem Bool} (tk : Takes X W) (h : HasMeth X.prog X.w X.K X.mg X.base (L2.CX X.prog X.w) k C m ps sp) (ho : PE X o ta) (hr : Room k X.A) (hl : PA X (e :: es) tl)
    (h1 : starEach (e :: es) X.env = (false, eval e X.env) :: starEach es X.env := by rfl) (h2 : (backTo pos (starEach es X.env)).any (·.1) = false := by rfl)
    (h3 : eval (.Call (.Attribute o m apos) (e :: es) [] pos) X.env = (do
      let thing ← eval o X.env
      standAt apos.atName
      let (g, us) ← holding [thing] (getMethod thing m pl)
      callWith pos g us (backTo pos (starEach (e :: es) X.env)) (backToKw pos (keywordEach [] X.env))) := by rfl) :
    PE X (.Call (.Attribute o m apos) (e :: es) [] pos) (tMethX C m sp (WE W) ta tl) := by
  obtain ⟨f, fd, F, cl, M, bd⟩ := h.ex
  refine ⟨fun ks s0 σ H Q inv hq => ?_⟩
  refine PySem.W.methodCall_KW (pl := pl) (thn (ho.run ks s0 σ H _ inv hq) fun u s1 ⟨x, G, J, rx, a, dx, fs, ex, ea, l, q1⟩ => ?_) h3
  subst ex
  obtain rfl : u = Value.ref a := rx
  refine getmeth_ok J ea cl M l ?_
  refine PySem.W.callWith_K (first := [.ref a]) (h₀ := X.base) inv.ok.mod.kin M.kp (thn (hl.run pos ks s1 σ G _ J q1) fun us s2 ⟨vs, G2, J2, rv, q2⟩ => ⟨J2.kIn, ?_⟩) h1 h2
  exact run_fnS (us := .ref a :: us) (vs := .ref a :: vs) F hr bd (passAt tk σ) J2 (.cons rfl rv) q2
theorem pe_mtL {pl : Sem Bool} (h : HasMeth X.prog X.w X.K X.mg X.base (L2.CX X.prog X.w) k C m ps sp) (ho : PE X o ta) (hr : Room k X.A) (hl : PA X (e :: es) tl)
    (h1 : starEach (e :: es) X.env = (false, eval e X.env) :: starEach es X.env := by rfl) (h2 : (backTo pos (starEach es X.env)).any (·.1) = false := by rfl)
    (h3 : eval (.Call (.Attribute o m apos) (e :: es) [] pos) X.env = (do
      let thing ← eval o X.env
      standAt apos.atName
      let (g, us) ← holding [thing] (getMethod thing m pl)
      callWith pos g us (backTo pos (starEach (e :: es) X.env)) (backToKw pos (keywordEach [] X.env))) := by rfl) :
    PE X (.Call (.Attribute o m apos) (e :: es) [] pos) (tMeth C m sp [] E0 ta tl) := by
  obtain ⟨f, fd, F, cl, M, bd⟩ := h.ex
  exact pe_meth ho cl M F hr bd .nil passL hl h1 h2 h3
end

open TL
/-! ### a list that holds objects, against an empty one -/
section
variable {X : Cx}
def rEqNilO (K : PySem.W.Frag) : R2 := fun x y H Q => ∃ p e xs, x = .ref p ∧ y = .ref e ∧ SqL K H p xs ∧ SqL K H e [] ∧ Q (.bl (decide (xs = []))) H
theorem op_eqNilO (K : PySem.W.Frag) (hu2 : X.A.units + 64 < cLine) (hK : X.K = K := by rfl) : OpR X (compareOp .Eq) (rEqNilO K) := by
  subst hK
  have hu : X.A.units < cLine := by omega
  intro pins s σ H x y v u Q I rx ry h
  obtain ⟨p, e, xs, rfl, rfl, hp, he, q⟩ := h
  cases rx
  cases ry
  obtain ⟨us, r1, p1, _⟩ := I.list hp
  obtain ⟨ws, r2, p2, _⟩ := I.list he
  have e2 : ws = [] := List.length_eq_zero_iff.mp (by rw [← r2.length]; rfl)
  subst e2
  by_cases hx : xs = []
  · subst hx
    have e1 : us = [] := List.length_eq_zero_iff.mp (by rw [← r1.length]; rfl)
    subst e1
    exact PySem.EqBoolInt.of_rc (SeqAt.RcAt.lists (e := fun _ => true) p1.isList p2.isList rfl hu fun j h1 _ => absurd h1 (by simp)) ⟨.bl true, H, I, rfl, q⟩
  · rw [decide_eq_false hx] at q
    refine PySem.EqBoolInt.of_rc (SeqAt.RcAt.lists_lengths p1.isList p2.isList ?_ hu) ⟨.bl false, H, I, rfl, q⟩
    have : us.length ≠ 0 := by rw [← r1.length]; exact fun z => hx (List.length_eq_zero_iff.mp z)
    simp
    exact fun z => this (by rw [z]; rfl)
end
theorem w_eqNilO {K : PySem.W.Frag} {H : Hp} {Q : VK} {p e : Addr} {xs : List V} (h1 : SqL K H p xs) (he : H e = some (.lst [])) (h : Q (.bl (decide (xs = []))) H) : rEqNilO K (.ref p) (.ref e) H Q := ⟨p, e, xs, rfl, rfl, h1, SqL.of he, h⟩
/-! ### what a deed does -/
def turnK (t : Ti) : Ti := ⟨!t.push, t.one, t.two, t.s⟩
def flipT (ts : List Ti) (p : Nat) : List Ti := ts.map fun t => if t.one = p ∨ t.two = p then turnK t else t
def strungM (ts : List Ti) (wd : List Nat) (ns : List Nat) : Option (List Ti) := match ns with
  | [k, s] => if ts.length ≤ k ∨ 10 ^ 30 < s then none else some (ts.set k ⟨decide (wd = tL "push"), (ti ts k).one, (ti ts k).two, s⟩)
  | _ => none
def flippedM (ts : List Ti) (n : Nat) (ns : List Nat) : Option (List Ti) := match ns with
  | [p] => if n ≤ p then none else some (flipT ts p)
  | _ => none
def deedM (ts : List Ti) (n : Nat) (hs : List (List Ti)) (row : List Nat) : Option (List Ti × List (List Ti)) := match numsN 31 (tlW row) with
  | none => none
  | some ns => if hdW row = tL "back" then (if ns = [] ∧ hs ≠ [] then some (hs.getLastD [], hs.dropLast) else none)
    else if hdW row = tL "pull" ∨ hdW row = tL "push" then (match strungM ts (hdW row) ns with
      | none => none
      | some u => some (u, hs ++ [ts]))
    else if hdW row = tL "flip" then (match flippedM ts n ns with
      | none => none
      | some u => some (u, hs ++ [ts]))
    else none
theorem set_ends {ts : List Ti} {k : Nat} {b : Bool} {s : Nat} : endsOf (ts.set k ⟨b, (ti ts k).one, (ti ts k).two, s⟩) = endsOf ts := by
  unfold endsOf
  refine List.ext_getElem (by simp) fun i h1 h2 => ?_
  simp only [List.getElem_map, List.getElem_set]
  by_cases e : k = i
  · subst e
    have hk : k < ts.length := by simpa using h2
    rw [if_pos rfl]
    unfold ti
    rw [List.getD_eq_getElem?_getD, List.getElem?_eq_getElem hk]
    rfl
  · rw [if_neg e]
theorem flip_ends (ts : List Ti) (p : Nat) : endsOf (flipT ts p) = endsOf ts := by
  unfold endsOf flipT
  rw [List.map_map]
  refine List.map_congr_left fun t _ => ?_
  show ((if t.one = p ∨ t.two = p then turnK t else t).one, (if t.one = p ∨ t.two = p then turnK t else t).two) = _
  split <;> rfl
theorem strung_ends {ts u : List Ti} {wd ns : List Nat} (h : strungM ts wd ns = some u) : endsOf u = endsOf ts := by
  unfold strungM at h
  split at h
  · split at h
    · cases h
    · injection h with h
      rw [← h]
      exact set_ends
  · cases h
theorem flipped_ends {ts u : List Ti} {n : Nat} {ns : List Nat} (h : flippedM ts n ns = some u) : endsOf u = endsOf ts := by
  unfold flippedM at h
  split at h
  · split at h
    · cases h
    · injection h with h
      rw [← h]
      exact flip_ends _ _
  · cases h
theorem endsOf_eq_len {ts u : List Ti} (h : endsOf u = endsOf ts) : u.length = ts.length := by rw [← endsOf_len, h, endsOf_len]
section
variable {P : Program} {w : World} {K : PySem.W.Frag} {mg : Str → Option Value} {base : Heap} {C_Pull C_Push C_Web C_Desk C_BadTie C_BadTurns C_Parted C_NotFlat C_BadText C_BadDeed C_FloorError : Addr}
theorem TiesIn.set {CP CQ : Addr} {H : Hp} {ps : List Addr} {ts : List Ti} {x : Addr} {t : Ti} {k : Nat} (h : TiesIn CP CQ H ps ts) (hx : TieAt CP CQ H x t) : TiesIn CP CQ H (ps.set k x) (ts.set k t) := by
  refine ⟨by rw [List.length_set, List.length_set]; exact h.1, fun i p u a b => ?_⟩
  rw [List.getElem?_set] at a b
  by_cases e : k = i
  · rw [if_pos e] at a b
    split at a
    · split at b
      · injection a with a
        injection b with b
        rw [← a, ← b]
        exact hx
      · cases b
    · cases a
  · rw [if_neg e] at a b
    exact h.2 i p u a b
def spToldN (K : PySem.W.Frag) (CB : Addr) : Sp := fun vs H Q E => ∃ (a : Addr) (ws : List (List Nat)), vs = [.ref a] ∧ SqL K H a (sv ws) ∧ (∀ w ∈ ws, w.length ≤ 100000) ∧ ws.length ≤ 100001 ∧ (∀ ns, numsN 31 ws = some ns → ns.length = ws.length → (∀ n ∈ ns, n < 10 ^ 31) → ∀ p H', Same H H' → New H p → H' p = some (.lst (iv ns)) → Q (.ref p) H') ∧ (numsN 31 ws = none → E (.ref CB) none H)
theorem ok_told_numbers {f : Addr} {fd : FuncData} (F : Fun K "told_numbers" "told_numbers" s_told_numbers f fd) (gf : mg "told_numbers" = some (.ref f)) (B : Bl mg) {C_Pull C_Push C_Web C_Desk C_BadTie C_BadTurns C_Parted C_NotFlat C_BadText C_BadDeed C_FloorError : Addr} (T : Txt K mg C_Pull C_Push C_Web C_Desk C_BadTie C_BadTurns C_Parted C_NotFlat C_BadText C_BadDeed C_FloorError) : Has P w K mg base (L2.CX P w) 1 "told_numbers" ["words"] (spToldN K C_BadDeed) := by
  refine Has.mkX F gf (F.binds (ps := ["words"]) fun _ _ _ _ _ _ us hl => match us, hl with | [_], _ => rfl) sc_told_numbers (by walk_at "len") (fun cdv A outer s H vs Q E hr h => ?_)
  obtain ⟨a, ws, rfl, hA, hwl, hws, q, qn⟩ := h
  have hz0 : tL "0" = [48] := by decide
  refine ⟨_, (pss_cons (ps_for (passes_of rfl) rfl (pi_listK K (pv 0)) (pg_name (i := 1) sc_told_numbers.nd rfl (.inl rfl)) (pss_cutX (ps_if (PW.pt (pw_or (pt_cmpR op_eq (pv 1) pe_str (nomark _)) (pw_or (pt_cmpR op_gt (pe_callB call_len_str (by rfl) B.len (by decide +kernel) (pa_cons (pv 1) pa_nil)) (pe_glob (v := .int 31) (by rfl) T.k_MOST_FIGURES_desk.choose_spec ⟨_, rfl⟩) (nomark _)) (pw_or1 (PW.pt (pw_and (pt_cmpR op_eq (pe_ix ix_str (pv 1) pe_int (fun _ _ => rfl)) pe_str (nomark _)) (pw_and1 (pt_cmpR op_gt (pe_callB call_len_str (by rfl) B.len (by decide +kernel) (pa_cons (pv 1) pa_nil)) pe_int (nomark _))))))))) (pss_one (ps_raise rfl (takes_of rfl rfl rfl rfl) (pmk_own PySem.F.excBase_ValueError T.xn_BadDeed T.g_BadDeed T.xf_BadDeed.kp (raises_own T.xf_BadDeed.be T.xf_BadDeed.ty) (by exact rfl)))) pss_nil)
 (pss_one (ps_for (passes_of rfl) rfl (pi_str (pv 1)) (pg_name (i := 2) sc_told_numbers.nd rfl (.inl rfl)) (pss_one (ps_if (pt_cmpR op_notIn_sign (pv 2) (pe_glob (v := .str "0123456789") (by rfl) T.k_FIGURES_desk.choose_spec ⟨_, rfl⟩) (by rfl)) (pss_one (ps_raise rfl (takes_of rfl rfl rfl rfl) (pmk_own PySem.F.excBase_ValueError T.xn_BadDeed T.g_BadDeed T.xf_BadDeed.kp (raises_own T.xf_BadDeed.be T.xf_BadDeed.ty) (by exact rfl)))) pss_nil))))))
 (pss_one (ps_ret (pe_lc (own := [("word", 1)]) rfl sc_told_numbers.nd (pi_listK K (pv 0)) (blkOk_by (own := [("word", 1)]) (N := ["words", "word", "sign"]) (sc := defScope s_told_numbers) (by decide +kernel)) (fun _ _ _ _ _ => pg_name (i := 1) sc_told_numbers.nd rfl (Or.inl rfl)) (fun _ _ _ _ _ => pts_nil) (fun _ _ _ _ _ => (pe_callTy call_int_str (by rfl) B.int (by decide +kernel) (pa_cons (pv 1) pa_nil))))))), ?_⟩
  walk_at "sts"
  refine for_list (xs := sv ws) (fun i σ H' => ∃ (ns : List Nat) (y1 y2 : Option V), σ = [some (.ref a), y1, y2] ∧ numsN 31 (ws.take i) = some ns ∧ H' = H) ?_ ?_ ?_ ?_
  · exact ⟨[], _, _, rfl, rfl, rfl⟩
  · rintro i σ H' _ ⟨_, _, _, _, _, rfl⟩
    exact hA
  · rintro i x σ H' hx ⟨ns, y1, y2, rfl, hns, rfl⟩
    have hi : i < ws.length := by
      have := (List.getElem?_eq_some_iff.mp hx).1
      rwa [sv_len] at this
    rw [sv_at hi] at hx
    injection hx with hx
    subst hx
    have hg : ws[i]? = some (ws.getD i []) := by rw [List.getD_eq_getElem?_getD, List.getElem?_eq_getElem hi]; rfl
    have hw := hwl _ (List.mem_of_getElem? hg)
    have et : ws.take (i + 1) = ws.take i ++ [ws.getD i []] := by rw [List.take_add_one, hg]; rfl
    generalize ws.getD i [] = w at hg hw et
    have hz : w.length ≤ sizeLine := by rw [sizeLine_eq]; omega
    have hbad : (w = [] ∨ 31 < w.length ∨ (w.head? = some 48 ∧ 1 < w.length)) → E (.ref C_BadDeed) none H' := fun h => qn (numsN_none hg (if_pos h))
    walk_at "sts"
    try dsimp only
    refine w_cut (fun σ' H2 => σ' = [some (.ref a), some (.str (tS w)), y2] ∧ H2 = H' ∧ ¬ (w = [] ∨ 31 < w.length ∨ (w.head? = some 48 ∧ 1 < w.length))) ?_ ?_
    · walk_at "sts"
      rw [dec_lit]
      refine ifd (fun h1 => ?_) (fun h1 => ?_)
      · walk_at "sts"
        exact hbad (.inl h1)
      walk_at "sts"
      refine w_1s ⟨by rw [tS_len]; exact hz, ?_⟩
      rw [tS_len]
      walk_at "sts"
      refine ifd (fun h2 => ?_) (fun h2 => ?_)
      · walk_at "sts"
        exact hbad (.inr (.inl (by omega)))
      obtain ⟨c0, r0, e0⟩ : ∃ c r, w = c :: r := by
        cases w with
        | nil => exact absurd rfl h1
        | cons c r => exact ⟨c, r, rfl⟩
      have hh : w.head? = some c0 := by rw [e0]; rfl
      walk_at "sts"
      refine w_ixS (c := c0) hz (by rw [e0]; exact atI_nat (j := 0) rfl) ?_
      walk_at "sts"
      rw [dec_lit]
      refine ifd (fun h3 => ?_) (fun h3 => ?_)
      · have h48 : c0 = 48 := by rw [hz0] at h3; injection h3
        walk_at "sts"
        refine w_1s ⟨by rw [tS_len]; exact hz, ?_⟩
        rw [tS_len]
        walk_at "sts"
        refine ifd (fun h4 => ?_) (fun h4 => ?_)
        · walk_at "sts"
          exact hbad (.inr (.inr ⟨by rw [hh, h48], by omega⟩))
        · walk_at "sts"
          refine ⟨rfl, rfl, fun z => ?_⟩
          rcases z with z | z | z
          · exact h1 z
          · omega
          · omega
      · walk_at "sts"
        refine ⟨rfl, rfl, fun z => ?_⟩
        rcases z with z | z | z
        · exact h1 z
        · omega
        · refine h3 ?_
          rw [hh] at z
          have := Option.some.inj z.1
          rw [this, hz0]
    rintro σ' H2 ⟨rfl, rfl, hok⟩
    have hfig : figN 31 w = if digs w = true then some (NumText.digitsVal w) else none := if_neg hok
    walk_at "sts"
    refine w_iStr ?_
    walk_at "sts"
    refine w_itS ?_
    refine for_str (fun j σ H3 => ∃ y : Option V, σ = [some (.ref a), some (.str (tS w)), y] ∧ H3 = H2 ∧ digs (w.take j) = true) ?_ ?_ ?_
    · exact ⟨_, rfl, rfl, rfl⟩
    · rintro j c σ H3 hc ⟨y, rfl, rfl, hd⟩
      have et : w.take (j + 1) = w.take j ++ [c] := by rw [List.take_add_one, hc]; rfl
      have ed : digs (w.take (j + 1)) = decide (c ∈ tL "0123456789") := by
        rw [et]
        unfold digs at hd ⊢
        rw [List.all_append, hd]
        simp
      walk_at "sts"
      rw [tL_lit]
      refine w_inR ?_
      rw [tl_cps]
      walk_at "sts"
      refine ifnd (fun hm => ?_) (fun hm => ?_)
      · walk_at "sts"
        refine qn (numsN_none hg ?_)
        rw [hfig, if_neg]
        intro z
        unfold digs at z
        exact hm (of_decide_eq_true (List.all_eq_true.mp z c (List.mem_of_getElem? hc)))
      · walk_at "sts"
        exact ⟨_, rfl, rfl, by rw [ed, decide_eq_true hm]⟩
    · rintro σ H3 ⟨y, rfl, rfl, hd⟩
      rw [List.take_length] at hd
      rw [if_pos hd] at hfig
      exact ⟨ns ++ [_], _, _, rfl, by rw [et]; exact numsN_snoc hns hfig, rfl⟩
  rintro σ H' ⟨ns, y1, y2, rfl, hns, rfl⟩
  rw [sv_len, List.take_length] at hns
  obtain ⟨h1, h2⟩ := numsN_lt _ _ hns
  walk_at "sts"
  intro D nD
  refine lc_list (K := K) (xs := sv ws) (fun i H2 => H2 D = some (.lst (iv (ns.take i))) ∧ Same H' H2) ?_ ?_ ?_ ?_
  · exact ⟨upd_same, same_upd nD⟩
  · rintro i H2 _ ⟨_, s2⟩
    exact s2.seq hA
  · rintro i x H2 hx ⟨l2, s2⟩
    have hi : i < ws.length := by
      have := (List.getElem?_eq_some_iff.mp hx).1
      rwa [sv_len] at this
    rw [sv_at hi] at hx
    injection hx with hx
    subst hx
    have hin : i < ns.length := by omega
    have hg : ws[i]? = some (ws.getD i []) := by rw [List.getD_eq_getElem?_getD, List.getElem?_eq_getElem hi]; rfl
    have hf := numsN_at hns hg
    have hwl2 : (ws.getD i []).length ≤ 31 := figN_len hf
    walk_at "sts"
    refine ⟨_, _, rfl, figN_int (by decide) hf, by rw [tS_len]; omega, ?_⟩
    refine ⟨_, l2, szlt (by rw [iv_len, List.length_take]; omega), ?_, s2.mut nD⟩
    rw [upd_same, take_snoc hin, iv_app]
    rfl
  rintro H2 ⟨l2, s2⟩
  rw [sv_len, List.take_of_length_le (by omega)] at l2
  walk_at "sts"
  exact q ns hns h1 h2 D H2 s2 nD l2
end

section
variable {P : Program} {w : World} {K : PySem.W.Frag} {mg : Str → Option Value} {base : Heap} {C_Pull C_Push C_Web C_Desk C_BadTie C_BadTurns C_Parted C_NotFlat C_BadText C_BadDeed C_FloorError : Addr}
def spOtherK (CP CQ : Addr) : Sp := fun vs H Q _ => ∃ (p : Addr) (t : Ti), vs = [.ref p] ∧ TieAt CP CQ H p t ∧ t.one ≠ t.two ∧ ∀ x H', Same H H' → New H x → TieAt CP CQ H' x (turnK t) → Q (.ref x) H'
theorem ok_other_kind {f : Addr} {fd : FuncData} (F : Fun K "other_kind" "other_kind" s_other_kind f fd) (gf : mg "other_kind" = some (.ref f)) (B : Bl mg) {C_Pull C_Push C_Web C_Desk C_BadTie C_BadTurns C_Parted C_NotFlat C_BadText C_BadDeed C_FloorError : Addr} (T : Txt K mg C_Pull C_Push C_Web C_Desk C_BadTie C_BadTurns C_Parted C_NotFlat C_BadText C_BadDeed C_FloorError) (h_mk_Push : HasMk P w K mg base CX0 1 "Push" C_Push ["self", "one", "two", "strength"] (spTInit C_Pull C_Push)) (h_mk_Pull : HasMk P w K mg base CX0 1 "Pull" C_Pull ["self", "one", "two", "strength"] (spTInit C_Pull C_Push)) (h_Pull_wish : HasMeth P w K mg base CX0 1 C_Pull "wish" ["self"] (spWish C_Pull C_Push false)) (h_Push_wish : HasMeth P w K mg base CX0 1 C_Push "wish" ["self"] (spWish C_Pull C_Push true)) : Has P w K mg base CX0 3 "other_kind" ["tie"] (spOtherK C_Pull C_Push) := by
  refine Has.mk' F gf (F.binds (ps := ["tie"]) fun _ _ _ _ _ _ us hl => match us, hl with | [_], _ => rfl) sc_other_kind (by walk_at "len") (fun cdv A outer s H vs Q E hr h => ?_)
  obtain ⟨p, t, rfl, ht, hne, q⟩ := h
  refine ⟨_, (pss_cons (ps_if (pt_cmpR op_eq (PE.or (pe_mt0 h_Pull_wish (pv 0) (hr.mono (by decide))) (pe_mt0 h_Push_wish (pv 0) (hr.mono (by decide)))) pe_int (nomark _)) (pss_one (ps_ret (pe_mk h_mk_Pull (hr.mono (by decide)) (by rfl) (pa_cons (pe_fldK K (pv 0) rfl) (pa_cons (pe_fldK K (pv 0) rfl) (pa_cons (pe_fldK K (pv 0) rfl) pa_nil)))))) pss_nil)
 (pss_one (ps_ret (pe_mk h_mk_Push (hr.mono (by decide)) (by rfl) (pa_cons (pe_fldK K (pv 0) rfl) (pa_cons (pe_fldK K (pv 0) rfl) (pa_cons (pe_fldK K (pv 0) rfl) pa_nil))))))), ?_⟩
  walk_at "sts"
  refine w_mt2 (p := p) (t := t) (by decide +kernel) (by decide +kernel) (by decide +kernel) (fun R h => ?_) ht (fun hb => ?_) (fun hb => ?_)
  · walk_at "sts"
    exact h
  · walk_at "sts"
    refine ⟨p, _, rfl, hb, ht, ?_⟩
    unfold wishOf
    rw [hb, if_neg (by decide)]
    walk_at "sts"
    refine w_t1 T.tie ht ?_
    walk_at "sts"
    refine w_t2 T.tie ht ?_
    walk_at "sts"
    refine w_t3 T.tie ht ?_
    walk_at "sts"
    intro x dx nx nd hxd
    have hp1 : (turnK t).push = true := by unfold turnK; rw [hb]; rfl
    refine ⟨x, dx, turnK t, rfl, ?_, hne, rfl, ?_⟩
    · rw [hp1]; exact upd_same
    · rw [upd_upd, hp1]
      walk_at "sts"
      refine q x _ (made_same nx nd hxd) nx ⟨dx, ?_⟩
      rw [upd_same, hp1]
  · walk_at "sts"
    refine ⟨p, _, rfl, hb, ht, ?_⟩
    unfold wishOf
    rw [hb, if_pos rfl]
    walk_at "sts"
    refine w_t1 T.tie ht ?_
    walk_at "sts"
    refine w_t2 T.tie ht ?_
    walk_at "sts"
    refine w_t3 T.tie ht ?_
    walk_at "sts"
    intro x dx nx nd hxd
    have hp1 : (turnK t).push = false := by unfold turnK; rw [hb]; rfl
    refine ⟨x, dx, turnK t, rfl, ?_, hne, rfl, ?_⟩
    · rw [hp1]; exact upd_same
    · rw [upd_upd, hp1]
      walk_at "sts"
      refine q x _ (made_same nx nd hxd) nx ⟨dx, ?_⟩
      rw [upd_same, hp1]
def spStrung (K : PySem.W.Frag) (CP CQ CW CB : Addr) : Sp := fun vs H Q E => ∃ (p a : Addr) (M : WebM) (wd : List Nat) (ns : List Nat), vs = [.ref p, .str (tS wd), .ref a] ∧ WebAt K CP CQ CW H p M ∧ (∀ i, i < M.ts.length → (ti M.ts i).one ≠ (ti M.ts i).two) ∧ SqL K H a (iv ns) ∧
  (∀ u, strungM M.ts wd ns = some u → ∀ q H', Same H H' → New H q → TiesAt K CP CQ H' q u → Q (.ref q) H') ∧ (strungM M.ts wd ns = none → E (.ref CB) none H)
theorem ok_strung {f : Addr} {fd : FuncData} (F : Fun K "strung" "strung" s_strung f fd) (gf : mg "strung" = some (.ref f)) (B : Bl mg) {C_Pull C_Push C_Web C_Desk C_BadTie C_BadTurns C_Parted C_NotFlat C_BadText C_BadDeed C_FloorError : Addr} (T : Txt K mg C_Pull C_Push C_Web C_Desk C_BadTie C_BadTurns C_Parted C_NotFlat C_BadText C_BadDeed C_FloorError) (h_mk_Push : HasMk P w K mg base CX0 1 "Push" C_Push ["self", "one", "two", "strength"] (spTInit C_Pull C_Push)) (h_mk_Pull : HasMk P w K mg base CX0 1 "Pull" C_Pull ["self", "one", "two", "strength"] (spTInit C_Pull C_Push)) : Has P w K mg base (L2.CX P w) 3 "strung" ["web", "word", "numbers"] (spStrung K C_Pull C_Push C_Web C_BadDeed) := by
  refine Has.mkX F gf (F.binds (ps := ["web", "word", "numbers"]) fun _ _ _ _ _ _ us hl => match us, hl with | [_, _, _], _ => rfl) sc_strung (by walk_at "len") (fun cdv A outer s H vs Q E hr h => ?_)
  obtain ⟨p, a, M, wd, ns, rfl, hW, hne, hA, q, qe⟩ := h
  obtain ⟨dx, wa, wb, wc, we, wxs, hp, ⟨ps, hps, hin⟩, hT, _, _⟩ := id hW.at_
  obtain ⟨ts, Tu, R⟩ := M
  have hps : SqL K H wa (ps.map V.ref) := hps
  have hin : TiesIn C_Pull C_Push H ps ts := hin
  have hne : ∀ i, i < ts.length → (ti ts i).one ≠ (ti ts i).two := hne
  have hp : H p = some (.ins C_Web dx (wf (Tu.length : Nat) wa wb wc we)) := hp
  have q : ∀ u, strungM ts wd ns = some u → ∀ q H', Same H H' → New H q → TiesAt K C_Pull C_Push H' q u → Q (.ref q) H' := q
  have qe : strungM ts wd ns = none → E (.ref C_BadDeed) none H := qe
  have hpl : (ps.map V.ref).length = ts.length := by rw [List.length_map]; exact hin.1
  have hvl := iv_len ns
  refine ⟨_, (pss_cons (ps_if (PW.pt (pw_or (pt_cmpR op_ne (pe_callB (call_lenK K) (by rfl) B.len (by decide +kernel) (pa_cons (pv 2) pa_nil)) pe_int (nomark _)) (pw_or (pt_cmpR op_ge (pe_ix (ix_listK K) (pv 2) pe_int (fun _ _ => rfl)) (pe_callB (call_lenK K) (by rfl) B.len (by decide +kernel) (pa_cons (pe_fldK K (pv 0) rfl) pa_nil)) (nomark _)) (pw_or1 (pt_cmpR op_gt (pe_ix (ix_listK K) (pv 2) pe_int (fun _ _ => rfl)) (pe_glob (v := .int 1000000000000000000000000000000) (by rfl) T.k_MOST_STRENGTH_desk.choose_spec ⟨_, rfl⟩) (nomark _)))))) (pss_one (ps_raise rfl (takes_of rfl rfl rfl rfl) (pmk_own PySem.F.excBase_ValueError T.xn_BadDeed T.g_BadDeed T.xf_BadDeed.kp (raises_own T.xf_BadDeed.be T.xf_BadDeed.ty) (by exact rfl)))) pss_nil)
 (pss_cons (ps_set (i := 3) sc_strung.nd rfl (.inl rfl) (pe_callTy (call_listK K) (by rfl) B.list (by decide +kernel) (pa_cons (pe_fldK K (pv 0) rfl) pa_nil)))
 (pss_cons (ps_set (i := 4) sc_strung.nd rfl (.inl rfl) (pe_ix (ix_listK K) (pv 3) (pe_ix (ix_listK K) (pv 2) pe_int (fun _ _ => rfl)) (fun _ _ => rfl)))
 (pss_cons (ps_if (pt_cmpR op_eq (pv 1) pe_str (nomark _)) (pss_one (ps_asg (pe_mk h_mk_Push (hr.mono (by decide)) (by rfl) (pa_cons (pe_fldK K (pv 4) rfl) (pa_cons (pe_fldK K (pv 4) rfl) (pa_cons (pe_ix (ix_listK K) (pv 2) pe_int (fun _ _ => rfl)) pa_nil)))) (pg_sub (pv 3) (pe_ix (ix_listK K) (pv 2) pe_int (fun _ _ => rfl)) set_list))) (pss_one (ps_asg (pe_mk h_mk_Pull (hr.mono (by decide)) (by rfl) (pa_cons (pe_fldK K (pv 4) rfl) (pa_cons (pe_fldK K (pv 4) rfl) (pa_cons (pe_ix (ix_listK K) (pv 2) pe_int (fun _ _ => rfl)) pa_nil)))) (pg_sub (pv 3) (pe_ix (ix_listK K) (pv 2) pe_int (fun _ _ => rfl)) set_list))))
 (pss_one (ps_ret (pv 3))))))), ?_⟩
  walk_at "sts"
  rw [hvl]
  refine ifnd (fun h1 => ?_) (fun h1 => ?_)
  · walk_at "sts"
    refine qe ?_
    unfold strungM
    rcases ns with _ | ⟨k, _ | ⟨s, _ | ⟨z, r⟩⟩⟩
    · rfl
    · rfl
    · exact absurd rfl h1
    · rfl
  obtain ⟨k, s, rfl⟩ : ∃ k s, ns = [k, s] := by
    rcases ns with _ | ⟨k, _ | ⟨s, _ | ⟨z, r⟩⟩⟩
    · simp at h1
    · simp at h1
    · exact ⟨k, s, rfl⟩
    · simp at h1; omega
  have hm : strungM ts wd [k, s] = if ts.length ≤ k ∨ 10 ^ 30 < s then none else some (ts.set k ⟨decide (wd = tL "push"), (ti ts k).one, (ti ts k).two, s⟩) := rfl
  have a0 : atI (iv [k, s]) 0 = some (.int (k : Nat)) := atI_nat (j := 0) rfl
  have a1 : atI (iv [k, s]) 1 = some (.int (s : Nat)) := atI_nat (j := 1) rfl
  walk_at "sts"
  refine w_fld hp T.cl_Web T.n_Web_ties (wf_ties _ _ _ _ _) ?_
  walk_at "sts"
  rw [hpl]
  refine ifd (fun h2 => ?_) (fun h2 => ?_)
  · walk_at "sts"
    exact qe (by rw [hm, if_pos (by omega)])
  walk_at "sts"
  refine ifd (fun h3 => ?_) (fun h3 => ?_)
  · walk_at "sts"
    exact qe (by rw [hm, if_pos (by omega)])
  have hk : k < ts.length := by omega
  rw [if_neg (by omega)] at hm
  have q := q _ hm
  walk_at "sts"
  refine w_fld hp T.cl_Web T.n_Web_ties (wf_ties _ _ _ _ _) ?_
  walk_at "sts"
  refine w_new fun pl npl => ?_
  have sl := same_upd (o := .lst (ps.map V.ref)) npl
  have ll : upd H pl (.lst (ps.map V.ref)) pl = some (.lst (ps.map V.ref)) := upd_same
  generalize upd H pl (.lst (ps.map V.ref)) = H1 at sl ll ⊢
  obtain ⟨pt, h4, h5⟩ := hin.get (ti_at hk)
  have h6 := h5.same sl
  have hA1 := sl.seq hA
  have hnk := hne k hk
  have hat := atI_nat (j := k) h4
  have lls := SqL.of (K := K) ll
  have fin : ∀ (x dx : Addr) (b : Bool), New H1 x → New H1 dx → dx ≠ x → ∀ H2, H2 = upd (upd H1 dx (.own x)) x (.ins (clsOf C_Pull C_Push b) dx (tf (ti ts k).one (ti ts k).two s)) →
      H2 pl = some (.lst (ps.map V.ref)) ∧ Same H1 H2 ∧ Same H (upd H2 pl (.lst ((ps.map V.ref).set k (.ref x)))) ∧ TiesAt K C_Pull C_Push (upd H2 pl (.lst ((ps.map V.ref).set k (.ref x)))) pl (ts.set k ⟨b, (ti ts k).one, (ti ts k).two, s⟩) := by
    rintro x dx b nx nd hxd H2 rfl
    have sm := made_same (C := clsOf C_Pull C_Push b) (fs := tf (ti ts k).one (ti ts k).two s) nx nd hxd
    have l2 := sm _ _ ll
    refine ⟨l2, sm, (sl.trans sm).mut npl, ps.set k x, SqL.of (by rw [upd_same, List.map_set]), ?_⟩
    exact ((hin.same (sl.trans sm)).set (t := ⟨b, (ti ts k).one, (ti ts k).two, s⟩) ⟨dx, upd_same⟩).lst l2
  walk_at "sts"
  rw [dec_lit]
  refine ifd (fun hc => ?_) (fun hc => ?_)
  · rw [decide_eq_true hc] at q
    walk_at "sts"
    refine w_t1 T.tie h6 ?_
    walk_at "sts"
    refine w_t2 T.tie h6 ?_
    walk_at "sts"
    intro x dx nx nd hxd
    refine ⟨x, dx, ⟨true, (ti ts k).one, (ti ts k).two, s⟩, rfl, upd_same, hnk, rfl, ?_⟩
    rw [upd_upd]
    obtain ⟨f1, f2, f3, f4⟩ := fin x dx true nx nd hxd _ rfl
    have hA2 := f2.seq hA1
    generalize upd (upd H1 dx (.own x)) x _ = H2 at f1 f2 f3 f4 hA2 ⊢
    walk_at "sts"
    exact q pl _ f3 npl f4
  · rw [decide_eq_false hc] at q
    walk_at "sts"
    refine w_t1 T.tie h6 ?_
    walk_at "sts"
    refine w_t2 T.tie h6 ?_
    walk_at "sts"
    intro x dx nx nd hxd
    refine ⟨x, dx, ⟨false, (ti ts k).one, (ti ts k).two, s⟩, rfl, upd_same, hnk, rfl, ?_⟩
    rw [upd_upd]
    obtain ⟨f1, f2, f3, f4⟩ := fin x dx false nx nd hxd _ rfl
    have hA2 := f2.seq hA1
    generalize upd (upd H1 dx (.own x)) x _ = H2 at f1 f2 f3 f4 hA2 ⊢
    walk_at "sts"
    exact q pl _ f3 npl f4
def spFlipped (K : PySem.W.Frag) (CP CQ CW CB : Addr) : Sp := fun vs H Q E => ∃ (p a : Addr) (M : WebM) (ns : List Nat), vs = [.ref p, .ref a] ∧ WebAt K CP CQ CW H p M ∧ (∀ i, i < M.ts.length → (ti M.ts i).one ≠ (ti M.ts i).two) ∧ M.ts.length ≤ 1000 ∧ SqL K H a (iv ns) ∧
  (∀ u, flippedM M.ts M.T.length ns = some u → ∀ q H', Same H H' → New H q → TiesAt K CP CQ H' q u → Q (.ref q) H') ∧ (flippedM M.ts M.T.length ns = none → E (.ref CB) none H)
theorem ok_flipped {f : Addr} {fd : FuncData} (F : Fun K "flipped" "flipped" s_flipped f fd) (gf : mg "flipped" = some (.ref f)) (B : Bl mg) {C_Pull C_Push C_Web C_Desk C_BadTie C_BadTurns C_Parted C_NotFlat C_BadText C_BadDeed C_FloorError : Addr} (T : Txt K mg C_Pull C_Push C_Web C_Desk C_BadTie C_BadTurns C_Parted C_NotFlat C_BadText C_BadDeed C_FloorError) (h_other_kind : Has P w K mg base CX0 3 "other_kind" ["tie"] (spOtherK C_Pull C_Push)) : Has P w K mg base (L2.CX P w) 4 "flipped" ["web", "numbers"] (spFlipped K C_Pull C_Push C_Web C_BadDeed) := by
  refine Has.mkX F gf (F.binds (ps := ["web", "numbers"]) fun _ _ _ _ _ _ us hl => match us, hl with | [_, _], _ => rfl) sc_flipped (by walk_at "len") (fun cdv A outer s H vs Q E hr h => ?_)
  obtain ⟨p, a, M, ns, rfl, hW, hne, hsz, hA, q, qe⟩ := h
  obtain ⟨dx, wa, wb, wc, we, wxs, hp, ⟨ps, hps, hin⟩, hT, _, _⟩ := id hW.at_
  obtain ⟨ts, Tu, R⟩ := M
  have hps : SqL K H wa (ps.map V.ref) := hps
  have hin : TiesIn C_Pull C_Push H ps ts := hin
  have hne : ∀ i, i < ts.length → (ti ts i).one ≠ (ti ts i).two := hne
  have hsz : ts.length ≤ 1000 := hsz
  have hp : H p = some (.ins C_Web dx (wf (Tu.length : Nat) wa wb wc we)) := hp
  have q : ∀ u, flippedM ts Tu.length ns = some u → ∀ q H', Same H H' → New H q → TiesAt K C_Pull C_Push H' q u → Q (.ref q) H' := q
  have qe : flippedM ts Tu.length ns = none → E (.ref C_BadDeed) none H := qe
  have hpl : (ps.map V.ref).length = ts.length := by rw [List.length_map]; exact hin.1
  have hvl := iv_len ns
  refine ⟨_, (pss_cons (ps_if (PW.pt (pw_or (pt_cmpR op_ne (pe_callB (call_lenK K) (by rfl) B.len (by decide +kernel) (pa_cons (pv 1) pa_nil)) pe_int (nomark _)) (pw_or1 (pt_cmpR op_ge (pe_ix (ix_listK K) (pv 1) pe_int (fun _ _ => rfl)) (pe_fldK K (pv 0) rfl) (nomark _))))) (pss_one (ps_raise rfl (takes_of rfl rfl rfl rfl) (pmk_own PySem.F.excBase_ValueError T.xn_BadDeed T.g_BadDeed T.xf_BadDeed.kp (raises_own T.xf_BadDeed.be T.xf_BadDeed.ty) (by exact rfl)))) pss_nil)
 (pss_cons (ps_set (i := 2) sc_flipped.nd rfl (.inl rfl) (pe_lst pa_nil))
 (pss_cons (ps_for (passes_of rfl) rfl (pi_listK K (pe_fldK K (pv 0) rfl)) (pg_name (i := 3) sc_flipped.nd rfl (.inl rfl)) (pss_one (ps_if (PW.pt (pw_or (pt_cmpR op_eq (pe_fldK K (pv 3) rfl) (pe_ix (ix_listK K) (pv 1) pe_int (fun _ _ => rfl)) (nomark _)) (pw_or1 (pt_cmpR op_eq (pe_fldK K (pv 3) rfl) (pe_ix (ix_listK K) (pv 1) pe_int (fun _ _ => rfl)) (nomark _))))) (pss_one (ps_expr (pe_bmK K (pe_bm PySem.F.plainAttrs_list PySem.F.slot_list_append PySem.F.type_list_append mt_append (pv 2) (pa_cons (pe_fn h_other_kind (hr.mono (by decide)) (by rfl) (pa_cons (pv 3) pa_nil)) pa_nil))))) (pss_one (ps_expr (pe_bmK K (pe_bm PySem.F.plainAttrs_list PySem.F.slot_list_append PySem.F.type_list_append mt_append (pv 2) (pa_cons (pv 3) pa_nil))))))))
 (pss_one (ps_ret (pv 2)))))), ?_⟩
  walk_at "sts"
  rw [hvl]
  refine ifnd (fun h1 => ?_) (fun h1 => ?_)
  · walk_at "sts"
    refine qe ?_
    unfold flippedM
    rcases ns with _ | ⟨k, _ | ⟨s, r⟩⟩
    · rfl
    · exact absurd rfl h1
    · rfl
  obtain ⟨k, rfl⟩ : ∃ k, ns = [k] := by
    rcases ns with _ | ⟨k, _ | ⟨s, r⟩⟩
    · simp at h1
    · exact ⟨k, rfl⟩
    · simp at h1; omega
  have hm : flippedM ts Tu.length [k] = if Tu.length ≤ k then none else some (flipT ts k) := rfl
  have a0 : atI (iv [k]) 0 = some (.int (k : Nat)) := atI_nat (j := 0) rfl
  walk_at "sts"
  refine w_fld hp T.cl_Web T.n_Web_many (wf_many _ _ _ _ _) ?_
  walk_at "sts"
  refine ifd (fun h2 => ?_) (fun h2 => ?_)
  · walk_at "sts"
    exact qe (by rw [hm, if_pos (by omega)])
  rw [if_neg (by omega)] at hm
  have q := q _ hm
  walk_at "sts"
  refine w_new fun pl npl => ?_
  have sl := same_upd (o := .lst []) npl
  have hp1 := sl _ _ hp
  walk_at "sts"
  refine w_fld hp1 T.cl_Web T.n_Web_ties (wf_ties _ _ _ _ _) ?_
  walk_at "sts"
  refine for_list (xs := ps.map V.ref) (fun i σ H' => ∃ (y3 : Option V) (us : List Addr), σ = [some (.ref p), some (.ref a), some (.ref pl), y3] ∧ Same H H' ∧ H' pl = some (.lst (us.map V.ref)) ∧ TiesIn C_Pull C_Push H' us (flipT (ts.take i) k)) ?_ ?_ ?_ ?_
  · exact ⟨_, [], rfl, sl, upd_same, TiesIn.nil⟩
  · rintro i σ H' _ ⟨_, _, _, s1, _⟩
    exact s1.seq hps
  · rintro i x σ H1 hx ⟨y3, us, rfl, s1, lD, hus⟩
    rw [List.getElem?_map] at hx
    obtain ⟨pt, hpt, rfl⟩ := Option.map_eq_some_iff.mp hx
    have hi : i < ts.length := by rw [← hin.1]; exact (List.getElem?_eq_some_iff.mp hpt).1
    have ht := (hin.2 i pt _ hpt (ti_at hi)).same s1
    have hnk := hne i hi
    have hA1 := s1.seq hA
    have hul : us.length ≤ 1000 := by have := hus.1; unfold flipT at this; rw [List.length_map, List.length_take] at this; omega
    have etk : flipT (ts.take (i + 1)) k = flipT (ts.take i) k ++ [if (ti ts i).one = k ∨ (ti ts i).two = k then turnK (ti ts i) else ti ts i] := by
      unfold flipT
      rw [List.take_add_one, ti_at hi, Option.toList_some, List.map_append]
      rfl
    generalize ti ts i = t at ht hnk etk
    have hsz2 : (us.map V.ref).length < sizeLine := szlt (by rw [List.length_map]; omega)
    have yes : (t.one = k ∨ t.two = k) → ∀ x H2, Same H1 H2 → New H1 x → TieAt C_Pull C_Push H2 x (turnK t) → ∃ (us' : List Addr), us.map V.ref ++ [.ref x] = us'.map V.ref ∧ Same H (upd H2 pl (.lst (us.map V.ref ++ [.ref x]))) ∧ TiesIn C_Pull C_Push (upd H2 pl (.lst (us.map V.ref ++ [.ref x]))) us' (flipT (ts.take (i + 1)) k) := fun hc x H2 s2 n2 ht2 => by
      refine ⟨us ++ [x], by rw [List.map_append]; rfl, (s1.trans s2).mut npl, ?_⟩
      rw [etk, if_pos hc]
      exact ((hus.same s2).push ht2).lst (s2 _ _ lD)
    walk_at "sts"
    refine w_t1 T.tie ht ?_
    walk_at "sts"
    refine ifd (fun hc => ?_) (fun hc => ?_)
    · walk_at "sts"
      refine ⟨pt, t, rfl, ht, hnk, fun x H2 s2 n2 ht2 => ?_⟩
      obtain ⟨us', u1, u2, u3⟩ := yes (.inl (by omega)) x H2 s2 n2 ht2
      have lD2 := s2 _ _ lD
      walk_at "sts"
      exact ⟨_, us', rfl, u2, by rw [upd_same, u1], u3⟩
    walk_at "sts"
    refine w_t2 T.tie ht ?_
    walk_at "sts"
    refine ifd (fun hc2 => ?_) (fun hc2 => ?_)
    · walk_at "sts"
      refine ⟨pt, t, rfl, ht, hnk, fun x H2 s2 n2 ht2 => ?_⟩
      obtain ⟨us', u1, u2, u3⟩ := yes (.inr (by omega)) x H2 s2 n2 ht2
      have lD2 := s2 _ _ lD
      walk_at "sts"
      exact ⟨_, us', rfl, u2, by rw [upd_same, u1], u3⟩
    · walk_at "sts"
      refine ⟨_, us ++ [pt], rfl, s1.mut npl, by rw [upd_same, List.map_append]; rfl, ?_⟩
      rw [etk, if_neg (by omega)]
      exact (hus.push ht).lst lD
  rintro σ H1 ⟨y3, us, rfl, s1, lD, hus⟩
  rw [hpl, List.take_length] at hus
  walk_at "sts"
  exact q pl H1 s1 npl ⟨us, SqL.of lD, hus⟩
end

open TL
section
variable {P : Program} {w : World} {K : PySem.W.Frag} {mg : Str → Option Value} {base : Heap} {C_Pull C_Push C_Web C_Desk C_BadTie C_BadTurns C_Parted C_NotFlat C_BadText C_BadDeed C_FloorError : Addr}
/-! ### the desk -/
def df (w fl : Addr) : List (Str × V) := [("web", .ref w), ("former", .ref fl)]
theorem df_web (w fl : Addr) : (df w fl).lookup ("web" : Str) = some (.ref w) := by rfl
theorem df_former (w fl : Addr) : (df w fl).lookup ("former" : Str) = some (.ref fl) := by rfl
theorem df_put (w v fl : Addr) : putF "web" (.ref v) (df w fl) = df v fl := by rfl
theorem df_new (w fl : Addr) : putF "former" (.ref fl) (putF "web" (.ref w) []) = df w fl := by rfl
def WebIn (K : PySem.W.Frag) (CP CQ CW : Addr) (H : Hp) (w : Addr) (ts : List Ti) (T : Turns) : Prop := ∃ R, WebOk ⟨ts, T, R⟩ ∧ WebAt K CP CQ CW H w ⟨ts, T, R⟩
theorem WebIn.same {K : PySem.W.Frag} {CP CQ CW : Addr} {H H' : Hp} {w : Addr} {ts : List Ti} {T : Turns} (h : WebIn K CP CQ CW H w ts T) (e : Same H H') : WebIn K CP CQ CW H' w ts T := by
  obtain ⟨R, h1, h2⟩ := h
  exact ⟨R, h1, h2.same e⟩
/-- an instance of few fields is none of a web's -/
theorem TiesAt.woI {K : PySem.W.Frag} {CP CQ : Addr} {H : Hp} {a p C dx : Addr} {ts : List Ti} {fs : List (Str × V)} (h : TiesAt K CP CQ H a ts) (hp : H p = some (.ins C dx fs)) (hl : fs.length < 3) : TiesAt K CP CQ (wo H p) a ts := by
  obtain ⟨ps, h1, h2, h3⟩ := h
  refine ⟨ps, sqWo hp h1, h2, fun i q t a b => ?_⟩
  obtain ⟨dx', e⟩ := h3 i q t a b
  refine ⟨dx', wo_get e fun z => ?_⟩
  subst z
  rw [hp] at e
  injection e with e
  injection e with _ _ e
  rw [e] at hl
  exact absurd hl (by show ¬ 3 < 3; omega)
theorem WebAt.woI {K : PySem.W.Frag} {CP CQ CW : Addr} {H : Hp} {w p C dx : Addr} {M : WebM} {fs : List (Str × V)} (h : WebAt K CP CQ CW H w M) (hp : H p = some (.ins C dx fs)) (hl : fs.length < 3) : WebAt K CP CQ CW (wo H p) w M := by
  obtain ⟨dx', a, b, c, d, xs, h1, h2, h3, h4, h5, h6⟩ := h.at_
  refine ⟨dx', a, b, c, d, xs, wo_get h1 fun z => ?_, h2.woI hp hl, dpWo hp _ _ h3, dpWo hp _ _ h4, sqWo hp h5, dpWoAll hp _ _ h6⟩
  subst z
  rw [hp] at h1
  injection h1 with h1
  injection h1 with _ _ h1
  rw [h1] at hl
  exact absurd hl (by show ¬ 5 < 3; omega)
theorem WebIn.woI {K : PySem.W.Frag} {CP CQ CW : Addr} {H : Hp} {w p C dx : Addr} {ts : List Ti} {T : Turns} {fs : List (Str × V)} (h : WebIn K CP CQ CW H w ts T) (hp : H p = some (.ins C dx fs)) (hl : fs.length < 3) : WebIn K CP CQ CW (wo H p) w ts T := by
  obtain ⟨R, h1, h2⟩ := h
  exact ⟨R, h1, h2.woI hp hl⟩
/-- the desk at p, its list at fl; the webs stand beside both -/
structure DeskAt (K : PySem.W.Frag) (CP CQ CW CD : Addr) (H : Hp) (p fl : Addr) (T : Turns) (ts : List Ti) (hs : List (List Ti)) : Prop where
  ex : ∃ dx w ws, H p = some (.ins CD dx (df w fl)) ∧ H fl = some (.lst (List.map V.ref ws)) ∧ ws.length = hs.length ∧ WebIn K CP CQ CW (wo (wo H p) fl) w ts T ∧
    ∀ (i : Nat) (q : Addr) (t : List Ti), ws[i]? = some q → hs[i]? = some t → WebIn K CP CQ CW (wo (wo H p) fl) q t T
def Beside (p fl : Addr) (H H' : Hp) : Prop := Same (wo (wo H p) fl) (wo (wo H' p) fl)
theorem Beside.of {p fl : Addr} {H H' : Hp} (h : Same (wo (wo H p) fl) H') : Beside p fl H H' := fun b o e => by
  have e1 := h b o e
  have n1 : b ≠ fl := fun z => by subst z; rw [wo_new] at e; cases e
  have n2 : b ≠ p := fun z => by
    subst z
    have : wo (wo H b) fl b = none := by
      unfold wo
      split
      · rfl
      · rw [if_pos rfl]
    rw [this] at e; cases e
  exact wo_get (wo_get e1 n2) n1
theorem DeskAt.same {K : PySem.W.Frag} {CP CQ CW CD : Addr} {H H' : Hp} {p fl : Addr} {T : Turns} {ts : List Ti} {hs : List (List Ti)} (h : DeskAt K CP CQ CW CD H p fl T ts hs) (e : Same H H') : DeskAt K CP CQ CW CD H' p fl T ts hs := by
  obtain ⟨dx, w, ws, h1, h2, h3, h4, h5⟩ := h.ex
  have m : Same (wo (wo H p) fl) (wo (wo H' p) fl) := wo_mono (wo_mono e)
  exact ⟨dx, w, ws, e _ _ h1, e _ _ h2, h3, h4.same m, fun i q t a b => (h5 i q t a b).same m⟩
def spDeskI (K : PySem.W.Frag) (CP CQ CW CD CB : Addr) : Sp := fun vs H Q E => ∃ (p dx : Addr) (text : List Nat), vs = [.ref p, .str (tS text)] ∧ H p = some (.ins CD dx []) ∧ text.length ≤ 90000 ∧ (∀ a, readW text = .inl a → XB K CB E H (a : Nat)) ∧
  (∀ m told T, readW text = .inr (m, told, T) → Flat (endsOf (told.map tiR)) T ∧ T.length = m ∧ 1 ≤ m ∧ m ≤ 40 ∧ ∀ fl H', Same (wo H p) H' → New (wo H p) fl → DeskAt K CP CQ CW CD H' p fl T (told.map tiR) [] → Q .non H')
def spDeskIX (K : PySem.W.Frag) (CP CQ CW CD CB C1 C2 C3 C4 : Addr) : Sp := fun vs H Q E => ∃ (p dx : Addr) (text : List Nat), vs = [.ref p, .str (tS text)] ∧ H p = some (.ins CD dx []) ∧ text.length ≤ 90000 ∧ (∀ a, readW text = .inl a → XB K CB E H (a : Nat)) ∧
  (∀ m told T, readW text = .inr (m, told, T) → (∀ t ∈ told, t.2.1 ≠ t.2.2.1) ∧ 1 ≤ m ∧ m ≤ 40 ∧ WebSays (told.map tiR) m (T.map castI) (∀ H', Same H H' → E (.ref C1) none H') (∀ H', Same H H' → E (.ref C2) none H') (∀ H', Same H H' → E (.ref C3) none H') (∀ H', Same H H' → E (.ref C4) none H')
    (fun T' => ∀ fl H', Same (wo H p) H' → New (wo H p) fl → DeskAt K CP CQ CW CD H' p fl T' (told.map tiR) [] → Q .non H'))
theorem spDeskI.toX {K : PySem.W.Frag} {CP CQ CW CD CB C1 C2 C3 C4 : Addr} {vs : List V} {H : Hp} {Q : VK} {E : XK} (h : spDeskI K CP CQ CW CD CB vs H Q E) : spDeskIX K CP CQ CW CD CB C1 C2 C3 C4 vs H Q E := by
  obtain ⟨p, dx, text, rfl, hp, hsz, qe, q⟩ := h
  refine ⟨p, dx, text, rfl, hp, hsz, qe, fun m told T hr => ?_⟩
  obtain ⟨hF, hT, h1, h2, q⟩ := q m told T hr
  refine ⟨fun t ht => ?_, h1, h2, .flat T rfl hT hF q⟩
  obtain ⟨i, hi, e⟩ := List.getElem_of_mem ht
  have := (hF.ok.ends i (by rw [endsOf_len, List.length_map]; exact hi)).1
  have hte : ti (told.map tiR) i = tiR told[i] := by unfold ti; rw [List.getD_eq_getElem?_getD, List.getElem?_map, List.getElem?_eq_getElem hi]; rfl
  rw [en_ti (by rw [List.length_map]; exact hi), hte, e] at this
  exact this
theorem ok_Desk___init__ {f : Addr} {fd : FuncData} (F : Fun K "__init__" "Desk.__init__" s_Desk___init__ f fd) (B : Bl mg) {C_Pull C_Push C_Web C_Desk C_BadTie C_BadTurns C_Parted C_NotFlat C_BadText C_BadDeed C_FloorError : Addr} (T : Txt K mg C_Pull C_Push C_Web C_Desk C_BadTie C_BadTurns C_Parted C_NotFlat C_BadText C_BadDeed C_FloorError) (h_read : Has P w K mg base (L2.CX P w) 7 "read" ["text"] (spReadX K C_Pull C_Push C_Web C_BadText C_BadTie C_BadTurns C_Parted C_NotFlat)) : HasFn P w K mg base (L2.CX P w) 8 f ["self", "text"] (spDeskIX K C_Pull C_Push C_Web C_Desk C_BadText C_BadTie C_BadTurns C_Parted C_NotFlat) := by
  refine HasFn.mkX F (F.binds (ps := ["self", "text"]) fun _ _ _ _ _ _ us hl => match us, hl with | [_, _], _ => rfl) sc_Desk___init__ (by walk_at "len") (fun cdv A outer s H vs Q E hr h => ?_)
  obtain ⟨p, dx, text, rfl, hp, hsz, qe, q⟩ := h
  refine ⟨_, (pss_cons (ps_fld (pv 0) (pe_fnS (takes_of rfl rfl rfl rfl) h_read (hr.mono (by decide)) (by rfl) (pa_cons (pv 1) pa_nil)) rfl)
 (pss_one (ps_fld (pv 0) (pe_lst pa_nil) rfl))), ?_⟩
  walk_at "sts"
  refine ⟨text, rfl, hsz, qe, fun m told T' hrw => ?_⟩
  obtain ⟨hne, hm1, hm2, says⟩ := q m told T' hrw
  refine ⟨hne, hm1, hm2, says.imp id id id id fun T2 _ q x H1 R s1 n1 hW hA => ?_⟩
  have hp1 := s1 _ _ hp
  have hA1 := hA.woI hp1 (by show 0 < 3; omega)
  walk_at "sts"
  refine w_sfq hp1 T.cl_Desk T.n_Desk_web (by show 0 < 1000; decide) ?_
  have e2 : Same (wo H1 p) (upd H1 p (.ins C_Desk dx (putF "web" (.ref x) []))) := same_wo_upd
  have p2 : upd H1 p (.ins C_Desk dx (putF "web" (.ref x) [])) p = some (.ins C_Desk dx (putF "web" (.ref x) [])) := upd_same
  generalize upd H1 p (.ins C_Desk dx (putF "web" (.ref x) [])) = H2 at e2 p2 ⊢
  walk_at "sts"
  refine w_new fun fl nfl => ?_
  have hfp : fl ≠ p := Ne.symm (ne_new p2 nfl)
  have p3 : upd H2 fl (.lst []) p = some (.ins C_Desk dx (putF "web" (.ref x) [])) := by rw [upd_ne (Ne.symm hfp)]; exact p2
  walk_at "sts"
  refine w_sfq p3 T.cl_Desk T.n_Desk_former (by show 1 < 1000; decide) ?_
  rw [df_new]
  have nf1 : New (wo H1 p) fl := (show New H2 fl from nfl).of e2
  have g1 : Same (wo H1 p) (upd (upd H2 fl (.lst [])) p (.ins C_Desk dx (df x fl))) := (e2.trans (same_upd nfl)).mut wo_new
  have g2 : Same (wo H1 p) (wo (wo (upd (upd H2 fl (.lst [])) p (.ins C_Desk dx (df x fl))) p) fl) := same_wo (same_wo g1 wo_new) nf1
  have w1 : Same (wo H p) (wo H1 p) := wo_mono s1
  walk_at "sts"
  refine q fl _ (w1.trans g1) (nf1.of w1) ⟨dx, x, [], upd_same, by rw [upd_ne hfp]; exact upd_same, rfl, ⟨R, hW, hA1.same g2⟩, fun i q t a => by simp at a⟩
def spLeft (K : PySem.W.Frag) (CP CQ CW CD : Addr) : Sp := fun vs H Q _ => ∃ (p fl : Addr) (T : Turns) (ts : List Ti) (hs : List (List Ti)), vs = [.ref p] ∧ DeskAt K CP CQ CW CD H p fl T ts hs ∧ Q (.int (hs.length : Nat)) H
theorem ok_Desk_left {f : Addr} {fd : FuncData} (F : Fun K "left" "Desk.left" s_Desk_left f fd) (B : Bl mg) {C_Pull C_Push C_Web C_Desk C_BadTie C_BadTurns C_Parted C_NotFlat C_BadText C_BadDeed C_FloorError : Addr} (T : Txt K mg C_Pull C_Push C_Web C_Desk C_BadTie C_BadTurns C_Parted C_NotFlat C_BadText C_BadDeed C_FloorError) : HasFn P w K mg base CX0 1 f ["self"] (spLeft K C_Pull C_Push C_Web C_Desk) := by
  refine HasFn.mk' F (F.binds (ps := ["self"]) fun _ _ _ _ _ _ us hl => match us, hl with | [_], _ => rfl) sc_Desk_left (by walk_at "len") (fun cdv A outer s H vs Q E hr h => ?_)
  obtain ⟨p, fl, Tu, ts, hs, rfl, hD, q⟩ := h
  obtain ⟨dx, w, ws, h1, h2, h3, h4, h5⟩ := hD.ex
  have h2s := SqL.of (K := K) h2
  refine ⟨_, (pss_one (ps_ret (pe_callB (call_lenK K) (by rfl) B.len (by decide +kernel) (pa_cons (pe_fldK K (pv 0) rfl) pa_nil)))), ?_⟩
  walk_at "sts"
  refine w_fld h1 T.cl_Desk T.n_Desk_former (df_former _ _) ?_
  walk_at "sts"
  rw [List.length_map, h3]
  exact q
def spDText (K : PySem.W.Frag) (CP CQ CW CD : Addr) : Sp := fun vs H Q _ => ∃ (p fl : Addr) (T : Turns) (ts : List Ti) (hs : List (List Ti)), vs = [.ref p] ∧ DeskAt K CP CQ CW CD H p fl T ts hs ∧ TextOk ts T ∧ (∀ p, (row T p).length ≤ 80) ∧ ∀ H', Same H H' → Q (.str (tS (webText ts T))) H'
theorem ok_Desk_text {f : Addr} {fd : FuncData} (F : Fun K "text" "Desk.text" s_Desk_text f fd) (B : Bl mg) {C_Pull C_Push C_Web C_Desk C_BadTie C_BadTurns C_Parted C_NotFlat C_BadText C_BadDeed C_FloorError : Addr} (T : Txt K mg C_Pull C_Push C_Web C_Desk C_BadTie C_BadTurns C_Parted C_NotFlat C_BadText C_BadDeed C_FloorError) (h_written : Has P w K mg base CX0 2 "written" ["web"] (spWritten K C_Pull C_Push C_Web)) : HasFn P w K mg base CX0 3 f ["self"] (spDText K C_Pull C_Push C_Web C_Desk) := by
  refine HasFn.mk' F (F.binds (ps := ["self"]) fun _ _ _ _ _ _ us hl => match us, hl with | [_], _ => rfl) sc_Desk_text (by walk_at "len") (fun cdv A outer s H vs Q E hr h => ?_)
  obtain ⟨p, fl, Tu, ts, hs, rfl, hD, hok, hrl, q⟩ := h
  obtain ⟨dx, w, ws, h1, h2, h3, ⟨R, hW, hA⟩, h5⟩ := hD.ex
  refine ⟨_, (pss_one (ps_ret (pe_fn h_written (hr.mono (by decide)) (by rfl) (pa_cons (pe_fldK K (pv 0) rfl) pa_nil)))), ?_⟩
  walk_at "sts"
  refine w_fld h1 T.cl_Desk T.n_Desk_web (df_web _ _) ?_
  walk_at "sts"
  exact ⟨w, ⟨ts, Tu, R⟩, rfl, hA.same (wo_same.trans wo_same), hok, hrl, q⟩
def spTurnTo (K : PySem.W.Frag) (CP CQ CW CD : Addr) : Sp := fun vs H Q _ => ∃ (p fl a : Addr) (T : Turns) (ts u : List Ti) (hs : List (List Ti)), vs = [.ref p, .ref a] ∧ DeskAt K CP CQ CW CD H p fl T ts hs ∧ TiesAt K CP CQ (wo (wo H p) fl) a u ∧ endsOf u = endsOf ts ∧ ts.length ≤ 1000 ∧ 1 ≤ T.length ∧ T.length ≤ 1000 ∧ hs.length ≤ 1000 ∧
  ∀ H', Same (wo (wo H p) fl) H' → DeskAt K CP CQ CW CD H' p fl T u (hs ++ [ts]) → Q .non H'
theorem ok_Desk_turn_to {f : Addr} {fd : FuncData} (F : Fun K "turn_to" "Desk.turn_to" s_Desk_turn_to f fd) (B : Bl mg) {C_Pull C_Push C_Web C_Desk C_BadTie C_BadTurns C_Parted C_NotFlat C_BadText C_BadDeed C_FloorError : Addr} (T : Txt K mg C_Pull C_Push C_Web C_Desk C_BadTie C_BadTurns C_Parted C_NotFlat C_BadText C_BadDeed C_FloorError) (h_mk_Web : HasMk P w K mg base (L2.CX P w) 5 "Web" C_Web ["self", "many", "ties", "turns"] (spWebX K C_Pull C_Push C_Web C_BadTie C_BadTurns C_Parted C_NotFlat)) : HasFn P w K mg base CX0 7 f ["self", "ties"] (spTurnTo K C_Pull C_Push C_Web C_Desk) := by
  refine HasFn.mk' F (F.binds (ps := ["self", "ties"]) fun _ _ _ _ _ _ us hl => match us, hl with | [_, _], _ => rfl) sc_Desk_turn_to (by walk_at "len") (fun cdv A outer s H vs Q E hr h => ?_)
  obtain ⟨p, fl, a, Tu, ts, u, hs, rfl, hD, hU, hEu, hsz, hT1, hT2, hhs, q⟩ := h
  obtain ⟨dx, w, ws, h1, h2, h3, ⟨R, hW, hA⟩, h5⟩ := hD.ex
  have hfp : fl ≠ p := fun z => by subst z; rw [h1] at h2; cases h2
  have hwl : (List.map V.ref ws).length < sizeLine := szlt (by rw [List.length_map]; omega)
  obtain ⟨wdx, wa, wb, wc, we, wxs, wp, wTi, wT, wR, _⟩ := id hA.at_
  refine ⟨_, (pss_cons (ps_set (i := 2) sc_Desk_turn_to.nd rfl (.inl rfl) (pe_fldK K (pv 0) rfl))
 (pss_cons (ps_expr (pe_bmK K (pe_bm PySem.F.plainAttrs_list PySem.F.slot_list_append PySem.F.type_list_append mt_append (pe_fldK K (pv 0) rfl) (pa_cons (pv 2) pa_nil))))
 (pss_one (ps_fld (pv 0) (PE.frm (pe_mkL h_mk_Web (hr.mono (by decide)) (by rfl) (pa_cons (pe_fldK K (pv 2) rfl) (pa_cons (pv 1) (pa_cons (pe_fldK K (pv 2) rfl) pa_nil))))) rfl)))), ?_⟩
  walk_at "sts"
  refine w_fld h1 T.cl_Desk T.n_Desk_web (df_web _ _) ?_
  walk_at "sts"
  refine w_fld h1 T.cl_Desk T.n_Desk_former (df_former _ _) ?_
  walk_at "sts"
  refine .inr ⟨fl, _, upd_same, ?_⟩
  rw [wo_eq]
  have hp0 : wo H fl p = some (.ins C_Desk dx (df w fl)) := wo_get h1 (Ne.symm hfp)
  have sG : Same (wo (wo H p) fl) (wo H fl) := fun b o e => by
    have n2 : b ≠ fl := fun z => by subst z; rw [wo_new] at e; cases e
    have n1 : b ≠ p := fun z => by
      subst z
      have : wo (wo H b) fl b = none := by
        unfold wo
        split
        · rfl
        · rw [if_pos rfl]
      rw [this] at e; cases e
    exact wo_get (wo_same b o (wo_same b o e)) n2
  have wp0 := sG _ _ wp
  have hU0 := hU.same sG
  have hT0 := wT.same sG
  walk_at "sts"
  refine w_fld wp0 T.cl_Web T.n_Web_many (wf_many _ _ _ _ _) ?_
  walk_at "sts"
  refine w_fld wp0 T.cl_Web T.n_Web_turns (wf_turns _ _ _ _ _) ?_
  walk_at "sts"
  intro x dx' nx nd hxd
  have sm : Same (wo H fl) (upd (upd (wo H fl) dx' (.own x)) x (.ins C_Web dx' [])) := made_same nx nd hxd
  have sw : Same (wo H fl) (wo (upd (upd (wo H fl) dx' (.own x)) x (.ins C_Web dx' [])) x) := same_wo sm nx
  have hlen := endsOf_eq_len hEu
  have hF : Flat (endsOf u) Tu := by rw [hEu]; exact hW.flat
  refine spWeb.toX ⟨x, dx', a, wb, u, Tu, rfl, upd_same, hU0.same sw, hT0.same sw, hF, by omega, by omega, hT2, fun H2 R2 s2 w1 w2 => ?_⟩
  refine ⟨rfl, fun hfl => ?_⟩
  have hp2 := s2 _ _ (sw _ _ hp0)
  have w3 := w2.woI hp2 (by show 2 < 3; omega)
  have s02 := sw.trans s2
  have p4 : upd H2 fl (.lst (ws.map V.ref ++ [.ref w])) p = some (.ins C_Desk dx (df w fl)) := by rw [upd_ne (Ne.symm hfp)]; exact hp2
  walk_at "sts"
  refine w_sfq p4 T.cl_Desk T.n_Desk_web (by show 2 < 1000; decide) ?_
  rw [df_put]
  walk_at "sts"
  have g1 : Same (wo H2 p) (wo (upd (upd H2 fl (.lst (ws.map V.ref ++ [.ref w]))) p (.ins C_Desk dx (df x fl))) p) := by
    rw [wo_eq]
    exact wo_mono (same_upd hfl)
  have g2 : Same (wo H2 p) (wo (wo (upd (upd H2 fl (.lst (ws.map V.ref ++ [.ref w]))) p (.ins C_Desk dx (df x fl))) p) fl) := same_wo g1 (by
    show wo H2 p fl = none
    unfold wo
    rw [if_neg hfp]
    exact hfl)
  have g3 : Same (wo (wo H p) fl) (wo H2 p) := by
    have : Same (wo (wo H p) fl) (wo (wo H fl) p) := fun b o e => by
      have e1 := sG b o e
      have n1 : b ≠ p := fun z => by
        subst z
        have : wo (wo H b) fl b = none := by
          unfold wo
          split
          · rfl
          · rw [if_pos rfl]
        rw [this] at e; cases e
      exact wo_get e1 n1
    exact this.trans (wo_mono s02)
  have g4 := g3.trans g2
  refine q _ (g3.trans (g2.trans (wo_same.trans wo_same))) ⟨dx, x, ws ++ [w], upd_same, by rw [upd_ne hfp, upd_same, List.map_append]; rfl, by rw [List.length_append, List.length_append, h3]; rfl, ⟨R2, w1, w3.same g2⟩, fun i q' t' e1 e2 => ?_⟩
  by_cases hi : i < ws.length
  · rw [List.getElem?_append_left hi] at e1
    rw [List.getElem?_append_left (by omega)] at e2
    exact (h5 i q' t' e1 e2).same g4
  · have hi2 : i = ws.length := by
      have := (List.getElem?_eq_some_iff.mp e1).1
      rw [List.length_append, List.length_singleton] at this
      omega
    subst hi2
    rw [List.getElem?_append_right (Nat.le_refl _), Nat.sub_self] at e1
    rw [List.getElem?_append_right (by omega), h3, Nat.sub_self] at e2
    injection e1 with e1
    injection e2 with e2
    rw [← e1, ← e2]
    exact (show WebIn K C_Pull C_Push C_Web (wo (wo H p) fl) w ts Tu from ⟨R, hW, hA⟩).same g4
end

open TL
theorem w_neNilI {K : PySem.W.Frag} {H : Hp} {Q : VK} {p e : Addr} {ys : List Nat} (h1 : SqL K H p (iv ys)) (he : H e = some (.lst [])) (h : Q (.bl (!decide (ys = []))) H) : rNeD K (.ref p) (.ref e) H Q := by
  refine ⟨dRow ys, .list [], dpRow h1, .lst (SqL.of he) .nil, (goodRow ys).shaped (by decide), (goodLst (n := 0) (ds := []) fun d hd => (by cases hd)).shaped (by decide), ?_⟩
  cases ys with
  | nil => exact h
  | cons t l => exact h
theorem last_get {α : Type} : ∀ (xs : List α) (d : α), xs ≠ [] → xs[xs.length - 1]? = some (xs.getLastD d)
  | [], d, h => absurd rfl h
  | [x], d, _ => rfl
  | x :: y :: r, d, _ => by
    have := last_get (y :: r) x (by simp)
    rw [List.length_cons, Nat.add_sub_cancel]
    rw [List.length_cons, Nat.add_sub_cancel] at this
    rw [List.length_cons, List.getElem?_cons_succ]
    exact this
section
variable {P : Program} {w : World} {K : PySem.W.Frag} {mg : Str → Option Value} {base : Heap} {C_Pull C_Push C_Web C_Desk C_BadTie C_BadTurns C_Parted C_NotFlat C_BadText C_BadDeed C_FloorError : Addr}
def spDo (K : PySem.W.Frag) (CP CQ CW CD CB : Addr) : Sp := fun vs H Q E => ∃ (p fl : Addr) (row : List Nat) (T : Turns) (ts : List Ti) (hs : List (List Ti)), vs = [.ref p, .str (tS row)] ∧ DeskAt K CP CQ CW CD H p fl T ts hs ∧ row.length ≤ 100000 ∧ ts.length ≤ 1000 ∧ 1 ≤ T.length ∧ T.length ≤ 1000 ∧ hs.length ≤ 1000 ∧
  (∀ u hs', deedM ts T.length hs row = some (u, hs') → ∀ H', Same (wo (wo H p) fl) H' → DeskAt K CP CQ CW CD H' p fl T u hs' → Q .non H') ∧ (deedM ts T.length hs row = none → ∀ H', Same H H' → E (.ref CB) none H')
theorem wo2_sub {H : Hp} {p fl : Addr} : Same (wo (wo H p) fl) (wo H fl) := fun b o e => by
  have n2 : b ≠ fl := fun z => by subst z; rw [wo_new] at e; cases e
  exact wo_get (wo_same b o (wo_same b o e)) n2
theorem same_frm {H H5 : Hp} {fl : Addr} {xs : List V} (s : Same (wo H fl) H5) (h : H fl = some (.lst xs)) : Same H (upd H5 fl (.lst xs)) := fun b o e => by
  by_cases hb : b = fl
  · subst hb
    rw [h] at e
    rw [upd_same]
    exact e
  · rw [upd_ne hb]
    exact s b o (wo_get e hb)
theorem same_frm2 {H5 : Hp} {p fl : Addr} {xs : List V} (hn : H5 fl = none) (hfp : fl ≠ p) : Same (wo H5 p) (wo (wo (upd H5 fl (.lst xs)) p) fl) := fun b o e => by
  have n1 : b ≠ p := fun z => by subst z; rw [wo_new] at e; cases e
  have e1 := wo_same b o e
  have n2 : b ≠ fl := fun z => by subst z; rw [hn] at e1; cases e1
  exact wo_get (wo_get (by rw [upd_ne n2]; exact e1) n1) n2
theorem ok_Desk_do {f : Addr} {fd : FuncData} (F : Fun K "do" "Desk.do" s_Desk_do f fd) (B : Bl mg) {C_Pull C_Push C_Web C_Desk C_BadTie C_BadTurns C_Parted C_NotFlat C_BadText C_BadDeed C_FloorError : Addr} (T : Txt K mg C_Pull C_Push C_Web C_Desk C_BadTie C_BadTurns C_Parted C_NotFlat C_BadText C_BadDeed C_FloorError) (h_told_numbers : Has P w K mg base (L2.CX P w) 1 "told_numbers" ["words"] (spToldN K C_BadDeed)) (h_strung : Has P w K mg base (L2.CX P w) 3 "strung" ["web", "word", "numbers"] (spStrung K C_Pull C_Push C_Web C_BadDeed)) (h_flipped : Has P w K mg base (L2.CX P w) 4 "flipped" ["web", "numbers"] (spFlipped K C_Pull C_Push C_Web C_BadDeed)) (h_Desk_turn_to : HasMeth P w K mg base CX0 7 C_Desk "turn_to" ["self", "ties"] (spTurnTo K C_Pull C_Push C_Web C_Desk)) : HasFn P w K mg base (L2.CX P w) 8 f ["self", "row"] (spDo K C_Pull C_Push C_Web C_Desk C_BadDeed) := by
  refine HasFn.mkX F (F.binds (ps := ["self", "row"]) fun _ _ _ _ _ _ us hl => match us, hl with | [_, _], _ => rfl) sc_Desk_do (by walk_at "len") (fun cdv A outer s H vs Q E hr h => ?_)
  obtain ⟨p, fl, rw_, Tu, ts, hs, rfl, hD, hrl, hsz, hT1, hT2, hhs, q, qe⟩ := h
  obtain ⟨hl1, hl2⟩ := spl_len [32] (by decide) rw_ [] 0
  rw [spl_hd rw_] at hl1 hl2
  have hdm : deedM ts Tu.length hs rw_ = match numsN 31 (tlW rw_) with
    | none => none
    | some ns => if hdW rw_ = tL "back" then (if ns = [] ∧ hs ≠ [] then some (hs.getLastD [], hs.dropLast) else none)
      else if hdW rw_ = tL "pull" ∨ hdW rw_ = tL "push" then (match strungM ts (hdW rw_) ns with
        | none => none
        | some u => some (u, hs ++ [ts]))
      else if hdW rw_ = tL "flip" then (match flippedM ts Tu.length ns with
        | none => none
        | some u => some (u, hs ++ [ts]))
      else none := rfl
  generalize deedM ts Tu.length hs rw_ = R at *
  refine ⟨_, (pss_cons (ps_set (i := 2) sc_Desk_do.nd rfl (.inl rfl) (pe_split (pv 1) pe_str))
 (pss_cons (ps_set (i := 3) sc_Desk_do.nd rfl (.inl rfl) (pe_fnS (takes_of rfl rfl rfl rfl) h_told_numbers (hr.mono (by decide)) (by rfl) (pa_cons (pe_slice (sl_listK K) (pv 2) (po_some pe_int) po_none) pa_nil)))
 (pss_one (ps_if (pt_cmpR op_eq (pe_ix (ix_listK K) (pv 2) pe_int (fun _ _ => rfl)) pe_str (nomark _)) (pss_cons (ps_if (PW.pt (pw_or (pt_cmpR (op_neDK K hr.units) (pv 3) (pe_lst pa_nil) (nomark _)) (pw_or1 (pt_cmpR (op_eqNilO K hr.units) (pe_fldK K (pv 0) rfl) (pe_lst pa_nil) (nomark _))))) (pss_one (ps_raise rfl (takes_of rfl rfl rfl rfl) (pmk_own PySem.F.excBase_ValueError T.xn_BadDeed T.g_BadDeed T.xf_BadDeed.kp (raises_own T.xf_BadDeed.be T.xf_BadDeed.ty) (by exact rfl)))) pss_nil)
 (pss_one (ps_fld (pv 0) (pe_bm0K K (pe_bm0 PySem.F.plainAttrs_list PySem.F.slot_list_pop PySem.F.type_list_pop mt_pop (pe_fldK K (pv 0) rfl))) rfl))) (pss_one (ps_if (pt_cmpR (op_inK K) (pe_ix (ix_listK K) (pv 2) pe_int (fun _ _ => rfl)) (pe_tup (pa_cons pe_str (pa_cons pe_str pa_nil))) (by rfl)) (pss_one (ps_expr (pe_mt h_Desk_turn_to (pv 0) (hr.mono (by decide)) (pa_cons (PE.frm (pe_fnS (takes_of rfl rfl rfl rfl) h_strung (hr.mono (by decide)) (by rfl) (pa_cons (pe_fldK K (pv 0) rfl) (pa_cons (pe_ix (ix_listK K) (pv 2) pe_int (fun _ _ => rfl)) (pa_cons (pv 3) pa_nil))))) pa_nil)))) (pss_one (ps_if (pt_cmpR op_eq (pe_ix (ix_listK K) (pv 2) pe_int (fun _ _ => rfl)) pe_str (nomark _)) (pss_one (ps_expr (pe_mt h_Desk_turn_to (pv 0) (hr.mono (by decide)) (pa_cons (PE.frm (pe_fnS (takes_of rfl rfl rfl rfl) h_flipped (hr.mono (by decide)) (by rfl) (pa_cons (pe_fldK K (pv 0) rfl) (pa_cons (pv 3) pa_nil)))) pa_nil)))) (pss_one (ps_raise rfl (takes_of rfl rfl rfl rfl) (pmk_own PySem.F.excBase_ValueError T.xn_BadDeed T.g_BadDeed T.xf_BadDeed.kp (raises_own T.xf_BadDeed.be T.xf_BadDeed.ty) (by exact rfl)))))))))))), ?_⟩
  walk_at "sts"
  rw [tL_lit]
  refine w_m1 ?_
  walk_at "sts"
  refine w_isS ?_
  walk_at "sts"
  rw [tL_lit]
  refine w_split (by decide) (by decide) (by rw [sizeLine_eq]; omega) fun p1 n1 => ?_
  rw [show tL " " = [32] from rfl, spl_hd rw_]
  generalize hdW rw_ = w0 at *
  generalize tlW rw_ = ws at *
  rw [List.length_cons] at hl1
  have s1 := same_upd (o := .lst (sv (w0 :: ws))) n1
  have l1 : upd H p1 (.lst (sv (w0 :: ws))) p1 = some (.lst (sv (w0 :: ws))) := upd_same
  generalize upd H p1 (.lst (sv (w0 :: ws))) = H1 at s1 l1 ⊢
  have l1s := SqL.of (K := K) l1
  walk_at "sts"
  refine w_new fun p2 n2 => ?_
  have e2 : cutV (sv (w0 :: ws)) (some 1) none = sv ws := cutV_from _ 1
  rw [e2]
  have s2 := same_upd (o := .lst (sv ws)) n2
  have l2 : upd H1 p2 (.lst (sv ws)) p2 = some (.lst (sv ws)) := upd_same
  generalize upd H1 p2 (.lst (sv ws)) = H2 at s2 l2 ⊢
  have a0 : atI (sv (w0 :: ws)) 0 = some (.str (tS w0)) := atI_nat (j := 0) rfl
  walk_at "sts"
  refine ⟨p2, ws, rfl, SqL.of l2, fun w hw => by have := hl2 w (List.mem_cons_of_mem _ hw); simp at this; omega, by omega, fun ns hns hnl hnb p3 H3 s3 n3 l3 => ?_, fun hns => qe (by rw [hdm, hns]) H2 (s1.trans s2)⟩
  have hdm : R = if w0 = tL "back" then (if ns = [] ∧ hs ≠ [] then some (hs.getLastD [], hs.dropLast) else none)
      else if w0 = tL "pull" ∨ w0 = tL "push" then (match strungM ts w0 ns with
        | none => none
        | some u => some (u, hs ++ [ts]))
      else if w0 = tL "flip" then (match flippedM ts Tu.length ns with
        | none => none
        | some u => some (u, hs ++ [ts]))
      else none := by rw [hdm, hns]
  have l13 := s3 _ _ (s2 _ _ l1)
  have l13s := SqL.of (K := K) l13
  have l3s := SqL.of (K := K) l3
  have s13 := s1.trans (s2.trans s3)
  have hD3 := hD.same s13
  obtain ⟨dx, w, wss, h1, h2, h3, hW0, h5⟩ := hD3.ex
  have hfp : fl ≠ p := fun z => by subst z; rw [h1] at h2; cases h2
  have h2s := SqL.of (K := K) h2
  have g13 : Same (wo (wo H p) fl) (wo (wo H3 p) fl) := wo_mono (wo_mono s13)
  walk_at "sts"
  rw [dec_lit]
  refine ifd (fun hb => ?_) (fun hb => ?_)
  · rw [if_pos hb] at hdm
    walk_at "sts"
    refine w_new fun p4 n4 => ?_
    have s4 := same_upd (o := .lst []) n4
    have l4 : upd H3 p4 (.lst []) p4 = some (.lst []) := upd_same
    generalize upd H3 p4 (.lst []) = H4 at s4 l4 ⊢
    refine w_neNilI (s4.seq l3s) l4 ?_
    walk_at "sts"
    refine ifnd (fun h6 => ?_) (fun h6 => ?_)
    · walk_at "sts"
      exact qe (by rw [hdm, if_neg (fun z => h6 z.1)]) H4 (s13.trans s4)
    have h14 := s4 _ _ h1
    walk_at "sts"
    refine w_fld h14 T.cl_Desk T.n_Desk_former (df_former _ _) ?_
    walk_at "sts"
    refine w_new fun p5 n5 => ?_
    have s5 := same_upd (o := .lst []) n5
    have l5 : upd H4 p5 (.lst []) p5 = some (.lst []) := upd_same
    generalize upd H4 p5 (.lst []) = H5 at s5 l5 ⊢
    have s45 := s4.trans s5
    refine w_eqNilO (s45.seq h2s) l5 ?_
    walk_at "sts"
    refine ifd (fun h7 => ?_) (fun h7 => ?_)
    · walk_at "sts"
      refine qe ?_ H5 (s13.trans s45)
      rw [hdm, if_neg]
      rintro ⟨_, z⟩
      refine z (List.length_eq_zero_iff.mp ?_)
      rw [← h3, ← List.length_map (f := V.ref), h7]
      rfl
    have hwne : wss ≠ [] := fun z => h7 (by rw [z]; rfl)
    have hhne : hs ≠ [] := fun z => hwne (List.length_eq_zero_iff.mp (by rw [h3, z]; rfl))
    rw [if_pos ⟨h6, hhne⟩] at hdm
    have q := q _ _ hdm
    have h15 := s45 _ _ h1
    have h25 := s45 _ _ h2
    have hlast : (wss.map V.ref)[(wss.map V.ref).length - 1]? = some (.ref (wss.getLastD 0)) := by
      rw [List.length_map, List.getElem?_map, last_get wss 0 hwne]
      rfl
    walk_at "sts"
    refine w_fld h15 T.cl_Desk T.n_Desk_former (df_former _ _) ?_
    walk_at "sts"
    refine ⟨fl, _, _, rfl, rfl, h25, hlast, ?_⟩
    have p6 : upd H5 fl (.lst (wss.map V.ref).dropLast) p = some (.ins C_Desk dx (df w fl)) := by rw [upd_ne (Ne.symm hfp)]; exact h15
    walk_at "sts"
    refine w_sfq p6 T.cl_Desk T.n_Desk_web (by show 2 < 1000; decide) ?_
    rw [df_put]
    walk_at "sts"
    have s35 : Same H3 H5 := s45
    have g5 : Same (wo (wo H3 p) fl) (wo (wo (upd (upd H5 fl (.lst (wss.map V.ref).dropLast)) p (.ins C_Desk dx (df (wss.getLastD 0) fl))) p) fl) := by
      rw [wo_eq]
      refine same_wo ?_ wo_new
      exact fun b o e => by
        have n2 : b ≠ fl := fun z => by subst z; rw [wo_new] at e; cases e
        have n1 : b ≠ p := fun z => by
          subst z
          have : wo (wo H3 b) fl b = none := by
            unfold wo
            split
            · rfl
            · rw [if_pos rfl]
          rw [this] at e; cases e
        have e2 := s35 b o (wo_same b o (wo_same b o e))
        exact wo_get (by rw [upd_ne n2]; exact e2) n1
    have hlt : wss.length - 1 < wss.length := by
      have : wss.length ≠ 0 := fun z => hwne (List.length_eq_zero_iff.mp z)
      omega
    refine q _ (g13.trans (g5.trans (wo_same.trans wo_same))) ⟨dx, wss.getLastD 0, wss.dropLast, upd_same, by rw [upd_ne hfp, upd_same, List.map_dropLast], by rw [List.length_dropLast, List.length_dropLast, h3], ?_, fun i q' t' e1 e2 => ?_⟩
    · have := h5 (wss.length - 1) (wss.getLastD 0) (hs.getLastD []) (last_get wss 0 hwne) (by rw [h3]; exact last_get hs [] hhne)
      exact this.same g5
    · rw [List.getElem?_dropLast] at e1 e2
      split at e1
      · split at e2
        · exact (h5 i q' t' e1 e2).same g5
        · cases e2
      · cases e1
  rw [if_neg hb] at hdm
  walk_at "sts"
  refine w_new fun p4 n4 => ?_
  rw [tL_lit, tL_lit]
  have s4 := same_upd (o := .tup [V.str (tS (tL "pull")), V.str (tS (tL "push"))]) n4
  have l4 : upd H3 p4 (.tup [V.str (tS (tL "pull")), V.str (tS (tL "push"))]) p4 = some (.tup [V.str (tS (tL "pull")), V.str (tS (tL "push"))]) := upd_same
  generalize upd H3 p4 (.tup [V.str (tS (tL "pull")), V.str (tS (tL "push"))]) = H4 at s4 l4 ⊢
  refine w_inSV (ws := [tL "pull", tL "push"]) (SqT.of l4) ?_
  rw [show decide (w0 ∈ [tL "pull", tL "push"]) = decide (w0 = tL "pull" ∨ w0 = tL "push") by simp]
  walk_at "sts"
  have h14 := s4 _ _ h1
  have h24 := s4 _ _ h2
  have s14 := s13.trans s4
  have hD4 := hD3.same s4
  have l14s := SqL.of (K := K) (s4 _ _ l13)
  obtain ⟨R3, hW3, hA3⟩ := hW0
  have hA3 : WebAt K C_Pull C_Push C_Web (wo (wo H3 p) fl) w ⟨ts, Tu, R3⟩ := hA3
  have m34 : Same (wo (wo H3 p) fl) (wo (wo H4 p) fl) := wo_mono (wo_mono s4)
  have hne : ∀ i, i < ts.length → (ti ts i).one ≠ (ti ts i).two := fun i hi => by
    have := hW3.flat.ok.ends i (by rw [endsOf_len]; exact hi)
    rw [en_ti hi] at this
    exact this.1
  have hp4 : wo H4 fl p = some (.ins C_Desk dx (df w fl)) := wo_get h14 (Ne.symm hfp)
  have hp3 : wo H4 fl p3 = some (.lst (iv ns)) := wo_get (s4 _ _ l3) (fun z => by subst z; have := n3.of (s2.trans (Same.refl _)); exact absurd ((hD.same (s1.trans s2)).ex) (by rintro ⟨_, _, _, _, z, _⟩; rw [n3] at z; cases z))
  have hp13 : wo H4 fl p1 = some (.lst (sv (w0 :: ws))) := wo_get (s4 _ _ l13) (fun z => by subst z; obtain ⟨_, _, _, _, z, _⟩ := hD.ex; rw [n1] at z; cases z)
  have hA4 := hA3.same (m34.trans wo2_sub)
  have hfin : ∀ (qq : Addr) (u : List Ti) (H5 : Hp), R = some (u, hs ++ [ts]) → endsOf u = endsOf ts → Same (wo H4 fl) H5 → TiesAt K C_Pull C_Push H5 qq u → H5 fl = none →
      spTurnTo K C_Pull C_Push C_Web C_Desk [.ref p, .ref qq] (upd H5 fl (.lst (wss.map V.ref))) (fun _ H' => Q .non H') E0 := fun qq u H5 hR hEu s5 hT5 hn5 => by
    have hp5 := s5 _ _ hp4
    have s46 := same_frm s5 h24
    refine ⟨p, fl, qq, Tu, ts, u, hs, rfl, hD4.same s46, (hT5.woI hp5 (by show 2 < 3; omega)).same (same_frm2 hn5 hfp), hEu, hsz, hT1, hT2, hhs, fun H7 s7 hD7 => ?_⟩
    exact q u _ hR H7 (g13.trans (m34.trans ((wo_mono (wo_mono s46)).trans s7))) hD7
  refine ifd (fun hc => ?_) (fun hc => ?_)
  · rw [if_pos hc] at hdm
    refine w_meth ?_
    walk_at "sts"
    refine w_methq h14 (by rfl) ?_
    walk_at "sts"
    cases hst : strungM ts w0 ns with
    | none =>
      rw [hst] at hdm
      refine .inl ?_
      walk_at "sts"
      refine w_fld h14 T.cl_Desk T.n_Desk_web (df_web _ _) ?_
      walk_at "sts"
      refine ⟨w, p3, ⟨ts, Tu, R3⟩, w0, ns, rfl, hA3.same (m34.trans (wo_same.trans wo_same)), hne, s4.seq l3s, fun u hu => ?_, fun _ => qe hdm H4 s14⟩
      have hu : strungM ts w0 ns = some u := hu
      rw [hst] at hu
      cases hu
    | some u =>
      rw [hst] at hdm
      refine .inr ⟨fl, _, h24, ?_⟩
      have hp13s := SqL.of (K := K) hp13
      walk_at "sts"
      refine w_fld hp4 T.cl_Desk T.n_Desk_web (df_web _ _) ?_
      walk_at "sts"
      refine ⟨w, p3, ⟨ts, Tu, R3⟩, w0, ns, rfl, hA4, hne, SqL.of hp3, fun u2 hu2 qq H5 s5 n5 hT5 => ?_, fun hu => ?_⟩
      · have hu2 : strungM ts w0 ns = some u2 := hu2
        rw [hst] at hu2
        injection hu2 with hu2
        subst hu2
        intro hn5
        have := hfin qq u H5 hdm (strung_ends hst) s5 hT5 hn5
        walk_at "sts"
        exact this
      · have hu : strungM ts w0 ns = none := hu
        rw [hst] at hu
        cases hu
  · rw [if_neg hc] at hdm
    walk_at "sts"
    rw [dec_lit]
    refine ifd (fun hf => ?_) (fun hf => ?_)
    · rw [if_pos hf] at hdm
      refine w_meth ?_
      walk_at "sts"
      refine w_methq h14 (by rfl) ?_
      walk_at "sts"
      cases hst : flippedM ts Tu.length ns with
      | none =>
        rw [hst] at hdm
        refine .inl ?_
        walk_at "sts"
        refine w_fld h14 T.cl_Desk T.n_Desk_web (df_web _ _) ?_
        walk_at "sts"
        refine ⟨w, p3, ⟨ts, Tu, R3⟩, ns, rfl, hA3.same (m34.trans (wo_same.trans wo_same)), hne, hsz, s4.seq l3s, fun u hu => ?_, fun _ => qe hdm H4 s14⟩
        have hu : flippedM ts Tu.length ns = some u := hu
        rw [hst] at hu
        cases hu
      | some u =>
        rw [hst] at hdm
        refine .inr ⟨fl, _, h24, ?_⟩
        walk_at "sts"
        refine w_fld hp4 T.cl_Desk T.n_Desk_web (df_web _ _) ?_
        walk_at "sts"
        refine ⟨w, p3, ⟨ts, Tu, R3⟩, ns, rfl, hA4, hne, hsz, SqL.of hp3, fun u2 hu2 qq H5 s5 n5 hT5 => ?_, fun hu => ?_⟩
        · have hu2 : flippedM ts Tu.length ns = some u2 := hu2
          rw [hst] at hu2
          injection hu2 with hu2
          subst hu2
          intro hn5
          have := hfin qq u H5 hdm (flipped_ends hst) s5 hT5 hn5
          walk_at "sts"
          exact this
        · have hu : flippedM ts Tu.length ns = none := hu
          rw [hst] at hu
          cases hu
    · rw [if_neg hf] at hdm
      walk_at "sts"
      exact qe hdm H4 s14
end

open TL
theorem kb_ss : kitB "str" "str" = some true := by decide +kernel
theorem w_iss {K : PySem.W.Frag} {H : Hp} {Q : VK} {x : Str} {s : String} {b : Bool} (hk : kitB "str" s = some b) (h : Q (.bl b) H) : rIsi K [.str x, .ty s] H Q := ⟨_, _, _, _, b, rfl, .ty _, .base (.str _), kit_ty hk, h⟩
theorem kb_ti : kitB "tuple" "int" = some false := by decide +kernel

theorem inV_iv (x : Nat) (r : List Nat) : inV (.int (x : Int)) (iv r) = decide (x ∈ r) := by
  unfold inV iv
  induction r with
  | nil => rfl
  | cons a r ih =>
    rw [List.map_cons, List.any_cons, ih]
    have : eqV (.int (a : Int)) (.int (x : Int)) = decide (a = x) := by
      show decide _ = _
      by_cases h : a = x
      · simp [h]
      · simp [h]; omega
    rw [this]
    by_cases h : x = a
    · subst h; simp
    · simp [h, Ne.symm h]
theorem w_notin {K : PySem.W.Frag} {H : Hp} {Q : VK} {p : Addr} {r : List Nat} {x : Nat} (hs : SqL K H p (iv r)) (h : Q (.bl (!decide (x ∈ r))) H) : rIn K true (.int (x : Int)) (.ref p) H Q :=
  ⟨p, iv r, rfl, .inl hs, rfl, iv_flat r, by rw [inV_iv]; exact h⟩
theorem w_in {K : PySem.W.Frag} {H : Hp} {Q : VK} {p : Addr} {r : List Nat} {x : Nat} (hs : SqL K H p (iv r)) (h : Q (.bl (decide (x ∈ r))) H) : rIn K false (.int (x : Int)) (.ref p) H Q :=
  ⟨p, iv r, rfl, .inl hs, rfl, iv_flat r, by rw [inV_iv]; exact h⟩

theorem w_inT2 {K : PySem.W.Frag} {H : Hp} {Q : VK} {p : Addr} {r : List Nat} {x : Nat} (hs : SqT K H p (iv r)) (h : Q (.bl (decide (x ∈ r))) H) : rIn K false (.int (x : Int)) (.ref p) H Q :=
  ⟨p, iv r, rfl, .inr hs, rfl, iv_flat r, by rw [inV_iv]; exact h⟩

section
variable {P : Program} {w : World} {K : PySem.W.Frag} {mg : Str → Option Value} {base : Heap} {C_Pull C_Push C_Web C_Desk C_BadTie C_BadTurns C_Parted C_NotFlat C_BadText C_BadDeed C_FloorError : Addr}
def TwistP (told : List Trow) (m : Nat) (T : Turns) : Prop := (∀ t ∈ told, t.2.1 ≠ t.2.2.1) ∧ 1 ≤ m ∧ m ≤ 40 ∧ EndsP (told.map tiR) m ∧ T.length = m ∧ Ok (endsOf (told.map tiR)) T ∧ Whole (endsOf (told.map tiR)) m ∧ ∃ F, Rings (fol (endsOf (told.map tiR)) T) (2 * (told.map tiR).length) F ∧ m + F.length ≠ (told.map tiR).length + 2
def spNoDesk (K : PySem.W.Frag) : Sp := fun vs H Q _ => ∃ (text : List Nat), vs = [.str (tS text)] ∧ text.length ≤ 90000 ∧ ((∃ a, readW text = .inl a ∧ ∀ H', Same H H' → Q (.int (a : Nat)) H') ∨ (∃ m told T, readW text = .inr (m, told, T) ∧ TwistP told m T ∧ ∀ H', Same H H' → Q (.int (-1)) H'))
theorem ok_law_no_desk {f : Addr} {fd : FuncData} (F : Fun K "_law_no_desk" "_law_no_desk" s_law_no_desk f fd) (gf : mg "_law_no_desk" = some (.ref f)) (B : Bl mg) {C_Pull C_Push C_Web C_Desk C_BadTie C_BadTurns C_Parted C_NotFlat C_BadText C_BadDeed C_FloorError : Addr} (T : Txt K mg C_Pull C_Push C_Web C_Desk C_BadTie C_BadTurns C_Parted C_NotFlat C_BadText C_BadDeed C_FloorError) (h_mk_Desk : HasMk P w K mg base (L2.CX P w) 8 "Desk" C_Desk ["self", "text"] (spDeskIX K C_Pull C_Push C_Web C_Desk C_BadText C_BadTie C_BadTurns C_Parted C_NotFlat)) : Has P w K mg base CX0 10 "_law_no_desk" ["text"] (spNoDesk K) := by
  refine Has.mk' F gf (F.binds (ps := ["text"]) fun _ _ _ _ _ _ us hl => match us, hl with | [_], _ => rfl) sc_law_no_desk (by walk_at "len") (fun cdv A outer s H vs Q E hr h => ?_)
  obtain ⟨text, rfl, hsz, q⟩ := h
  refine ⟨_, (pss_cons (ps_set (i := 1) sc_law_no_desk.nd rfl (.inl rfl) pe_int)
 (pss_cons (ps_try_two (i := 2) rfl rfl sc_law_no_desk.nd rfl rfl ⟨rfl, by decide, .inl T.g_BadText⟩ ⟨rfl, by decide, .inl T.g_NotFlat⟩ (fun W pn xe tk pw => (pss_one (ps_expr (pe_mkS tk h_mk_Desk (hr.mono (by decide)) (by rfl) (pa_cons (pv 0) pa_nil))))) (fun a oe cls d pn hz hf => (pss_one (ps_set (i := 1) sc_law_no_desk.nd rfl (.inl rfl) (pe_xf T.xf_BadText.xf T.na_BadText hz hf (pv 2) rfl)))) (fun a oe cls d pn hz hf => (pss_one (ps_set (i := 1) sc_law_no_desk.nd rfl (.inl rfl) (pe_un un_neg pe_int)))))
 (pss_one (ps_ret (pv 1))))), ?_⟩
  walk_at "sts"
  intro x dx nx nd hxd
  have sm : Same H (upd (upd H dx (.own x)) x (.ins C_Desk dx [])) := made_same nx nd hxd
  rcases q with ⟨a, ha, q⟩ | ⟨m, told, T', hr0, ⟨hne, hm1, hm2, hen, htl, hok, hwh, F, hF, hcnt⟩, q⟩
  · refine ⟨x, dx, text, rfl, upd_same, hsz, fun a' ha' d H' s n => ?_, fun m told T' (hr0 : readW text = .inr (m, told, T')) => (by rw [ha] at hr0; cases hr0)⟩
    rw [ha] at ha'
    cases ha'
    refine ⟨true, T.xf_BadText.exm T.sb_BadText_BadText, fun _ y ny => ?_, fun z => by cases z⟩
    walk_at "sts"
    refine ⟨rfl, rfl, d, [("at", .int (a : Nat))], .int (a : Nat), rfl, upd_same, rfl, ?_⟩
    walk_at "sts"
    exact q _ (sm.trans (s.new n))
  · refine ⟨x, dx, text, rfl, upd_same, hsz, fun a' (ha' : readW text = .inl a') => (by rw [hr0] at ha'; cases ha'), fun m' told' T2 hr1 => ?_⟩
    rw [hr0] at hr1
    cases hr1
    refine ⟨hne, hm1, hm2, .notFlat T' F hen rfl htl hok hwh hF hcnt fun H' s => ?_⟩
    refine ⟨false, T.xf_BadText.exm T.sb_NotFlat_BadText, fun z => (by cases z), fun _ => ⟨T.xf_NotFlat.exm T.sb_NotFlat_NotFlat, fun y ny => ?_⟩⟩
    walk_at "sts"
    exact q _ (sm.trans s)
def spNums64 (K : PySem.W.Frag) : Sp := fun vs H Q _ => ∃ (a : Addr) (ws : List (List Nat)), vs = [.ref a] ∧ SqL K H a (sv ws) ∧ (∀ w ∈ ws, w.length ≤ 100000) ∧ ws.length ≤ 100001 ∧ (∀ ns, numsN 31 ws = some ns → ns.length = ws.length → (∀ n ∈ ns, n < 10 ^ 31) → ∀ p H', Same H H' → New H p → H' p = some (.lst (iv ns)) → Q (.ref p) H') ∧ (numsN 31 ws = none → ∀ H', Same H H' → Q .non H')
theorem ok_law_numbers {f : Addr} {fd : FuncData} (F : Fun K "_law_numbers" "_law_numbers" s_law_numbers f fd) (gf : mg "_law_numbers" = some (.ref f)) (B : Bl mg) {C_Pull C_Push C_Web C_Desk C_BadTie C_BadTurns C_Parted C_NotFlat C_BadText C_BadDeed C_FloorError : Addr} (T : Txt K mg C_Pull C_Push C_Web C_Desk C_BadTie C_BadTurns C_Parted C_NotFlat C_BadText C_BadDeed C_FloorError) : Has P w K mg base CX0 1 "_law_numbers" ["words"] (spNums64 K) := by
  refine Has.mk' F gf (F.binds (ps := ["words"]) fun _ _ _ _ _ _ us hl => match us, hl with | [_], _ => rfl) sc_law_numbers (by walk_at "len") (fun cdv A outer s H vs Q E hr h => ?_)
  obtain ⟨a, ws, rfl, hA, hwl, hws, q, qn⟩ := h
  have hz0 : tL "0" = [48] := by decide
  refine ⟨_, (pss_cons (ps_set (i := 1) sc_law_numbers.nd rfl (.inl rfl) (pe_lst pa_nil))
 (pss_cons (ps_for PassesOwn.never rfl (pi_listK K (pv 0)) (pg_name (i := 2) sc_law_numbers.nd rfl (.inl rfl)) (pss_cutX (ps_if (PW.pt (pw_or (pt_cmpR op_eq (pv 2) pe_str (nomark _)) (pw_or (pt_cmpR op_gt (pe_callB call_len_str (by rfl) B.len (by decide +kernel) (pa_cons (pv 2) pa_nil)) pe_int (nomark _)) (pw_or1 (PW.pt (pw_and (pt_cmpR op_eq (pe_ix ix_str (pv 2) pe_int (fun _ _ => rfl)) pe_str (nomark _)) (pw_and1 (pt_cmpR op_gt (pe_callB call_len_str (by rfl) B.len (by decide +kernel) (pa_cons (pv 2) pa_nil)) pe_int (nomark _))))))))) (pss_one (ps_ret pe_non)) pss_nil)
 (pss_cons (ps_for PassesOwn.never rfl (pi_str (pv 2)) (pg_name (i := 3) sc_law_numbers.nd rfl (.inl rfl)) (pss_one (ps_if (pt_cmpR op_notIn_sign (pv 3) pe_str (by rfl)) (pss_one (ps_ret pe_non)) pss_nil)))
 (pss_one (ps_expr (pe_bmK K (pe_bm PySem.F.plainAttrs_list PySem.F.slot_list_append PySem.F.type_list_append mt_append (pv 1) (pa_cons (pe_callTy call_int_str (by rfl) B.int (by decide +kernel) (pa_cons (pv 2) pa_nil)) pa_nil))))))))
 (pss_one (ps_ret (pv 1))))), ?_⟩
  walk_at "sts"
  refine w_new fun D nD => ?_
  have s0 := same_upd (o := .lst ([] : List V)) nD
  have l0 : upd H D (.lst []) D = some (.lst (iv [])) := upd_same
  generalize upd H D (.lst []) = H0 at s0 l0 ⊢
  walk_at "sts"
  refine for_list (xs := sv ws) (fun i σ H' => ∃ (ns : List Nat) (y2 y3 : Option V), σ = [some (.ref a), some (.ref D), y2, y3] ∧ numsN 31 (ws.take i) = some ns ∧ Same H H' ∧ H' D = some (.lst (iv ns))) ?_ ?_ ?_ ?_
  · exact ⟨[], _, _, rfl, rfl, s0, l0⟩
  · rintro i σ H' _ ⟨_, _, _, _, _, s1, _⟩
    exact s1.seq hA
  · rintro i x σ H' hx ⟨ns, y2, y3, rfl, hns, s1, l1⟩
    have hi : i < ws.length := by
      have := (List.getElem?_eq_some_iff.mp hx).1
      rwa [sv_len] at this
    rw [sv_at hi] at hx
    injection hx with hx
    subst hx
    have hnl := (numsN_lt _ _ hns).1
    rw [List.length_take] at hnl
    have hg : ws[i]? = some (ws.getD i []) := by rw [List.getD_eq_getElem?_getD, List.getElem?_eq_getElem hi]; rfl
    have hw := hwl _ (List.mem_of_getElem? hg)
    have et : ws.take (i + 1) = ws.take i ++ [ws.getD i []] := by rw [List.take_add_one, hg]; rfl
    generalize ws.getD i [] = w at hg hw et
    have hz : w.length ≤ sizeLine := by rw [sizeLine_eq]; omega
    have hbad : (w = [] ∨ 31 < w.length ∨ (w.head? = some 48 ∧ 1 < w.length)) → Q .non H' := fun h => qn (numsN_none hg (if_pos h)) H' s1
    walk_at "sts"
    try dsimp only
    refine w_cut (fun σ' H2 => σ' = [some (.ref a), some (.ref D), some (.str (tS w)), y3] ∧ H2 = H' ∧ ¬ (w = [] ∨ 31 < w.length ∨ (w.head? = some 48 ∧ 1 < w.length))) ?_ ?_
    · walk_at "sts"
      rw [dec_lit]
      refine ifd (fun h1 => ?_) (fun h1 => ?_)
      · walk_at "sts"
        exact hbad (.inl h1)
      walk_at "sts"
      refine w_1s ⟨by rw [tS_len]; exact hz, ?_⟩
      rw [tS_len]
      walk_at "sts"
      refine ifd (fun h2 => ?_) (fun h2 => ?_)
      · walk_at "sts"
        exact hbad (.inr (.inl (by omega)))
      obtain ⟨c0, r0, e0⟩ : ∃ c r, w = c :: r := by
        cases w with
        | nil => exact absurd rfl h1
        | cons c r => exact ⟨c, r, rfl⟩
      have hh : w.head? = some c0 := by rw [e0]; rfl
      walk_at "sts"
      refine w_ixS (c := c0) hz (by rw [e0]; exact atI_nat (j := 0) rfl) ?_
      walk_at "sts"
      rw [dec_lit]
      refine ifd (fun h3 => ?_) (fun h3 => ?_)
      · have h48 : c0 = 48 := by rw [hz0] at h3; injection h3
        walk_at "sts"
        refine w_1s ⟨by rw [tS_len]; exact hz, ?_⟩
        rw [tS_len]
        walk_at "sts"
        refine ifd (fun h4 => ?_) (fun h4 => ?_)
        · walk_at "sts"
          exact hbad (.inr (.inr ⟨by rw [hh, h48], by omega⟩))
        · walk_at "sts"
          refine ⟨rfl, rfl, fun z => ?_⟩
          rcases z with z | z | z
          · exact h1 z
          · omega
          · omega
      · walk_at "sts"
        refine ⟨rfl, rfl, fun z => ?_⟩
        rcases z with z | z | z
        · exact h1 z
        · omega
        · refine h3 ?_
          rw [hh] at z
          have := Option.some.inj z.1
          rw [this, hz0]
    rintro σ' H2 ⟨rfl, rfl, hok⟩
    have hfig : figN 31 w = if digs w = true then some (NumText.digitsVal w) else none := if_neg hok
    walk_at "sts"
    refine w_iStr ?_
    walk_at "sts"
    refine w_itS ?_
    refine for_str (fun j σ H3 => ∃ y : Option V, σ = [some (.ref a), some (.ref D), some (.str (tS w)), y] ∧ H3 = H2 ∧ digs (w.take j) = true) ?_ ?_ ?_
    · exact ⟨_, rfl, rfl, rfl⟩
    · rintro j c σ H3 hc ⟨y, rfl, rfl, hd⟩
      have et : w.take (j + 1) = w.take j ++ [c] := by rw [List.take_add_one, hc]; rfl
      have ed : digs (w.take (j + 1)) = decide (c ∈ tL "0123456789") := by
        rw [et]
        unfold digs at hd ⊢
        rw [List.all_append, hd]
        simp
      walk_at "sts"
      rw [tL_lit]
      refine w_inR ?_
      rw [tl_cps]
      walk_at "sts"
      refine ifnd (fun hm => ?_) (fun hm => ?_)
      · walk_at "sts"
        refine qn (numsN_none hg ?_) _ s1
        rw [hfig, if_neg]
        intro z
        unfold digs at z
        exact hm (of_decide_eq_true (List.all_eq_true.mp z c (List.mem_of_getElem? hc)))
      · walk_at "sts"
        exact ⟨_, rfl, rfl, by rw [ed, decide_eq_true hm]⟩
    · rintro σ H3 ⟨y, rfl, rfl, hd⟩
      rw [List.take_length] at hd
      rw [if_pos hd] at hfig
      have hwl2 : w.length ≤ 31 := figN_len hfig
      have hszn : (iv ns).length < sizeLine := szlt (by rw [iv_len]; omega)
      walk_at "sts"
      refine ⟨_, _, rfl, figN_int (by decide) hfig, by rw [tS_len]; omega, ?_⟩
      walk_at "sts"
      refine ⟨ns ++ [_], _, _, rfl, by rw [et]; exact numsN_snoc hns hfig, s1.mut nD, by rw [upd_same, iv_app]; rfl⟩
  rintro σ H' ⟨ns, y2, y3, rfl, hns, s1, l1⟩
  rw [sv_len, List.take_length] at hns
  obtain ⟨h1, h2⟩ := numsN_lt _ _ hns
  walk_at "sts"
  exact q ns hns h1 h2 D H' s1 nD l1
def spRefused64 (K : PySem.W.Frag) (CP CQ CW CD : Addr) : Sp := fun vs H Q _ => ∃ (p fl : Addr) (row : List Nat) (T : Turns) (ts : List Ti) (hs : List (List Ti)), vs = [.ref p, .str (tS row)] ∧ DeskAt K CP CQ CW CD H p fl T ts hs ∧ row.length ≤ 100000 ∧ ts.length ≤ 1000 ∧ 1 ≤ T.length ∧ T.length ≤ 1000 ∧ hs.length ≤ 1000 ∧
  (∀ u hs', deedM ts T.length hs row = some (u, hs') → ∀ H', Same (wo (wo H p) fl) H' → DeskAt K CP CQ CW CD H' p fl T u hs' → Q (.bl false) H') ∧ (deedM ts T.length hs row = none → ∀ H', Same H H' → Q (.bl true) H')
theorem ok_law_refused {f : Addr} {fd : FuncData} (F : Fun K "_law_refused" "_law_refused" s_law_refused f fd) (gf : mg "_law_refused" = some (.ref f)) (B : Bl mg) {C_Pull C_Push C_Web C_Desk C_BadTie C_BadTurns C_Parted C_NotFlat C_BadText C_BadDeed C_FloorError : Addr} (T : Txt K mg C_Pull C_Push C_Web C_Desk C_BadTie C_BadTurns C_Parted C_NotFlat C_BadText C_BadDeed C_FloorError) (h_Desk_do : HasMeth P w K mg base (L2.CX P w) 8 C_Desk "do" ["self", "row"] (spDo K C_Pull C_Push C_Web C_Desk C_BadDeed)) : Has P w K mg base CX0 9 "_law_refused" ["desk", "row"] (spRefused64 K C_Pull C_Push C_Web C_Desk) := by
  refine Has.mk' F gf (F.binds (ps := ["desk", "row"]) fun _ _ _ _ _ _ us hl => match us, hl with | [_, _], _ => rfl) sc_law_refused (by walk_at "len") (fun cdv A outer s H vs Q E hr h => ?_)
  obtain ⟨p, fl, row, Tu, ts, hs, rfl, hD, h1, h2, h3, h4, h5, q1, q2⟩ := h
  obtain ⟨dx, w, ws, hp, _⟩ := id hD.ex
  refine ⟨_, (pss_cons (ps_set (i := 2) sc_law_refused.nd rfl (.inl rfl) pe_bl)
 (pss_cons (ps_try_as (i := 3) rfl rfl sc_law_refused.nd rfl rfl ⟨rfl, by decide, .inl T.g_BadDeed⟩ takes0 (fun W pn xe tk pw => (pss_one (ps_expr (pe_mtS tk h_Desk_do (pv 0) (hr.mono (by decide)) (pa_cons (pv 1) pa_nil))))) (fun a oe cls d pn hz hf => (pss_one (ps_set (i := 2) sc_law_refused.nd rfl (.inl rfl) (pe_and (pe_callB (call_isX K hz hf) (by rfl) B.isinstance (by decide +kernel) (pa_cons (pv 3) (pa_cons (pe_glob (v := .ref C_FloorError) (by rfl) T.g_FloorError rfl) pa_nil))) (pe_one (pe_callB (call_isX K hz hf) (by rfl) B.isinstance (by decide +kernel) (pa_cons (pv 3) (pa_cons (pe_bltn (v := .ty "ValueError") (by rfl) B.ValueError (by decide +kernel) rfl) pa_nil)))))))))
 (pss_one (ps_ret (pv 2))))), ?_⟩
  walk_at "sts"
  refine w_methX ?_
  walk_at "sts"
  refine ⟨p, dx, _, rfl, hp, by rfl, ?_⟩
  walk_at "sts"
  refine ⟨p, fl, row, Tu, ts, hs, rfl, hD, h1, h2, h3, h4, h5, fun u hs' e H' s hD' => ?_, fun e H' s => ⟨true, T.xf_BadDeed.exm T.sb_BadDeed_BadDeed, fun _ y ny => ?_, fun z => by cases z⟩⟩
  · walk_at "sts"
    exact q1 u hs' e H' s hD'
  · walk_at "sts"
    refine w_isX T.xf_BadDeed T.xf_FloorError T.sb_BadDeed_FloorError (.inl rfl) ?_
    walk_at "sts"
    refine w_isXV T.xf_BadDeed (.inl rfl) ?_
    walk_at "sts"
    exact q2 e H' s
end

open TL
section
variable {X : Cx}
def rMulS : V → V → Hp → VK → Prop := fun x y H Q => ∃ a : Str, ∃ n : Nat, x = .str a ∧ y = .int n ∧ a.length ≤ 16 ∧ n ≤ 1000 ∧ ∀ b : Str, b.length = a.length * n → Q (.str b) H
theorem op_mulS : OpR X (binaryOp .Mult) rMulS := by
  intro pins s σ H x y v u Q I rx ry h
  obtain ⟨a, n, rfl, rfl, h1, h2, q⟩ := h
  obtain ⟨t, rfl⟩ := rx
  obtain ⟨t', rfl⟩ := ry
  refine SB.mul (mulOk_of 16 1000 h1 (by omega) (by omega) (by decide) (by decide)) fun t' k => ⟨.str (Txt.mul a n), H, I.tok _, ⟨_, rfl⟩, q _ ?_⟩
  have e := len_mul a n
  rw [if_neg (fun c => absurd (of_decide_eq_true c) (by omega))] at e
  rw [← Int.natCast_mul] at e
  omega
end
/-- a text as a list of signs -/
theorem str_tS (z : Str) : z = tS (TL.tl z) := (tS_tl z).symm
theorem str_len (z : Str) : (TL.tl z).length = z.length := by rw [len_tl]
def mR (ws : List (List Nat)) : Nat := (ws.map fun w => w.length + 1).sum

section
variable {P : Program} {w : World} {K : PySem.W.Frag} {mg : Str → Option Value} {base : Heap} {C_Pull C_Push C_Web C_Desk C_BadTie C_BadTurns C_Parted C_NotFlat C_BadText C_BadDeed C_FloorError : Addr}
theorem str_at {xs : List V} (h : ∀ v ∈ xs, ∃ z : Str, v = .str z ∧ z.length ≤ 40) {j : Nat} (hj : j < xs.length) : ∃ z : Str, xs[j]? = some (.str z) ∧ z.length ≤ 40 := by
  obtain ⟨z, e, hz⟩ := h xs[j] (List.getElem_mem hj)
  exact ⟨z, by rw [List.getElem?_eq_getElem hj, e], hz⟩
def spWord64 : Sp := fun vs H Q _ => ∃ (c : Int), vs = [.int c] ∧ ∀ (z : Str) H', z.length ≤ 40 → Same H H' → Q (.str z) H'
theorem ok_law_word {f : Addr} {fd : FuncData} (F : Fun K "_law_word" "_law_word" s_law_word f fd) (gf : mg "_law_word" = some (.ref f)) (B : Bl mg) {C_Pull C_Push C_Web C_Desk C_BadTie C_BadTurns C_Parted C_NotFlat C_BadText C_BadDeed C_FloorError : Addr} (T : Txt K mg C_Pull C_Push C_Web C_Desk C_BadTie C_BadTurns C_Parted C_NotFlat C_BadText C_BadDeed C_FloorError) : Has P w K mg base CX0 1 "_law_word" ["cell"] spWord64 := by
  refine Has.mk' F gf (F.binds (ps := ["cell"]) fun _ _ _ _ _ _ us hl => match us, hl with | [_], _ => rfl) sc_law_word (by walk_at "len") (fun cdv A outer s H vs Q E hr h => ?_)
  obtain ⟨c, rfl, q⟩ := h
  refine ⟨_, (pss_cons (ps_set (i := 1) sc_law_word.nd rfl (.inl rfl) (pe_lst (pa_cons pe_str (pa_cons pe_str (pa_cons pe_str (pa_cons pe_str (pa_cons pe_str (pa_cons pe_str (pa_cons pe_str (pa_cons pe_str (pa_cons (pe_op op_mulS pe_str pe_int) (pa_cons (pe_op op_add_str pe_str (pe_op op_mulS pe_str pe_int)) (pa_cons pe_str (pa_cons pe_str (pa_cons pe_str pa_nil)))))))))))))))
 (pss_cons (ps_if (pt_cmpR op_eq (pe_op op_mod (pv 0) pe_int) pe_int (nomark _)) (pss_one (ps_ret (pe_callTy call_str_int (by rfl) B.str (by decide +kernel) (pa_cons (pe_op op_mod (pe_op op_fdivW (pv 0) pe_int) pe_int) pa_nil)))) pss_nil)
 (pss_cons (ps_if (pt_cmpR op_eq (pe_op op_mod (pv 0) pe_int) pe_int (nomark _)) (pss_one (ps_ret (pe_callTy call_str_int (by rfl) B.str (by decide +kernel) (pa_cons (pe_op op_mod (pe_op op_fdivW (pv 0) pe_int) (pe_op op_pow pe_int pe_int)) pa_nil)))) pss_nil)
 (pss_one (ps_ret (pe_ix (ix_listK K) (pv 1) (pe_op op_mod (pe_op op_fdivW (pv 0) pe_int) pe_int) (fun _ _ => rfl))))))), ?_⟩
  walk_at "sts"
  refine ⟨_, 32, rfl, rfl, by decide, by decide, fun b1 hb1 => ?_⟩
  walk_at "sts"
  refine ⟨_, 31, rfl, rfl, by decide, by decide, fun b2 hb2 => ?_⟩
  walk_at "sts"
  have hb1 : b1.length = 32 := hb1
  have hb2 : b2.length = 31 := hb2
  have hcat : (Str.ofString "1" ++ b2).length = 32 := by
    rw [show Str.ofString "1" ++ b2 = tS (tL "1" ++ TL.tl b2) by rw [← tS_app, ← str_tS, tL_lit], tS_len, List.length_append, str_len, hb2]
    rfl
  refine w_2s ⟨by rw [hb2, sizeLine_eq]; decide, ?_⟩
  walk_at "sts"
  refine w_new fun p n => ?_
  have hall : ∀ v ∈ [V.str (Str.ofString ""), V.str (Str.ofString "01"), V.str (Str.ofString "-1"), V.str (Str.ofString "+1"), V.str (Str.ofString "1a"), V.str (Str.ofString "1 "), V.str (Str.ofString "a"), V.str (Str.ofString "00"), V.str b1, V.str (Str.ofString "1" ++ b2), V.str (Str.ofString "1_0"), V.str (Str.ofString "1."), V.str (Str.ofString " 1")], ∃ z : Str, v = .str z ∧ z.length ≤ 40 := by
    intro v hv
    simp only [List.mem_cons, List.not_mem_nil, or_false] at hv
    rcases hv with rfl | rfl | rfl | rfl | rfl | rfl | rfl | rfl | rfl | rfl | rfl | rfl | rfl
    all_goals first | exact ⟨_, rfl, by omega⟩ | exact ⟨_, rfl, by decide⟩
  have s1 := same_upd (o := .lst [V.str (Str.ofString ""), V.str (Str.ofString "01"), V.str (Str.ofString "-1"), V.str (Str.ofString "+1"), V.str (Str.ofString "1a"), V.str (Str.ofString "1 "), V.str (Str.ofString "a"), V.str (Str.ofString "00"), V.str b1, V.str (Str.ofString "1" ++ b2), V.str (Str.ofString "1_0"), V.str (Str.ofString "1."), V.str (Str.ofString " 1")]) n
  generalize hxs : [V.str (Str.ofString ""), V.str (Str.ofString "01"), V.str (Str.ofString "-1"), V.str (Str.ofString "+1"), V.str (Str.ofString "1a"), V.str (Str.ofString "1 "), V.str (Str.ofString "a"), V.str (Str.ofString "00"), V.str b1, V.str (Str.ofString "1" ++ b2), V.str (Str.ofString "1_0"), V.str (Str.ofString "1."), V.str (Str.ofString " 1")] = xs at hall s1 ⊢
  have hxl : xs.length = 13 := by rw [← hxs]; rfl
  have lp : upd H p (.lst xs) p = some (.lst xs) := upd_same
  generalize upd H p (.lst xs) = H1 at s1 lp ⊢
  have lps := SqL.of (K := K) lp
  walk_at "sts"
  refine ifd (fun h1 => ?_) (fun h1 => ?_)
  · obtain ⟨k, hk, hk2⟩ := modN (c / 3) (show 0 < 9 by decide)
    have hk : c / 3 % 9 = (k : Nat) := hk
    walk_at "sts"
    rw [hk]
    refine w_strJ (Nat.lt_of_lt_of_le hk2 (by decide +kernel)) ?_
    have := numL_len (n := k) (k := 1) (by decide) (by omega)
    exact q _ _ (by rw [tS_len]; omega) s1
  walk_at "sts"
  refine ifd (fun h2 => ?_) (fun h2 => ?_)
  · obtain ⟨k, hk, hk2⟩ := modN (c / 3) (show 0 < 10 ^ 31 by decide)
    have hk : c / 3 % 10 ^ Int.toNat 31 = (k : Nat) := hk
    walk_at "sts"
    rw [hk]
    refine w_strJ (Nat.lt_of_lt_of_le hk2 (by decide +kernel)) ?_
    have := numL_len (n := k) (k := 31) (by decide) hk2
    exact q _ _ (by rw [tS_len]; omega) s1
  obtain ⟨k, hk, hk2⟩ := modN (c / 3) (show 0 < 13 by decide)
  have hk : c / 3 % 13 = (k : Nat) := hk
  obtain ⟨z, hz, hz2⟩ := str_at hall (show k < xs.length by omega)
  walk_at "sts"
  rw [hk]
  walk_at "sts"
  exact q z _ hz2 s1
theorem lens_le : ∀ ws : List (List Nat), (∀ w ∈ ws, w.length ≤ 40) → (ws.map List.length).sum ≤ 40 * ws.length
  | [], _ => Nat.le_refl _
  | w :: ws, h => by
    have := lens_le ws fun x hx => h x (List.mem_cons_of_mem _ hx)
    have := h w List.mem_cons_self
    rw [List.map_cons, List.sum_cons, List.length_cons]
    omega
def spDeedRow (K : PySem.W.Frag) : Sp := fun vs H Q _ => ∃ (p : Addr) (x y z : Int), vs = [.ref p] ∧ SqL K H p [.int x, .int y, .int z] ∧ ∀ row H', row.length ≤ 1000 → Same H H' → Q (.str (tS row)) H'
theorem ok_law_deed_row {f : Addr} {fd : FuncData} (F : Fun K "_law_deed_row" "_law_deed_row" s_law_deed_row f fd) (gf : mg "_law_deed_row" = some (.ref f)) (B : Bl mg) {C_Pull C_Push C_Web C_Desk C_BadTie C_BadTurns C_Parted C_NotFlat C_BadText C_BadDeed C_FloorError : Addr} (T : Txt K mg C_Pull C_Push C_Web C_Desk C_BadTie C_BadTurns C_Parted C_NotFlat C_BadText C_BadDeed C_FloorError) (h_law_word : Has P w K mg base CX0 1 "_law_word" ["cell"] spWord64) : Has P w K mg base CX0 2 "_law_deed_row" ["cells"] (spDeedRow K) := by
  refine Has.mk' F gf (F.binds (ps := ["cells"]) fun _ _ _ _ _ _ us hl => match us, hl with | [_], _ => rfl) sc_law_deed_row (by walk_at "len") (fun cdv A outer s H vs Q E hr h => ?_)
  obtain ⟨p, x, y, z, rfl, hp, q⟩ := h
  have c0 : atI [V.int x, V.int y, V.int z] 0 = some (.int x) := atI_nat (j := 0) rfl
  have c1 : atI [V.int x, V.int y, V.int z] 1 = some (.int y) := atI_nat (j := 1) rfl
  have c2 : atI [V.int x, V.int y, V.int z] 2 = some (.int z) := atI_nat (j := 2) rfl
  obtain ⟨j, hj, hj2⟩ : ∃ j : Nat, x % 14 / 2 = (j : Nat) ∧ j < 7 := ⟨(x % 14 / 2).toNat, by omega, by omega⟩
  refine ⟨_, (pss_cons (ps_set (i := 1) sc_law_deed_row.nd rfl (.inl rfl) (pe_lst (pa_cons (pe_ix (ix_listK K) (pe_lst (pa_cons pe_str (pa_cons pe_str (pa_cons pe_str (pa_cons pe_str (pa_cons pe_str (pa_cons pe_str (pa_cons pe_str pa_nil)))))))) (pe_op op_fdivW (pe_op op_mod (pe_ix (ix_listK K) (pv 0) pe_int (fun _ _ => rfl)) pe_int) pe_int) (fun _ _ => rfl)) pa_nil)))
 (pss_cons (ps_set (i := 2) sc_law_deed_row.nd rfl (.inl rfl) (pe_ix (ix_listK K) (pe_lst (pa_cons pe_int (pa_cons pe_int (pa_cons pe_int (pa_cons pe_int (pa_cons pe_int (pa_cons pe_int (pa_cons pe_int pa_nil)))))))) (pe_op op_fdivW (pe_op op_mod (pe_ix (ix_listK K) (pv 0) pe_int (fun _ _ => rfl)) pe_int) pe_int) (fun _ _ => rfl)))
 (pss_cutX (ps_if (pt_cmpR op_eq (pe_op op_mod (pe_ix (ix_listK K) (pv 0) pe_int (fun _ _ => rfl)) pe_int) pe_int (nomark _)) (pss_one (ps_set (i := 2) sc_law_deed_row.nd rfl (.inl rfl) (pe_op op_mod (pe_op op_fdivW (pe_ix (ix_listK K) (pv 0) pe_int (fun _ _ => rfl)) pe_int) pe_int))) pss_nil)
 (pss_cutX (ps_if (pt_cmpR op_gt (pv 2) pe_int (nomark _)) (pss_one (ps_expr (pe_bmK K (pe_bm PySem.F.plainAttrs_list PySem.F.slot_list_append PySem.F.type_list_append mt_append (pv 1) (pa_cons (pe_ifExp (pt_cmpR op_gt (pe_op op_mod (pe_ix (ix_listK K) (pv 0) pe_int (fun _ _ => rfl)) pe_int) pe_int (nomark _)) (pe_callTy call_str_int (by rfl) B.str (by decide +kernel) (pa_cons (pe_op op_mod (pe_op op_fdivW (pe_ix (ix_listK K) (pv 0) pe_int (fun _ _ => rfl)) pe_int) pe_int) pa_nil)) (pe_fn h_law_word (hr.mono (by decide)) (by rfl) (pa_cons (pe_op op_fdivW (pe_ix (ix_listK K) (pv 0) pe_int (fun _ _ => rfl)) pe_int) pa_nil))) pa_nil))))) pss_nil)
 (pss_cutX (ps_if (pt_cmpR op_gt (pv 2) pe_int (nomark _)) (pss_one (ps_expr (pe_bmK K (pe_bm PySem.F.plainAttrs_list PySem.F.slot_list_append PySem.F.type_list_append mt_append (pv 1) (pa_cons (pe_fn h_law_word (hr.mono (by decide)) (by rfl) (pa_cons (pe_ix (ix_listK K) (pv 0) pe_int (fun _ _ => rfl)) pa_nil)) pa_nil))))) pss_nil)
 (pss_cutX (ps_if (pt_cmpR op_gt (pv 2) pe_int (nomark _)) (pss_one (ps_expr (pe_bmK K (pe_bm PySem.F.plainAttrs_list PySem.F.slot_list_append PySem.F.type_list_append mt_append (pv 1) (pa_cons (pe_fn h_law_word (hr.mono (by decide)) (by rfl) (pa_cons (pe_op op_fdivW (pe_ix (ix_listK K) (pv 0) pe_int (fun _ _ => rfl)) pe_int) pa_nil)) pa_nil))))) pss_nil)
 (pss_one (ps_ret (pe_joinK K pe_str (pv 1)))))))))), ?_⟩
  walk_at "sts"
  refine w_new fun p1 n1 => ?_
  have hall : ∀ v ∈ [V.str (Str.ofString "pull"), V.str (Str.ofString "push"), V.str (Str.ofString "flip"), V.str (Str.ofString "back"), V.str (Str.ofString "Pull"), V.str (Str.ofString "hang"), V.str (Str.ofString "")], ∃ z : Str, v = .str z ∧ z.length ≤ 40 := by
    intro v hv
    simp only [List.mem_cons, List.not_mem_nil, or_false] at hv
    rcases hv with rfl | rfl | rfl | rfl | rfl | rfl | rfl
    all_goals exact ⟨_, rfl, by decide⟩
  have s1 := same_upd (o := .lst [V.str (Str.ofString "pull"), V.str (Str.ofString "push"), V.str (Str.ofString "flip"), V.str (Str.ofString "back"), V.str (Str.ofString "Pull"), V.str (Str.ofString "hang"), V.str (Str.ofString "")]) n1
  have lp1 : upd H p1 (.lst [V.str (Str.ofString "pull"), V.str (Str.ofString "push"), V.str (Str.ofString "flip"), V.str (Str.ofString "back"), V.str (Str.ofString "Pull"), V.str (Str.ofString "hang"), V.str (Str.ofString "")]) p1 = some (.lst [V.str (Str.ofString "pull"), V.str (Str.ofString "push"), V.str (Str.ofString "flip"), V.str (Str.ofString "back"), V.str (Str.ofString "Pull"), V.str (Str.ofString "hang"), V.str (Str.ofString "")]) := upd_same
  obtain ⟨z0, hz0, hz0l⟩ := str_at hall (show j < 7 from hj2)
  generalize upd H p1 (.lst [V.str (Str.ofString "pull"), V.str (Str.ofString "push"), V.str (Str.ofString "flip"), V.str (Str.ofString "back"), V.str (Str.ofString "Pull"), V.str (Str.ofString "hang"), V.str (Str.ofString "")]) = H1 at s1 lp1 ⊢
  have hp1 := s1.seq hp
  have lp1s := SqL.of (K := K) lp1
  walk_at "sts"
  rw [hj]
  walk_at "sts"
  refine w_new fun p2 n2 => ?_
  have s2 := same_upd (o := .lst [.str z0]) n2
  have n2' := n2.of s1
  have l2 : upd H1 p2 (.lst [.str z0]) p2 = some (.lst (sv [TL.tl z0])) := by
    rw [upd_same]
    show _ = some (HO.lst [V.str (tS (TL.tl z0))])
    rw [← str_tS]
  generalize upd H1 p2 (.lst [.str z0]) = H2 at s2 l2 ⊢
  have hp2 := s2.seq hp1
  walk_at "sts"
  refine w_new fun p3 n3 => ?_
  have s3 := same_upd (o := .lst [.int 2, .int 2, .int 1, .int 0, .int 2, .int 1, .int 1]) n3
  have l3 : upd H2 p3 (.lst [.int 2, .int 2, .int 1, .int 0, .int 2, .int 1, .int 1]) p3 = some (.lst [.int 2, .int 2, .int 1, .int 0, .int 2, .int 1, .int 1]) := upd_same
  obtain ⟨ct, hct⟩ : ∃ ct : Int, ([.int 2, .int 2, .int 1, .int 0, .int 2, .int 1, .int 1] : List V)[j]? = some (.int ct) := by
    rcases (by omega : j = 0 ∨ j = 1 ∨ j = 2 ∨ j = 3 ∨ j = 4 ∨ j = 5 ∨ j = 6) with rfl | rfl | rfl | rfl | rfl | rfl | rfl <;> exact ⟨_, rfl⟩
  generalize upd H2 p3 (.lst [.int 2, .int 2, .int 1, .int 0, .int 2, .int 1, .int 1]) = H3 at s3 l3 ⊢
  have hp3 := s3.seq hp2
  have l3s := SqL.of (K := K) l3
  have l23 := s3 _ _ l2
  have s13 := s1.trans (s2.trans s3)
  walk_at "sts"
  rw [hj]
  walk_at "sts"
  try dsimp only
  refine w_cut (fun σ' H' => ∃ ct : Int, σ' = [some (.ref p), some (.ref p2), some (.int ct)] ∧ H' = H3) ?_ ?_
  · walk_at "sts"
    refine ifd (fun h1 => ?_) (fun h1 => ?_)
    · walk_at "sts"
      exact ⟨_, rfl, rfl⟩
    · walk_at "sts"
      exact ⟨_, rfl, rfl⟩
  rintro σ' H' ⟨ct, rfl, rfl⟩
  have put : ∀ (H4 : Hp) (ws : List (List Nat)) (zz : Str), Same H H4 → H4 p2 = some (.lst (sv ws)) → (∀ w ∈ ws, w.length ≤ 40) → zz.length ≤ 40 → Same H (upd H4 p2 (.lst (sv ws ++ [.str zz]))) ∧ upd H4 p2 (.lst (sv ws ++ [.str zz])) p2 = some (.lst (sv (ws ++ [TL.tl zz]))) ∧ (∀ w ∈ ws ++ [TL.tl zz], w.length ≤ 40) := fun H4 ws zz a1 a2 a3 a4 => by
    refine ⟨a1.mut n2', ?_, fun w hw => ?_⟩
    · rw [upd_same, sv_app]
      show _ = some (HO.lst (sv ws ++ [V.str (tS (TL.tl zz))]))
      rw [← str_tS]
    · rcases List.mem_append.mp hw with e | e
      · exact a3 w e
      · rw [List.mem_singleton.mp e, str_len]; exact a4
  walk_at "sts"
  try dsimp only
  refine w_cut (fun σ' H' => ∃ ws : List (List Nat), σ' = [some (.ref p), some (.ref p2), some (.int ct)] ∧ Same H H' ∧ H' p2 = some (.lst (sv ws)) ∧ (∀ w ∈ ws, w.length ≤ 40) ∧ ws.length ≤ 2 ∧ 1 ≤ ws.length) ?_ ?_
  · walk_at "sts"
    have w0 : ∀ w ∈ [TL.tl z0], w.length ≤ 40 := fun w hw => by rw [List.mem_singleton.mp hw, str_len]; exact hz0l
    have hszk : (sv [TL.tl z0]).length < sizeLine := szlt (by rw [sv_len]; show 1 < _; omega)
    refine ifd (fun h1 => ?_) (fun h1 => ?_)
    · walk_at "sts"
      refine ifd (fun h2 => ?_) (fun h2 => ?_)
      · obtain ⟨k, hk, hk2⟩ := modN (y / 5) (show 0 < 9 by decide)
        have hk : y / 5 % 9 = (k : Nat) := hk
        walk_at "sts"
        rw [hk]
        refine ⟨log2_small (Nat.lt_of_lt_of_le hk2 (by decide +kernel)), ?_⟩
        rw [tS_num]
        have := numL_len (n := k) (k := 1) (by decide) (by omega)
        walk_at "sts"
        obtain ⟨a1, a2, a3⟩ := put H' _ (tS (numL k)) s13 l23 w0 (by rw [tS_len]; omega)
        exact ⟨_, rfl, a1, a2, a3, by rw [List.length_append]; exact Nat.le_refl _, by rw [List.length_append]; exact Nat.le_add_left _ _⟩
      · walk_at "sts"
        refine ⟨_, rfl, fun zz H4 hzz s4 => ?_⟩
        have l24 := s4 _ _ l23
        walk_at "sts"
        obtain ⟨a1, a2, a3⟩ := put H4 _ zz (s13.trans s4) l24 w0 hzz
        exact ⟨_, rfl, a1, a2, a3, by rw [List.length_append]; exact Nat.le_refl _, by rw [List.length_append]; exact Nat.le_add_left _ _⟩
    · walk_at "sts"
      exact ⟨_, rfl, s13, l23, w0, by show 1 ≤ 2; omega, Nat.le_refl _⟩
  rintro σ' H4 ⟨ws, rfl, s4, l4, hw4, h42, h41⟩
  walk_at "sts"
  try dsimp only
  refine w_cut (fun σ' H' => ∃ ws : List (List Nat), σ' = [some (.ref p), some (.ref p2), some (.int ct)] ∧ Same H H' ∧ H' p2 = some (.lst (sv ws)) ∧ (∀ w ∈ ws, w.length ≤ 40) ∧ ws.length ≤ 3 ∧ 1 ≤ ws.length) ?_ ?_
  · walk_at "sts"
    have hp4 := s4.seq hp
    refine ifd (fun h1 => ?_) (fun h1 => ?_)
    · walk_at "sts"
      refine ⟨_, rfl, fun zz H5 hzz s5 => ?_⟩
      have l5 := s5 _ _ l4
      have hszk : (sv ws).length < sizeLine := szlt (by rw [sv_len]; omega)
      walk_at "sts"
      obtain ⟨a1, a2, a3⟩ := put H5 _ zz (s4.trans s5) l5 hw4 hzz
      exact ⟨_, rfl, a1, a2, a3, by rw [List.length_append, List.length_singleton]; omega, by rw [List.length_append, List.length_singleton]; omega⟩
    · walk_at "sts"
      exact ⟨_, rfl, s4, l4, hw4, by omega, h41⟩
  rintro σ' H5 ⟨ws, rfl, s5, l5, hw5, h52, h51⟩
  walk_at "sts"
  try dsimp only
  refine w_cut (fun σ' H' => ∃ ws : List (List Nat), σ' = [some (.ref p), some (.ref p2), some (.int ct)] ∧ Same H H' ∧ H' p2 = some (.lst (sv ws)) ∧ (∀ w ∈ ws, w.length ≤ 40) ∧ ws.length ≤ 4 ∧ 1 ≤ ws.length) ?_ ?_
  · walk_at "sts"
    have hp5 := s5.seq hp
    refine ifd (fun h1 => ?_) (fun h1 => ?_)
    · walk_at "sts"
      refine ⟨_, rfl, fun zz H6 hzz s6 => ?_⟩
      have l6 := s6 _ _ l5
      have hszk : (sv ws).length < sizeLine := szlt (by rw [sv_len]; omega)
      walk_at "sts"
      obtain ⟨a1, a2, a3⟩ := put H6 _ zz (s5.trans s6) l6 hw5 hzz
      exact ⟨_, rfl, a1, a2, a3, by rw [List.length_append, List.length_singleton]; omega, by rw [List.length_append, List.length_singleton]; omega⟩
    · walk_at "sts"
      exact ⟨_, rfl, s5, l5, hw5, by omega, h51⟩
  rintro σ' H6 ⟨ws, rfl, s6, l6, hw6, h62, h61⟩
  have hlen := lens_le ws hw6
  walk_at "sts"
  rw [tL_lit]
  have e1 : (tL " ").length = 1 := by decide
  have hsz : (ws.map List.length).sum + ws.length * (tL " ").length ≤ 16777216 := by rw [e1]; omega
  refine w_m1 ?_
  walk_at "sts"
  refine w_isS ?_
  walk_at "sts"
  refine w_join (a := tL " ") (SqL.of l6) hsz ?_
  refine q _ _ ?_ s6
  obtain ⟨h0, r0, e0⟩ : ∃ h r, ws = h :: r := by
    cases ws with
    | nil => exact absurd h61 (by decide)
    | cons h r => exact ⟨h, r, rfl⟩
  have := joinL_sum (tL " ") h0 r0
  rw [← e0] at this
  rw [← this]
  have e2 : r0.length + 1 = ws.length := by rw [e0]; rfl
  rw [e1]
  omega
end

/-! ### a sub-heap that grows by what is new -/
def grw (G H H' : Hp) : Hp := fun b => match H b with
  | none => H' b
  | some _ => G b
theorem grw_fresh {G H H' : Hp} {q : Addr} (n : New H q) : grw G H H' q = H' q := by
  show (match H q with
    | none => H' q
    | some _ => G q) = _
  rw [show H q = none from n]
theorem grw_old {G H H' : Hp} {q : Addr} {o : HO} (n : H q = some o) : grw G H H' q = G q := by
  show (match H q with
    | none => H' q
    | some _ => G q) = _
  rw [n]
theorem grw_sub {G H H' : Hp} (s : Same G H) : Same G (grw G H H') := fun b o e => by rw [grw_old (s b o e)]; exact e
theorem grw_in {G H H' : Hp} (s : Same G H) (t : Same H H') : Same (grw G H H') H' := fun b o e => by
  cases h : H b with
  | none => rw [grw_fresh h] at e; exact e
  | some u => rw [grw_old h] at e; exact t _ _ (s b o e)
theorem grw_free {G H H' : Hp} {q : Addr} {o : HO} (h : H q = some o) (n : New G q) : New (grw G H H') q := by
  show grw G H H' q = none
  rw [grw_old h]
  exact n
theorem grw_mono {G H H' H'' : Hp} (t : Same H' H'') : Same (grw G H H') (grw G H H'') := fun b o e => by
  cases h : H b with
  | none => rw [grw_fresh h] at e ⊢; exact t b o e
  | some u => rw [grw_old h] at e ⊢; exact e
theorem grw_upd {G H H' : Hp} {q : Addr} {o : HO} (n : New H q) : grw G H (upd H' q o) = upd (grw G H H') q o := by
  funext b
  by_cases e : b = q
  · subst e
    rw [grw_fresh n, upd_same, upd_same]
  · rw [upd_ne e]
    cases h : H b with
    | none => rw [grw_fresh h, grw_fresh h, upd_ne e]
    | some u => rw [grw_old h, grw_old h]
theorem dpaSetG {K : PySem.W.Frag} {H : Hp} {v : V} {d : PyData} : ∀ {xs : List V} {ds : List PyData}, DpAll K H xs ds → Dp K H v d → ∀ i, DpAll K H (xs.set i v) (ds.set i d)
  | _, _, .nil, _, _ => .nil
  | _, _, .cons _ t, hv, 0 => .cons hv t
  | _, _, .cons h t, hv, i + 1 => .cons h (dpaSetG t hv i)
/-- an item put in the place of another -/
theorem GrD.set {K : PySem.W.Frag} {H H' : Hp} {D : Addr} {ds : List PyData} {d : PyData} {v : V} {xs : List V} (h : DpAll K (wo H D) xs ds) (e : Same H H') (hv : Dp K (wo H' D) v d) (i : Nat) : GrD K (upd H' D (.lst (xs.set i v))) D (ds.set i d) :=
  ⟨xs.set i v, upd_same, by rw [wo_eq]; exact dpaSetG (h.same (wo_mono e)) hv i⟩

open TL
/-! ### desks side by side; what deeds keep -/
theorem wo_comm (H : Hp) (a b : Addr) : wo (wo H a) b = wo (wo H b) a := by
  funext c
  unfold wo
  split <;> split <;> rfl
theorem same_wo2 {G H : Hp} {p fl : Addr} (s : Same G H) (n1 : New G p) (n2 : New G fl) : Same G (wo (wo H p) fl) := same_wo (same_wo s n1) n2
theorem DeskAt.woI {K : PySem.W.Frag} {CP CQ CW CD : Addr} {H : Hp} {p fl q C dx : Addr} {fs : List (Str × V)} {T : Turns} {ts : List Ti} {hs : List (List Ti)} (h : DeskAt K CP CQ CW CD H p fl T ts hs) (hq : H q = some (.ins C dx fs)) (hl : fs.length < 3) (hn : q ≠ p) : DeskAt K CP CQ CW CD (wo H q) p fl T ts hs := by
  obtain ⟨dx', w, ws, h1, h2, h3, h4, h5⟩ := h.ex
  have hqf : q ≠ fl := fun z => by subst z; rw [hq] at h2; cases h2
  have hq2 : wo (wo H p) fl q = some (.ins C dx fs) := wo_get (wo_get hq hn) hqf
  have e : wo (wo (wo H q) p) fl = wo (wo (wo H p) fl) q := by rw [wo_comm H q p, wo_comm (wo H p) q fl]
  refine ⟨dx', w, ws, wo_get h1 (Ne.symm hn), wo_get h2 (Ne.symm hqf), h3, ?_, fun i a t e1 e2 => ?_⟩
  · rw [e]; exact h4.woI hq2 hl
  · rw [e]; exact (h5 i a t e1 e2).woI hq2 hl
/-- ends as at first, strengths in bounds -/
def Like (E : EdgL) (t : List Ti) : Prop := endsOf t = E ∧ ∀ x ∈ t, x.s ≤ 10 ^ 30
theorem Like.text {ts u : List Ti} {T : Turns} (h : TextOk ts T) (hu : Like (endsOf ts) u) : TextOk u T := by
  have hl := endsOf_eq_len hu.1
  refine ⟨h.two, h.most, by rw [hl]; exact h.ties, fun t ht => ?_, hu.2, h.turns⟩
  have : (t.one, t.two) ∈ endsOf u := List.mem_map.mpr ⟨t, ht, rfl⟩
  rw [hu.1] at this
  obtain ⟨t2, h2, e⟩ := List.mem_map.mp this
  injection e with e1 e2
  have := h.ends t2 h2
  rw [← e1, ← e2]
  exact this
theorem Like.str {E : EdgL} {u : List Ti} (h : Like E u) (i : Nat) : (ti u i).s ≤ 10 ^ 30 := by
  by_cases hi : i < u.length
  · exact h.2 _ (List.mem_of_getElem? (ti_at hi))
  · unfold ti
    rw [List.getD_eq_getElem?_getD, List.getElem?_eq_none (by omega)]
    exact Nat.zero_le _
theorem like_flip {E : EdgL} {ts : List Ti} (h : Like E ts) (p : Nat) : Like E (flipT ts p) := by
  refine ⟨by rw [flip_ends]; exact h.1, fun x hx => ?_⟩
  unfold flipT at hx
  obtain ⟨t, ht, rfl⟩ := List.mem_map.mp hx
  have := h.2 t ht
  split
  · exact this
  · exact this
theorem like_set {E : EdgL} {ts : List Ti} (h : Like E ts) {k s : Nat} {b : Bool} (hs : s ≤ 10 ^ 30) : Like E (ts.set k ⟨b, (ti ts k).one, (ti ts k).two, s⟩) := by
  refine ⟨by rw [set_ends]; exact h.1, fun x hx => ?_⟩
  rcases List.mem_or_eq_of_mem_set hx with hx | rfl
  · exact h.2 x hx
  · exact hs
theorem deed_like {E : EdgL} {ts u : List Ti} {n : Nat} {hs hs' : List (List Ti)} {row : List Nat} (h : deedM ts n hs row = some (u, hs')) (h1 : Like E ts) (h2 : ∀ t ∈ hs, Like E t) : Like E u ∧ ∀ t ∈ hs', Like E t := by
  have app : ∀ t ∈ hs ++ [ts], Like E t := fun t ht => by
    rcases List.mem_append.mp ht with ht | ht
    · exact h2 t ht
    · rw [List.mem_singleton.mp ht]; exact h1
  unfold deedM at h
  split at h
  · cases h
  · split at h
    · split at h
      · rename_i hc
        injection h with h
        injection h with e1 e2
        subst e1 e2
        refine ⟨h2 _ ?_, fun t ht => h2 t (List.dropLast_subset _ ht)⟩
        have := last_get hs [] hc.2
        exact List.mem_of_getElem? this
      · cases h
    · split at h
      · split at h
        · cases h
        · rename_i hst
          injection h with h
          injection h with e1 e2
          subst e1 e2
          refine ⟨?_, app⟩
          unfold strungM at hst
          split at hst
          · split at hst
            · cases hst
            · injection hst with hst
              rw [← hst]
              exact like_set h1 (by omega)
          · cases hst
      · split at h
        · split at h
          · cases h
          · rename_i hst
            injection h with h
            injection h with e1 e2
            subst e1 e2
            refine ⟨?_, app⟩
            unfold flippedM at hst
            split at hst
            · split at hst
              · cases hst
              · injection hst with hst
                rw [← hst]
                exact like_flip h1 _
            · cases hst
        · cases h
theorem Built.like {ts : List Ti} {T : Turns} {m : Nat} (h : Built ts T m) : Like (endsOf ts) ts := ⟨rfl, fun x hx => by
  obtain ⟨i, hi, rfl⟩ := List.mem_iff_getElem.mp hx
  have := h.s i
  have e : ti ts i = ts[i] := by unfold ti; rw [List.getD_eq_getElem?_getD, List.getElem?_eq_getElem hi]; rfl
  rw [e] at this
  exact this⟩
/-- the told part of a built web -/
theorem BuiltAt.new {K : PySem.W.Frag} {H : Hp} {b q d : Addr} {ts u : List Ti} {T : Turns} (h : BuiltAt K H b ts T) (hE : endsOf u = endsOf ts) (hd : Dp K H (.ref d) (dTold u)) : ∃ e t d0, SqT K H b [.ref e, .ref t, .ref d0] ∧ ∀ q H', Same H H' → SqT K H' q [.ref e, .ref t, .ref d] → BuiltAt K H' q u T := by
  obtain ⟨e, t, d0, h1, h2, h3, h4⟩ := h
  exact ⟨e, t, d0, h1, fun q H' s hq => ⟨e, t, d, hq, by rw [hE]; exact h2.same s, h3.same s, hd.same s⟩⟩
theorem cut3 {xs : List V} {k : Nat} (h : k + 3 ≤ xs.length) : ∃ x y z, cutV xs (some (k : Int)) (some ((k : Int) + 3)) = [x, y, z] ∧ xs[k]? = some x ∧ xs[k + 1]? = some y ∧ xs[k + 2]? = some z := by
  refine ⟨xs[k], xs[k + 1], xs[k + 2], ?_, List.getElem?_eq_getElem _, List.getElem?_eq_getElem _, List.getElem?_eq_getElem _⟩
  rw [show ((k : Int) + 3) = ((k + 3 : Nat) : Int) by omega, cutV_nat, Nat.add_sub_cancel_left, List.drop_eq_getElem_cons (by omega), List.drop_eq_getElem_cons (by omega), List.drop_eq_getElem_cons (by omega)]
  rfl
section
variable {P : Program} {w : World} {K : PySem.W.Frag} {mg : Str → Option Value} {base : Heap} {C_Pull C_Push C_Web C_Desk C_BadTie C_BadTurns C_Parted C_NotFlat C_BadText C_BadDeed C_FloorError : Addr}
theorem desk_make {H : Hp} {x dx : Addr} (nx : New H x) (nd : New H dx) (hxd : dx ≠ x) {text : List Nat} {u : List Ti} {T : Turns} (hr_ : readW text = .inr (T.length, u.map tR, T)) (hF : Flat (endsOf u) T) (h1 : 1 ≤ T.length) (h2 : T.length ≤ 40) (hl : text.length ≤ 90000) {R : Hp → Prop} {E : XK}
    (k : ∀ fl H', Same H H' → New H fl → DeskAt K C_Pull C_Push C_Web C_Desk H' x fl T u [] → R H') : spDeskI K C_Pull C_Push C_Web C_Desk C_BadText [.ref x, .str (tS text)] (upd (upd H dx (.own x)) x (.ins C_Desk dx [])) (fun v H2 => v = .non ∧ R H2) E := by
  have sm : Same H (upd (upd H dx (.own x)) x (.ins C_Desk dx [])) := made_same nx nd hxd
  have sw : Same H (wo (upd (upd H dx (.own x)) x (.ins C_Desk dx [])) x) := same_wo sm nx
  refine ⟨x, dx, text, rfl, upd_same, hl, fun a (ha : readW text = .inl a) => (by rw [hr_] at ha; cases ha), fun m told T' hrw => ?_⟩
  rw [hr_] at hrw
  injection hrw with hrw
  injection hrw with e1 hrw
  injection hrw with e2 e3
  subst e1 e2 e3
  rw [tiR_all]
  exact ⟨hF, rfl, h1, h2, fun fl H' s n hD => ⟨rfl, k fl H' (sw.trans s) (n.of sw) hD⟩⟩
end

theorem flip_mix {ts : List Ti} {pl i : Nat} (hi : i < ts.length) {t : Ti} (ht : t = if (ti ts i).one = pl ∨ (ti ts i).two = pl then turnK (ti ts i) else ti ts i) : (flipT (ts.take i) pl ++ ts.drop i).set i t = flipT (ts.take (i + 1)) pl ++ ts.drop (i + 1) ∧ (flipT (ts.take i) pl ++ ts.drop i)[i]? = some (ti ts i) := by
  have hl : (flipT (ts.take i) pl).length = i := by unfold flipT; rw [List.length_map, List.length_take]; omega
  have ed : ts.drop i = ti ts i :: ts.drop (i + 1) := by
    rw [List.drop_eq_getElem_cons hi]
    unfold ti
    rw [List.getD_eq_getElem?_getD, List.getElem?_eq_getElem hi]
    rfl
  have et : flipT (ts.take (i + 1)) pl = flipT (ts.take i) pl ++ [t] := by
    rw [ht]
    unfold flipT
    rw [List.take_add_one, ti_at hi, Option.toList_some, List.map_append]
    rfl
  refine ⟨?_, ?_⟩
  · rw [et, ed, List.set_append_right _ _ (by omega), hl, Nat.sub_self, List.set_cons_zero, List.append_assoc]
    rfl
  · rw [ed, List.getElem?_append_right (by omega), hl, Nat.sub_self]
    rfl

open TL
section
variable {P : Program} {w : World} {K : PySem.W.Frag} {mg : Str → Option Value} {base : Heap} {C_Pull C_Push C_Web C_Desk C_BadTie C_BadTurns C_Parted C_NotFlat C_BadText C_BadDeed C_FloorError : Addr}
theorem spl_one : ∀ (l acc w : List Nat), spl [32] 0 acc l = [w] → acc ++ l = w
  | [], acc, w, h => by
    rw [spl_nil] at h
    rw [List.append_nil]
    exact (List.cons.inj h).1
  | c :: r, acc, w, h => by
    cases hp : pre [32] (c :: r) with
    | true =>
      rw [spl_hit hp] at h
      exact absurd (List.cons.inj h).2 (spl_ne _ _ _ _)
    | false =>
      rw [spl_miss hp] at h
      have := spl_one r (acc ++ [c]) w h
      rwa [List.append_assoc] at this
theorem w_inSL {H : Hp} {Q : VK} {p : Addr} {ws : List (List Nat)} {w : List Nat} (hs : SqL K H p (sv ws)) (h : Q (.bl (decide (w ∈ ws))) H) : rIn K false (.str (tS w)) (.ref p) H Q :=
  ⟨p, sv ws, rfl, .inl hs, rfl, sv_flat ws, by rw [inV_sv]; exact h⟩
theorem deed_none {ts : List Ti} {n : Nat} {hs : List (List Ti)} {row ns : List Nat} (h : numsN 31 (tlW row) = some ns) (n1 : ¬ (hdW row = tL "back" ∧ ns = [] ∧ hs ≠ [])) (n2 : ¬ ((hdW row = tL "pull" ∨ hdW row = tL "push") ∧ ∃ k s, ns = [k, s] ∧ k < ts.length ∧ s ≤ 10 ^ 30)) (n3 : ¬ (hdW row = tL "flip" ∧ ∃ p, ns = [p] ∧ p < n)) : deedM ts n hs row = none := by
  unfold deedM
  rw [h]
  show (if hdW row = tL "back" then _ else _) = _
  by_cases c1 : hdW row = tL "back"
  · rw [if_pos c1, if_neg fun z => n1 ⟨c1, z.1, z.2⟩]
  · rw [if_neg c1]
    by_cases c2 : hdW row = tL "pull" ∨ hdW row = tL "push"
    · rw [if_pos c2]
      have e : strungM ts (hdW row) ns = none := by
        unfold strungM
        split
        · rename_i k s
          rw [if_pos]
          refine Classical.byContradiction fun z => n2 ⟨c2, k, s, rfl, by omega, by omega⟩
        · rfl
      rw [e]
    · rw [if_neg c2]
      by_cases c3 : hdW row = tL "flip"
      · rw [if_pos c3]
        have e : flippedM ts n ns = none := by
          unfold flippedM
          split
          · rename_i p
            rw [if_pos]
            exact Nat.le_of_not_lt fun z => n3 ⟨c3, p, rfl, z⟩
          · rfl
        rw [e]
      · rw [if_neg c3]
theorem deed_back2 {ts : List Ti} {n : Nat} {hs : List (List Ti)} {row : List Nat} (h : numsN 31 (tlW row) = some []) (h1 : hdW row = tL "back") (h2 : hs ≠ []) : deedM ts n hs row = some (hs.getLastD [], hs.dropLast) ∧ row = tL "back" := by
  refine ⟨?_, ?_⟩
  · unfold deedM
    rw [h]
    show (if hdW row = tL "back" then _ else _) = _
    rw [if_pos h1, if_pos ⟨rfl, h2⟩]
  · have hl := (numsN_lt _ _ h).1
    have e : tlW row = [] := List.length_eq_zero_iff.mp hl.symm
    have := spl_hd row
    rw [e] at this
    have := spl_one row [] _ this
    rw [← h1, ← this]
    rfl
theorem deed_kind2 {ts : List Ti} {n k s : Nat} {hs : List (List Ti)} {row : List Nat} (h : numsN 31 (tlW row) = some [k, s]) (h1 : hdW row = tL "pull" ∨ hdW row = tL "push") (hk : k < ts.length) (hs30 : s ≤ 10 ^ 30) : deedM ts n hs row = some (ts.set k ⟨decide (hdW row = tL "push"), (ti ts k).one, (ti ts k).two, s⟩, hs ++ [ts]) ∧ row ≠ tL "back" := by
  refine ⟨?_, fun z => ?_⟩
  · unfold deedM
    rw [h]
    show (if hdW row = tL "back" then _ else _) = _
    have c1 : ¬ hdW row = tL "back" := fun z => by rw [z] at h1; rcases h1 with e | e <;> exact absurd e (by decide)
    rw [if_neg c1, if_pos h1]
    have e : strungM ts (hdW row) [k, s] = some (ts.set k ⟨decide (hdW row = tL "push"), (ti ts k).one, (ti ts k).two, s⟩) := if_neg (by omega)
    rw [e]
  · rw [z] at h1
    rcases h1 with e | e <;> exact absurd e (by decide)
theorem deed_flip2 {ts : List Ti} {n p : Nat} {hs : List (List Ti)} {row : List Nat} (h : numsN 31 (tlW row) = some [p]) (h1 : hdW row = tL "flip") (hp : p < n) : deedM ts n hs row = some (flipT ts p, hs ++ [ts]) ∧ row ≠ tL "back" := by
  refine ⟨?_, fun z => ?_⟩
  · unfold deedM
    rw [h]
    show (if hdW row = tL "back" then _ else _) = _
    rw [if_neg (by rw [h1]; decide), if_neg (by rw [h1]; decide), if_pos h1]
    have e : flippedM ts n [p] = some (flipT ts p) := if_neg (by omega)
    rw [e]
  · rw [z] at h1
    exact absurd h1 (by decide)
def DueC (ds : List Addr) (hs hs' : List (List Ti)) (ts : List Ti) (row : List Nat) (d : Addr) : Prop := (row = tL "back" ∧ hs' = hs.dropLast ∧ ds.getLastD 0 = d ∧ hs ≠ []) ∨ (row ≠ tL "back" ∧ hs' = hs ++ [ts])
def spDue64 (K : PySem.W.Frag) : Sp := fun vs H Q _ => ∃ (b kl : Addr) (row : List Nat) (G : Hp) (ts : List Ti) (T : Turns) (hs : List (List Ti)) (ds : List Addr), vs = [.ref b, .ref kl, .str (tS row)] ∧ Same G H ∧ BuiltAt K G b ts T ∧ 1 ≤ ts.length ∧ ts.length ≤ 38 ∧ 2 ≤ T.length ∧ T.length ≤ 40 ∧
  H kl = some (.lst (ds.map V.ref)) ∧ ds.length = hs.length ∧ (∀ (i : Nat) (q : Addr) (t : List Ti), ds[i]? = some q → hs[i]? = some t → Dp K G (.ref q) (dTold t)) ∧ row.length ≤ 1000 ∧
  (deedM ts T.length hs row = none → ∀ H', Same H H' → Q .non H') ∧ (∀ H' d u hs', Same H H' → Dp K (grw G H H') (.ref d) (dTold u) → deedM ts T.length hs row = some (u, hs') → DueC ds hs hs' ts row d → Q (.ref d) H')
theorem ok_law_due {f : Addr} {fd : FuncData} (F : Fun K "_law_due" "_law_due" s_law_due f fd) (gf : mg "_law_due" = some (.ref f)) (B : Bl mg) {C_Pull C_Push C_Web C_Desk C_BadTie C_BadTurns C_Parted C_NotFlat C_BadText C_BadDeed C_FloorError : Addr} (T : Txt K mg C_Pull C_Push C_Web C_Desk C_BadTie C_BadTurns C_Parted C_NotFlat C_BadText C_BadDeed C_FloorError) (h_law_numbers : Has P w K mg base CX0 1 "_law_numbers" ["words"] (spNums64 K)) : Has P w K mg base CX0 2 "_law_due" ["built", "kept", "row"] (spDue64 K) := by
  refine Has.mk' F gf (F.binds (ps := ["built", "kept", "row"]) fun _ _ _ _ _ _ us hl => match us, hl with | [_, _, _], _ => rfl) sc_law_due (by walk_at "len") (fun cdv A outer s H vs Q E hr h => ?_)
  obtain ⟨b, kl, row, G, ts, Tu, hs, ds, rfl, sG, hB, ht1, ht38, hT2, hT40, hkl, hdl, hdk, hrow, qn, q⟩ := h
  obtain ⟨e, t, d, hA', hE', hTu', hD'⟩ := id hB
  obtain ⟨es, he', hEs'⟩ := dpLstA hE'
  obtain ⟨us, hu', hus'⟩ := dpLstA hTu'
  obtain ⟨dv, hd', hDs'⟩ := dpLstA hD'
  have hA := same_read sG hA'
  have he := sG.seq he'
  have hEs := hEs'.same sG
  have hu := sG.seq hu'
  have hus := hus'.same sG
  have hd := sG.seq hd'
  have hDs := hDs'.same sG
  have hel : es.length = ts.length := by have := dpaLen hEs; rw [List.length_map, endsOf_len] at this; exact this
  have hul : us.length = Tu.length := by have := dpaLen hus; simpa using this
  have hdvl : dv.length = ts.length := by have := dpaLen hDs; simpa using this
  obtain ⟨hl1, hl2⟩ := spl_len [32] (by decide) row [] 0
  have hsp := spl_hd row
  rw [hsp] at hl1 hl2
  have hwl : ∀ w ∈ tlW row, w.length ≤ 100000 := fun w hw => by
    have := hl2 w (List.mem_cons_of_mem _ hw)
    simp at this
    omega
  have hwn : (tlW row).length ≤ 100001 := by rw [List.length_cons] at hl1; omega
  refine ⟨_, (pss_cons (ps_set (i := 3) sc_law_due.nd rfl (.inl rfl) (pe_split (pv 2) pe_str))
 (pss_cons (ps_set (i := 4) sc_law_due.nd rfl (.inl rfl) (pe_fn h_law_numbers (hr.mono (by decide)) (by rfl) (pa_cons (pe_slice (sl_listK K) (pv 3) (po_some pe_int) po_none) pa_nil)))
 (pss_cons (ps_set (i := 5) sc_law_due.nd rfl (.inl rfl) (pe_callTy (call_listK K) (by rfl) B.list (by decide +kernel) (pa_cons (pe_ix (ix_tupK K) (pv 0) pe_int (fun _ _ => rfl)) pa_nil)))
 (pss_cons (ps_if (pt_cmpR op_isN (pv 4) pe_non (nomark _)) (pss_one (ps_ret pe_non)) pss_nil)
 (pss_cutX (ps_if (PW.pt (pw_and (pt_cmpR op_eq (pe_ix (ix_listK K) (pv 3) pe_int (fun _ _ => rfl)) pe_str (nomark _)) (pw_and (pt_cmpR (op_eqDK K hr.units) (pv 4) (pe_lst pa_nil) (nomark _)) (pw_and1 (pt_cmpR op_gt (pe_callB (call_lenK K) (by rfl) B.len (by decide +kernel) (pa_cons (pv 1) pa_nil)) pe_int (nomark _)))))) (pss_one (ps_ret (pe_ix (ix_listK K) (pv 1) (pe_un un_neg pe_int) (fun _ _ => rfl)))) pss_nil)
 (pss_cutX (ps_if (PW.pt (pw_and (pt_cmpR (op_inK K) (pe_ix (ix_listK K) (pv 3) pe_int (fun _ _ => rfl)) (pe_lst (pa_cons pe_str (pa_cons pe_str pa_nil))) (by rfl)) (pw_and (pt_cmpR op_eq (pe_callB (call_lenK K) (by rfl) B.len (by decide +kernel) (pa_cons (pv 4) pa_nil)) pe_int (nomark _)) (pw_and (pt_cmpR op_lt (pe_ix (ix_listK K) (pv 4) pe_int (fun _ _ => rfl)) (pe_callB (call_lenK K) (by rfl) B.len (by decide +kernel) (pa_cons (pv 5) pa_nil)) (nomark _)) (pw_and1 (pt_cmpR op_le (pe_ix (ix_listK K) (pv 4) pe_int (fun _ _ => rfl)) (pe_op op_pow pe_int pe_int) (nomark _))))))) (pss_cons (ps_asg (pe_tup (pa_cons (pe_callTy call_int1 (by rfl) B.int (by decide +kernel) (pa_cons (pe_cmpR op_eq (pe_ix (ix_listK K) (pv 3) pe_int (fun _ _ => rfl)) pe_str (nomark _)) pa_nil)) (pa_cons (pe_ix (ix_listK K) (pv 4) pe_int (fun _ _ => rfl)) pa_nil))) (pg_sub (pv 5) (pe_ix (ix_listK K) (pv 4) pe_int (fun _ _ => rfl)) set_list))
 (pss_one (ps_ret (pv 5)))) pss_nil)
 (pss_cons (ps_if (PW.pt (pw_and (pt_cmpR op_eq (pe_ix (ix_listK K) (pv 3) pe_int (fun _ _ => rfl)) pe_str (nomark _)) (pw_and (pt_cmpR op_eq (pe_callB (call_lenK K) (by rfl) B.len (by decide +kernel) (pa_cons (pv 4) pa_nil)) pe_int (nomark _)) (pw_and1 (pt_cmpR op_lt (pe_ix (ix_listK K) (pv 4) pe_int (fun _ _ => rfl)) (pe_callB (call_lenK K) (by rfl) B.len (by decide +kernel) (pa_cons (pe_ix (ix_tupK K) (pv 0) pe_int (fun _ _ => rfl)) pa_nil)) (nomark _)))))) (pss_cons (ps_for PassesOwn.never rfl (pi_range1 (by rfl) B.range (pa_cons (pe_callB (call_lenK K) (by rfl) B.len (by decide +kernel) (pa_cons (pv 5) pa_nil)) pa_nil)) (pg_name (i := 6) sc_law_due.nd rfl (.inl rfl)) (pss_one (ps_if (pt_cmpR (op_inK K) (pe_ix (ix_listK K) (pv 4) pe_int (fun _ _ => rfl)) (pe_ix (ix_listK K) (pe_ix (ix_tupK K) (pv 0) pe_int (fun _ _ => rfl)) (pv 6) (fun _ _ => rfl)) (by rfl)) (pss_one (ps_asg (pe_tup (pa_cons (pe_op op_sub pe_int (pe_ix (ix_tupK K) (pe_ix (ix_listK K) (pv 5) (pv 6) (fun _ _ => rfl)) pe_int (fun _ _ => rfl))) (pa_cons (pe_ix (ix_tupK K) (pe_ix (ix_listK K) (pv 5) (pv 6) (fun _ _ => rfl)) pe_int (fun _ _ => rfl)) pa_nil))) (pg_sub (pv 5) (pv 6) set_list))) pss_nil)))
 (pss_one (ps_ret (pv 5)))) pss_nil)
 (pss_one (ps_ret pe_non))))))))), ?_⟩
  walk_at "sts"
  rw [tL_lit]
  refine w_m1 ?_
  walk_at "sts"
  refine w_isS ?_
  walk_at "sts"
  refine w_split (by decide) (by decide) (by rw [sizeLine_eq]; omega) fun p1 n1 => ?_
  rw [show tL " " = [32] from by decide, hsp]
  have s1 := same_upd (o := .lst (sv (hdW row :: tlW row))) n1
  have l1 : upd H p1 (.lst (sv (hdW row :: tlW row))) p1 = some (.lst (sv (hdW row :: tlW row))) := upd_same
  generalize upd H p1 (.lst (sv (hdW row :: tlW row))) = H1 at s1 l1 ⊢
  walk_at "sts"
  refine w_new fun p2 n2 => ?_
  have ec1 : cutV (sv (hdW row :: tlW row)) (some 1) none = sv (tlW row) := by
    rw [show (1 : Int) = ((1 : Nat) : Int) from rfl, cutV_from]
    rfl
  rw [ec1]
  have s2 := same_upd (o := .lst (sv (tlW row))) n2
  have l2 : upd H1 p2 (.lst (sv (tlW row))) p2 = some (.lst (sv (tlW row))) := upd_same
  generalize upd H1 p2 (.lst (sv (tlW row))) = H2 at s2 l2 ⊢
  have s02 := s1.trans s2
  have ahd : atI (sv (hdW row :: tlW row)) 0 = some (.str (tS (hdW row))) := atI_nat (j := 0) rfl
  have tupDone : ∀ {x : Nat}, x < (10 : Nat) ^ 31 → True := fun _ => trivial
  refine ⟨p2, tlW row, rfl, SqL.of l2, hwl, hwn, fun ns hns hnl hnb p3 H3 s3 n3 l3 => ?_, fun hns H3 s3 => ?_⟩
  rotate_left
  · have hdv3 := (s02.trans s3).seq hd
    walk_at "sts"
    refine w_new fun D nD => ?_
    walk_at "sts"
    refine ifT (decide_eq_true rfl) ?_
    walk_at "sts"
    refine qn ?_ _ ((s02.trans s3).trans (same_upd nD))
    unfold deedM
    rw [hns]
  have s03 := s02.trans s3
  have hd3 := s03.seq hd
  walk_at "sts"
  refine w_new fun D nD => ?_
  have s4 := same_upd (o := .lst dv) nD
  have s04 := s03.trans s4
  have nDH : New H D := nD.of s03
  have lD : upd H3 D (.lst dv) D = some (.lst dv) := upd_same
  have l34 := s4 _ _ l3
  have l14 := s4 _ _ (s3 _ _ (s2 _ _ l1))
  generalize upd H3 D (.lst dv) = H4 at s4 s04 lD l34 l14 ⊢
  have nDG : New G D := nDH.of sG
  have eD0 : grw G H H4 D = some (.lst dv) := by rw [grw_fresh nDH]; exact lD
  have hGD : DpAll K (wo (grw G H H4) D) dv (ts.map dTi) := hDs'.same (same_wo (grw_sub sG) nDG)
  have l14s := SqL.of (K := K) l14
  have l34s := SqL.of (K := K) l34
  have hkl4 := s04 _ _ hkl
  have hkl4s := SqL.of (K := K) hkl4
  walk_at "sts"
  refine ifF (decide_eq_false (by simp)) ?_
  walk_at "sts"
  try dsimp only
  refine w_cut (fun σ' H' => σ' = [some (.ref b), some (.ref kl), some (.str (tS row)), some (.ref p1), some (.ref p3), some (.ref D), none] ∧ Same H4 H' ∧ ¬ (hdW row = tL "back" ∧ ns = [] ∧ hs ≠ [])) ?_ ?_
  · walk_at "sts"
    rw [dec_lit]
    refine ifd (fun c1 => ?_) (fun c1 => ?_)
    · walk_at "sts"
      refine w_new fun e0 ne0 => ?_
      have s5 := same_upd (o := .lst ([] : List V)) ne0
      refine w_eqNilI (s5.seq l34s) upd_same ?_
      have hkl5 := s5.seq hkl4s
      generalize upd H4 e0 (.lst []) = H5 at s5 hkl5 ⊢
      walk_at "sts"
      refine ifd (fun c2 => ?_) (fun c2 => ?_)
      · walk_at "sts"
        rw [List.length_map]
        refine ifd (fun c3 => ?_) (fun c3 => ?_)
        · have hdne : ds ≠ [] := fun z => by rw [z] at c3; simp at c3
          have hhne : hs ≠ [] := fun z => hdne (List.length_eq_zero_iff.mp (by rw [hdl, z]; rfl))
          have alast : atI (ds.map V.ref) (-1) = some (.ref (ds.getLastD 0)) := by
            obtain ⟨i, l, rfl⟩ : ∃ i l, ds = i ++ [l] := ⟨_, _, (List.dropLast_concat_getLast hdne).symm⟩
            rw [List.map_append]
            have : (i ++ [l]).getLastD 0 = l := by rw [List.getLastD_eq_getLast?, List.getLast?_concat]; rfl
            rw [this]
            exact atI_last _ _
          rw [c2] at hns
          obtain ⟨b1, b2⟩ := deed_back2 (ts := ts) (n := Tu.length) hns c1 hhne
          have hlast := hdk (ds.length - 1) (ds.getLastD 0) (hs.getLastD []) (last_get ds 0 hdne) (by rw [hdl]; exact last_get hs [] hhne)
          walk_at "sts"
          exact q _ _ _ _ (s04.trans s5) (hlast.same (grw_sub sG)) b1 (.inl ⟨b2, rfl, rfl, hhne⟩)
        · walk_at "sts"
          exact ⟨rfl, s5, fun z => c3 (by
            have : 0 < hs.length := List.length_pos_iff.mpr z.2.2
            omega)⟩
      · walk_at "sts"
        exact ⟨rfl, s5, fun z => c2 z.2.1⟩
    · walk_at "sts"
      exact ⟨rfl, Same.refl _, fun z => c1 z.1⟩
  rintro σ' H5 ⟨rfl, s5, k1⟩
  have l15s := s5.seq l14s
  have l35s := s5.seq l34s
  have lD5 := s5 _ _ lD
  have lD5s := SqL.of (K := K) lD5
  walk_at "sts"
  try dsimp only
  refine w_cut (fun σ' H' => σ' = [some (.ref b), some (.ref kl), some (.str (tS row)), some (.ref p1), some (.ref p3), some (.ref D), none] ∧ Same H5 H' ∧ ¬ ((hdW row = tL "pull" ∨ hdW row = tL "push") ∧ ∃ k s, ns = [k, s] ∧ k < ts.length ∧ s ≤ 10 ^ 30)) ?_ ?_
  · walk_at "sts"
    rw [tL_lit "pull", tL_lit "push"]
    refine w_new fun pl npl => ?_
    have s6 := same_upd (o := .lst [.str (tS (tL "pull")), .str (tS (tL "push"))]) npl
    have l6 : upd H5 pl (.lst [.str (tS (tL "pull")), .str (tS (tL "push"))]) pl = some (.lst (sv [tL "pull", tL "push"])) := upd_same
    generalize upd H5 pl (.lst [.str (tS (tL "pull")), .str (tS (tL "push"))]) = H6 at s6 l6 ⊢
    have l16s := s6.seq l15s
    have l36s := s6.seq l35s
    have lD6 := s6 _ _ lD5
    have lD6s := SqL.of (K := K) lD6
    refine w_inSL (SqL.of l6) ?_
    rw [show decide (hdW row ∈ [tL "pull", tL "push"]) = decide (hdW row = tL "pull" ∨ hdW row = tL "push") by simp]
    walk_at "sts"
    refine ifd (fun c1 => ?_) (fun c1 => ?_)
    · walk_at "sts"
      rw [iv_len]
      refine ifd (fun c2 => ?_) (fun c2 => ?_)
      · obtain ⟨k, s, hks⟩ : ∃ k s, ns = [k, s] := by
          match ns, (show ns.length = 2 by omega) with
          | [k, s], _ => exact ⟨k, s, rfl⟩
        subst hks
        have a0 : atI (iv [k, s]) 0 = some (.int (k : Nat)) := atI_nat (j := 0) rfl
        have a1 : atI (iv [k, s]) 1 = some (.int (s : Nat)) := atI_nat (j := 1) rfl
        walk_at "sts"
        rw [hdvl]
        refine ifd (fun c3 => ?_) (fun c3 => ?_)
        · walk_at "sts"
          refine ifd (fun c4 => ?_) (fun c4 => ?_)
          · have hk : k < ts.length := by omega
            have hs30 : s ≤ 10 ^ 30 := by
              have c4 : ((s : Nat) : Int) ≤ 10 ^ 30 := c4
              omega
            obtain ⟨b1, b2⟩ := deed_kind2 (n := Tu.length) (hs := hs) hns c1 hk hs30
            walk_at "sts"
            have fin : ∀ (bb : Bool) (T2 : Addr), bb = decide (hdW row = tL "push") → New H6 T2 → Q (.ref D) (upd (upd H6 T2 (.tup [.int (if bb = true then 1 else 0), .int (s : Nat)])) D (.lst (dv.set k (.ref T2)))) := fun bb T2 eb nT2 => by
              have s7 := same_upd (o := .tup [.int (if bb = true then 1 else 0), .int (s : Nat)]) nT2
              have nT : New H T2 := nT2.of (s04.trans (s5.trans s6))
              have hTD : T2 ≠ D := Ne.symm (ne_new lD6 nT2)
              have s47 : Same H4 (upd H6 T2 (.tup [.int (if bb = true then 1 else 0), .int (s : Nat)])) := s5.trans (s6.trans s7)
              refine q _ D _ _ ((s04.trans s47).mut nDH) ?_ b1 (.inr ⟨b2, rfl⟩)
              rw [grw_upd nDH, ← eb]
              have := GrD.set (D := D) (i := k) (v := .ref T2) (d := dTi ⟨bb, (ti ts k).one, (ti ts k).two, s⟩) hGD (grw_mono s47) (.tup (SqT.of (wo_get (by rw [grw_fresh nT]; exact upd_same) hTD)) (dpInts [_, _]))
              rw [← List.map_set] at this
              exact this.dp
            refine w_new fun T2 nT2 => ?_
            rw [dec_tt]
            have hf := fin (decide (hdW row = tL "push")) T2 rfl nT2
            have s7 := same_upd (o := .tup [.int (if decide (hdW row = tL "push") = true then 1 else 0), .int (s : Nat)]) nT2
            have lD7 := s7 _ _ lD6
            have l37s := s7.seq l36s
            show gSub _ _ _ _ _ (upd H6 T2 (.tup [.int (if decide (hdW row = tL "push") = true then 1 else 0), .int (s : Nat)])) _
            generalize upd H6 T2 (.tup [.int (if decide (hdW row = tL "push") = true then 1 else 0), .int (s : Nat)]) = H7 at hf lD7 l37s ⊢
            have hkd : k < dv.length := by omega
            have hix : ixN dv.length (k : Int) = some k := ixN_nat hkd
            walk_at "sts"
            exact hf
          · walk_at "sts"
            exact ⟨rfl, s6, fun ⟨_, k', s', e, _, z2⟩ => c4 (by
              cases e
              show ((s : Nat) : Int) ≤ 10 ^ 30
              omega)⟩
        · walk_at "sts"
          exact ⟨rfl, s6, fun ⟨_, k', s', e, z1, _⟩ => c3 (by cases e; omega)⟩
      · walk_at "sts"
        exact ⟨rfl, s6, fun ⟨_, k', s', e, _⟩ => c2 (by rw [e]; rfl)⟩
    · walk_at "sts"
      exact ⟨rfl, s6, fun z => c1 z.1⟩
  rintro σ' H6 ⟨rfl, s6, k2⟩
  have l16s := s6.seq l15s
  have l36s := s6.seq l35s
  have lD6 := s6 _ _ lD5
  walk_at "sts"
  rw [dec_lit]
  refine ifd (fun c1 => ?_) (fun c1 => ?_)
  · walk_at "sts"
    rw [iv_len]
    refine ifd (fun c2 => ?_) (fun c2 => ?_)
    · obtain ⟨pl, hpl⟩ : ∃ p, ns = [p] := by
        match ns, (show ns.length = 1 by omega) with
        | [k], _ => exact ⟨k, rfl⟩
      subst hpl
      have a0 : atI (iv [pl]) 0 = some (.int (pl : Nat)) := atI_nat (j := 0) rfl
      have hu6 := (s04.trans (s5.trans s6)).seq hu
      have hA6 := same_read (s04.trans (s5.trans s6)) hA
      walk_at "sts"
      rw [hul]
      refine ifd (fun c3 => ?_) (fun c3 => ?_)
      · obtain ⟨b1, b2⟩ := deed_flip2 (ts := ts) (n := Tu.length) (hs := hs) hns c1 (by omega)
        walk_at "sts"
        have s06 := s04.trans (s5.trans s6)
        have lD6s := SqL.of (K := K) lD6
        have hp3n : p3 ≠ D := ne_new l3 nD
        refine for_r0 (n := ts.length) (by rw [hdvl]) (fun i σ H' => ∃ (y6 : Option V) (vs : List V), σ = [some (.ref b), some (.ref kl), some (.str (tS row)), some (.ref p1), some (.ref p3), some (.ref D), y6] ∧ Same H H' ∧ SqL K H' p3 (iv [pl]) ∧ H' D = some (.lst vs) ∧ DpAll K (wo (grw G H H') D) vs ((flipT (ts.take i) pl ++ ts.drop i).map dTi)) ?_ ?_ ?_
        · refine ⟨_, dv, rfl, s06, l36s, lD6, ?_⟩
          have := hGD.same (wo_mono (grw_mono (G := G) (H := H) (s5.trans s6)))
          simpa [flipT] using this
        · rintro i σ H2 hi ⟨y8, vs, rfl, s2, l3s, lv, hv⟩
          have hvl : vs.length = ts.length := by
            have := dpaLen hv
            rw [List.length_map, List.length_append, List.length_drop] at this
            unfold flipT at this
            rw [List.length_map, List.length_take] at this
            omega
          obtain ⟨m1, m2⟩ := flip_mix (pl := pl) hi rfl
          have hA2 := same_read s2 hA
          have he2 := s2.seq he
          obtain ⟨p0, b3, b4⟩ := dpEndsAt hEs (show i < (endsOf ts).length by rw [endsOf_len]; exact hi)
          rw [en_ti hi] at b4
          have b5 := same_read s2 b4
          obtain ⟨v, v1, v2⟩ := dpaGet (i := i) (d := dTi (ti ts i)) hv (by rw [List.getElem?_map, m2]; rfl)
          obtain ⟨pt, ys, rfl, v3, v4⟩ := dpTup v2
          have v5 := dpAll_ints v4
          rw [v5] at v3
          have v6 := same_read (wo_same.trans (grw_in sG s2)) v3
          generalize ti ts i = t at b5 v6 m1 m2
          have lvs := SqL.of (K := K) lv
          walk_at "sts"
          refine w_inT2 (r := [t.one, t.two]) b5 ?_
          rw [show decide (pl ∈ [t.one, t.two]) = decide (t.one = pl ∨ t.two = pl) by simp [eq_comm]]
          walk_at "sts"
          refine ifd (fun hc => ?_) (fun hc => ?_)
          · rw [if_pos hc] at m1
            walk_at "sts"
            refine w_new fun T2 n2 => ?_
            have s3 := same_upd (o := .tup [.int (1 - (if t.push = true then 1 else 0 : Int)), .int (t.s : Nat)]) n2
            have l3 : upd H2 T2 (.tup [.int (1 - (if t.push = true then 1 else 0 : Int)), .int (t.s : Nat)]) T2 = some (.tup [.int (1 - (if t.push = true then 1 else 0 : Int)), .int (t.s : Nat)]) := upd_same
            generalize upd H2 T2 (.tup [.int (1 - (if t.push = true then 1 else 0 : Int)), .int (t.s : Nat)]) = H3 at s3 l3 ⊢
            have lv3 := s3 _ _ lv
            have l3s3 := s3.seq l3s
            have nT : New H T2 := n2.of s2
            have hTD : T2 ≠ D := Ne.symm (ne_new lv n2)
            have hiv : i < vs.length := by omega
            have ev : (1 - (if t.push = true then 1 else 0 : Int)) = (if (turnK t).push = true then 1 else 0 : Int) := by
              unfold turnK
              cases t.push <;> rfl
            have l3D : SqL K (upd H3 D (.lst (vs.set i (.ref T2)))) p3 (iv [pl]) := by
              rcases l3s3 with (h | ⟨o, h⟩) | h
              · exact .inl (.inl (by rw [upd_ne hp3n]; exact h))
              · exact .inl (.inr ⟨o, by rw [upd_ne hp3n]; exact h⟩)
              · exact .inr h
            walk_at "sts"
            refine ⟨_, vs.set i (.ref T2), rfl, (s2.trans s3).mut nDH, l3D, upd_same, ?_⟩
            rw [grw_upd nDH, wo_eq, ← m1, List.map_set]
            refine dpaSetG (hv.same (wo_mono (grw_mono s3))) (.tup (SqT.of (wo_get (by rw [grw_fresh nT]; exact l3) hTD)) ?_) i
            rw [ev]
            exact dpInts [_, _]
          · rw [if_neg hc] at m1
            walk_at "sts"
            refine ⟨_, vs, rfl, s2, l3s, lv, ?_⟩
            have m3 : (flipT (ts.take i) pl ++ ts.drop i).set i t = flipT (ts.take i) pl ++ ts.drop i := by
              refine List.ext_getElem? fun j => ?_
              rw [List.getElem?_set]
              split
              · rename_i e
                subst e
                split
                · exact m2.symm
                · rename_i hn
                  rw [List.getElem?_eq_none (by omega)]
              · rfl
            rw [← m1, m3]
            exact hv
        rintro σ H2 ⟨y8, vs, rfl, s2, l3s, lv, hv⟩
        rw [List.take_length, List.drop_length, List.append_nil] at hv
        walk_at "sts"
        refine q H2 D _ _ s2 ?_ b1 (.inr ⟨b2, rfl⟩)
        have hgd : grw G H H2 D = some (.lst vs) := by rw [grw_fresh nDH]; exact lv
        exact .lst (SqL.of hgd) (hv.same wo_same)
      · walk_at "sts"
        exact qn (deed_none hns k1 k2 fun ⟨_, p, e, z⟩ => c3 (by cases e; omega)) _ (s04.trans (s5.trans s6))
    · walk_at "sts"
      exact qn (deed_none hns k1 k2 fun ⟨_, p, e, z⟩ => c2 (by rw [e]; rfl)) _ (s04.trans (s5.trans s6))
  · walk_at "sts"
    exact qn (deed_none hns k1 k2 fun z => c1 z.1) _ (s04.trans (s5.trans s6))
end

open TL
theorem cutS_init (xs : List Nat) (v : Nat) : cutS (tS (xs ++ [v])) none (some (-1)) = tS xs := by
  have e : HT.sIx (xs ++ [v]).length (xs ++ [v]).length (some (-1)) = xs.length := by
    rw [List.length_append, List.length_singleton]
    unfold HT.sIx
    simp
    omega
  have e0 : HT.sIx (xs ++ [v]).length 0 none = 0 := rfl
  unfold cutS
  rw [tS_len, e, e0, List.drop_zero, Nat.sub_zero]
  unfold tS
  simp
theorem cut_web (ts : List Ti) (T : Turns) : cutS (tS (webText ts T)) none (some (-1)) = tS (joinL [10] (webRows ts T)) := by
  have h : webText ts T = joinL [10] (webRows ts T) ++ [10] := by unfold webText; rw [endL_join2 (show webRows ts T ≠ [] by unfold webRows; simp)]
  rw [h, cutS_init]
theorem w_slS {H : Hp} {Q : VK} {z : Str} {lo hi : Option Int} (hz : z.length ≤ sizeLine) (h : Q (.str (cutS z lo hi)) H) : rSlS (.str z) lo hi H Q := ⟨z, rfl, hz, h⟩

open TL
/-- the text with one row more -/
theorem readL_more {ts : List Ti} {T : Turns} (h : TextOk ts T) {x : List Nat} : readL (webRows ts T ++ [x, []]) = .inl (1 + ts.length + T.length + 1) := by
  have h2 := h.two
  have hl : (webRows ts T ++ [x, []]).length = 3 + ts.length + T.length := by rw [List.length_append, webRows_len]; show _ + 2 = _; omega
  have h0 : (webRows ts T ++ [x, []]).getD 0 [] = headRow T.length := rfl
  have ht := tiesW_rows (webRows ts T ++ [x, []]) ((List.range T.length).map (aboutRow T) ++ [x, []]) (by
      obtain ⟨n, hn⟩ : ∃ n, T.length = n + 1 := ⟨T.length - 1, by omega⟩
      rw [hn, List.range_succ_eq_map]; exact aboutRow_not T 0) (by rw [List.length_append, List.length_map, List.length_range]; omega) ts 1 (webRows ts T ++ [x, []]).length [] (webRows_drop ts T [x, []]) (by omega) (by rw [List.length_nil, Nat.zero_add]; exact h.ties) fun t ht => ⟨(h.ends t ht).1, (h.ends t ht).2, h.str t ht⟩
  have hu := turnsW_rows (webRows ts T ++ [x, []]) T h.turns T.length 0 (1 + ts.length) [] (by have := h.most; omega) (fun i hi => webRows_about [x, []] hi) (by omega)
  unfold readL
  rw [if_neg (by omega), h0, placesM_row h2 h.most]
  show (match tiesW (webRows ts T ++ [x, []]) (webRows ts T ++ [x, []]).length 1 [] with
    | .inl a => Sum.inl a
    | .inr (k, told) => match turnsW (webRows ts T ++ [x, []]) T.length 0 k [] with
      | .inl a => .inl a
      | .inr (k2, T') => if k2 + 1 = (webRows ts T ++ [x, []]).length ∧ (webRows ts T ++ [x, []]).getD k2 [] = [] then .inr (T.length, told, T') else .inl (k2 + 1)) = _
  rw [ht]
  show (match turnsW (webRows ts T ++ [x, []]) T.length 0 (1 + ts.length) [] with
      | .inl a => Sum.inl a
      | .inr (k2, T') => if k2 + 1 = (webRows ts T ++ [x, []]).length ∧ (webRows ts T ++ [x, []]).getD k2 [] = [] then .inr (T.length, [] ++ ts.map tR, T') else .inl (k2 + 1)) = _
  rw [hu]
  show (if 1 + ts.length + T.length + 1 = (webRows ts T ++ [x, []]).length ∧ _ then Sum.inr (T.length, [] ++ ts.map tR, [] ++ (List.range T.length).map fun i => row T (0 + i)) else .inl (1 + ts.length + T.length + 1)) = _
  rw [if_neg (fun z => by omega)]
theorem readW_more {ts : List Ti} {T : Turns} (h : TextOk ts T) : readW (webText ts T ++ tL "back\n") = .inl (1 + ts.length + T.length + 1) := by
  have e : webText ts T ++ tL "back\n" = endL (webRows ts T ++ [tL "back"]) := by
    unfold webText
    rw [endL_snoc, List.append_assoc]
    congr 1
  unfold readW
  rw [e, endL_split (fun r hr => by
    rcases List.mem_append.mp hr with z | z
    · exact webRows_free r z
    · rw [List.mem_singleton.mp z]; decide), List.append_assoc]
  exact readL_more h
def twT : List Nat := tL "places 2\npull 0 1 1\npull 0 1 1\npull 0 1 1\nabout 0 0 1 2\nabout 1 0 1 2\n"
def twTold : List Trow := [(tL "pull", 0, 1, 1), (tL "pull", 0, 1, 1), (tL "pull", 0, 1, 1)]
theorem twRead : readW twT = .inr (2, twTold, [[0, 1, 2], [0, 1, 2]]) := by kernel_rfl
theorem twEnds : endsOf (twTold.map tiR) = [(0, 1), (0, 1), (0, 1)] := by decide
theorem twOk : TwistP twTold 2 [[0, 1, 2], [0, 1, 2]] := by
  have hE := twEnds
  refine ⟨by decide, by decide, by decide, fun i hi => ?_, rfl, ?_, ?_, [[0, 3, 4, 1, 2, 5]], ?_, by decide⟩
  · have hi : i < 3 := hi
    rcases (by omega : i = 0 ∨ i = 1 ∨ i = 2) with rfl | rfl | rfl <;> decide
  · rw [hE]
    refine ⟨fun i hi => ?_, fun p hp => ?_, fun p hp i => ?_⟩
    · have hi : i < 3 := hi
      rcases (by omega : i = 0 ∨ i = 1 ∨ i = 2) with rfl | rfl | rfl <;> decide
    · have hp : p < 2 := hp
      rcases (by omega : p = 0 ∨ p = 1) with rfl | rfl <;> decide
    · have hp : p < 2 := hp
      have hr : row [[0, 1, 2], [0, 1, 2]] p = [0, 1, 2] := by
        rcases (by omega : p = 0 ∨ p = 1) with rfl | rfl <;> rfl
      rw [hr]
      constructor
      · intro z
        have hi : i = 0 ∨ i = 1 ∨ i = 2 := by simpa using z
        refine ⟨by show i < 3; omega, ?_⟩
        have e : en [(0, 1), (0, 1), (0, 1)] i = (0, 1) := by rcases hi with rfl | rfl | rfl <;> rfl
        rw [e]
        show 0 = p ∨ 1 = p
        omega
      · rintro ⟨z, _⟩
        have z : i < 3 := z
        have : i = 0 ∨ i = 1 ∨ i = 2 := by omega
        simpa using this
  · rw [hE]
    intro S hS p q hp hq
    have h01 : S 0 = S 1 := hS 0 (by decide)
    rcases (by omega : p = 0 ∨ p = 1) with rfl | rfl <;> rcases (by omega : q = 0 ∨ q = 1) with rfl | rfl
    · rfl
    · exact h01
    · exact h01.symm
    · rfl
  · rw [hE]
    refine ⟨by decide, fun r hr => ?_⟩
    rw [List.mem_singleton.mp hr]
    exact ⟨0, [3, 4, 1, 2, 5], rfl, by decide, by decide, by decide, by decide, by decide, by show fol [(0, 1), (0, 1), (0, 1)] [[0, 1, 2], [0, 1, 2]] 5 = 0; decide⟩

theorem rgcPosN {i j c : Int} (hc : 0 < c) (hc2 : c < 1000000) (hi : 0 ≤ i) (hi2 : i < 1000000) (hj : -1000000 < j) (hj2 : j < 1000000) : ∃ n : Nat, RgC i j c n ∧ n ≤ 1000000 ∧ ∀ t : Nat, t < n ↔ i + t * c < j := by
  obtain ⟨r, hr⟩ : ∃ r, Builtin.Range.rangeSize i j c = r := ⟨_, rfl⟩
  have h1 : r = if i < j then (j - i - 1) / c + 1 else 0 := by
    rw [← hr]
    unfold Builtin.Range.rangeSize
    rw [if_pos hc]
  have h2 : 0 ≤ r ∧ r ≤ 1000000 := by
    rw [h1]
    split
    · have a := Int.ediv_nonneg (show 0 ≤ j - i - 1 by omega) (show 0 ≤ c by omega)
      have b := Int.ediv_le_self c (show 0 ≤ j - i - 1 by omega)
      omega
    · omega
  refine ⟨r.toNat, ⟨by omega, by omega, ?_, by rw [hr]; omega⟩, by omega, fun t => ?_⟩
  · unfold Builtin.Range.small
    rw [hr]
    simp only [Builtin.Range.rangeFitsLong, Bool.and_eq_true, Bool.or_eq_true, decide_eq_true_eq, beq_iff_eq, if_pos hc]
    refine ⟨⟨⟨⟨⟨?_, ?_⟩, ⟨?_, ?_⟩⟩, ⟨?_, ?_⟩⟩, ⟨?_, ?_⟩⟩, .inr ⟨?_, ?_⟩⟩ <;> omega
  · by_cases h : i < j
    · rw [if_pos h] at h1
      have e : (t : Int) ≤ (j - i - 1) / c ↔ (t : Int) * c ≤ j - i - 1 := Int.le_ediv_iff_mul_le hc
      generalize (t : Int) * c = tc at e ⊢
      omega
    · rw [if_neg h] at h1
      have : 0 ≤ (t : Int) * c := Int.mul_nonneg (by omega) (by omega)
      omega

open TL
section
variable {P : Program} {w : World} {K : PySem.W.Frag} {mg : Str → Option Value} {base : Heap} {C_Pull C_Push C_Web C_Desk C_BadTie C_BadTurns C_Parted C_NotFlat C_BadText C_BadDeed C_FloorError : Addr}
theorem ints_cut {ns : List Int} {k : Nat} (h : k + 3 ≤ ns.length) : ∃ x y z : Int, cutV (ns.map V.int) (some (k : Int)) (some ((k : Int) + 3)) = [V.int x, V.int y, V.int z] := by
  obtain ⟨x, y, z, e, e1, e2, e3⟩ := cut3 (xs := ns.map V.int) (k := k) (by rw [List.length_map]; exact h)
  rw [List.getElem?_map, List.getElem?_eq_getElem (by omega)] at e1 e2 e3
  injection e1 with e1
  injection e2 with e2
  injection e3 with e3
  exact ⟨_, _, _, by rw [e, ← e1, ← e2, ← e3]⟩
theorem ok_law {f : Addr} {fd : FuncData} (F : Fun K "law" "law" s_law f fd) (B : Bl mg) {C_Pull C_Push C_Web C_Desk C_BadTie C_BadTurns C_Parted C_NotFlat C_BadText C_BadDeed C_FloorError : Addr} (T : Txt K mg C_Pull C_Push C_Web C_Desk C_BadTie C_BadTurns C_Parted C_NotFlat C_BadText C_BadDeed C_FloorError) (h_law_built : Has P w K mg base CX0 5 "_law_built" ["script", "first", "most"] (spBuilt K)) (h_law_web_text : Has P w K mg base CX0 1 "_law_web_text" ["built"] (spWebText K)) (h_law_no_desk : Has P w K mg base CX0 10 "_law_no_desk" ["text"] (spNoDesk K)) (h_law_deed_row : Has P w K mg base CX0 2 "_law_deed_row" ["cells"] (spDeedRow K)) (h_law_due : Has P w K mg base CX0 2 "_law_due" ["built", "kept", "row"] (spDue64 K)) (h_law_refused : Has P w K mg base CX0 9 "_law_refused" ["desk", "row"] (spRefused64 K C_Pull C_Push C_Web C_Desk)) (h_mk_Desk : HasMk P w K mg base (L2.CX P w) 8 "Desk" C_Desk ["self", "text"] (spDeskIX K C_Pull C_Push C_Web C_Desk C_BadText C_BadTie C_BadTurns C_Parted C_NotFlat)) (h_Desk_text : HasMeth P w K mg base CX0 3 C_Desk "text" ["self"] (spDText K C_Pull C_Push C_Web C_Desk)) (h_Desk_left : HasMeth P w K mg base CX0 1 C_Desk "left" ["self"] (spLeft K C_Pull C_Push C_Web C_Desk)) : FnOk P w K mg base CX0 11 f fd ["script"] (spLaw K) := by
  refine F.ok sc_law (by walk_at "len") (fun cdv A outer s H vs Q E hr h => ?_)
  obtain ⟨a, ns, rfl, hS, hlen, _, q⟩ := h
  have hS0 := hS.sq
  refine ⟨_, (pss_cons (ps_set (i := 1) sc_law.nd rfl (.inl rfl) (pe_fn h_law_built (hr.mono (by decide)) (by rfl) (pa_cons (pe_slice (sl_listK K) (pv 0) po_none (po_some pe_int)) (pa_cons pe_int (pa_cons pe_int pa_nil)))))
 (pss_cons (ps_set (i := 2) sc_law.nd rfl (.inl rfl) (pe_fn h_law_web_text (hr.mono (by decide)) (by rfl) (pa_cons (pv 1) pa_nil)))
 (pss_cons (ps_set (i := 3) sc_law.nd rfl (.inl rfl) (pe_op op_add (pe_op op_add pe_int (pe_callB (call_lenK K) (by rfl) B.len (by decide +kernel) (pa_cons (pe_ix (ix_tupK K) (pv 1) pe_int (fun _ _ => rfl)) pa_nil))) (pe_callB (call_lenK K) (by rfl) B.len (by decide +kernel) (pa_cons (pe_ix (ix_tupK K) (pv 1) pe_int (fun _ _ => rfl)) pa_nil))))
 (pss_cons (ps_if (PW.pt (pw_or (pt_cmpR op_ne (pe_fn h_law_no_desk (hr.mono (by decide)) (by rfl) (pa_cons (pe_slice sl_str (pv 2) po_none (po_some (pe_un un_neg pe_int))) pa_nil)) (pv 3) (nomark _)) (pw_or1 (pt_cmpR op_ne (pe_fn h_law_no_desk (hr.mono (by decide)) (by rfl) (pa_cons (pe_op op_add_str (pv 2) pe_str) pa_nil)) (pe_op op_add (pv 3) pe_int) (nomark _))))) (pss_one (ps_ret pe_bl)) pss_nil)
 (pss_cons (ps_set (i := 4) sc_law.nd rfl (.inl rfl) pe_str)
 (pss_cons (ps_if (pt_cmpR op_ne (pe_fn h_law_no_desk (hr.mono (by decide)) (by rfl) (pa_cons (pv 4) pa_nil)) (pe_un un_neg pe_int) (nomark _)) (pss_one (ps_ret pe_bl)) pss_nil)
 (pss_cons (ps_set (i := 5) sc_law.nd rfl (.inl rfl) (pe_mkL h_mk_Desk (hr.mono (by decide)) (by rfl) (pa_cons (pv 2) pa_nil)))
 (pss_cons (ps_set (i := 6) sc_law.nd rfl (.inl rfl) (pe_lst pa_nil))
 (pss_cons (ps_for PassesOwn.never rfl (pi_range3 (by rfl) B.range (pa_cons pe_int (pa_cons (pe_callB (call_min2 rfl) (by rfl) B.min (by decide +kernel) (pa_cons (pe_op op_sub (pe_callB (call_lenK K) (by rfl) B.len (by decide +kernel) (pa_cons (pv 0) pa_nil)) pe_int) (pa_cons pe_int pa_nil))) (pa_cons pe_int pa_nil)))) (pg_name (i := 7) sc_law.nd rfl (.inl rfl)) (pss_cons (ps_set (i := 8) sc_law.nd rfl (.inl rfl) (pe_fn h_law_deed_row (hr.mono (by decide)) (by rfl) (pa_cons (pe_slice (sl_listK K) (pv 0) (po_some (pv 7)) (po_some (pe_op op_add (pv 7) pe_int))) pa_nil)))
 (pss_cutX (ps_set (i := 9) sc_law.nd rfl (.inl rfl) (pe_fn h_law_due (hr.mono (by decide)) (by rfl) (pa_cons (pv 1) (pa_cons (pv 6) (pa_cons (pv 8) pa_nil)))))
 (pss_cutX (ps_if (pt_cmpR op_ne (PE.frm (pe_fn h_law_refused (hr.mono (by decide)) (by rfl) (pa_cons (pv 5) (pa_cons (pv 8) pa_nil)))) (pe_cmpR op_isN (pv 9) pe_non (nomark _)) (nomark _)) (pss_one (ps_ret pe_bl)) pss_nil)
 (pss_cutX (ps_if (pt_cmpR op_notN (pv 9) pe_non (nomark _)) (pss_cons (ps_if (pt_cmpR op_eq (pv 8) pe_str (nomark _)) (pss_one (ps_expr (pe_bm0K K (pe_bm0 PySem.F.plainAttrs_list PySem.F.slot_list_pop PySem.F.type_list_pop mt_pop (pv 6))))) (pss_one (ps_expr (pe_bmK K (pe_bm PySem.F.plainAttrs_list PySem.F.slot_list_append PySem.F.type_list_append mt_append (pv 6) (pa_cons (pe_ix (ix_tupK K) (pv 1) pe_int (fun _ _ => rfl)) pa_nil))))))
 (pss_one (ps_set (i := 1) sc_law.nd rfl (.inl rfl) (pe_tup (pa_cons (pe_ix (ix_tupK K) (pv 1) pe_int (fun _ _ => rfl)) (pa_cons (pe_ix (ix_tupK K) (pv 1) pe_int (fun _ _ => rfl)) (pa_cons (pv 9) pa_nil))))))) pss_nil)
 (pss_one (ps_if (PW.pt (pw_or (pt_cmpR op_ne (pe_mt0 h_Desk_text (pv 5) (hr.mono (by decide))) (pe_fn h_law_web_text (hr.mono (by decide)) (by rfl) (pa_cons (pv 1) pa_nil)) (nomark _)) (pw_or1 (pt_cmpR op_ne (pe_mt0 h_Desk_left (pv 5) (hr.mono (by decide))) (pe_callB (call_lenK K) (by rfl) B.len (by decide +kernel) (pa_cons (pv 6) pa_nil)) (nomark _))))) (pss_one (ps_ret pe_bl)) pss_nil)))))))
 (pss_one (ps_ret (pe_and (pe_fn h_law_refused (hr.mono (by decide)) (by rfl) (pa_cons (pv 5) (pa_cons pe_str pa_nil))) (pe_one (pe_cmpR op_eq (pe_mt0 h_Desk_text (pv 5) (hr.mono (by decide))) (pe_fn h_law_web_text (hr.mono (by decide)) (by rfl) (pa_cons (pv 1) pa_nil)) (nomark _))))))))))))))), ?_⟩
  walk_at "sts"
  refine w_new fun p0 n0 => ?_
  have e0 : cutV (ns.map V.int) none (some (13 : Int)) = (ns.take 13).map V.int := by rw [show (13 : Int) = ((13 : Nat) : Int) from rfl, cutV_to, List.map_take]
  rw [e0]
  have s0 := same_upd (o := .lst ((ns.take 13).map V.int)) n0
  have l0 : upd H p0 (.lst ((ns.take 13).map V.int)) p0 = some (.lst ((ns.take 13).map V.int)) := upd_same
  generalize upd H p0 (.lst ((ns.take 13).map V.int)) = H0 at s0 l0 ⊢
  walk_at "sts"
  refine ⟨p0, ns.take 13, 1, 6, rfl, SqL.of l0, by omega, by omega, by omega, fun b0 H1 ts0 Tu s1 n1 hB hBt => ?_⟩
  have hle := hBt.le
  have htl := hBt.tl
  have htp := hBt.tp
  have hpos := hBt.pos
  have htx := hBt.text (by omega)
  have hrl := hBt.rowle (by omega)
  have hlenT := webText_len htx hrl
  have hl0 := hBt.like
  have hF := hBt.flat
  have hread : ∀ u, Like (endsOf ts0) u → readW (webText u Tu) = .inr (Tu.length, u.map tR, Tu) := fun u hu => readW_ok (hu.text htx)
  walk_at "sts"
  refine ⟨b0, ts0, Tu, rfl, hB, htx, hrl, fun H2 s2 => ?_⟩
  obtain ⟨be, bt, bd, g1, g2, g3, g4⟩ := id (hB.same s2)
  obtain ⟨es, he', hEs'⟩ := dpLstA g2
  obtain ⟨us, hu', hus'⟩ := dpLstA g3
  have hel : es.length = ts0.length := by have := dpaLen hEs'; rw [List.length_map, endsOf_len] at this; exact this
  have hul : us.length = Tu.length := by have := dpaLen hus'; simpa using this
  walk_at "sts"
  rw [hel, hul]
  refine w_slS (by rw [tS_len, sizeLine_eq]; omega) ?_
  rw [cut_web]
  have hcutl : (joinL [10] (webRows ts0 Tu)).length ≤ 90000 := by
    have e : webText ts0 Tu = joinL [10] (webRows ts0 Tu) ++ [10] := by unfold webText; rw [endL_join2 (show webRows ts0 Tu ≠ [] by unfold webRows; simp)]
    rw [e, List.length_append] at hlenT
    omega
  refine ⟨_, rfl, hcutl, .inl ⟨_, readW_cut htx, fun H3 s3 => ?_⟩⟩
  walk_at "sts"
  rw [tL_lit "back\n"]
  have hbk : (tL "back\n").length = 5 := by decide
  have hsz : (webText ts0 Tu).length + (tL "back\n").length ≤ sizeLine := by rw [hbk, sizeLine_eq]; omega
  refine w_2s ⟨by rw [tS_len, tS_len]; exact hsz, ?_⟩
  rw [tS_app]
  walk_at "sts"
  refine ⟨_, rfl, by rw [List.length_append, hbk]; omega, .inl ⟨_, readW_more htx, fun H4 s4 => ?_⟩⟩
  walk_at "sts"
  rw [tL_lit "places 2\npull 0 1 1\npull 0 1 1\npull 0 1 1\nabout 0 0 1 2\nabout 1 0 1 2\n"]
  refine ⟨twT, rfl, by decide, .inr ⟨_, _, _, twRead, twOk, fun H5 s5 => ?_⟩⟩
  walk_at "sts"
  have sA := s3.trans (s4.trans s5)
  have hBA := (hB.same s2).same sA
  have s15 := s1.trans (s2.trans sA)
  have hS5 := (s0.trans s15).seq hS0
  intro p dx np nd hpd
  refine spDeskI.toX (desk_make np nd hpd (hread ts0 hl0) hF (by omega) (by omega) (by omega) fun fl H6 s6 nfl hD6 => ?_)
  obtain ⟨dxd, w6, ws6, hp6, hfl6, hwl6, _, _⟩ := id hD6.ex
  have hfp : fl ≠ p := fun z => by subst z; rw [hp6] at hfl6; cases hfl6
  walk_at "sts"
  refine w_new fun kl nkl => ?_
  have s7 := same_upd (o := .lst []) nkl
  have hDk : DeskAt K C_Pull C_Push C_Web C_Desk (wo (upd H6 kl (.lst [])) kl) p fl Tu ts0 [] := by
    rw [wo_eq, wo_self nkl]
    exact hD6
  have nGk : New H5 kl := (show New H6 kl from nkl).of s6
  have lk7 : upd H6 kl (.lst []) kl = some (.lst []) := upd_same
  have sG7 := s6.trans s7
  have hS7 := sG7.seq hS5
  generalize upd H6 kl (.lst []) = H7 at s7 hDk lk7 sG7 hS7 ⊢
  walk_at "sts"
  rw [List.length_map]
  obtain ⟨J, hJ, hJ0, hJ1⟩ : ∃ J : Int, (if (133 : Int) < ((ns.length : Nat) : Int) - 2 then (133 : Int) else ((ns.length : Nat) : Int) - 2) = J ∧ -2 ≤ J ∧ J ≤ (ns.length : Int) - 2 := by
    refine ⟨_, rfl, ?_⟩
    split <;> omega
  rw [hJ]
  clear hJ
  obtain ⟨m, hr, hm, hmt⟩ := rgcPosN (i := 13) (j := J) (c := 3) (by omega) (by omega) (by omega) (by omega) (by omega) (by omega)
  refine ⟨_, _, _, _, rfl, hr, ?_⟩
  refine for_rangeC (fun i σ H' => ∃ (G : Hp) (ts : List Ti) (hs : List (List Ti)) (ds : List Addr) (b : Addr) (y7 y8 y9 : Option V), σ = [some (.ref a), some (.ref b), some (.str (tS (webText ts0 Tu))), some (.int (1 + ts0.length + Tu.length : Nat)), some (.str (tS twT)), some (.ref p), some (.ref kl), y7, y8, y9] ∧ Same H5 G ∧ Same G H' ∧ New G p ∧ New G fl ∧ New G kl ∧
    DeskAt K C_Pull C_Push C_Web C_Desk (wo H' kl) p fl Tu ts hs ∧ BuiltAt K G b ts Tu ∧ H' kl = some (.lst (ds.map V.ref)) ∧ ds.length = hs.length ∧ (∀ (i : Nat) (q : Addr) (t : List Ti), ds[i]? = some q → hs[i]? = some t → Dp K G (.ref q) (dTold t)) ∧ Like (endsOf ts0) ts ∧ (∀ t ∈ hs, Like (endsOf ts0) t) ∧ hs.length ≤ i) ?_ ?_ ?_
  · exact ⟨H5, ts0, [], [], b0, _, _, _, rfl, Same.refl _, sG7, np, nfl, nGk, hDk, hBA, lk7, rfl, fun i q t e1 _ => by simp at e1, hl0, fun t ht => absurd ht List.not_mem_nil, Nat.le_refl _⟩
  · rintro i σ H8 hi ⟨G, ts, hs, ds, b, y7, y8, y9, rfl, sg1, sg2, ng1, ng2, ng3, hD8, hB8, lk8, hdl, hdk, hlk, hlks, hhi⟩
    have s58 := sg1.trans sg2
    have hlt := (hmt i).mp hi
    obtain ⟨k, hk⟩ : ∃ k : Nat, (13 : Int) + (i : Int) * 3 = (k : Nat) := ⟨13 + i * 3, by omega⟩
    rw [hk] at hlt ⊢
    obtain ⟨x, y, z, hcut⟩ := ints_cut (ns := ns) (k := k) (by omega)
    have hS8 := s58.seq hS5
    have hlen8 := endsOf_eq_len hlk.1
    walk_at "sts"
    refine w_new fun c nc => ?_
    rw [hcut]
    have s9 := same_upd (o := .lst [V.int x, V.int y, V.int z]) nc
    have lc9 : upd H8 c (.lst [V.int x, V.int y, V.int z]) c = some (.lst [V.int x, V.int y, V.int z]) := upd_same
    generalize upd H8 c (.lst [V.int x, V.int y, V.int z]) = H9 at s9 lc9 ⊢
    walk_at "sts"
    refine ⟨c, x, y, z, rfl, SqL.of lc9, fun row H10 hrow s10 => ?_⟩
    have s810 := s9.trans s10
    have hD10 := hD8.same (wo_mono s810)
    have lk10 := s810 _ _ lk8
    have sg10 := sg2.trans s810
    walk_at "sts"
    try dsimp only
    refine w_cut (fun σ' H' => ∃ (dv : V) (u : List Ti) (hs' : List (List Ti)) (G' : Hp), σ' = [some (.ref a), some (.ref b), some (.str (tS (webText ts0 Tu))), some (.int (1 + ts0.length + Tu.length : Nat)), some (.str (tS twT)), some (.ref p), some (.ref kl), some (.int (k : Nat)), some (.str (tS row)), some dv] ∧ Same G G' ∧ Same G' H' ∧ New G' p ∧ New G' fl ∧ New G' kl ∧ Same H10 H' ∧
      ((dv = .non ∧ deedM ts Tu.length hs row = none ∧ u = ts ∧ hs' = hs) ∨ (∃ d, dv = .ref d ∧ Dp K G' (.ref d) (dTold u) ∧ deedM ts Tu.length hs row = some (u, hs') ∧ DueC ds hs hs' ts row d))) ?_ ?_
    · walk_at "sts"
      refine ⟨b, kl, row, G, ts, Tu, hs, ds, rfl, sg10, hB8, by omega, by omega, by omega, by omega, lk10, hdl, hdk, hrow, fun hn H' s' => ?_, fun H' d u hs' s' hd he hc => ?_⟩
      · walk_at "sts"
        exact ⟨_, ts, hs, G, rfl, Same.refl _, sg10.trans s', ng1, ng2, ng3, s', .inl ⟨rfl, hn, rfl, rfl⟩⟩
      · obtain ⟨dxe, w8, ws8, hp8, hf8, _, _, _⟩ := id hD10.ex
        walk_at "sts"
        exact ⟨_, u, hs', grw G H10 H', rfl, grw_sub sg10, grw_in sg10 s', grw_free (wo_same _ _ hp8) ng1, grw_free (wo_same _ _ hf8) ng2, grw_free lk10 ng3, s', .inr ⟨d, rfl, hd, he, hc⟩⟩
    rintro σ' H11 ⟨dv, u, hs', G', rfl, sGG, sG11, nG1, nG2, nG3, s11, hcase⟩
    have hD11 := hD10.same (wo_mono s11)
    have lk11 := s11 _ _ lk10
    have hB11 := hB8.same sGG
    have hdk11 : ∀ (i : Nat) (q : Addr) (t : List Ti), ds[i]? = some q → hs[i]? = some t → Dp K G' (.ref q) (dTold t) := fun i q t e1 e2 => (hdk i q t e1 e2).same sGG
    obtain ⟨dxf, w11, ws11, hp11, hf11, _⟩ := id hD11.ex
    have hkf : kl ≠ fl := fun z => by subst z; rw [wo_new] at hf11; cases hf11
    have hkp : kl ≠ p := fun z => by subst z; rw [wo_new] at hp11; cases hp11
    have sg5 := sg1.trans sGG
    walk_at "sts"
    try dsimp only
    refine w_cut (fun σ' H' => σ' = [some (.ref a), some (.ref b), some (.str (tS (webText ts0 Tu))), some (.int (1 + ts0.length + Tu.length : Nat)), some (.str (tS twT)), some (.ref p), some (.ref kl), some (.int (k : Nat)), some (.str (tS row)), some dv] ∧ Same G' H' ∧ H' kl = some (.lst (ds.map V.ref)) ∧ DeskAt K C_Pull C_Push C_Web C_Desk (wo H' kl) p fl Tu u hs') ?_ ?_
    · walk_at "sts"
      refine .inr ⟨kl, _, lk11, ?_⟩
      walk_at "sts"
      refine ⟨p, fl, row, Tu, ts, hs, rfl, hD11, by omega, by omega, by omega, by omega, by omega, fun u2 hs2 h2 HA sA hDA => ?_, fun h2 HA sA => ?_⟩
      · intro hnk
        rcases hcase with ⟨_, hn, _⟩ | ⟨d, rfl, hd, he, hc⟩
        · rw [hn] at h2; cases h2
        rw [he] at h2
        cases h2
        have hGw : Same G' (wo (wo (wo H11 kl) p) fl) := same_wo2 (same_wo sG11 nG3) nG1 nG2
        have sGk : Same G' (upd HA kl (.lst (ds.map V.ref))) := (hGw.trans sA).mut nG3
        have lkk : upd HA kl (.lst (ds.map V.ref)) kl = some (.lst (ds.map V.ref)) := upd_same
        have hDk2 : DeskAt K C_Pull C_Push C_Web C_Desk (wo (upd HA kl (.lst (ds.map V.ref))) kl) p fl Tu u hs' := by
          rw [wo_eq, wo_self hnk]
          exact hDA
        generalize upd HA kl (.lst (ds.map V.ref)) = HB at sGk lkk hDk2 ⊢
        walk_at "sts"
        rw [show decide (V.ref d = V.non) = false from decide_eq_false (by simp)]
        walk_at "sts"
        exact ⟨rfl, sGk, lkk, hDk2⟩
      · intro hnk
        rcases hcase with ⟨rfl, hn, rfl, rfl⟩ | ⟨d, _, _, he, _⟩
        rotate_left
        · rw [he] at h2; cases h2
        have sGk : Same G' (upd HA kl (.lst (ds.map V.ref))) := ((same_wo sG11 nG3).trans sA).mut nG3
        have lkk : upd HA kl (.lst (ds.map V.ref)) kl = some (.lst (ds.map V.ref)) := upd_same
        have hDk2 : DeskAt K C_Pull C_Push C_Web C_Desk (wo (upd HA kl (.lst (ds.map V.ref))) kl) p fl Tu u hs' := by
          rw [wo_eq, wo_self hnk]
          exact hD11.same sA
        generalize upd HA kl (.lst (ds.map V.ref)) = HB at sGk lkk hDk2 ⊢
        walk_at "sts"
        rw [show decide (V.non = V.non) = true from decide_eq_true rfl]
        walk_at "sts"
        exact ⟨rfl, sGk, lkk, hDk2⟩
    rintro σ' H12 ⟨rfl, sG12, lk12, hD12⟩
    have hdsl : ds.length ≤ 63 := by omega
    obtain ⟨e, t, d0, g1, g2, g3, g4⟩ := id hB11
    have g1k := same_read sG12 g1
    walk_at "sts"
    try dsimp only
    refine w_cut (fun σ' HD => ∃ (GD : Hp) (b2 : Addr) (ds' : List Addr), σ' = [some (.ref a), some (.ref b2), some (.str (tS (webText ts0 Tu))), some (.int (1 + ts0.length + Tu.length : Nat)), some (.str (tS twT)), some (.ref p), some (.ref kl), some (.int (k : Nat)), some (.str (tS row)), some dv] ∧ Same H5 GD ∧ Same GD HD ∧ New GD p ∧ New GD fl ∧ New GD kl ∧ DeskAt K C_Pull C_Push C_Web C_Desk (wo HD kl) p fl Tu u hs' ∧ BuiltAt K GD b2 u Tu ∧ HD kl = some (.lst (ds'.map V.ref)) ∧ ds'.length = hs'.length ∧
      (∀ (i : Nat) (q : Addr) (t : List Ti), ds'[i]? = some q → hs'[i]? = some t → Dp K GD (.ref q) (dTold t)) ∧ Like (endsOf ts0) u ∧ (∀ t ∈ hs', Like (endsOf ts0) t) ∧ hs'.length ≤ i + 1) ?_ ?_
    · rcases hcase with ⟨rfl, hn, rfl, rfl⟩ | ⟨d, rfl, hd, he, hc⟩
      · walk_at "sts"
        refine ifF (by simp) ?_
        walk_at "sts"
        exact ⟨G', b, ds, rfl, sg5, sG12, nG1, nG2, nG3, hD12, hB11, lk12, hdl, hdk11, hlk, hlks, by omega⟩
      have hlike := deed_like he hlk hlks
      have hEu : endsOf u = endsOf ts := by rw [hlike.1.1, hlk.1]
      have fin : ∀ (HC : Hp) (ds' : List Addr) (b2 : Addr), Same G' HC → HC kl = some (.lst (ds'.map V.ref)) → DeskAt K C_Pull C_Push C_Web C_Desk (wo HC kl) p fl Tu u hs' → ds'.length = hs'.length → (∀ (i : Nat) (q : Addr) (t : List Ti), ds'[i]? = some q → hs'[i]? = some t → Dp K G' (.ref q) (dTold t)) → hs'.length ≤ i + 1 → New HC b2 →
          ∃ (GD : Hp) (b3 : Addr) (ds3 : List Addr), ([some (.ref a), some (.ref b2), some (.str (tS (webText ts0 Tu))), some (.int (1 + ts0.length + Tu.length : Nat)), some (.str (tS twT)), some (.ref p), some (.ref kl), some (.int (k : Nat)), some (.str (tS row)), some (.ref d)] : L2.St) = [some (.ref a), some (.ref b3), some (.str (tS (webText ts0 Tu))), some (.int (1 + ts0.length + Tu.length : Nat)), some (.str (tS twT)), some (.ref p), some (.ref kl), some (.int (k : Nat)), some (.str (tS row)), some (.ref d)] ∧ Same H5 GD ∧ Same GD (upd HC b2 (.tup [.ref e, .ref t, .ref d])) ∧ New GD p ∧ New GD fl ∧ New GD kl ∧ DeskAt K C_Pull C_Push C_Web C_Desk (wo (upd HC b2 (.tup [.ref e, .ref t, .ref d])) kl) p fl Tu u hs' ∧ BuiltAt K GD b3 u Tu ∧ upd HC b2 (.tup [.ref e, .ref t, .ref d]) kl = some (.lst (ds3.map V.ref)) ∧ ds3.length = hs'.length ∧
            (∀ (i : Nat) (q : Addr) (t : List Ti), ds3[i]? = some q → hs'[i]? = some t → Dp K GD (.ref q) (dTold t)) ∧ Like (endsOf ts0) u ∧ (∀ t ∈ hs', Like (endsOf ts0) t) ∧ hs'.length ≤ i + 1 := by
        intro HC ds' b2 sGC lkC hDC hdl' hdk2 hh1 nb2
        have sb := same_upd (o := .tup [.ref e, .ref t, .ref d]) nb2
        have nb2G : New G' b2 := nb2.of sGC
        obtain ⟨dxg, w10, ws10, hp10, hf10, _⟩ := id hDC.ex
        have hpC := wo_same _ _ hp10
        have hfC := wo_same _ _ hf10
        have hb2p : p ≠ b2 := ne_new hpC nb2
        have hb2f : fl ≠ b2 := ne_new hfC nb2
        have hb2k : kl ≠ b2 := ne_new lkC nb2
        refine ⟨upd G' b2 (.tup [.ref e, .ref t, .ref d]), b2, ds', rfl, sg5.trans (same_upd nb2G), (sGC.trans sb).add upd_same, nG1.upd hb2p, nG2.upd hb2f, nG3.upd hb2k, hDC.same (wo_mono sb), ⟨e, t, d, SqT.of upd_same, by rw [hEu]; exact g2.same (same_upd nb2G), g3.same (same_upd nb2G), hd.same (same_upd nb2G)⟩, sb _ _ lkC, hdl', fun i q t' e1 e2 => (hdk2 i q t' e1 e2).same (same_upd nb2G), hlike.1, hlike.2, hh1⟩
      walk_at "sts"
      refine ifT (by simp) ?_
      walk_at "sts"
      rw [dec_lit]
      refine ifd (fun hb => ?_) (fun hb => ?_)
      · rcases hc with ⟨c1, c2, c3, c4⟩ | ⟨c1, _⟩
        rotate_left
        · exact absurd hb c1
        have hdne : ds ≠ [] := fun z => c4 (List.length_eq_zero_iff.mp (by rw [← hdl, z]; rfl))
        have hlast : (ds.map V.ref)[(ds.map V.ref).length - 1]? = some (.ref (ds.getLastD 0)) := by
          rw [List.length_map, List.getElem?_map, last_get ds 0 hdne]
          rfl
        walk_at "sts"
        refine ⟨kl, _, _, rfl, rfl, lk12, hlast, ?_⟩
        have s13 : Same G' (upd H12 kl (.lst (ds.map V.ref).dropLast)) := sG12.mut nG3
        have lk13 : upd H12 kl (.lst (ds.map V.ref).dropLast) kl = some (.lst (ds.dropLast.map V.ref)) := by rw [upd_same, List.map_dropLast]
        have hD13 : DeskAt K C_Pull C_Push C_Web C_Desk (wo (upd H12 kl (.lst (ds.map V.ref).dropLast)) kl) p fl Tu u hs' := by rw [wo_eq]; exact hD12
        generalize upd H12 kl (.lst (ds.map V.ref).dropLast) = HC at s13 lk13 hD13 ⊢
        have g1C := same_read s13 g1
        walk_at "sts"
        refine w_new fun b2 nb2 => ?_
        refine fin HC ds.dropLast b2 s13 lk13 hD13 (by rw [c2, List.length_dropLast, List.length_dropLast, hdl]) (fun j q' t' e1 e2 => ?_) (by rw [c2, List.length_dropLast]; omega) nb2
        rw [c2] at e2
        rw [List.getElem?_dropLast] at e1 e2
        split at e1
        · split at e2
          · exact hdk11 j q' t' e1 e2
          · cases e2
        · cases e1
      · rcases hc with ⟨c1, _⟩ | ⟨_, c2⟩
        · exact absurd c1 hb
        have hszk : (ds.map V.ref).length < sizeLine := szlt (by rw [List.length_map]; omega)
        walk_at "sts"
        have s13 : Same G' (upd H12 kl (.lst (ds.map V.ref ++ [.ref d0]))) := sG12.mut nG3
        have lk13 : upd H12 kl (.lst (ds.map V.ref ++ [.ref d0])) kl = some (.lst ((ds ++ [d0]).map V.ref)) := by rw [upd_same, List.map_append]; rfl
        have hD13 : DeskAt K C_Pull C_Push C_Web C_Desk (wo (upd H12 kl (.lst (ds.map V.ref ++ [.ref d0]))) kl) p fl Tu u hs' := by rw [wo_eq]; exact hD12
        generalize upd H12 kl (.lst (ds.map V.ref ++ [.ref d0])) = HC at s13 lk13 hD13 ⊢
        have g1C := same_read s13 g1
        walk_at "sts"
        refine w_new fun b2 nb2 => ?_
        refine fin HC (ds ++ [d0]) b2 s13 lk13 hD13 (by rw [c2, List.length_append, List.length_append, hdl]; rfl) (fun j q' t' e1 e2 => ?_) (by rw [c2, List.length_append, List.length_singleton]; omega) nb2
        rw [c2] at e2
        by_cases hj : j < ds.length
        · rw [List.getElem?_append_left hj] at e1
          rw [List.getElem?_append_left (by omega)] at e2
          exact hdk11 j q' t' e1 e2
        · have hj2 : j = ds.length := by
            have := (List.getElem?_eq_some_iff.mp e1).1
            rw [List.length_append, List.length_singleton] at this
            omega
          subst hj2
          rw [List.getElem?_append_right (Nat.le_refl _), Nat.sub_self] at e1
          rw [List.getElem?_append_right (by omega), hdl, Nat.sub_self] at e2
          injection e1 with e1
          injection e2 with e2
          rw [← e1, ← e2]
          exact g4
    rintro σ' HD ⟨GD, b2, ds', rfl, sG0D, sGD, n1, n2, n3, hDD, hBu, lkD, hdl', hdkD, hlu, hlus, hh1⟩
    have lkDs := SqL.of (K := K) lkD
    obtain ⟨dxh, wh, wsh, hph, hfh, _⟩ := id hDD.ex
    walk_at "sts"
    refine w_methq (wo_same _ _ hph) (by rfl) ?_
    walk_at "sts"
    refine ⟨p, fl, Tu, u, hs', rfl, hDD.same wo_same, hlu.text htx, hrl, fun HE sE => ?_⟩
    walk_at "sts"
    refine ⟨b2, u, Tu, rfl, (hBu.same sGD).same sE, hlu.text htx, hrl, fun HF sF => ?_⟩
    have sEF := sE.trans sF
    have lkF := sEF _ _ lkD
    have lkFs := SqL.of (K := K) lkF
    walk_at "sts"
    refine ifnd (fun h => absurd rfl h) (fun _ => ?_)
    walk_at "sts"
    refine w_methq (sEF _ _ (wo_same _ _ hph)) (by rfl) ?_
    walk_at "sts"
    refine ⟨p, fl, Tu, u, hs', rfl, (hDD.same wo_same).same sEF, ?_⟩
    walk_at "sts"
    rw [List.length_map, hdl']
    refine ifnd (fun h => absurd rfl h) (fun _ => ?_)
    exact ⟨GD, u, hs', ds', b2, _, _, _, rfl, sG0D, sGD.trans sEF, n1, n2, n3, hDD.same (wo_mono sEF), hBu, lkF, hdl', hdkD, hlu, hlus, hh1⟩
  rintro σ H8 ⟨G, ts, hs, ds, b, y7, y8, y9, rfl, sg1, sg2, ng1, ng2, ng3, hD8, hB8, lk8, hdl, hdk, hlk, hlks, hhi⟩
  have hlen8 := endsOf_eq_len hlk.1
  have hm22 : m ≤ 63 := by
    rcases Nat.eq_zero_or_pos m with e | e
    · omega
    · have := (hmt (m - 1)).mp (by omega)
      omega
  have hback : deedM ts Tu.length hs (tL "back 0") = none := by
    have h1 : numsN 31 (tlW (tL "back 0")) = some [0] := by kernel_rfl
    have h2 : hdW (tL "back 0") = tL "back" := by decide
    refine deed_none h1 (fun z => by cases z.2.1) (fun z => ?_) fun z => ?_
    · rw [h2] at z
      rcases z.1 with e | e <;> exact absurd e (by decide)
    · rw [h2] at z
      exact absurd z.1 (by decide)
  walk_at "sts"
  rw [tL_lit "back 0"]
  refine ⟨p, fl, tL "back 0", Tu, ts, hs, rfl, hD8.same wo_same, by decide, by omega, by omega, by omega, by omega, fun u hs' (e : deedM ts Tu.length hs (tL "back 0") = some (u, hs')) => (by rw [hback] at e; cases e), fun _ H9 s9 => ?_⟩
  obtain ⟨dxh, wh, wsh, hph, hfh, _⟩ := id hD8.ex
  walk_at "sts"
  refine w_methq (s9 _ _ (wo_same _ _ hph)) (by rfl) ?_
  walk_at "sts"
  refine ⟨p, fl, Tu, ts, hs, rfl, (hD8.same wo_same).same s9, hlk.text htx, hrl, fun HE sE => ?_⟩
  walk_at "sts"
  refine ⟨b, ts, Tu, rfl, hB8.same (sg2.trans (s9.trans sE)), hlk.text htx, hrl, fun HF sF => ?_⟩
  walk_at "sts"
  rw [decide_eq_true rfl]
  exact q _
end

theorem all_mk {l : PySem.W.OpenLaw} {w : World} {K : PySem.W.Frag} {h : Heap} {mg : Str → Option Value} {fa f0 f1 f2 f3 f4 f5 f6 f7 f8 f9 f10 f11 f12 f13 f14 f15 f16 f17 f18 f19 f20 f21 f22 f23 f24 f25 f26 f27 f28 f29 f30 f31 f32 f33 f34 f35 f36 f37 f38 f39 f40 f41 f42 f43 f44 f45 f46 C_Pull C_Push C_Web C_Desk C_BadTie C_BadTurns C_Parted C_NotFlat C_BadText C_BadDeed C_FloorError : Addr} (X : K.In h) (G : h.Ns mainGlobals mg) (hfa : mg "law" = some (.ref fa))
    {nm_BadText q_BadText : Str} {N_BadText : Addr} {bs_BadText : List Value} {sn_BadText : List Str} {su_BadText : List Value} {ab_BadText : Bool} {col_BadText : Option Bool} {dd_BadText : Option Addr} {m0_BadText m1_BadText m2_BadText m3_BadText m5_BadText : Option Value}
    {t_MOST_FIGURES_texts t_FIGURES_texts t_MOST_PLACES t_MOST_STRENGTH_texts t_MOST_TIES t_MOST_FIGURES_desk t_FIGURES_desk t_MOST_STRENGTH_desk : Tok}
    {od0 an0 od1 an1 od2 an2 od3 an3 od4 an4 od5 an5 od6 an6 od7 an7 od8 an8 od9 an9 od10 an10 od11 an11 od12 an12 od13 an13 od14 an14 od15 an15 od16 an16 od17 an17 od18 an18 od19 an19 od20 an20 od21 an21 od22 an22 od23 an23 od24 an24 od25 an25 od26 an26 od27 an27 od28 an28 od29 an29 od30 an30 od31 an31 od32 an32 od33 an33 od34 an34 od35 an35 od36 an36 od37 an37 od38 an38 od39 an39 od40 an40 od41 an41 od42 an42 od43 an43 od44 an44 od45 an45 od46 an46 : Option Addr} {sl0 sl1 sl2 sl3 sl4 sl5 sl6 sl7 sl8 sl9 sl10 sl11 sl12 sl13 sl14 sl15 sl16 sl17 sl18 sl19 sl20 sl21 sl22 sl23 sl24 sl25 sl26 sl27 sl28 sl29 sl30 sl31 sl32 sl33 sl34 sl35 sl36 sl37 sl38 sl39 sl40 sl41 sl42 sl43 sl44 sl45 sl46 : Array (Option Value)} {oc0 kV0 dc0 pm0 ct0 cd0 oc1 kV1 dc1 pm1 ct1 cd1 oc2 kV2 dc2 pm2 ct2 cd2 oc3 kV3 dc3 pm3 ct3 cd3 oc4 kV4 dc4 pm4 ct4 cd4 oc5 kV5 dc5 pm5 ct5 cd5 oc6 kV6 dc6 pm6 ct6 cd6 oc7 kV7 dc7 pm7 ct7 cd7 oc8 kV8 dc8 pm8 ct8 cd8 oc9 kV9 dc9 pm9 ct9 cd9 oc10 kV10 dc10 pm10 ct10 cd10 oc11 kV11 dc11 pm11 ct11 cd11 oc12 kV12 dc12 pm12 ct12 cd12 oc13 kV13 dc13 pm13 ct13 cd13 oc14 kV14 dc14 pm14 ct14 cd14 oc15 kV15 dc15 pm15 ct15 cd15 oc16 kV16 dc16 pm16 ct16 cd16 oc17 kV17 dc17 pm17 ct17 cd17 oc18 kV18 dc18 pm18 ct18 cd18 oc19 kV19 dc19 pm19 ct19 cd19 oc20 kV20 dc20 pm20 ct20 cd20 oc21 kV21 dc21 pm21 ct21 cd21 oc22 kV22 dc22 pm22 ct22 cd22 oc23 kV23 dc23 pm23 ct23 cd23 oc24 kV24 dc24 pm24 ct24 cd24 oc25 kV25 dc25 pm25 ct25 cd25 oc26 kV26 dc26 pm26 ct26 cd26 oc27 kV27 dc27 pm27 ct27 cd27 oc28 kV28 dc28 pm28 ct28 cd28 oc29 kV29 dc29 pm29 ct29 cd29 oc30 kV30 dc30 pm30 ct30 cd30 oc31 kV31 dc31 pm31 ct31 cd31 oc32 kV32 dc32 pm32 ct32 cd32 oc33 kV33 dc33 pm33 ct33 cd33 oc34 kV34 dc34 pm34 ct34 cd34 oc35 kV35 dc35 pm35 ct35 cd35 oc36 kV36 dc36 pm36 ct36 cd36 oc37 kV37 dc37 pm37 ct37 cd37 oc38 kV38 dc38 pm38 ct38 cd38 oc39 kV39 dc39 pm39 ct39 cd39 oc40 kV40 dc40 pm40 ct40 cd40 oc41 kV41 dc41 pm41 ct41 cd41 oc42 kV42 dc42 pm42 ct42 cd42 oc43 kV43 dc43 pm43 ct43 cd43 oc44 kV44 dc44 pm44 ct44 cd44 oc45 kV45 dc45 pm45 ct45 cd45 oc46 kV46 dc46 pm46 ct46 cd46 : Value}
    (g_Pull : PySem.W.nsIn K mainGlobals "Pull" = some (some (.ref C_Pull)))
    (g_Push : PySem.W.nsIn K mainGlobals "Push" = some (some (.ref C_Push)))
    (g_Web : PySem.W.nsIn K mainGlobals "Web" = some (some (.ref C_Web)))
    (g_Desk : PySem.W.nsIn K mainGlobals "Desk" = some (some (.ref C_Desk)))
    (g_BadTie : PySem.W.nsIn K mainGlobals "BadTie" = some (some (.ref C_BadTie)))
    (g_BadTurns : PySem.W.nsIn K mainGlobals "BadTurns" = some (some (.ref C_BadTurns)))
    (g_Parted : PySem.W.nsIn K mainGlobals "Parted" = some (some (.ref C_Parted)))
    (g_NotFlat : PySem.W.nsIn K mainGlobals "NotFlat" = some (some (.ref C_NotFlat)))
    (g_BadText : PySem.W.nsIn K mainGlobals "BadText" = some (some (.ref C_BadText)))
    (g_BadDeed : PySem.W.nsIn K mainGlobals "BadDeed" = some (some (.ref C_BadDeed)))
    (g_FloorError : PySem.W.nsIn K mainGlobals "FloorError" = some (some (.ref C_FloorError)))
    (r0_BadText : PySem.W.findIn K (.ref C_BadText) "__init__" = some (some (.ref f0)))
    (ti0_BadText : PySem.W.typeIn K (.ref f0) = some (.type "function"))
    (xL_BadText : K.lookup C_BadText = some (excClassObj nm_BadText q_BadText C_BadText N_BadText bs_BadText [.ref C_FloorError, .type "ValueError", .type "Exception", .type "BaseException", .type "object"] true sn_BadText su_BadText ab_BadText col_BadText dd_BadText m0_BadText m1_BadText m2_BadText m3_BadText m5_BadText "ValueError.__new__"))
    (sa_BadText : PySem.W.findIn K (.ref C_BadText) "__setattr__" = some (some (.builtin "object.__setattr__")))
    (na_BadText : PySem.W.findIn K (.ref C_BadText) "at" = some none)
    (i0 : PySem.W.isFn K (.ref f0) = true)
    (l0 : K.lookup f0 = some ⟨oc0, od0, .func (PySem.W.fnOf "__init__" "BadText.__init__" (defArgs s_BadText___init__) (defBody s_BadText___init__) (defScope s_BadText___init__) .none kV0 dc0 pm0 an0 cd0 ct0), sl0⟩)
    (c0 : PySem.W.codeIn K cd0 "BadText.__init__" = true)
    (k0 : PySem.W.keepIn K (.ref f0) = true)
    (r1_Pull : PySem.W.findIn K (.ref C_Pull) "__init__" = some (some (.ref f1)))
    (r1_Push : PySem.W.findIn K (.ref C_Push) "__init__" = some (some (.ref f1)))
    (i1 : PySem.W.isFn K (.ref f1) = true)
    (l1 : K.lookup f1 = some ⟨oc1, od1, .func (PySem.W.fnOf "__init__" "Tie.__init__" (defArgs s_Tie___init__) (defBody s_Tie___init__) (defScope s_Tie___init__) .none kV1 dc1 pm1 an1 cd1 ct1), sl1⟩)
    (c1 : PySem.W.codeIn K cd1 "Tie.__init__" = true)
    (k1 : PySem.W.keepIn K (.ref f1) = true)
    (r2_Pull : PySem.W.findIn K (.ref C_Pull) "wish" = some (some (.ref f2)))
    (i2 : PySem.W.isFn K (.ref f2) = true)
    (l2 : K.lookup f2 = some ⟨oc2, od2, .func (PySem.W.fnOf "wish" "Pull.wish" (defArgs s_Pull_wish) (defBody s_Pull_wish) (defScope s_Pull_wish) .none kV2 dc2 pm2 an2 cd2 ct2), sl2⟩)
    (c2 : PySem.W.codeIn K cd2 "Pull.wish" = true)
    (k2 : PySem.W.keepIn K (.ref f2) = true)
    (r3_Push : PySem.W.findIn K (.ref C_Push) "wish" = some (some (.ref f3)))
    (i3 : PySem.W.isFn K (.ref f3) = true)
    (l3 : K.lookup f3 = some ⟨oc3, od3, .func (PySem.W.fnOf "wish" "Push.wish" (defArgs s_Push_wish) (defBody s_Push_wish) (defScope s_Push_wish) .none kV3 dc3 pm3 an3 cd3 ct3), sl3⟩)
    (c3 : PySem.W.codeIn K cd3 "Push.wish" = true)
    (k3 : PySem.W.keepIn K (.ref f3) = true)
    (a4 : PySem.W.nsIn K mainGlobals "head" = some (some (.ref f4)))
    (l4 : K.lookup f4 = some ⟨oc4, od4, .func (PySem.W.fnOf "head" "head" (defArgs s_head) (defBody s_head) (defScope s_head) .none kV4 dc4 pm4 an4 cd4 ct4), sl4⟩)
    (c4 : PySem.W.codeIn K cd4 "head" = true)
    (k4 : PySem.W.keepIn K (.ref f4) = true)
    (a5 : PySem.W.nsIn K mainGlobals "follower" = some (some (.ref f5)))
    (l5 : K.lookup f5 = some ⟨oc5, od5, .func (PySem.W.fnOf "follower" "follower" (defArgs s_follower) (defBody s_follower) (defScope s_follower) .none kV5 dc5 pm5 an5 cd5 ct5), sl5⟩)
    (c5 : PySem.W.codeIn K cd5 "follower" = true)
    (k5 : PySem.W.keepIn K (.ref f5) = true)
    (a6 : PySem.W.nsIn K mainGlobals "round_from" = some (some (.ref f6)))
    (l6 : K.lookup f6 = some ⟨oc6, od6, .func (PySem.W.fnOf "round_from" "round_from" (defArgs s_round_from) (defBody s_round_from) (defScope s_round_from) .none kV6 dc6 pm6 an6 cd6 ct6), sl6⟩)
    (c6 : PySem.W.codeIn K cd6 "round_from" = true)
    (k6 : PySem.W.keepIn K (.ref f6) = true)
    (a7 : PySem.W.nsIn K mainGlobals "rounds_of" = some (some (.ref f7)))
    (l7 : K.lookup f7 = some ⟨oc7, od7, .func (PySem.W.fnOf "rounds_of" "rounds_of" (defArgs s_rounds_of) (defBody s_rounds_of) (defScope s_rounds_of) .none kV7 dc7 pm7 an7 cd7 ct7), sl7⟩)
    (c7 : PySem.W.codeIn K cd7 "rounds_of" = true)
    (k7 : PySem.W.keepIn K (.ref f7) = true)
    (a8 : PySem.W.nsIn K mainGlobals "sides_of" = some (some (.ref f8)))
    (l8 : K.lookup f8 = some ⟨oc8, od8, .func (PySem.W.fnOf "sides_of" "sides_of" (defArgs s_sides_of) (defBody s_sides_of) (defScope s_sides_of) .none kV8 dc8 pm8 an8 cd8 ct8), sl8⟩)
    (c8 : PySem.W.codeIn K cd8 "sides_of" = true)
    (k8 : PySem.W.keepIn K (.ref f8) = true)
    (a9 : PySem.W.nsIn K mainGlobals "ends_are_places" = some (some (.ref f9)))
    (l9 : K.lookup f9 = some ⟨oc9, od9, .func (PySem.W.fnOf "ends_are_places" "ends_are_places" (defArgs s_ends_are_places) (defBody s_ends_are_places) (defScope s_ends_are_places) .none kV9 dc9 pm9 an9 cd9 ct9), sl9⟩)
    (c9 : PySem.W.codeIn K cd9 "ends_are_places" = true)
    (k9 : PySem.W.keepIn K (.ref f9) = true)
    (a10 : PySem.W.nsIn K mainGlobals "turns_are_right" = some (some (.ref f10)))
    (l10 : K.lookup f10 = some ⟨oc10, od10, .func (PySem.W.fnOf "turns_are_right" "turns_are_right" (defArgs s_turns_are_right) (defBody s_turns_are_right) (defScope s_turns_are_right) .none kV10 dc10 pm10 an10 cd10 ct10), sl10⟩)
    (c10 : PySem.W.codeIn K cd10 "turns_are_right" = true)
    (k10 : PySem.W.keepIn K (.ref f10) = true)
    (a11 : PySem.W.nsIn K mainGlobals "hangs_together" = some (some (.ref f11)))
    (l11 : K.lookup f11 = some ⟨oc11, od11, .func (PySem.W.fnOf "hangs_together" "hangs_together" (defArgs s_hangs_together) (defBody s_hangs_together) (defScope s_hangs_together) .none kV11 dc11 pm11 an11 cd11 ct11), sl11⟩)
    (c11 : PySem.W.codeIn K cd11 "hangs_together" = true)
    (k11 : PySem.W.keepIn K (.ref f11) = true)
    (r12_Web : PySem.W.findIn K (.ref C_Web) "__init__" = some (some (.ref f12)))
    (i12 : PySem.W.isFn K (.ref f12) = true)
    (l12 : K.lookup f12 = some ⟨oc12, od12, .func (PySem.W.fnOf "__init__" "Web.__init__" (defArgs s_Web___init__) (defBody s_Web___init__) (defScope s_Web___init__) .none kV12 dc12 pm12 an12 cd12 ct12), sl12⟩)
    (c12 : PySem.W.codeIn K cd12 "Web.__init__" = true)
    (k12 : PySem.W.keepIn K (.ref f12) = true)
    (a13 : PySem.W.nsIn K mainGlobals "number_of" = some (some (.ref f13)))
    (l13 : K.lookup f13 = some ⟨oc13, od13, .func (PySem.W.fnOf "number_of" "number_of" (defArgs s_number_of) (defBody s_number_of) (defScope s_number_of) .none kV13 dc13 pm13 an13 cd13 ct13), sl13⟩)
    (c13 : PySem.W.codeIn K cd13 "number_of" = true)
    (k13 : PySem.W.keepIn K (.ref f13) = true)
    (a14 : PySem.W.nsIn K mainGlobals "numbers_of" = some (some (.ref f14)))
    (l14 : K.lookup f14 = some ⟨oc14, od14, .func (PySem.W.fnOf "numbers_of" "numbers_of" (defArgs s_numbers_of) (defBody s_numbers_of) (defScope s_numbers_of) .none kV14 dc14 pm14 an14 cd14 ct14), sl14⟩)
    (c14 : PySem.W.codeIn K cd14 "numbers_of" = true)
    (k14 : PySem.W.keepIn K (.ref f14) = true)
    (a15 : PySem.W.nsIn K mainGlobals "row_at" = some (some (.ref f15)))
    (l15 : K.lookup f15 = some ⟨oc15, od15, .func (PySem.W.fnOf "row_at" "row_at" (defArgs s_row_at) (defBody s_row_at) (defScope s_row_at) .none kV15 dc15 pm15 an15 cd15 ct15), sl15⟩)
    (c15 : PySem.W.codeIn K cd15 "row_at" = true)
    (k15 : PySem.W.keepIn K (.ref f15) = true)
    (a16 : PySem.W.nsIn K mainGlobals "places_told" = some (some (.ref f16)))
    (l16 : K.lookup f16 = some ⟨oc16, od16, .func (PySem.W.fnOf "places_told" "places_told" (defArgs s_places_told) (defBody s_places_told) (defScope s_places_told) .none kV16 dc16 pm16 an16 cd16 ct16), sl16⟩)
    (c16 : PySem.W.codeIn K cd16 "places_told" = true)
    (k16 : PySem.W.keepIn K (.ref f16) = true)
    (a17 : PySem.W.nsIn K mainGlobals "tie_told" = some (some (.ref f17)))
    (l17 : K.lookup f17 = some ⟨oc17, od17, .func (PySem.W.fnOf "tie_told" "tie_told" (defArgs s_tie_told) (defBody s_tie_told) (defScope s_tie_told) .none kV17 dc17 pm17 an17 cd17 ct17), sl17⟩)
    (c17 : PySem.W.codeIn K cd17 "tie_told" = true)
    (k17 : PySem.W.keepIn K (.ref f17) = true)
    (a18 : PySem.W.nsIn K mainGlobals "turns_told" = some (some (.ref f18)))
    (l18 : K.lookup f18 = some ⟨oc18, od18, .func (PySem.W.fnOf "turns_told" "turns_told" (defArgs s_turns_told) (defBody s_turns_told) (defScope s_turns_told) .none kV18 dc18 pm18 an18 cd18 ct18), sl18⟩)
    (c18 : PySem.W.codeIn K cd18 "turns_told" = true)
    (k18 : PySem.W.keepIn K (.ref f18) = true)
    (a19 : PySem.W.nsIn K mainGlobals "tie_made" = some (some (.ref f19)))
    (l19 : K.lookup f19 = some ⟨oc19, od19, .func (PySem.W.fnOf "tie_made" "tie_made" (defArgs s_tie_made) (defBody s_tie_made) (defScope s_tie_made) .none kV19 dc19 pm19 an19 cd19 ct19), sl19⟩)
    (c19 : PySem.W.codeIn K cd19 "tie_made" = true)
    (k19 : PySem.W.keepIn K (.ref f19) = true)
    (a20 : PySem.W.nsIn K mainGlobals "read" = some (some (.ref f20)))
    (l20 : K.lookup f20 = some ⟨oc20, od20, .func (PySem.W.fnOf "read" "read" (defArgs s_read) (defBody s_read) (defScope s_read) .none kV20 dc20 pm20 an20 cd20 ct20), sl20⟩)
    (c20 : PySem.W.codeIn K cd20 "read" = true)
    (k20 : PySem.W.keepIn K (.ref f20) = true)
    (a21 : PySem.W.nsIn K mainGlobals "written" = some (some (.ref f21)))
    (l21 : K.lookup f21 = some ⟨oc21, od21, .func (PySem.W.fnOf "written" "written" (defArgs s_written) (defBody s_written) (defScope s_written) .none kV21 dc21 pm21 an21 cd21 ct21), sl21⟩)
    (c21 : PySem.W.codeIn K cd21 "written" = true)
    (k21 : PySem.W.keepIn K (.ref f21) = true)
    (a22 : PySem.W.nsIn K mainGlobals "told_numbers" = some (some (.ref f22)))
    (l22 : K.lookup f22 = some ⟨oc22, od22, .func (PySem.W.fnOf "told_numbers" "told_numbers" (defArgs s_told_numbers) (defBody s_told_numbers) (defScope s_told_numbers) .none kV22 dc22 pm22 an22 cd22 ct22), sl22⟩)
    (c22 : PySem.W.codeIn K cd22 "told_numbers" = true)
    (k22 : PySem.W.keepIn K (.ref f22) = true)
    (a23 : PySem.W.nsIn K mainGlobals "other_kind" = some (some (.ref f23)))
    (l23 : K.lookup f23 = some ⟨oc23, od23, .func (PySem.W.fnOf "other_kind" "other_kind" (defArgs s_other_kind) (defBody s_other_kind) (defScope s_other_kind) .none kV23 dc23 pm23 an23 cd23 ct23), sl23⟩)
    (c23 : PySem.W.codeIn K cd23 "other_kind" = true)
    (k23 : PySem.W.keepIn K (.ref f23) = true)
    (a24 : PySem.W.nsIn K mainGlobals "strung" = some (some (.ref f24)))
    (l24 : K.lookup f24 = some ⟨oc24, od24, .func (PySem.W.fnOf "strung" "strung" (defArgs s_strung) (defBody s_strung) (defScope s_strung) .none kV24 dc24 pm24 an24 cd24 ct24), sl24⟩)
    (c24 : PySem.W.codeIn K cd24 "strung" = true)
    (k24 : PySem.W.keepIn K (.ref f24) = true)
    (a25 : PySem.W.nsIn K mainGlobals "flipped" = some (some (.ref f25)))
    (l25 : K.lookup f25 = some ⟨oc25, od25, .func (PySem.W.fnOf "flipped" "flipped" (defArgs s_flipped) (defBody s_flipped) (defScope s_flipped) .none kV25 dc25 pm25 an25 cd25 ct25), sl25⟩)
    (c25 : PySem.W.codeIn K cd25 "flipped" = true)
    (k25 : PySem.W.keepIn K (.ref f25) = true)
    (r26_Desk : PySem.W.findIn K (.ref C_Desk) "__init__" = some (some (.ref f26)))
    (i26 : PySem.W.isFn K (.ref f26) = true)
    (l26 : K.lookup f26 = some ⟨oc26, od26, .func (PySem.W.fnOf "__init__" "Desk.__init__" (defArgs s_Desk___init__) (defBody s_Desk___init__) (defScope s_Desk___init__) .none kV26 dc26 pm26 an26 cd26 ct26), sl26⟩)
    (c26 : PySem.W.codeIn K cd26 "Desk.__init__" = true)
    (k26 : PySem.W.keepIn K (.ref f26) = true)
    (r27_Desk : PySem.W.findIn K (.ref C_Desk) "turn_to" = some (some (.ref f27)))
    (i27 : PySem.W.isFn K (.ref f27) = true)
    (l27 : K.lookup f27 = some ⟨oc27, od27, .func (PySem.W.fnOf "turn_to" "Desk.turn_to" (defArgs s_Desk_turn_to) (defBody s_Desk_turn_to) (defScope s_Desk_turn_to) .none kV27 dc27 pm27 an27 cd27 ct27), sl27⟩)
    (c27 : PySem.W.codeIn K cd27 "Desk.turn_to" = true)
    (k27 : PySem.W.keepIn K (.ref f27) = true)
    (r28_Desk : PySem.W.findIn K (.ref C_Desk) "do" = some (some (.ref f28)))
    (i28 : PySem.W.isFn K (.ref f28) = true)
    (l28 : K.lookup f28 = some ⟨oc28, od28, .func (PySem.W.fnOf "do" "Desk.do" (defArgs s_Desk_do) (defBody s_Desk_do) (defScope s_Desk_do) .none kV28 dc28 pm28 an28 cd28 ct28), sl28⟩)
    (c28 : PySem.W.codeIn K cd28 "Desk.do" = true)
    (k28 : PySem.W.keepIn K (.ref f28) = true)
    (r29_Desk : PySem.W.findIn K (.ref C_Desk) "left" = some (some (.ref f29)))
    (i29 : PySem.W.isFn K (.ref f29) = true)
    (l29 : K.lookup f29 = some ⟨oc29, od29, .func (PySem.W.fnOf "left" "Desk.left" (defArgs s_Desk_left) (defBody s_Desk_left) (defScope s_Desk_left) .none kV29 dc29 pm29 an29 cd29 ct29), sl29⟩)
    (c29 : PySem.W.codeIn K cd29 "Desk.left" = true)
    (k29 : PySem.W.keepIn K (.ref f29) = true)
    (r30_Desk : PySem.W.findIn K (.ref C_Desk) "text" = some (some (.ref f30)))
    (i30 : PySem.W.isFn K (.ref f30) = true)
    (l30 : K.lookup f30 = some ⟨oc30, od30, .func (PySem.W.fnOf "text" "Desk.text" (defArgs s_Desk_text) (defBody s_Desk_text) (defScope s_Desk_text) .none kV30 dc30 pm30 an30 cd30 ct30), sl30⟩)
    (c30 : PySem.W.codeIn K cd30 "Desk.text" = true)
    (k30 : PySem.W.keepIn K (.ref f30) = true)
    (a31 : PySem.W.nsIn K mainGlobals "_law_cell" = some (some (.ref f31)))
    (l31 : K.lookup f31 = some ⟨oc31, od31, .func (PySem.W.fnOf "_law_cell" "_law_cell" (defArgs s_law_cell) (defBody s_law_cell) (defScope s_law_cell) .none kV31 dc31 pm31 an31 cd31 ct31), sl31⟩)
    (c31 : PySem.W.codeIn K cd31 "_law_cell" = true)
    (k31 : PySem.W.keepIn K (.ref f31) = true)
    (a32 : PySem.W.nsIn K mainGlobals "_law_head" = some (some (.ref f32)))
    (l32 : K.lookup f32 = some ⟨oc32, od32, .func (PySem.W.fnOf "_law_head" "_law_head" (defArgs s_law_head) (defBody s_law_head) (defScope s_law_head) .none kV32 dc32 pm32 an32 cd32 ct32), sl32⟩)
    (c32 : PySem.W.codeIn K cd32 "_law_head" = true)
    (k32 : PySem.W.keepIn K (.ref f32) = true)
    (a33 : PySem.W.nsIn K mainGlobals "_law_behind" = some (some (.ref f33)))
    (l33 : K.lookup f33 = some ⟨oc33, od33, .func (PySem.W.fnOf "_law_behind" "_law_behind" (defArgs s_law_behind) (defBody s_law_behind) (defScope s_law_behind) .none kV33 dc33 pm33 an33 cd33 ct33), sl33⟩)
    (c33 : PySem.W.codeIn K cd33 "_law_behind" = true)
    (k33 : PySem.W.keepIn K (.ref f33) = true)
    (a34 : PySem.W.nsIn K mainGlobals "_law_round" = some (some (.ref f34)))
    (l34 : K.lookup f34 = some ⟨oc34, od34, .func (PySem.W.fnOf "_law_round" "_law_round" (defArgs s_law_round) (defBody s_law_round) (defScope s_law_round) .none kV34 dc34 pm34 an34 cd34 ct34), sl34⟩)
    (c34 : PySem.W.codeIn K cd34 "_law_round" = true)
    (k34 : PySem.W.keepIn K (.ref f34) = true)
    (a35 : PySem.W.nsIn K mainGlobals "_law_grown" = some (some (.ref f35)))
    (l35 : K.lookup f35 = some ⟨oc35, od35, .func (PySem.W.fnOf "_law_grown" "_law_grown" (defArgs s_law_grown) (defBody s_law_grown) (defScope s_law_grown) .none kV35 dc35 pm35 an35 cd35 ct35), sl35⟩)
    (c35 : PySem.W.codeIn K cd35 "_law_grown" = true)
    (k35 : PySem.W.keepIn K (.ref f35) = true)
    (a36 : PySem.W.nsIn K mainGlobals "_law_order" = some (some (.ref f36)))
    (l36 : K.lookup f36 = some ⟨oc36, od36, .func (PySem.W.fnOf "_law_order" "_law_order" (defArgs s_law_order) (defBody s_law_order) (defScope s_law_order) .none kV36 dc36 pm36 an36 cd36 ct36), sl36⟩)
    (c36 : PySem.W.codeIn K cd36 "_law_order" = true)
    (k36 : PySem.W.keepIn K (.ref f36) = true)
    (a37 : PySem.W.nsIn K mainGlobals "_law_renumbered" = some (some (.ref f37)))
    (l37 : K.lookup f37 = some ⟨oc37, od37, .func (PySem.W.fnOf "_law_renumbered" "_law_renumbered" (defArgs s_law_renumbered) (defBody s_law_renumbered) (defScope s_law_renumbered) .none kV37 dc37 pm37 an37 cd37 ct37), sl37⟩)
    (c37 : PySem.W.codeIn K cd37 "_law_renumbered" = true)
    (k37 : PySem.W.keepIn K (.ref f37) = true)
    (a38 : PySem.W.nsIn K mainGlobals "_law_built" = some (some (.ref f38)))
    (l38 : K.lookup f38 = some ⟨oc38, od38, .func (PySem.W.fnOf "_law_built" "_law_built" (defArgs s_law_built) (defBody s_law_built) (defScope s_law_built) .none kV38 dc38 pm38 an38 cd38 ct38), sl38⟩)
    (c38 : PySem.W.codeIn K cd38 "_law_built" = true)
    (k38 : PySem.W.keepIn K (.ref f38) = true)
    (a39 : PySem.W.nsIn K mainGlobals "_law_web_text" = some (some (.ref f39)))
    (l39 : K.lookup f39 = some ⟨oc39, od39, .func (PySem.W.fnOf "_law_web_text" "_law_web_text" (defArgs s_law_web_text) (defBody s_law_web_text) (defScope s_law_web_text) .none kV39 dc39 pm39 an39 cd39 ct39), sl39⟩)
    (c39 : PySem.W.codeIn K cd39 "_law_web_text" = true)
    (k39 : PySem.W.keepIn K (.ref f39) = true)
    (a40 : PySem.W.nsIn K mainGlobals "_law_word" = some (some (.ref f40)))
    (l40 : K.lookup f40 = some ⟨oc40, od40, .func (PySem.W.fnOf "_law_word" "_law_word" (defArgs s_law_word) (defBody s_law_word) (defScope s_law_word) .none kV40 dc40 pm40 an40 cd40 ct40), sl40⟩)
    (c40 : PySem.W.codeIn K cd40 "_law_word" = true)
    (k40 : PySem.W.keepIn K (.ref f40) = true)
    (a41 : PySem.W.nsIn K mainGlobals "_law_deed_row" = some (some (.ref f41)))
    (l41 : K.lookup f41 = some ⟨oc41, od41, .func (PySem.W.fnOf "_law_deed_row" "_law_deed_row" (defArgs s_law_deed_row) (defBody s_law_deed_row) (defScope s_law_deed_row) .none kV41 dc41 pm41 an41 cd41 ct41), sl41⟩)
    (c41 : PySem.W.codeIn K cd41 "_law_deed_row" = true)
    (k41 : PySem.W.keepIn K (.ref f41) = true)
    (a42 : PySem.W.nsIn K mainGlobals "_law_numbers" = some (some (.ref f42)))
    (l42 : K.lookup f42 = some ⟨oc42, od42, .func (PySem.W.fnOf "_law_numbers" "_law_numbers" (defArgs s_law_numbers) (defBody s_law_numbers) (defScope s_law_numbers) .none kV42 dc42 pm42 an42 cd42 ct42), sl42⟩)
    (c42 : PySem.W.codeIn K cd42 "_law_numbers" = true)
    (k42 : PySem.W.keepIn K (.ref f42) = true)
    (a43 : PySem.W.nsIn K mainGlobals "_law_due" = some (some (.ref f43)))
    (l43 : K.lookup f43 = some ⟨oc43, od43, .func (PySem.W.fnOf "_law_due" "_law_due" (defArgs s_law_due) (defBody s_law_due) (defScope s_law_due) .none kV43 dc43 pm43 an43 cd43 ct43), sl43⟩)
    (c43 : PySem.W.codeIn K cd43 "_law_due" = true)
    (k43 : PySem.W.keepIn K (.ref f43) = true)
    (a44 : PySem.W.nsIn K mainGlobals "_law_refused" = some (some (.ref f44)))
    (l44 : K.lookup f44 = some ⟨oc44, od44, .func (PySem.W.fnOf "_law_refused" "_law_refused" (defArgs s_law_refused) (defBody s_law_refused) (defScope s_law_refused) .none kV44 dc44 pm44 an44 cd44 ct44), sl44⟩)
    (c44 : PySem.W.codeIn K cd44 "_law_refused" = true)
    (k44 : PySem.W.keepIn K (.ref f44) = true)
    (a45 : PySem.W.nsIn K mainGlobals "_law_no_desk" = some (some (.ref f45)))
    (l45 : K.lookup f45 = some ⟨oc45, od45, .func (PySem.W.fnOf "_law_no_desk" "_law_no_desk" (defArgs s_law_no_desk) (defBody s_law_no_desk) (defScope s_law_no_desk) .none kV45 dc45 pm45 an45 cd45 ct45), sl45⟩)
    (c45 : PySem.W.codeIn K cd45 "_law_no_desk" = true)
    (k45 : PySem.W.keepIn K (.ref f45) = true)
    (a46 : PySem.W.nsIn K mainGlobals "law" = some (some (.ref f46)))
    (l46 : K.lookup f46 = some ⟨oc46, od46, .func (PySem.W.fnOf "law" "law" (defArgs s_law) (defBody s_law) (defScope s_law) .none kV46 dc46 pm46 an46 cd46 ct46), sl46⟩)
    (c46 : PySem.W.codeIn K cd46 "law" = true)
    (k46 : PySem.W.keepIn K (.ref f46) = true)
    (z_len : PySem.W.nsIn K mainGlobals "len" = some none)
    (z_range : PySem.W.nsIn K mainGlobals "range" = some none)
    (z_enumerate : PySem.W.nsIn K mainGlobals "enumerate" = some none)
    (z_sorted : PySem.W.nsIn K mainGlobals "sorted" = some none)
    (z_all : PySem.W.nsIn K mainGlobals "all" = some none)
    (z_list : PySem.W.nsIn K mainGlobals "list" = some none)
    (z_int : PySem.W.nsIn K mainGlobals "int" = some none)
    (z_str : PySem.W.nsIn K mainGlobals "str" = some none)
    (z_min : PySem.W.nsIn K mainGlobals "min" = some none)
    (z_isinstance : PySem.W.nsIn K mainGlobals "isinstance" = some none)
    (z_ValueError : PySem.W.nsIn K mainGlobals "ValueError" = some none)
    (pg_Pull : PySem.W.plainGet K C_Pull Str.empty = true)
    (hd_Pull : PySem.W.hasDictIn K C_Pull = true)
    (po_Pull : PySem.W.plainOver K C_Pull = true)
    (sa_Pull : PySem.W.findIn K (.ref C_Pull) "__setattr__" = some (some (.builtin "object.__setattr__")))
    (mk_Pull : PySem.W.makesIn K C_Pull = true)
    (kp_Pull : PySem.W.keepIn K (.ref C_Pull) = true)
    (n_Pull_one : PySem.W.findIn K (.ref C_Pull) "one" = some none)
    (n_Pull_two : PySem.W.findIn K (.ref C_Pull) "two" = some none)
    (n_Pull_strength : PySem.W.findIn K (.ref C_Pull) "strength" = some none)
    (pg_Push : PySem.W.plainGet K C_Push Str.empty = true)
    (hd_Push : PySem.W.hasDictIn K C_Push = true)
    (po_Push : PySem.W.plainOver K C_Push = true)
    (sa_Push : PySem.W.findIn K (.ref C_Push) "__setattr__" = some (some (.builtin "object.__setattr__")))
    (mk_Push : PySem.W.makesIn K C_Push = true)
    (kp_Push : PySem.W.keepIn K (.ref C_Push) = true)
    (n_Push_one : PySem.W.findIn K (.ref C_Push) "one" = some none)
    (n_Push_two : PySem.W.findIn K (.ref C_Push) "two" = some none)
    (n_Push_strength : PySem.W.findIn K (.ref C_Push) "strength" = some none)
    (pg_Web : PySem.W.plainGet K C_Web Str.empty = true)
    (hd_Web : PySem.W.hasDictIn K C_Web = true)
    (po_Web : PySem.W.plainOver K C_Web = true)
    (sa_Web : PySem.W.findIn K (.ref C_Web) "__setattr__" = some (some (.builtin "object.__setattr__")))
    (mk_Web : PySem.W.makesIn K C_Web = true)
    (kp_Web : PySem.W.keepIn K (.ref C_Web) = true)
    (n_Web_many : PySem.W.findIn K (.ref C_Web) "many" = some none)
    (n_Web_ties : PySem.W.findIn K (.ref C_Web) "ties" = some none)
    (n_Web_turns : PySem.W.findIn K (.ref C_Web) "turns" = some none)
    (n_Web_rounds : PySem.W.findIn K (.ref C_Web) "rounds" = some none)
    (n_Web_sides : PySem.W.findIn K (.ref C_Web) "sides" = some none)
    (pg_Desk : PySem.W.plainGet K C_Desk Str.empty = true)
    (hd_Desk : PySem.W.hasDictIn K C_Desk = true)
    (po_Desk : PySem.W.plainOver K C_Desk = true)
    (sa_Desk : PySem.W.findIn K (.ref C_Desk) "__setattr__" = some (some (.builtin "object.__setattr__")))
    (mk_Desk : PySem.W.makesIn K C_Desk = true)
    (kp_Desk : PySem.W.keepIn K (.ref C_Desk) = true)
    (n_Desk_web : PySem.W.findIn K (.ref C_Desk) "web" = some none)
    (n_Desk_former : PySem.W.findIn K (.ref C_Desk) "former" = some none)
    (kk_MOST_FIGURES_texts : PySem.W.nsIn K mainGlobals "MOST_FIGURES_texts" = some (some (.int 31 t_MOST_FIGURES_texts)))
    (kk_FIGURES_texts : PySem.W.nsIn K mainGlobals "FIGURES_texts" = some (some (.str "0123456789" t_FIGURES_texts)))
    (kk_MOST_PLACES : PySem.W.nsIn K mainGlobals "MOST_PLACES" = some (some (.int 40 t_MOST_PLACES)))
    (kk_MOST_STRENGTH_texts : PySem.W.nsIn K mainGlobals "MOST_STRENGTH_texts" = some (some (.int 1000000000000000000000000000000 t_MOST_STRENGTH_texts)))
    (kk_MOST_TIES : PySem.W.nsIn K mainGlobals "MOST_TIES" = some (some (.int 80 t_MOST_TIES)))
    (kk_MOST_FIGURES_desk : PySem.W.nsIn K mainGlobals "MOST_FIGURES_desk" = some (some (.int 31 t_MOST_FIGURES_desk)))
    (kk_FIGURES_desk : PySem.W.nsIn K mainGlobals "FIGURES_desk" = some (some (.str "0123456789" t_FIGURES_desk)))
    (kk_MOST_STRENGTH_desk : PySem.W.nsIn K mainGlobals "MOST_STRENGTH_desk" = some (some (.int 1000000000000000000000000000000 t_MOST_STRENGTH_desk)))
    (x_og : PySem.W.specialIn K (.builtin "object.__class__") "__get__" = some (some (.builtin "getset_descriptor.__get__")))
    (x_ot : PySem.W.takesIn K (.builtin "object.__class__") = some true)
    (x_kp_BadTie : PySem.W.keepIn K (.ref C_BadTie) = true)
    (x_be_BadTie : PySem.W.subIn K (.ref C_BadTie) (.type "BaseException") = some true)
    (x_ty_BadTie : PySem.W.typeIn K (.ref C_BadTie) = some (.type "type"))
    (x_cl_BadTie : PySem.W.isClsIn K C_BadTie = true)
    (x_hd_BadTie : PySem.W.hasDictIn K C_BadTie = true)
    (x_ga_BadTie : PySem.W.findIn K (.ref C_BadTie) "__getattribute__" = some (some (.builtin "BaseException.__getattribute__")))
    (x_gg_BadTie : PySem.W.findIn K (.ref C_BadTie) "__getattr__" = some none)
    (x_oc_BadTie : PySem.W.findIn K (.ref C_BadTie) "__class__" = some (some (.builtin "object.__class__")))
    (x_om_BadTie : PySem.W.mroIn K C_BadTie (.type "object") = some true)
    (x_sv_BadTie : PySem.W.subIn K (.ref C_BadTie) (.type "ValueError") = some true)
    (x_sb_BadTie_BadTie : PySem.W.subIn K (.ref C_BadTie) (.ref C_BadTie) = some true)
    (x_kp_BadTurns : PySem.W.keepIn K (.ref C_BadTurns) = true)
    (x_be_BadTurns : PySem.W.subIn K (.ref C_BadTurns) (.type "BaseException") = some true)
    (x_ty_BadTurns : PySem.W.typeIn K (.ref C_BadTurns) = some (.type "type"))
    (x_cl_BadTurns : PySem.W.isClsIn K C_BadTurns = true)
    (x_hd_BadTurns : PySem.W.hasDictIn K C_BadTurns = true)
    (x_ga_BadTurns : PySem.W.findIn K (.ref C_BadTurns) "__getattribute__" = some (some (.builtin "BaseException.__getattribute__")))
    (x_gg_BadTurns : PySem.W.findIn K (.ref C_BadTurns) "__getattr__" = some none)
    (x_oc_BadTurns : PySem.W.findIn K (.ref C_BadTurns) "__class__" = some (some (.builtin "object.__class__")))
    (x_om_BadTurns : PySem.W.mroIn K C_BadTurns (.type "object") = some true)
    (x_sv_BadTurns : PySem.W.subIn K (.ref C_BadTurns) (.type "ValueError") = some true)
    (x_sb_BadTurns_BadTurns : PySem.W.subIn K (.ref C_BadTurns) (.ref C_BadTurns) = some true)
    (x_kp_Parted : PySem.W.keepIn K (.ref C_Parted) = true)
    (x_be_Parted : PySem.W.subIn K (.ref C_Parted) (.type "BaseException") = some true)
    (x_ty_Parted : PySem.W.typeIn K (.ref C_Parted) = some (.type "type"))
    (x_cl_Parted : PySem.W.isClsIn K C_Parted = true)
    (x_hd_Parted : PySem.W.hasDictIn K C_Parted = true)
    (x_ga_Parted : PySem.W.findIn K (.ref C_Parted) "__getattribute__" = some (some (.builtin "BaseException.__getattribute__")))
    (x_gg_Parted : PySem.W.findIn K (.ref C_Parted) "__getattr__" = some none)
    (x_oc_Parted : PySem.W.findIn K (.ref C_Parted) "__class__" = some (some (.builtin "object.__class__")))
    (x_om_Parted : PySem.W.mroIn K C_Parted (.type "object") = some true)
    (x_sv_Parted : PySem.W.subIn K (.ref C_Parted) (.type "ValueError") = some true)
    (x_sb_Parted_Parted : PySem.W.subIn K (.ref C_Parted) (.ref C_Parted) = some true)
    (x_kp_NotFlat : PySem.W.keepIn K (.ref C_NotFlat) = true)
    (x_be_NotFlat : PySem.W.subIn K (.ref C_NotFlat) (.type "BaseException") = some true)
    (x_ty_NotFlat : PySem.W.typeIn K (.ref C_NotFlat) = some (.type "type"))
    (x_cl_NotFlat : PySem.W.isClsIn K C_NotFlat = true)
    (x_hd_NotFlat : PySem.W.hasDictIn K C_NotFlat = true)
    (x_ga_NotFlat : PySem.W.findIn K (.ref C_NotFlat) "__getattribute__" = some (some (.builtin "BaseException.__getattribute__")))
    (x_gg_NotFlat : PySem.W.findIn K (.ref C_NotFlat) "__getattr__" = some none)
    (x_oc_NotFlat : PySem.W.findIn K (.ref C_NotFlat) "__class__" = some (some (.builtin "object.__class__")))
    (x_om_NotFlat : PySem.W.mroIn K C_NotFlat (.type "object") = some true)
    (x_sv_NotFlat : PySem.W.subIn K (.ref C_NotFlat) (.type "ValueError") = some true)
    (x_sb_NotFlat_NotFlat : PySem.W.subIn K (.ref C_NotFlat) (.ref C_NotFlat) = some true)
    (x_kp_BadText : PySem.W.keepIn K (.ref C_BadText) = true)
    (x_be_BadText : PySem.W.subIn K (.ref C_BadText) (.type "BaseException") = some true)
    (x_ty_BadText : PySem.W.typeIn K (.ref C_BadText) = some (.type "type"))
    (x_cl_BadText : PySem.W.isClsIn K C_BadText = true)
    (x_hd_BadText : PySem.W.hasDictIn K C_BadText = true)
    (x_ga_BadText : PySem.W.findIn K (.ref C_BadText) "__getattribute__" = some (some (.builtin "BaseException.__getattribute__")))
    (x_gg_BadText : PySem.W.findIn K (.ref C_BadText) "__getattr__" = some none)
    (x_oc_BadText : PySem.W.findIn K (.ref C_BadText) "__class__" = some (some (.builtin "object.__class__")))
    (x_om_BadText : PySem.W.mroIn K C_BadText (.type "object") = some true)
    (x_sv_BadText : PySem.W.subIn K (.ref C_BadText) (.type "ValueError") = some true)
    (x_sb_BadText_BadText : PySem.W.subIn K (.ref C_BadText) (.ref C_BadText) = some true)
    (x_kp_BadDeed : PySem.W.keepIn K (.ref C_BadDeed) = true)
    (x_be_BadDeed : PySem.W.subIn K (.ref C_BadDeed) (.type "BaseException") = some true)
    (x_ty_BadDeed : PySem.W.typeIn K (.ref C_BadDeed) = some (.type "type"))
    (x_cl_BadDeed : PySem.W.isClsIn K C_BadDeed = true)
    (x_hd_BadDeed : PySem.W.hasDictIn K C_BadDeed = true)
    (x_ga_BadDeed : PySem.W.findIn K (.ref C_BadDeed) "__getattribute__" = some (some (.builtin "BaseException.__getattribute__")))
    (x_gg_BadDeed : PySem.W.findIn K (.ref C_BadDeed) "__getattr__" = some none)
    (x_oc_BadDeed : PySem.W.findIn K (.ref C_BadDeed) "__class__" = some (some (.builtin "object.__class__")))
    (x_om_BadDeed : PySem.W.mroIn K C_BadDeed (.type "object") = some true)
    (x_sv_BadDeed : PySem.W.subIn K (.ref C_BadDeed) (.type "ValueError") = some true)
    (x_sb_BadDeed_BadDeed : PySem.W.subIn K (.ref C_BadDeed) (.ref C_BadDeed) = some true)
    (x_kp_FloorError : PySem.W.keepIn K (.ref C_FloorError) = true)
    (x_be_FloorError : PySem.W.subIn K (.ref C_FloorError) (.type "BaseException") = some true)
    (x_ty_FloorError : PySem.W.typeIn K (.ref C_FloorError) = some (.type "type"))
    (x_cl_FloorError : PySem.W.isClsIn K C_FloorError = true)
    (x_hd_FloorError : PySem.W.hasDictIn K C_FloorError = true)
    (x_ga_FloorError : PySem.W.findIn K (.ref C_FloorError) "__getattribute__" = some (some (.builtin "BaseException.__getattribute__")))
    (x_gg_FloorError : PySem.W.findIn K (.ref C_FloorError) "__getattr__" = some none)
    (x_oc_FloorError : PySem.W.findIn K (.ref C_FloorError) "__class__" = some (some (.builtin "object.__class__")))
    (x_om_FloorError : PySem.W.mroIn K C_FloorError (.type "object") = some true)
    (x_sv_FloorError : PySem.W.subIn K (.ref C_FloorError) (.type "ValueError") = some true)
    (x_sb_FloorError_FloorError : PySem.W.subIn K (.ref C_FloorError) (.ref C_FloorError) = some true)
    (x_xn_BadTie : PySem.W.excIn K C_BadTie [.type "ValueError", .type "Exception", .type "BaseException", .type "object"] "ValueError.__new__" = true)
    (x_sb_BadTie_BadDeed : PySem.W.subIn K (.ref C_BadTie) (.ref C_BadDeed) = some false)
    (x_sb_BadTie_FloorError : PySem.W.subIn K (.ref C_BadTie) (.ref C_FloorError) = some true)
    (x_sb_BadTie_BadText : PySem.W.subIn K (.ref C_BadTie) (.ref C_BadText) = some false)
    (x_sb_BadTie_NotFlat : PySem.W.subIn K (.ref C_BadTie) (.ref C_NotFlat) = some false)
    (x_xn_BadTurns : PySem.W.excIn K C_BadTurns [.type "ValueError", .type "Exception", .type "BaseException", .type "object"] "ValueError.__new__" = true)
    (x_sb_BadTurns_BadDeed : PySem.W.subIn K (.ref C_BadTurns) (.ref C_BadDeed) = some false)
    (x_sb_BadTurns_FloorError : PySem.W.subIn K (.ref C_BadTurns) (.ref C_FloorError) = some true)
    (x_sb_BadTurns_BadText : PySem.W.subIn K (.ref C_BadTurns) (.ref C_BadText) = some false)
    (x_sb_BadTurns_NotFlat : PySem.W.subIn K (.ref C_BadTurns) (.ref C_NotFlat) = some false)
    (x_xn_Parted : PySem.W.excIn K C_Parted [.type "ValueError", .type "Exception", .type "BaseException", .type "object"] "ValueError.__new__" = true)
    (x_sb_Parted_BadDeed : PySem.W.subIn K (.ref C_Parted) (.ref C_BadDeed) = some false)
    (x_sb_Parted_FloorError : PySem.W.subIn K (.ref C_Parted) (.ref C_FloorError) = some true)
    (x_sb_Parted_BadText : PySem.W.subIn K (.ref C_Parted) (.ref C_BadText) = some false)
    (x_sb_Parted_NotFlat : PySem.W.subIn K (.ref C_Parted) (.ref C_NotFlat) = some false)
    (x_xn_NotFlat : PySem.W.excIn K C_NotFlat [.type "ValueError", .type "Exception", .type "BaseException", .type "object"] "ValueError.__new__" = true)
    (x_sb_NotFlat_BadDeed : PySem.W.subIn K (.ref C_NotFlat) (.ref C_BadDeed) = some false)
    (x_sb_NotFlat_FloorError : PySem.W.subIn K (.ref C_NotFlat) (.ref C_FloorError) = some true)
    (x_sb_NotFlat_BadText : PySem.W.subIn K (.ref C_NotFlat) (.ref C_BadText) = some false)
    (x_sb_BadText_BadDeed : PySem.W.subIn K (.ref C_BadText) (.ref C_BadDeed) = some false)
    (x_sb_BadText_FloorError : PySem.W.subIn K (.ref C_BadText) (.ref C_FloorError) = some true)
    (x_sb_BadText_NotFlat : PySem.W.subIn K (.ref C_BadText) (.ref C_NotFlat) = some false)
    (x_xn_BadDeed : PySem.W.excIn K C_BadDeed [.type "ValueError", .type "Exception", .type "BaseException", .type "object"] "ValueError.__new__" = true)
    (x_sb_BadDeed_FloorError : PySem.W.subIn K (.ref C_BadDeed) (.ref C_FloorError) = some true)
    (x_sb_BadDeed_BadText : PySem.W.subIn K (.ref C_BadDeed) (.ref C_BadText) = some false)
    (x_sb_BadDeed_NotFlat : PySem.W.subIn K (.ref C_BadDeed) (.ref C_NotFlat) = some false)
    : ∃ fd : FuncData, (∀ (s : Shared) (v : Value), BindsTo s fd ⟨[v], []⟩ [("script", v)]) ∧ ∀ base : Heap, K.In base → base.Ns mainGlobals mg → FnOk l.prog w K mg base CX0 11 fa fd ["script"] (spLaw K) := by
  have e := hfa.symm.trans (PySem.W.mg_of X G a46)
  cases e
  have B : Bl mg := ⟨PySem.W.mg_none_of X G z_len, PySem.W.mg_none_of X G z_range, PySem.W.mg_none_of X G z_enumerate, PySem.W.mg_none_of X G z_sorted, PySem.W.mg_none_of X G z_all, PySem.W.mg_none_of X G z_list, PySem.W.mg_none_of X G z_int, PySem.W.mg_none_of X G z_str, PySem.W.mg_none_of X G z_min, PySem.W.mg_none_of X G z_isinstance, PySem.W.mg_none_of X G z_ValueError⟩
  have T : Txt K mg C_Pull C_Push C_Web C_Desk C_BadTie C_BadTurns C_Parted C_NotFlat C_BadText C_BadDeed C_FloorError := ⟨PySem.W.mg_of X G g_Pull, PySem.W.mg_of X G g_Push, PySem.W.mg_of X G g_Web, PySem.W.mg_of X G g_Desk, PySem.W.mg_of X G g_BadTie, PySem.W.mg_of X G g_BadTurns, PySem.W.mg_of X G g_Parted, PySem.W.mg_of X G g_NotFlat, PySem.W.mg_of X G g_BadText, PySem.W.mg_of X G g_BadDeed, PySem.W.mg_of X G g_FloorError, ⟨pg_Pull, hd_Pull, po_Pull, sa_Pull⟩, mk_Pull, kp_Pull, n_Pull_one, n_Pull_two, n_Pull_strength, ⟨pg_Push, hd_Push, po_Push, sa_Push⟩, mk_Push, kp_Push, n_Push_one, n_Push_two, n_Push_strength, ⟨pg_Web, hd_Web, po_Web, sa_Web⟩, mk_Web, kp_Web, n_Web_many, n_Web_ties, n_Web_turns, n_Web_rounds, n_Web_sides, ⟨pg_Desk, hd_Desk, po_Desk, sa_Desk⟩, mk_Desk, kp_Desk, n_Desk_web, n_Desk_former, ⟨_, PySem.W.mg_of X G kk_MOST_FIGURES_texts⟩, ⟨_, PySem.W.mg_of X G kk_FIGURES_texts⟩, ⟨_, PySem.W.mg_of X G kk_MOST_PLACES⟩, ⟨_, PySem.W.mg_of X G kk_MOST_STRENGTH_texts⟩, ⟨_, PySem.W.mg_of X G kk_MOST_TIES⟩, ⟨_, PySem.W.mg_of X G kk_MOST_FIGURES_desk⟩, ⟨_, PySem.W.mg_of X G kk_FIGURES_desk⟩, ⟨_, PySem.W.mg_of X G kk_MOST_STRENGTH_desk⟩, x_og, x_ot, x_kp_BadTie, x_be_BadTie, x_ty_BadTie, x_cl_BadTie, x_hd_BadTie, x_ga_BadTie, x_gg_BadTie, x_oc_BadTie, x_om_BadTie, x_sv_BadTie, x_sb_BadTie_BadTie, x_kp_BadTurns, x_be_BadTurns, x_ty_BadTurns, x_cl_BadTurns, x_hd_BadTurns, x_ga_BadTurns, x_gg_BadTurns, x_oc_BadTurns, x_om_BadTurns, x_sv_BadTurns, x_sb_BadTurns_BadTurns, x_kp_Parted, x_be_Parted, x_ty_Parted, x_cl_Parted, x_hd_Parted, x_ga_Parted, x_gg_Parted, x_oc_Parted, x_om_Parted, x_sv_Parted, x_sb_Parted_Parted, x_kp_NotFlat, x_be_NotFlat, x_ty_NotFlat, x_cl_NotFlat, x_hd_NotFlat, x_ga_NotFlat, x_gg_NotFlat, x_oc_NotFlat, x_om_NotFlat, x_sv_NotFlat, x_sb_NotFlat_NotFlat, x_kp_BadText, x_be_BadText, x_ty_BadText, x_cl_BadText, x_hd_BadText, x_ga_BadText, x_gg_BadText, x_oc_BadText, x_om_BadText, x_sv_BadText, x_sb_BadText_BadText, x_kp_BadDeed, x_be_BadDeed, x_ty_BadDeed, x_cl_BadDeed, x_hd_BadDeed, x_ga_BadDeed, x_gg_BadDeed, x_oc_BadDeed, x_om_BadDeed, x_sv_BadDeed, x_sb_BadDeed_BadDeed, x_kp_FloorError, x_be_FloorError, x_ty_FloorError, x_cl_FloorError, x_hd_FloorError, x_ga_FloorError, x_gg_FloorError, x_oc_FloorError, x_om_FloorError, x_sv_FloorError, x_sb_FloorError_FloorError, x_xn_BadTie, x_sb_BadTie_BadDeed, x_sb_BadTie_FloorError, x_sb_BadTie_BadText, x_sb_BadTie_NotFlat, x_xn_BadTurns, x_sb_BadTurns_BadDeed, x_sb_BadTurns_FloorError, x_sb_BadTurns_BadText, x_sb_BadTurns_NotFlat, x_xn_Parted, x_sb_Parted_BadDeed, x_sb_Parted_FloorError, x_sb_Parted_BadText, x_sb_Parted_NotFlat, x_xn_NotFlat, x_sb_NotFlat_BadDeed, x_sb_NotFlat_FloorError, x_sb_NotFlat_BadText, x_sb_BadText_BadDeed, x_sb_BadText_FloorError, x_sb_BadText_NotFlat, x_xn_BadDeed, x_sb_BadDeed_FloorError, x_sb_BadDeed_BadText, x_sb_BadDeed_NotFlat, ⟨⟨nm_BadText, q_BadText, N_BadText, bs_BadText, _, sn_BadText, su_BadText, ab_BadText, col_BadText, dd_BadText, m0_BadText, m1_BadText, m2_BadText, m3_BadText, m5_BadText, xL_BadText, by rfl⟩, sa_BadText, x_be_BadText, x_ty_BadText, x_kp_BadText⟩, na_BadText⟩
  refine ⟨PySem.W.fnOf "law" "law" (defArgs s_law) (defBody s_law) (defScope s_law) .none kV46 dc46 pm46 an46 cd46 ct46, fun s v => .of_eq rfl, fun base _ _ => ?_⟩
  have hf_BadText___init__ := ok_BadText___init__ (P := l.prog) (w := w) (base := base) (fun_mk (st := s_BadText___init__) l0 c0 k0) B T 
  have h_xm_BadText : HasXM l.prog w K mg base 1 "BadText" C_BadText ["self", "at"] (spKeep K C_BadText) := ⟨T.ox_BadText, f0, hf_BadText___init__.ex.choose, hf_BadText___init__.ex.choose_spec.1, r0_BadText, ti0_BadText, PySem.W.mg_of X G g_BadText, hf_BadText___init__.ex.choose_spec.2⟩
  have hf_Tie___init__ := ok_Tie___init__ (P := l.prog) (w := w) (base := base) (fun_mk (st := s_Tie___init__) l1 c1 k1) B T 
  have h_mk_Pull := hf_Tie___init__.mkOf ⟨mk_Pull, r1_Pull, i1, kp_Pull⟩ (PySem.W.mg_of X G g_Pull)
  have h_mk_Push := hf_Tie___init__.mkOf ⟨mk_Push, r1_Push, i1, kp_Push⟩ (PySem.W.mg_of X G g_Push)
  have hf_Pull_wish := ok_Pull_wish (P := l.prog) (w := w) (base := base) (fun_mk (st := s_Pull_wish) l2 c2 k2) B T 
  have h_Pull_wish := hf_Pull_wish.meth T.cl_Pull ⟨r2_Pull, i2, k2⟩
  have hf_Push_wish := ok_Push_wish (P := l.prog) (w := w) (base := base) (fun_mk (st := s_Push_wish) l3 c3 k3) B T 
  have h_Push_wish := hf_Push_wish.meth T.cl_Push ⟨r3_Push, i3, k3⟩
  have h_head := ok_head (P := l.prog) (w := w) (base := base) (fun_mk (st := s_head) l4 c4 k4) (PySem.W.mg_of X G a4) B T 
  have h_follower := ok_follower (P := l.prog) (w := w) (base := base) (fun_mk (st := s_follower) l5 c5 k5) (PySem.W.mg_of X G a5) B T h_head
  have h_round_from := ok_round_from (P := l.prog) (w := w) (base := base) (fun_mk (st := s_round_from) l6 c6 k6) (PySem.W.mg_of X G a6) B T h_follower
  have h_rounds_of := ok_rounds_of (P := l.prog) (w := w) (base := base) (fun_mk (st := s_rounds_of) l7 c7 k7) (PySem.W.mg_of X G a7) B T h_round_from
  have h_sides_of := ok_sides_of (P := l.prog) (w := w) (base := base) (fun_mk (st := s_sides_of) l8 c8 k8) (PySem.W.mg_of X G a8) B T 
  have h_ends_are_places := ok_ends_are_places (P := l.prog) (w := w) (base := base) (fun_mk (st := s_ends_are_places) l9 c9 k9) (PySem.W.mg_of X G a9) B T 
  have h_turns_are_right := ok_turns_are_right (P := l.prog) (w := w) (base := base) (fun_mk (st := s_turns_are_right) l10 c10 k10) (PySem.W.mg_of X G a10) B T 
  have h_hangs_together := ok_hangs_together (P := l.prog) (w := w) (base := base) (fun_mk (st := s_hangs_together) l11 c11 k11) (PySem.W.mg_of X G a11) B T 
  have hf_Web___init__ := ok_Web___init__ (P := l.prog) (w := w) (base := base) (fun_mk (st := s_Web___init__) l12 c12 k12) B T h_rounds_of h_sides_of h_ends_are_places h_turns_are_right h_hangs_together
  have h_mk_Web := hf_Web___init__.mkOf ⟨mk_Web, r12_Web, i12, kp_Web⟩ (PySem.W.mg_of X G g_Web)
  have h_number_of := ok_number_of (P := l.prog) (w := w) (base := base) (fun_mk (st := s_number_of) l13 c13 k13) (PySem.W.mg_of X G a13) B T 
  have h_numbers_of := ok_numbers_of (P := l.prog) (w := w) (base := base) (fun_mk (st := s_numbers_of) l14 c14 k14) (PySem.W.mg_of X G a14) B T h_number_of
  have h_row_at := ok_row_at (P := l.prog) (w := w) (base := base) (fun_mk (st := s_row_at) l15 c15 k15) (PySem.W.mg_of X G a15) B T h_xm_BadText
  have h_places_told := ok_places_told (P := l.prog) (w := w) (base := base) (fun_mk (st := s_places_told) l16 c16 k16) (PySem.W.mg_of X G a16) B T h_numbers_of h_xm_BadText
  have h_tie_told := ok_tie_told (P := l.prog) (w := w) (base := base) (fun_mk (st := s_tie_told) l17 c17 k17) (PySem.W.mg_of X G a17) B T h_numbers_of h_xm_BadText
  have h_turns_told := ok_turns_told (P := l.prog) (w := w) (base := base) (fun_mk (st := s_turns_told) l18 c18 k18) (PySem.W.mg_of X G a18) B T h_numbers_of h_xm_BadText
  have h_tie_made := ok_tie_made (P := l.prog) (w := w) (base := base) (fun_mk (st := s_tie_made) l19 c19 k19) (PySem.W.mg_of X G a19) B T h_mk_Pull h_mk_Push
  have h_read := ok_read (P := l.prog) (w := w) (base := base) (fun_mk (st := s_read) l20 c20 k20) (PySem.W.mg_of X G a20) B T h_places_told h_row_at h_tie_told h_turns_told h_tie_made h_mk_Web h_xm_BadText
  have h_written := ok_written (P := l.prog) (w := w) (base := base) (fun_mk (st := s_written) l21 c21 k21) (PySem.W.mg_of X G a21) B T h_Pull_wish h_Push_wish
  have h_told_numbers := ok_told_numbers (P := l.prog) (w := w) (base := base) (fun_mk (st := s_told_numbers) l22 c22 k22) (PySem.W.mg_of X G a22) B T 
  have h_other_kind := ok_other_kind (P := l.prog) (w := w) (base := base) (fun_mk (st := s_other_kind) l23 c23 k23) (PySem.W.mg_of X G a23) B T h_mk_Push h_mk_Pull h_Pull_wish h_Push_wish
  have h_strung := ok_strung (P := l.prog) (w := w) (base := base) (fun_mk (st := s_strung) l24 c24 k24) (PySem.W.mg_of X G a24) B T h_mk_Push h_mk_Pull
  have h_flipped := ok_flipped (P := l.prog) (w := w) (base := base) (fun_mk (st := s_flipped) l25 c25 k25) (PySem.W.mg_of X G a25) B T h_other_kind
  have hf_Desk___init__ := ok_Desk___init__ (P := l.prog) (w := w) (base := base) (fun_mk (st := s_Desk___init__) l26 c26 k26) B T h_read
  have h_mk_Desk := hf_Desk___init__.mkOf ⟨mk_Desk, r26_Desk, i26, kp_Desk⟩ (PySem.W.mg_of X G g_Desk)
  have hf_Desk_turn_to := ok_Desk_turn_to (P := l.prog) (w := w) (base := base) (fun_mk (st := s_Desk_turn_to) l27 c27 k27) B T h_mk_Web
  have h_Desk_turn_to := hf_Desk_turn_to.meth T.cl_Desk ⟨r27_Desk, i27, k27⟩
  have hf_Desk_do := ok_Desk_do (P := l.prog) (w := w) (base := base) (fun_mk (st := s_Desk_do) l28 c28 k28) B T h_told_numbers h_strung h_flipped h_Desk_turn_to
  have h_Desk_do := hf_Desk_do.meth T.cl_Desk ⟨r28_Desk, i28, k28⟩
  have hf_Desk_left := ok_Desk_left (P := l.prog) (w := w) (base := base) (fun_mk (st := s_Desk_left) l29 c29 k29) B T 
  have h_Desk_left := hf_Desk_left.meth T.cl_Desk ⟨r29_Desk, i29, k29⟩
  have hf_Desk_text := ok_Desk_text (P := l.prog) (w := w) (base := base) (fun_mk (st := s_Desk_text) l30 c30 k30) B T h_written
  have h_Desk_text := hf_Desk_text.meth T.cl_Desk ⟨r30_Desk, i30, k30⟩
  have h_law_cell := ok_law_cell (P := l.prog) (w := w) (base := base) (fun_mk (st := s_law_cell) l31 c31 k31) (PySem.W.mg_of X G a31) B T 
  have h_law_head := ok_law_head (P := l.prog) (w := w) (base := base) (fun_mk (st := s_law_head) l32 c32 k32) (PySem.W.mg_of X G a32) B T 
  have h_law_behind := ok_law_behind (P := l.prog) (w := w) (base := base) (fun_mk (st := s_law_behind) l33 c33 k33) (PySem.W.mg_of X G a33) B T h_law_head
  have h_law_round := ok_law_round (P := l.prog) (w := w) (base := base) (fun_mk (st := s_law_round) l34 c34 k34) (PySem.W.mg_of X G a34) B T h_law_behind
  have h_law_grown := ok_law_grown (P := l.prog) (w := w) (base := base) (fun_mk (st := s_law_grown) l35 c35 k35) (PySem.W.mg_of X G a35) B T h_law_round h_law_head
  have h_law_order := ok_law_order (P := l.prog) (w := w) (base := base) (fun_mk (st := s_law_order) l36 c36 k36) (PySem.W.mg_of X G a36) B T 
  have h_law_renumbered := ok_law_renumbered (P := l.prog) (w := w) (base := base) (fun_mk (st := s_law_renumbered) l37 c37 k37) (PySem.W.mg_of X G a37) B T h_law_order
  have h_law_built := ok_law_built (P := l.prog) (w := w) (base := base) (fun_mk (st := s_law_built) l38 c38 k38) (PySem.W.mg_of X G a38) B T h_law_renumbered h_law_grown h_law_cell
  have h_law_web_text := ok_law_web_text (P := l.prog) (w := w) (base := base) (fun_mk (st := s_law_web_text) l39 c39 k39) (PySem.W.mg_of X G a39) B T 
  have h_law_word := ok_law_word (P := l.prog) (w := w) (base := base) (fun_mk (st := s_law_word) l40 c40 k40) (PySem.W.mg_of X G a40) B T 
  have h_law_deed_row := ok_law_deed_row (P := l.prog) (w := w) (base := base) (fun_mk (st := s_law_deed_row) l41 c41 k41) (PySem.W.mg_of X G a41) B T h_law_word
  have h_law_numbers := ok_law_numbers (P := l.prog) (w := w) (base := base) (fun_mk (st := s_law_numbers) l42 c42 k42) (PySem.W.mg_of X G a42) B T 
  have h_law_due := ok_law_due (P := l.prog) (w := w) (base := base) (fun_mk (st := s_law_due) l43 c43 k43) (PySem.W.mg_of X G a43) B T h_law_numbers
  have h_law_refused := ok_law_refused (P := l.prog) (w := w) (base := base) (fun_mk (st := s_law_refused) l44 c44 k44) (PySem.W.mg_of X G a44) B T h_Desk_do
  have h_law_no_desk := ok_law_no_desk (P := l.prog) (w := w) (base := base) (fun_mk (st := s_law_no_desk) l45 c45 k45) (PySem.W.mg_of X G a45) B T h_mk_Desk
  exact ok_law (P := l.prog) (w := w) (base := base) (fun_mk (st := s_law) l46 c46 k46) B T h_law_built h_law_web_text h_law_no_desk h_law_deed_row h_law_due h_law_refused h_mk_Desk h_Desk_text h_Desk_left
theorem factsQ {l : PySem.W.OpenLaw} {w : World} {K : PySem.W.Frag} {h : Heap} {mg : Str → Option Value} {fa : Addr} (X : K.In h) (G : h.Ns mainGlobals mg) (hfa : mg "law" = some (.ref fa)) (c : SaysK fsQ fnQ K) : ∃ fd : FuncData, (∀ (s : Shared) (v : Value), BindsTo s fd ⟨[v], []⟩ [("script", v)]) ∧ ∀ base : Heap, K.In base → base.Ns mainGlobals mg → FnOk l.prog w K mg base CX0 11 fa fd ["script"] (spLaw K) := by
  obtain ⟨fd0, D0⟩ : ∃ fd, FunD K "__init__" "BadText.__init__" (defArgs s_BadText___init__) (defBody s_BadText___init__) (defScope s_BadText___init__) [] [] (He.fAd K ("BadText", some "__init__")) fd := c.def_ 0 rfl
  obtain ⟨oc0, od0, kV0, dc0, pm0, an0, cd0, ct0, sl0, l0, c0, k0⟩ := fnl_of D0
  obtain ⟨fd1, D1⟩ : ∃ fd, FunD K "__init__" "Tie.__init__" (defArgs s_Tie___init__) (defBody s_Tie___init__) (defScope s_Tie___init__) [] [] (He.fAd K ("Tie", some "__init__")) fd := c.def_ 1 rfl
  obtain ⟨oc1, od1, kV1, dc1, pm1, an1, cd1, ct1, sl1, l1, c1, k1⟩ := fnl_of D1
  obtain ⟨fd2, D2⟩ : ∃ fd, FunD K "wish" "Pull.wish" (defArgs s_Pull_wish) (defBody s_Pull_wish) (defScope s_Pull_wish) [] [] (He.fAd K ("Pull", some "wish")) fd := c.def_ 2 rfl
  obtain ⟨oc2, od2, kV2, dc2, pm2, an2, cd2, ct2, sl2, l2, c2, k2⟩ := fnl_of D2
  obtain ⟨fd3, D3⟩ : ∃ fd, FunD K "wish" "Push.wish" (defArgs s_Push_wish) (defBody s_Push_wish) (defScope s_Push_wish) [] [] (He.fAd K ("Push", some "wish")) fd := c.def_ 3 rfl
  obtain ⟨oc3, od3, kV3, dc3, pm3, an3, cd3, ct3, sl3, l3, c3, k3⟩ := fnl_of D3
  obtain ⟨fd4, D4⟩ : ∃ fd, FunD K "head" "head" (defArgs s_head) (defBody s_head) (defScope s_head) [] [] (He.fAd K ("head", none)) fd := c.def_ 4 rfl
  obtain ⟨oc4, od4, kV4, dc4, pm4, an4, cd4, ct4, sl4, l4, c4, k4⟩ := fnl_of D4
  obtain ⟨fd5, D5⟩ : ∃ fd, FunD K "follower" "follower" (defArgs s_follower) (defBody s_follower) (defScope s_follower) [] [] (He.fAd K ("follower", none)) fd := c.def_ 5 rfl
  obtain ⟨oc5, od5, kV5, dc5, pm5, an5, cd5, ct5, sl5, l5, c5, k5⟩ := fnl_of D5
  obtain ⟨fd6, D6⟩ : ∃ fd, FunD K "round_from" "round_from" (defArgs s_round_from) (defBody s_round_from) (defScope s_round_from) [] [] (He.fAd K ("round_from", none)) fd := c.def_ 6 rfl
  obtain ⟨oc6, od6, kV6, dc6, pm6, an6, cd6, ct6, sl6, l6, c6, k6⟩ := fnl_of D6
  obtain ⟨fd7, D7⟩ : ∃ fd, FunD K "rounds_of" "rounds_of" (defArgs s_rounds_of) (defBody s_rounds_of) (defScope s_rounds_of) [] [] (He.fAd K ("rounds_of", none)) fd := c.def_ 7 rfl
  obtain ⟨oc7, od7, kV7, dc7, pm7, an7, cd7, ct7, sl7, l7, c7, k7⟩ := fnl_of D7
  obtain ⟨fd8, D8⟩ : ∃ fd, FunD K "sides_of" "sides_of" (defArgs s_sides_of) (defBody s_sides_of) (defScope s_sides_of) [] [] (He.fAd K ("sides_of", none)) fd := c.def_ 8 rfl
  obtain ⟨oc8, od8, kV8, dc8, pm8, an8, cd8, ct8, sl8, l8, c8, k8⟩ := fnl_of D8
  obtain ⟨fd9, D9⟩ : ∃ fd, FunD K "ends_are_places" "ends_are_places" (defArgs s_ends_are_places) (defBody s_ends_are_places) (defScope s_ends_are_places) [] [] (He.fAd K ("ends_are_places", none)) fd := c.def_ 9 rfl
  obtain ⟨oc9, od9, kV9, dc9, pm9, an9, cd9, ct9, sl9, l9, c9, k9⟩ := fnl_of D9
  obtain ⟨fd10, D10⟩ : ∃ fd, FunD K "turns_are_right" "turns_are_right" (defArgs s_turns_are_right) (defBody s_turns_are_right) (defScope s_turns_are_right) [] [] (He.fAd K ("turns_are_right", none)) fd := c.def_ 10 rfl
  obtain ⟨oc10, od10, kV10, dc10, pm10, an10, cd10, ct10, sl10, l10, c10, k10⟩ := fnl_of D10
  obtain ⟨fd11, D11⟩ : ∃ fd, FunD K "hangs_together" "hangs_together" (defArgs s_hangs_together) (defBody s_hangs_together) (defScope s_hangs_together) [] [] (He.fAd K ("hangs_together", none)) fd := c.def_ 11 rfl
  obtain ⟨oc11, od11, kV11, dc11, pm11, an11, cd11, ct11, sl11, l11, c11, k11⟩ := fnl_of D11
  obtain ⟨fd12, D12⟩ : ∃ fd, FunD K "__init__" "Web.__init__" (defArgs s_Web___init__) (defBody s_Web___init__) (defScope s_Web___init__) [] [] (He.fAd K ("Web", some "__init__")) fd := c.def_ 12 rfl
  obtain ⟨oc12, od12, kV12, dc12, pm12, an12, cd12, ct12, sl12, l12, c12, k12⟩ := fnl_of D12
  obtain ⟨fd13, D13⟩ : ∃ fd, FunD K "number_of" "number_of" (defArgs s_number_of) (defBody s_number_of) (defScope s_number_of) [] [] (He.fAd K ("number_of", none)) fd := c.def_ 13 rfl
  obtain ⟨oc13, od13, kV13, dc13, pm13, an13, cd13, ct13, sl13, l13, c13, k13⟩ := fnl_of D13
  obtain ⟨fd14, D14⟩ : ∃ fd, FunD K "numbers_of" "numbers_of" (defArgs s_numbers_of) (defBody s_numbers_of) (defScope s_numbers_of) [] [] (He.fAd K ("numbers_of", none)) fd := c.def_ 14 rfl
  obtain ⟨oc14, od14, kV14, dc14, pm14, an14, cd14, ct14, sl14, l14, c14, k14⟩ := fnl_of D14
  obtain ⟨fd15, D15⟩ : ∃ fd, FunD K "row_at" "row_at" (defArgs s_row_at) (defBody s_row_at) (defScope s_row_at) [] [] (He.fAd K ("row_at", none)) fd := c.def_ 15 rfl
  obtain ⟨oc15, od15, kV15, dc15, pm15, an15, cd15, ct15, sl15, l15, c15, k15⟩ := fnl_of D15
  obtain ⟨fd16, D16⟩ : ∃ fd, FunD K "places_told" "places_told" (defArgs s_places_told) (defBody s_places_told) (defScope s_places_told) [] [] (He.fAd K ("places_told", none)) fd := c.def_ 16 rfl
  obtain ⟨oc16, od16, kV16, dc16, pm16, an16, cd16, ct16, sl16, l16, c16, k16⟩ := fnl_of D16
  obtain ⟨fd17, D17⟩ : ∃ fd, FunD K "tie_told" "tie_told" (defArgs s_tie_told) (defBody s_tie_told) (defScope s_tie_told) [] [] (He.fAd K ("tie_told", none)) fd := c.def_ 17 rfl
  obtain ⟨oc17, od17, kV17, dc17, pm17, an17, cd17, ct17, sl17, l17, c17, k17⟩ := fnl_of D17
  obtain ⟨fd18, D18⟩ : ∃ fd, FunD K "turns_told" "turns_told" (defArgs s_turns_told) (defBody s_turns_told) (defScope s_turns_told) [] [] (He.fAd K ("turns_told", none)) fd := c.def_ 18 rfl
  obtain ⟨oc18, od18, kV18, dc18, pm18, an18, cd18, ct18, sl18, l18, c18, k18⟩ := fnl_of D18
  obtain ⟨fd19, D19⟩ : ∃ fd, FunD K "tie_made" "tie_made" (defArgs s_tie_made) (defBody s_tie_made) (defScope s_tie_made) [] [] (He.fAd K ("tie_made", none)) fd := c.def_ 19 rfl
  obtain ⟨oc19, od19, kV19, dc19, pm19, an19, cd19, ct19, sl19, l19, c19, k19⟩ := fnl_of D19
  obtain ⟨fd20, D20⟩ : ∃ fd, FunD K "read" "read" (defArgs s_read) (defBody s_read) (defScope s_read) [] [] (He.fAd K ("read", none)) fd := c.def_ 20 rfl
  obtain ⟨oc20, od20, kV20, dc20, pm20, an20, cd20, ct20, sl20, l20, c20, k20⟩ := fnl_of D20
  obtain ⟨fd21, D21⟩ : ∃ fd, FunD K "written" "written" (defArgs s_written) (defBody s_written) (defScope s_written) [] [] (He.fAd K ("written", none)) fd := c.def_ 21 rfl
  obtain ⟨oc21, od21, kV21, dc21, pm21, an21, cd21, ct21, sl21, l21, c21, k21⟩ := fnl_of D21
  obtain ⟨fd22, D22⟩ : ∃ fd, FunD K "told_numbers" "told_numbers" (defArgs s_told_numbers) (defBody s_told_numbers) (defScope s_told_numbers) [] [] (He.fAd K ("told_numbers", none)) fd := c.def_ 22 rfl
  obtain ⟨oc22, od22, kV22, dc22, pm22, an22, cd22, ct22, sl22, l22, c22, k22⟩ := fnl_of D22
  obtain ⟨fd23, D23⟩ : ∃ fd, FunD K "other_kind" "other_kind" (defArgs s_other_kind) (defBody s_other_kind) (defScope s_other_kind) [] [] (He.fAd K ("other_kind", none)) fd := c.def_ 23 rfl
  obtain ⟨oc23, od23, kV23, dc23, pm23, an23, cd23, ct23, sl23, l23, c23, k23⟩ := fnl_of D23
  obtain ⟨fd24, D24⟩ : ∃ fd, FunD K "strung" "strung" (defArgs s_strung) (defBody s_strung) (defScope s_strung) [] [] (He.fAd K ("strung", none)) fd := c.def_ 24 rfl
  obtain ⟨oc24, od24, kV24, dc24, pm24, an24, cd24, ct24, sl24, l24, c24, k24⟩ := fnl_of D24
  obtain ⟨fd25, D25⟩ : ∃ fd, FunD K "flipped" "flipped" (defArgs s_flipped) (defBody s_flipped) (defScope s_flipped) [] [] (He.fAd K ("flipped", none)) fd := c.def_ 25 rfl
  obtain ⟨oc25, od25, kV25, dc25, pm25, an25, cd25, ct25, sl25, l25, c25, k25⟩ := fnl_of D25
  obtain ⟨fd26, D26⟩ : ∃ fd, FunD K "__init__" "Desk.__init__" (defArgs s_Desk___init__) (defBody s_Desk___init__) (defScope s_Desk___init__) [] [] (He.fAd K ("Desk", some "__init__")) fd := c.def_ 26 rfl
  obtain ⟨oc26, od26, kV26, dc26, pm26, an26, cd26, ct26, sl26, l26, c26, k26⟩ := fnl_of D26
  obtain ⟨fd27, D27⟩ : ∃ fd, FunD K "turn_to" "Desk.turn_to" (defArgs s_Desk_turn_to) (defBody s_Desk_turn_to) (defScope s_Desk_turn_to) [] [] (He.fAd K ("Desk", some "turn_to")) fd := c.def_ 27 rfl
  obtain ⟨oc27, od27, kV27, dc27, pm27, an27, cd27, ct27, sl27, l27, c27, k27⟩ := fnl_of D27
  obtain ⟨fd28, D28⟩ : ∃ fd, FunD K "do" "Desk.do" (defArgs s_Desk_do) (defBody s_Desk_do) (defScope s_Desk_do) [] [] (He.fAd K ("Desk", some "do")) fd := c.def_ 28 rfl
  obtain ⟨oc28, od28, kV28, dc28, pm28, an28, cd28, ct28, sl28, l28, c28, k28⟩ := fnl_of D28
  obtain ⟨fd29, D29⟩ : ∃ fd, FunD K "left" "Desk.left" (defArgs s_Desk_left) (defBody s_Desk_left) (defScope s_Desk_left) [] [] (He.fAd K ("Desk", some "left")) fd := c.def_ 29 rfl
  obtain ⟨oc29, od29, kV29, dc29, pm29, an29, cd29, ct29, sl29, l29, c29, k29⟩ := fnl_of D29
  obtain ⟨fd30, D30⟩ : ∃ fd, FunD K "text" "Desk.text" (defArgs s_Desk_text) (defBody s_Desk_text) (defScope s_Desk_text) [] [] (He.fAd K ("Desk", some "text")) fd := c.def_ 30 rfl
  obtain ⟨oc30, od30, kV30, dc30, pm30, an30, cd30, ct30, sl30, l30, c30, k30⟩ := fnl_of D30
  obtain ⟨fd31, D31⟩ : ∃ fd, FunD K "_law_cell" "_law_cell" (defArgs s_law_cell) (defBody s_law_cell) (defScope s_law_cell) [] [] (He.fAd K ("_law_cell", none)) fd := c.def_ 31 rfl
  obtain ⟨oc31, od31, kV31, dc31, pm31, an31, cd31, ct31, sl31, l31, c31, k31⟩ := fnl_of D31
  obtain ⟨fd32, D32⟩ : ∃ fd, FunD K "_law_head" "_law_head" (defArgs s_law_head) (defBody s_law_head) (defScope s_law_head) [] [] (He.fAd K ("_law_head", none)) fd := c.def_ 32 rfl
  obtain ⟨oc32, od32, kV32, dc32, pm32, an32, cd32, ct32, sl32, l32, c32, k32⟩ := fnl_of D32
  obtain ⟨fd33, D33⟩ : ∃ fd, FunD K "_law_behind" "_law_behind" (defArgs s_law_behind) (defBody s_law_behind) (defScope s_law_behind) [] [] (He.fAd K ("_law_behind", none)) fd := c.def_ 33 rfl
  obtain ⟨oc33, od33, kV33, dc33, pm33, an33, cd33, ct33, sl33, l33, c33, k33⟩ := fnl_of D33
  obtain ⟨fd34, D34⟩ : ∃ fd, FunD K "_law_round" "_law_round" (defArgs s_law_round) (defBody s_law_round) (defScope s_law_round) [] [] (He.fAd K ("_law_round", none)) fd := c.def_ 34 rfl
  obtain ⟨oc34, od34, kV34, dc34, pm34, an34, cd34, ct34, sl34, l34, c34, k34⟩ := fnl_of D34
  obtain ⟨fd35, D35⟩ : ∃ fd, FunD K "_law_grown" "_law_grown" (defArgs s_law_grown) (defBody s_law_grown) (defScope s_law_grown) [] [] (He.fAd K ("_law_grown", none)) fd := c.def_ 35 rfl
  obtain ⟨oc35, od35, kV35, dc35, pm35, an35, cd35, ct35, sl35, l35, c35, k35⟩ := fnl_of D35
  obtain ⟨fd36, D36⟩ : ∃ fd, FunD K "_law_order" "_law_order" (defArgs s_law_order) (defBody s_law_order) (defScope s_law_order) [] [] (He.fAd K ("_law_order", none)) fd := c.def_ 36 rfl
  obtain ⟨oc36, od36, kV36, dc36, pm36, an36, cd36, ct36, sl36, l36, c36, k36⟩ := fnl_of D36
  obtain ⟨fd37, D37⟩ : ∃ fd, FunD K "_law_renumbered" "_law_renumbered" (defArgs s_law_renumbered) (defBody s_law_renumbered) (defScope s_law_renumbered) [] [] (He.fAd K ("_law_renumbered", none)) fd := c.def_ 37 rfl
  obtain ⟨oc37, od37, kV37, dc37, pm37, an37, cd37, ct37, sl37, l37, c37, k37⟩ := fnl_of D37
  obtain ⟨fd38, D38⟩ : ∃ fd, FunD K "_law_built" "_law_built" (defArgs s_law_built) (defBody s_law_built) (defScope s_law_built) [] [] (He.fAd K ("_law_built", none)) fd := c.def_ 38 rfl
  obtain ⟨oc38, od38, kV38, dc38, pm38, an38, cd38, ct38, sl38, l38, c38, k38⟩ := fnl_of D38
  obtain ⟨fd39, D39⟩ : ∃ fd, FunD K "_law_web_text" "_law_web_text" (defArgs s_law_web_text) (defBody s_law_web_text) (defScope s_law_web_text) [] [] (He.fAd K ("_law_web_text", none)) fd := c.def_ 39 rfl
  obtain ⟨oc39, od39, kV39, dc39, pm39, an39, cd39, ct39, sl39, l39, c39, k39⟩ := fnl_of D39
  obtain ⟨fd40, D40⟩ : ∃ fd, FunD K "_law_word" "_law_word" (defArgs s_law_word) (defBody s_law_word) (defScope s_law_word) [] [] (He.fAd K ("_law_word", none)) fd := c.def_ 40 rfl
  obtain ⟨oc40, od40, kV40, dc40, pm40, an40, cd40, ct40, sl40, l40, c40, k40⟩ := fnl_of D40
  obtain ⟨fd41, D41⟩ : ∃ fd, FunD K "_law_deed_row" "_law_deed_row" (defArgs s_law_deed_row) (defBody s_law_deed_row) (defScope s_law_deed_row) [] [] (He.fAd K ("_law_deed_row", none)) fd := c.def_ 41 rfl
  obtain ⟨oc41, od41, kV41, dc41, pm41, an41, cd41, ct41, sl41, l41, c41, k41⟩ := fnl_of D41
  obtain ⟨fd42, D42⟩ : ∃ fd, FunD K "_law_numbers" "_law_numbers" (defArgs s_law_numbers) (defBody s_law_numbers) (defScope s_law_numbers) [] [] (He.fAd K ("_law_numbers", none)) fd := c.def_ 42 rfl
  obtain ⟨oc42, od42, kV42, dc42, pm42, an42, cd42, ct42, sl42, l42, c42, k42⟩ := fnl_of D42
  obtain ⟨fd43, D43⟩ : ∃ fd, FunD K "_law_due" "_law_due" (defArgs s_law_due) (defBody s_law_due) (defScope s_law_due) [] [] (He.fAd K ("_law_due", none)) fd := c.def_ 43 rfl
  obtain ⟨oc43, od43, kV43, dc43, pm43, an43, cd43, ct43, sl43, l43, c43, k43⟩ := fnl_of D43
  obtain ⟨fd44, D44⟩ : ∃ fd, FunD K "_law_refused" "_law_refused" (defArgs s_law_refused) (defBody s_law_refused) (defScope s_law_refused) [] [] (He.fAd K ("_law_refused", none)) fd := c.def_ 44 rfl
  obtain ⟨oc44, od44, kV44, dc44, pm44, an44, cd44, ct44, sl44, l44, c44, k44⟩ := fnl_of D44
  obtain ⟨fd45, D45⟩ : ∃ fd, FunD K "_law_no_desk" "_law_no_desk" (defArgs s_law_no_desk) (defBody s_law_no_desk) (defScope s_law_no_desk) [] [] (He.fAd K ("_law_no_desk", none)) fd := c.def_ 45 rfl
  obtain ⟨oc45, od45, kV45, dc45, pm45, an45, cd45, ct45, sl45, l45, c45, k45⟩ := fnl_of D45
  obtain ⟨fd46, D46⟩ : ∃ fd, FunD K "law" "law" (defArgs s_law) (defBody s_law) (defScope s_law) [] [] (He.fAd K ("law", none)) fd := c.def_ 46 rfl
  obtain ⟨oc46, od46, kV46, dc46, pm46, an46, cd46, ct46, sl46, l46, c46, k46⟩ := fnl_of D46
  have g_Pull : PySem.W.nsIn K mainGlobals "Pull" = some (some (.ref (He.ga K "Pull"))) := c.is 0 rfl
  have g_Push : PySem.W.nsIn K mainGlobals "Push" = some (some (.ref (He.ga K "Push"))) := c.is 1 rfl
  have g_Web : PySem.W.nsIn K mainGlobals "Web" = some (some (.ref (He.ga K "Web"))) := c.is 2 rfl
  have g_Desk : PySem.W.nsIn K mainGlobals "Desk" = some (some (.ref (He.ga K "Desk"))) := c.is 3 rfl
  have g_BadTie : PySem.W.nsIn K mainGlobals "BadTie" = some (some (.ref (He.ga K "BadTie"))) := c.is 4 rfl
  have g_BadTurns : PySem.W.nsIn K mainGlobals "BadTurns" = some (some (.ref (He.ga K "BadTurns"))) := c.is 5 rfl
  have g_Parted : PySem.W.nsIn K mainGlobals "Parted" = some (some (.ref (He.ga K "Parted"))) := c.is 6 rfl
  have g_NotFlat : PySem.W.nsIn K mainGlobals "NotFlat" = some (some (.ref (He.ga K "NotFlat"))) := c.is 7 rfl
  have g_BadText : PySem.W.nsIn K mainGlobals "BadText" = some (some (.ref (He.ga K "BadText"))) := c.is 8 rfl
  have g_BadDeed : PySem.W.nsIn K mainGlobals "BadDeed" = some (some (.ref (He.ga K "BadDeed"))) := c.is 9 rfl
  have g_FloorError : PySem.W.nsIn K mainGlobals "FloorError" = some (some (.ref (He.ga K "FloorError"))) := c.is 10 rfl
  have r0_BadText : PySem.W.findIn K (.ref (He.ga K "BadText")) "__init__" = some (some (.ref (He.fAd K ("BadText", some "__init__")))) := c.is 11 rfl
  have ti0_BadText : PySem.W.typeIn K (.ref (He.fAd K ("BadText", some "__init__"))) = some (.type "function") := c.is 12 rfl
  obtain ⟨nm_BadText, q_BadText, N_BadText, bs_BadText, sn_BadText, su_BadText, ab_BadText, col_BadText, dd_BadText, m0_BadText, m1_BadText, m2_BadText, m3_BadText, m5_BadText, xL_BadText⟩ := excB_ok (c.fact 13 rfl)
  have sa_BadText : PySem.W.findIn K (.ref (He.ga K "BadText")) "__setattr__" = some (some (.builtin "object.__setattr__")) := c.is 14 rfl
  have na_BadText : PySem.W.findIn K (.ref (He.ga K "BadText")) "at" = some none := c.is 15 rfl
  have i0 : PySem.W.isFn K (.ref (He.fAd K ("BadText", some "__init__"))) = true := c.is 16 rfl
  have r1_Pull : PySem.W.findIn K (.ref (He.ga K "Pull")) "__init__" = some (some (.ref (He.fAd K ("Tie", some "__init__")))) := c.is 17 rfl
  have r1_Push : PySem.W.findIn K (.ref (He.ga K "Push")) "__init__" = some (some (.ref (He.fAd K ("Tie", some "__init__")))) := c.is 18 rfl
  have i1 : PySem.W.isFn K (.ref (He.fAd K ("Tie", some "__init__"))) = true := c.is 19 rfl
  have r2_Pull : PySem.W.findIn K (.ref (He.ga K "Pull")) "wish" = some (some (.ref (He.fAd K ("Pull", some "wish")))) := c.is 20 rfl
  have i2 : PySem.W.isFn K (.ref (He.fAd K ("Pull", some "wish"))) = true := c.is 21 rfl
  have r3_Push : PySem.W.findIn K (.ref (He.ga K "Push")) "wish" = some (some (.ref (He.fAd K ("Push", some "wish")))) := c.is 22 rfl
  have i3 : PySem.W.isFn K (.ref (He.fAd K ("Push", some "wish"))) = true := c.is 23 rfl
  have a4 : PySem.W.nsIn K mainGlobals "head" = some (some (.ref (He.fAd K ("head", none)))) := c.is 24 rfl
  have a5 : PySem.W.nsIn K mainGlobals "follower" = some (some (.ref (He.fAd K ("follower", none)))) := c.is 25 rfl
  have a6 : PySem.W.nsIn K mainGlobals "round_from" = some (some (.ref (He.fAd K ("round_from", none)))) := c.is 26 rfl
  have a7 : PySem.W.nsIn K mainGlobals "rounds_of" = some (some (.ref (He.fAd K ("rounds_of", none)))) := c.is 27 rfl
  have a8 : PySem.W.nsIn K mainGlobals "sides_of" = some (some (.ref (He.fAd K ("sides_of", none)))) := c.is 28 rfl
  have a9 : PySem.W.nsIn K mainGlobals "ends_are_places" = some (some (.ref (He.fAd K ("ends_are_places", none)))) := c.is 29 rfl
  have a10 : PySem.W.nsIn K mainGlobals "turns_are_right" = some (some (.ref (He.fAd K ("turns_are_right", none)))) := c.is 30 rfl
  have a11 : PySem.W.nsIn K mainGlobals "hangs_together" = some (some (.ref (He.fAd K ("hangs_together", none)))) := c.is 31 rfl
  have r12_Web : PySem.W.findIn K (.ref (He.ga K "Web")) "__init__" = some (some (.ref (He.fAd K ("Web", some "__init__")))) := c.is 32 rfl
  have i12 : PySem.W.isFn K (.ref (He.fAd K ("Web", some "__init__"))) = true := c.is 33 rfl
  have a13 : PySem.W.nsIn K mainGlobals "number_of" = some (some (.ref (He.fAd K ("number_of", none)))) := c.is 34 rfl
  have a14 : PySem.W.nsIn K mainGlobals "numbers_of" = some (some (.ref (He.fAd K ("numbers_of", none)))) := c.is 35 rfl
  have a15 : PySem.W.nsIn K mainGlobals "row_at" = some (some (.ref (He.fAd K ("row_at", none)))) := c.is 36 rfl
  have a16 : PySem.W.nsIn K mainGlobals "places_told" = some (some (.ref (He.fAd K ("places_told", none)))) := c.is 37 rfl
  have a17 : PySem.W.nsIn K mainGlobals "tie_told" = some (some (.ref (He.fAd K ("tie_told", none)))) := c.is 38 rfl
  have a18 : PySem.W.nsIn K mainGlobals "turns_told" = some (some (.ref (He.fAd K ("turns_told", none)))) := c.is 39 rfl
  have a19 : PySem.W.nsIn K mainGlobals "tie_made" = some (some (.ref (He.fAd K ("tie_made", none)))) := c.is 40 rfl
  have a20 : PySem.W.nsIn K mainGlobals "read" = some (some (.ref (He.fAd K ("read", none)))) := c.is 41 rfl
  have a21 : PySem.W.nsIn K mainGlobals "written" = some (some (.ref (He.fAd K ("written", none)))) := c.is 42 rfl
  have a22 : PySem.W.nsIn K mainGlobals "told_numbers" = some (some (.ref (He.fAd K ("told_numbers", none)))) := c.is 43 rfl
  have a23 : PySem.W.nsIn K mainGlobals "other_kind" = some (some (.ref (He.fAd K ("other_kind", none)))) := c.is 44 rfl
  have a24 : PySem.W.nsIn K mainGlobals "strung" = some (some (.ref (He.fAd K ("strung", none)))) := c.is 45 rfl
  have a25 : PySem.W.nsIn K mainGlobals "flipped" = some (some (.ref (He.fAd K ("flipped", none)))) := c.is 46 rfl
  have r26_Desk : PySem.W.findIn K (.ref (He.ga K "Desk")) "__init__" = some (some (.ref (He.fAd K ("Desk", some "__init__")))) := c.is 47 rfl
  have i26 : PySem.W.isFn K (.ref (He.fAd K ("Desk", some "__init__"))) = true := c.is 48 rfl
  have r27_Desk : PySem.W.findIn K (.ref (He.ga K "Desk")) "turn_to" = some (some (.ref (He.fAd K ("Desk", some "turn_to")))) := c.is 49 rfl
  have i27 : PySem.W.isFn K (.ref (He.fAd K ("Desk", some "turn_to"))) = true := c.is 50 rfl
  have r28_Desk : PySem.W.findIn K (.ref (He.ga K "Desk")) "do" = some (some (.ref (He.fAd K ("Desk", some "do")))) := c.is 51 rfl
  have i28 : PySem.W.isFn K (.ref (He.fAd K ("Desk", some "do"))) = true := c.is 52 rfl
  have r29_Desk : PySem.W.findIn K (.ref (He.ga K "Desk")) "left" = some (some (.ref (He.fAd K ("Desk", some "left")))) := c.is 53 rfl
  have i29 : PySem.W.isFn K (.ref (He.fAd K ("Desk", some "left"))) = true := c.is 54 rfl
  have r30_Desk : PySem.W.findIn K (.ref (He.ga K "Desk")) "text" = some (some (.ref (He.fAd K ("Desk", some "text")))) := c.is 55 rfl
  have i30 : PySem.W.isFn K (.ref (He.fAd K ("Desk", some "text"))) = true := c.is 56 rfl
  have a31 : PySem.W.nsIn K mainGlobals "_law_cell" = some (some (.ref (He.fAd K ("_law_cell", none)))) := c.is 57 rfl
  have a32 : PySem.W.nsIn K mainGlobals "_law_head" = some (some (.ref (He.fAd K ("_law_head", none)))) := c.is 58 rfl
  have a33 : PySem.W.nsIn K mainGlobals "_law_behind" = some (some (.ref (He.fAd K ("_law_behind", none)))) := c.is 59 rfl
  have a34 : PySem.W.nsIn K mainGlobals "_law_round" = some (some (.ref (He.fAd K ("_law_round", none)))) := c.is 60 rfl
  have a35 : PySem.W.nsIn K mainGlobals "_law_grown" = some (some (.ref (He.fAd K ("_law_grown", none)))) := c.is 61 rfl
  have a36 : PySem.W.nsIn K mainGlobals "_law_order" = some (some (.ref (He.fAd K ("_law_order", none)))) := c.is 62 rfl
  have a37 : PySem.W.nsIn K mainGlobals "_law_renumbered" = some (some (.ref (He.fAd K ("_law_renumbered", none)))) := c.is 63 rfl
  have a38 : PySem.W.nsIn K mainGlobals "_law_built" = some (some (.ref (He.fAd K ("_law_built", none)))) := c.is 64 rfl
  have a39 : PySem.W.nsIn K mainGlobals "_law_web_text" = some (some (.ref (He.fAd K ("_law_web_text", none)))) := c.is 65 rfl
  have a40 : PySem.W.nsIn K mainGlobals "_law_word" = some (some (.ref (He.fAd K ("_law_word", none)))) := c.is 66 rfl
  have a41 : PySem.W.nsIn K mainGlobals "_law_deed_row" = some (some (.ref (He.fAd K ("_law_deed_row", none)))) := c.is 67 rfl
  have a42 : PySem.W.nsIn K mainGlobals "_law_numbers" = some (some (.ref (He.fAd K ("_law_numbers", none)))) := c.is 68 rfl
  have a43 : PySem.W.nsIn K mainGlobals "_law_due" = some (some (.ref (He.fAd K ("_law_due", none)))) := c.is 69 rfl
  have a44 : PySem.W.nsIn K mainGlobals "_law_refused" = some (some (.ref (He.fAd K ("_law_refused", none)))) := c.is 70 rfl
  have a45 : PySem.W.nsIn K mainGlobals "_law_no_desk" = some (some (.ref (He.fAd K ("_law_no_desk", none)))) := c.is 71 rfl
  have a46 : PySem.W.nsIn K mainGlobals "law" = some (some (.ref (He.fAd K ("law", none)))) := c.is 72 rfl
  have z_len : PySem.W.nsIn K mainGlobals "len" = some none := c.is 73 rfl
  have z_range : PySem.W.nsIn K mainGlobals "range" = some none := c.is 74 rfl
  have z_enumerate : PySem.W.nsIn K mainGlobals "enumerate" = some none := c.is 75 rfl
  have z_sorted : PySem.W.nsIn K mainGlobals "sorted" = some none := c.is 76 rfl
  have z_all : PySem.W.nsIn K mainGlobals "all" = some none := c.is 77 rfl
  have z_list : PySem.W.nsIn K mainGlobals "list" = some none := c.is 78 rfl
  have z_int : PySem.W.nsIn K mainGlobals "int" = some none := c.is 79 rfl
  have z_str : PySem.W.nsIn K mainGlobals "str" = some none := c.is 80 rfl
  have z_min : PySem.W.nsIn K mainGlobals "min" = some none := c.is 81 rfl
  have z_isinstance : PySem.W.nsIn K mainGlobals "isinstance" = some none := c.is 82 rfl
  have z_ValueError : PySem.W.nsIn K mainGlobals "ValueError" = some none := c.is 83 rfl
  have pg_Pull : PySem.W.plainGet K (He.ga K "Pull") Str.empty = true := c.is 84 rfl
  have hd_Pull : PySem.W.hasDictIn K (He.ga K "Pull") = true := c.is 85 rfl
  have po_Pull : PySem.W.plainOver K (He.ga K "Pull") = true := c.is 86 rfl
  have sa_Pull : PySem.W.findIn K (.ref (He.ga K "Pull")) "__setattr__" = some (some (.builtin "object.__setattr__")) := c.is 87 rfl
  have mk_Pull : PySem.W.makesIn K (He.ga K "Pull") = true := c.is 88 rfl
  have kp_Pull : PySem.W.keepIn K (.ref (He.ga K "Pull")) = true := c.is 89 rfl
  have n_Pull_one : PySem.W.findIn K (.ref (He.ga K "Pull")) "one" = some none := c.is 90 rfl
  have n_Pull_two : PySem.W.findIn K (.ref (He.ga K "Pull")) "two" = some none := c.is 91 rfl
  have n_Pull_strength : PySem.W.findIn K (.ref (He.ga K "Pull")) "strength" = some none := c.is 92 rfl
  have pg_Push : PySem.W.plainGet K (He.ga K "Push") Str.empty = true := c.is 93 rfl
  have hd_Push : PySem.W.hasDictIn K (He.ga K "Push") = true := c.is 94 rfl
  have po_Push : PySem.W.plainOver K (He.ga K "Push") = true := c.is 95 rfl
  have sa_Push : PySem.W.findIn K (.ref (He.ga K "Push")) "__setattr__" = some (some (.builtin "object.__setattr__")) := c.is 96 rfl
  have mk_Push : PySem.W.makesIn K (He.ga K "Push") = true := c.is 97 rfl
  have kp_Push : PySem.W.keepIn K (.ref (He.ga K "Push")) = true := c.is 98 rfl
  have n_Push_one : PySem.W.findIn K (.ref (He.ga K "Push")) "one" = some none := c.is 99 rfl
  have n_Push_two : PySem.W.findIn K (.ref (He.ga K "Push")) "two" = some none := c.is 100 rfl
  have n_Push_strength : PySem.W.findIn K (.ref (He.ga K "Push")) "strength" = some none := c.is 101 rfl
  have pg_Web : PySem.W.plainGet K (He.ga K "Web") Str.empty = true := c.is 102 rfl
  have hd_Web : PySem.W.hasDictIn K (He.ga K "Web") = true := c.is 103 rfl
  have po_Web : PySem.W.plainOver K (He.ga K "Web") = true := c.is 104 rfl
  have sa_Web : PySem.W.findIn K (.ref (He.ga K "Web")) "__setattr__" = some (some (.builtin "object.__setattr__")) := c.is 105 rfl
  have mk_Web : PySem.W.makesIn K (He.ga K "Web") = true := c.is 106 rfl
  have kp_Web : PySem.W.keepIn K (.ref (He.ga K "Web")) = true := c.is 107 rfl
  have n_Web_many : PySem.W.findIn K (.ref (He.ga K "Web")) "many" = some none := c.is 108 rfl
  have n_Web_ties : PySem.W.findIn K (.ref (He.ga K "Web")) "ties" = some none := c.is 109 rfl
  have n_Web_turns : PySem.W.findIn K (.ref (He.ga K "Web")) "turns" = some none := c.is 110 rfl
  have n_Web_rounds : PySem.W.findIn K (.ref (He.ga K "Web")) "rounds" = some none := c.is 111 rfl
  have n_Web_sides : PySem.W.findIn K (.ref (He.ga K "Web")) "sides" = some none := c.is 112 rfl
  have pg_Desk : PySem.W.plainGet K (He.ga K "Desk") Str.empty = true := c.is 113 rfl
  have hd_Desk : PySem.W.hasDictIn K (He.ga K "Desk") = true := c.is 114 rfl
  have po_Desk : PySem.W.plainOver K (He.ga K "Desk") = true := c.is 115 rfl
  have sa_Desk : PySem.W.findIn K (.ref (He.ga K "Desk")) "__setattr__" = some (some (.builtin "object.__setattr__")) := c.is 116 rfl
  have mk_Desk : PySem.W.makesIn K (He.ga K "Desk") = true := c.is 117 rfl
  have kp_Desk : PySem.W.keepIn K (.ref (He.ga K "Desk")) = true := c.is 118 rfl
  have n_Desk_web : PySem.W.findIn K (.ref (He.ga K "Desk")) "web" = some none := c.is 119 rfl
  have n_Desk_former : PySem.W.findIn K (.ref (He.ga K "Desk")) "former" = some none := c.is 120 rfl
  obtain ⟨t_MOST_FIGURES_texts, kk_MOST_FIGURES_texts⟩ := intK_ok (c.fact 121 rfl)
  obtain ⟨t_FIGURES_texts, kk_FIGURES_texts⟩ := strK_ok (c.fact 122 rfl)
  obtain ⟨t_MOST_PLACES, kk_MOST_PLACES⟩ := intK_ok (c.fact 123 rfl)
  obtain ⟨t_MOST_STRENGTH_texts, kk_MOST_STRENGTH_texts⟩ := intK_ok (c.fact 124 rfl)
  obtain ⟨t_MOST_TIES, kk_MOST_TIES⟩ := intK_ok (c.fact 125 rfl)
  obtain ⟨t_MOST_FIGURES_desk, kk_MOST_FIGURES_desk⟩ := intK_ok (c.fact 126 rfl)
  obtain ⟨t_FIGURES_desk, kk_FIGURES_desk⟩ := strK_ok (c.fact 127 rfl)
  obtain ⟨t_MOST_STRENGTH_desk, kk_MOST_STRENGTH_desk⟩ := intK_ok (c.fact 128 rfl)
  have x_og : PySem.W.specialIn K (.builtin "object.__class__") "__get__" = some (some (.builtin "getset_descriptor.__get__")) := c.is 129 rfl
  have x_ot : PySem.W.takesIn K (.builtin "object.__class__") = some true := c.is 130 rfl
  have x_kp_BadTie : PySem.W.keepIn K (.ref (He.ga K "BadTie")) = true := c.is 131 rfl
  have x_be_BadTie : PySem.W.subIn K (.ref (He.ga K "BadTie")) (.type "BaseException") = some true := c.is 132 rfl
  have x_ty_BadTie : PySem.W.typeIn K (.ref (He.ga K "BadTie")) = some (.type "type") := c.is 133 rfl
  have x_cl_BadTie : PySem.W.isClsIn K (He.ga K "BadTie") = true := c.is 134 rfl
  have x_hd_BadTie : PySem.W.hasDictIn K (He.ga K "BadTie") = true := c.is 135 rfl
  have x_ga_BadTie : PySem.W.findIn K (.ref (He.ga K "BadTie")) "__getattribute__" = some (some (.builtin "BaseException.__getattribute__")) := c.is 136 rfl
  have x_gg_BadTie : PySem.W.findIn K (.ref (He.ga K "BadTie")) "__getattr__" = some none := c.is 137 rfl
  have x_oc_BadTie : PySem.W.findIn K (.ref (He.ga K "BadTie")) "__class__" = some (some (.builtin "object.__class__")) := c.is 138 rfl
  have x_om_BadTie : PySem.W.mroIn K (He.ga K "BadTie") (.type "object") = some true := c.is 139 rfl
  have x_sv_BadTie : PySem.W.subIn K (.ref (He.ga K "BadTie")) (.type "ValueError") = some true := c.is 140 rfl
  have x_sb_BadTie_BadTie : PySem.W.subIn K (.ref (He.ga K "BadTie")) (.ref (He.ga K "BadTie")) = some true := c.is 141 rfl
  have x_kp_BadTurns : PySem.W.keepIn K (.ref (He.ga K "BadTurns")) = true := c.is 142 rfl
  have x_be_BadTurns : PySem.W.subIn K (.ref (He.ga K "BadTurns")) (.type "BaseException") = some true := c.is 143 rfl
  have x_ty_BadTurns : PySem.W.typeIn K (.ref (He.ga K "BadTurns")) = some (.type "type") := c.is 144 rfl
  have x_cl_BadTurns : PySem.W.isClsIn K (He.ga K "BadTurns") = true := c.is 145 rfl
  have x_hd_BadTurns : PySem.W.hasDictIn K (He.ga K "BadTurns") = true := c.is 146 rfl
  have x_ga_BadTurns : PySem.W.findIn K (.ref (He.ga K "BadTurns")) "__getattribute__" = some (some (.builtin "BaseException.__getattribute__")) := c.is 147 rfl
  have x_gg_BadTurns : PySem.W.findIn K (.ref (He.ga K "BadTurns")) "__getattr__" = some none := c.is 148 rfl
  have x_oc_BadTurns : PySem.W.findIn K (.ref (He.ga K "BadTurns")) "__class__" = some (some (.builtin "object.__class__")) := c.is 149 rfl
  have x_om_BadTurns : PySem.W.mroIn K (He.ga K "BadTurns") (.type "object") = some true := c.is 150 rfl
  have x_sv_BadTurns : PySem.W.subIn K (.ref (He.ga K "BadTurns")) (.type "ValueError") = some true := c.is 151 rfl
  have x_sb_BadTurns_BadTurns : PySem.W.subIn K (.ref (He.ga K "BadTurns")) (.ref (He.ga K "BadTurns")) = some true := c.is 152 rfl
  have x_kp_Parted : PySem.W.keepIn K (.ref (He.ga K "Parted")) = true := c.is 153 rfl
  have x_be_Parted : PySem.W.subIn K (.ref (He.ga K "Parted")) (.type "BaseException") = some true := c.is 154 rfl
  have x_ty_Parted : PySem.W.typeIn K (.ref (He.ga K "Parted")) = some (.type "type") := c.is 155 rfl
  have x_cl_Parted : PySem.W.isClsIn K (He.ga K "Parted") = true := c.is 156 rfl
  have x_hd_Parted : PySem.W.hasDictIn K (He.ga K "Parted") = true := c.is 157 rfl
  have x_ga_Parted : PySem.W.findIn K (.ref (He.ga K "Parted")) "__getattribute__" = some (some (.builtin "BaseException.__getattribute__")) := c.is 158 rfl
  have x_gg_Parted : PySem.W.findIn K (.ref (He.ga K "Parted")) "__getattr__" = some none := c.is 159 rfl
  have x_oc_Parted : PySem.W.findIn K (.ref (He.ga K "Parted")) "__class__" = some (some (.builtin "object.__class__")) := c.is 160 rfl
  have x_om_Parted : PySem.W.mroIn K (He.ga K "Parted") (.type "object") = some true := c.is 161 rfl
  have x_sv_Parted : PySem.W.subIn K (.ref (He.ga K "Parted")) (.type "ValueError") = some true := c.is 162 rfl
  have x_sb_Parted_Parted : PySem.W.subIn K (.ref (He.ga K "Parted")) (.ref (He.ga K "Parted")) = some true := c.is 163 rfl
  have x_kp_NotFlat : PySem.W.keepIn K (.ref (He.ga K "NotFlat")) = true := c.is 164 rfl
  have x_be_NotFlat : PySem.W.subIn K (.ref (He.ga K "NotFlat")) (.type "BaseException") = some true := c.is 165 rfl
  have x_ty_NotFlat : PySem.W.typeIn K (.ref (He.ga K "NotFlat")) = some (.type "type") := c.is 166 rfl
  have x_cl_NotFlat : PySem.W.isClsIn K (He.ga K "NotFlat") = true := c.is 167 rfl
  have x_hd_NotFlat : PySem.W.hasDictIn K (He.ga K "NotFlat") = true := c.is 168 rfl
  have x_ga_NotFlat : PySem.W.findIn K (.ref (He.ga K "NotFlat")) "__getattribute__" = some (some (.builtin "BaseException.__getattribute__")) := c.is 169 rfl
  have x_gg_NotFlat : PySem.W.findIn K (.ref (He.ga K "NotFlat")) "__getattr__" = some none := c.is 170 rfl
  have x_oc_NotFlat : PySem.W.findIn K (.ref (He.ga K "NotFlat")) "__class__" = some (some (.builtin "object.__class__")) := c.is 171 rfl
  have x_om_NotFlat : PySem.W.mroIn K (He.ga K "NotFlat") (.type "object") = some true := c.is 172 rfl
  have x_sv_NotFlat : PySem.W.subIn K (.ref (He.ga K "NotFlat")) (.type "ValueError") = some true := c.is 173 rfl
  have x_sb_NotFlat_NotFlat : PySem.W.subIn K (.ref (He.ga K "NotFlat")) (.ref (He.ga K "NotFlat")) = some true := c.is 174 rfl
  have x_kp_BadText : PySem.W.keepIn K (.ref (He.ga K "BadText")) = true := c.is 175 rfl
  have x_be_BadText : PySem.W.subIn K (.ref (He.ga K "BadText")) (.type "BaseException") = some true := c.is 176 rfl
  have x_ty_BadText : PySem.W.typeIn K (.ref (He.ga K "BadText")) = some (.type "type") := c.is 177 rfl
  have x_cl_BadText : PySem.W.isClsIn K (He.ga K "BadText") = true := c.is 178 rfl
  have x_hd_BadText : PySem.W.hasDictIn K (He.ga K "BadText") = true := c.is 179 rfl
  have x_ga_BadText : PySem.W.findIn K (.ref (He.ga K "BadText")) "__getattribute__" = some (some (.builtin "BaseException.__getattribute__")) := c.is 180 rfl
  have x_gg_BadText : PySem.W.findIn K (.ref (He.ga K "BadText")) "__getattr__" = some none := c.is 181 rfl
  have x_oc_BadText : PySem.W.findIn K (.ref (He.ga K "BadText")) "__class__" = some (some (.builtin "object.__class__")) := c.is 182 rfl
  have x_om_BadText : PySem.W.mroIn K (He.ga K "BadText") (.type "object") = some true := c.is 183 rfl
  have x_sv_BadText : PySem.W.subIn K (.ref (He.ga K "BadText")) (.type "ValueError") = some true := c.is 184 rfl
  have x_sb_BadText_BadText : PySem.W.subIn K (.ref (He.ga K "BadText")) (.ref (He.ga K "BadText")) = some true := c.is 185 rfl
  have x_kp_BadDeed : PySem.W.keepIn K (.ref (He.ga K "BadDeed")) = true := c.is 186 rfl
  have x_be_BadDeed : PySem.W.subIn K (.ref (He.ga K "BadDeed")) (.type "BaseException") = some true := c.is 187 rfl
  have x_ty_BadDeed : PySem.W.typeIn K (.ref (He.ga K "BadDeed")) = some (.type "type") := c.is 188 rfl
  have x_cl_BadDeed : PySem.W.isClsIn K (He.ga K "BadDeed") = true := c.is 189 rfl
  have x_hd_BadDeed : PySem.W.hasDictIn K (He.ga K "BadDeed") = true := c.is 190 rfl
  have x_ga_BadDeed : PySem.W.findIn K (.ref (He.ga K "BadDeed")) "__getattribute__" = some (some (.builtin "BaseException.__getattribute__")) := c.is 191 rfl
  have x_gg_BadDeed : PySem.W.findIn K (.ref (He.ga K "BadDeed")) "__getattr__" = some none := c.is 192 rfl
  have x_oc_BadDeed : PySem.W.findIn K (.ref (He.ga K "BadDeed")) "__class__" = some (some (.builtin "object.__class__")) := c.is 193 rfl
  have x_om_BadDeed : PySem.W.mroIn K (He.ga K "BadDeed") (.type "object") = some true := c.is 194 rfl
  have x_sv_BadDeed : PySem.W.subIn K (.ref (He.ga K "BadDeed")) (.type "ValueError") = some true := c.is 195 rfl
  have x_sb_BadDeed_BadDeed : PySem.W.subIn K (.ref (He.ga K "BadDeed")) (.ref (He.ga K "BadDeed")) = some true := c.is 196 rfl
  have x_kp_FloorError : PySem.W.keepIn K (.ref (He.ga K "FloorError")) = true := c.is 197 rfl
  have x_be_FloorError : PySem.W.subIn K (.ref (He.ga K "FloorError")) (.type "BaseException") = some true := c.is 198 rfl
  have x_ty_FloorError : PySem.W.typeIn K (.ref (He.ga K "FloorError")) = some (.type "type") := c.is 199 rfl
  have x_cl_FloorError : PySem.W.isClsIn K (He.ga K "FloorError") = true := c.is 200 rfl
  have x_hd_FloorError : PySem.W.hasDictIn K (He.ga K "FloorError") = true := c.is 201 rfl
  have x_ga_FloorError : PySem.W.findIn K (.ref (He.ga K "FloorError")) "__getattribute__" = some (some (.builtin "BaseException.__getattribute__")) := c.is 202 rfl
  have x_gg_FloorError : PySem.W.findIn K (.ref (He.ga K "FloorError")) "__getattr__" = some none := c.is 203 rfl
  have x_oc_FloorError : PySem.W.findIn K (.ref (He.ga K "FloorError")) "__class__" = some (some (.builtin "object.__class__")) := c.is 204 rfl
  have x_om_FloorError : PySem.W.mroIn K (He.ga K "FloorError") (.type "object") = some true := c.is 205 rfl
  have x_sv_FloorError : PySem.W.subIn K (.ref (He.ga K "FloorError")) (.type "ValueError") = some true := c.is 206 rfl
  have x_sb_FloorError_FloorError : PySem.W.subIn K (.ref (He.ga K "FloorError")) (.ref (He.ga K "FloorError")) = some true := c.is 207 rfl
  have x_xn_BadTie : PySem.W.excIn K (He.ga K "BadTie") [.type "ValueError", .type "Exception", .type "BaseException", .type "object"] "ValueError.__new__" = true := c.is 208 rfl
  have x_sb_BadTie_BadDeed : PySem.W.subIn K (.ref (He.ga K "BadTie")) (.ref (He.ga K "BadDeed")) = some false := c.is 209 rfl
  have x_sb_BadTie_FloorError : PySem.W.subIn K (.ref (He.ga K "BadTie")) (.ref (He.ga K "FloorError")) = some true := c.is 210 rfl
  have x_sb_BadTie_BadText : PySem.W.subIn K (.ref (He.ga K "BadTie")) (.ref (He.ga K "BadText")) = some false := c.is 211 rfl
  have x_sb_BadTie_NotFlat : PySem.W.subIn K (.ref (He.ga K "BadTie")) (.ref (He.ga K "NotFlat")) = some false := c.is 212 rfl
  have x_xn_BadTurns : PySem.W.excIn K (He.ga K "BadTurns") [.type "ValueError", .type "Exception", .type "BaseException", .type "object"] "ValueError.__new__" = true := c.is 213 rfl
  have x_sb_BadTurns_BadDeed : PySem.W.subIn K (.ref (He.ga K "BadTurns")) (.ref (He.ga K "BadDeed")) = some false := c.is 214 rfl
  have x_sb_BadTurns_FloorError : PySem.W.subIn K (.ref (He.ga K "BadTurns")) (.ref (He.ga K "FloorError")) = some true := c.is 215 rfl
  have x_sb_BadTurns_BadText : PySem.W.subIn K (.ref (He.ga K "BadTurns")) (.ref (He.ga K "BadText")) = some false := c.is 216 rfl
  have x_sb_BadTurns_NotFlat : PySem.W.subIn K (.ref (He.ga K "BadTurns")) (.ref (He.ga K "NotFlat")) = some false := c.is 217 rfl
  have x_xn_Parted : PySem.W.excIn K (He.ga K "Parted") [.type "ValueError", .type "Exception", .type "BaseException", .type "object"] "ValueError.__new__" = true := c.is 218 rfl
  have x_sb_Parted_BadDeed : PySem.W.subIn K (.ref (He.ga K "Parted")) (.ref (He.ga K "BadDeed")) = some false := c.is 219 rfl
  have x_sb_Parted_FloorError : PySem.W.subIn K (.ref (He.ga K "Parted")) (.ref (He.ga K "FloorError")) = some true := c.is 220 rfl
  have x_sb_Parted_BadText : PySem.W.subIn K (.ref (He.ga K "Parted")) (.ref (He.ga K "BadText")) = some false := c.is 221 rfl
  have x_sb_Parted_NotFlat : PySem.W.subIn K (.ref (He.ga K "Parted")) (.ref (He.ga K "NotFlat")) = some false := c.is 222 rfl
  have x_xn_NotFlat : PySem.W.excIn K (He.ga K "NotFlat") [.type "ValueError", .type "Exception", .type "BaseException", .type "object"] "ValueError.__new__" = true := c.is 223 rfl
  have x_sb_NotFlat_BadDeed : PySem.W.subIn K (.ref (He.ga K "NotFlat")) (.ref (He.ga K "BadDeed")) = some false := c.is 224 rfl
  have x_sb_NotFlat_FloorError : PySem.W.subIn K (.ref (He.ga K "NotFlat")) (.ref (He.ga K "FloorError")) = some true := c.is 225 rfl
  have x_sb_NotFlat_BadText : PySem.W.subIn K (.ref (He.ga K "NotFlat")) (.ref (He.ga K "BadText")) = some false := c.is 226 rfl
  have x_sb_BadText_BadDeed : PySem.W.subIn K (.ref (He.ga K "BadText")) (.ref (He.ga K "BadDeed")) = some false := c.is 227 rfl
  have x_sb_BadText_FloorError : PySem.W.subIn K (.ref (He.ga K "BadText")) (.ref (He.ga K "FloorError")) = some true := c.is 228 rfl
  have x_sb_BadText_NotFlat : PySem.W.subIn K (.ref (He.ga K "BadText")) (.ref (He.ga K "NotFlat")) = some false := c.is 229 rfl
  have x_xn_BadDeed : PySem.W.excIn K (He.ga K "BadDeed") [.type "ValueError", .type "Exception", .type "BaseException", .type "object"] "ValueError.__new__" = true := c.is 230 rfl
  have x_sb_BadDeed_FloorError : PySem.W.subIn K (.ref (He.ga K "BadDeed")) (.ref (He.ga K "FloorError")) = some true := c.is 231 rfl
  have x_sb_BadDeed_BadText : PySem.W.subIn K (.ref (He.ga K "BadDeed")) (.ref (He.ga K "BadText")) = some false := c.is 232 rfl
  have x_sb_BadDeed_NotFlat : PySem.W.subIn K (.ref (He.ga K "BadDeed")) (.ref (He.ga K "NotFlat")) = some false := c.is 233 rfl
  exact all_mk X G hfa g_Pull g_Push g_Web g_Desk g_BadTie g_BadTurns g_Parted g_NotFlat g_BadText g_BadDeed g_FloorError r0_BadText ti0_BadText xL_BadText sa_BadText na_BadText i0 l0 c0 k0 r1_Pull r1_Push i1 l1 c1 k1 r2_Pull i2 l2 c2 k2 r3_Push i3 l3 c3 k3 a4 l4 c4 k4 a5 l5 c5 k5 a6 l6 c6 k6 a7 l7 c7 k7 a8 l8 c8 k8 a9 l9 c9 k9 a10 l10 c10 k10 a11 l11 c11 k11 r12_Web i12 l12 c12 k12 a13 l13 c13 k13 a14 l14 c14 k14 a15 l15 c15 k15 a16 l16 c16 k16 a17 l17 c17 k17 a18 l18 c18 k18 a19 l19 c19 k19 a20 l20 c20 k20 a21 l21 c21 k21 a22 l22 c22 k22 a23 l23 c23 k23 a24 l24 c24 k24 a25 l25 c25 k25 r26_Desk i26 l26 c26 k26 r27_Desk i27 l27 c27 k27 r28_Desk i28 l28 c28 k28 r29_Desk i29 l29 c29 k29 r30_Desk i30 l30 c30 k30 a31 l31 c31 k31 a32 l32 c32 k32 a33 l33 c33 k33 a34 l34 c34 k34 a35 l35 c35 k35 a36 l36 c36 k36 a37 l37 c37 k37 a38 l38 c38 k38 a39 l39 c39 k39 a40 l40 c40 k40 a41 l41 c41 k41 a42 l42 c42 k42 a43 l43 c43 k43 a44 l44 c44 k44 a45 l45 c45 k45 a46 l46 c46 k46 z_len z_range z_enumerate z_sorted z_all z_list z_int z_str z_min z_isinstance z_ValueError pg_Pull hd_Pull po_Pull sa_Pull mk_Pull kp_Pull n_Pull_one n_Pull_two n_Pull_strength pg_Push hd_Push po_Push sa_Push mk_Push kp_Push n_Push_one n_Push_two n_Push_strength pg_Web hd_Web po_Web sa_Web mk_Web kp_Web n_Web_many n_Web_ties n_Web_turns n_Web_rounds n_Web_sides pg_Desk hd_Desk po_Desk sa_Desk mk_Desk kp_Desk n_Desk_web n_Desk_former kk_MOST_FIGURES_texts kk_FIGURES_texts kk_MOST_PLACES kk_MOST_STRENGTH_texts kk_MOST_TIES kk_MOST_FIGURES_desk kk_FIGURES_desk kk_MOST_STRENGTH_desk x_og x_ot x_kp_BadTie x_be_BadTie x_ty_BadTie x_cl_BadTie x_hd_BadTie x_ga_BadTie x_gg_BadTie x_oc_BadTie x_om_BadTie x_sv_BadTie x_sb_BadTie_BadTie x_kp_BadTurns x_be_BadTurns x_ty_BadTurns x_cl_BadTurns x_hd_BadTurns x_ga_BadTurns x_gg_BadTurns x_oc_BadTurns x_om_BadTurns x_sv_BadTurns x_sb_BadTurns_BadTurns x_kp_Parted x_be_Parted x_ty_Parted x_cl_Parted x_hd_Parted x_ga_Parted x_gg_Parted x_oc_Parted x_om_Parted x_sv_Parted x_sb_Parted_Parted x_kp_NotFlat x_be_NotFlat x_ty_NotFlat x_cl_NotFlat x_hd_NotFlat x_ga_NotFlat x_gg_NotFlat x_oc_NotFlat x_om_NotFlat x_sv_NotFlat x_sb_NotFlat_NotFlat x_kp_BadText x_be_BadText x_ty_BadText x_cl_BadText x_hd_BadText x_ga_BadText x_gg_BadText x_oc_BadText x_om_BadText x_sv_BadText x_sb_BadText_BadText x_kp_BadDeed x_be_BadDeed x_ty_BadDeed x_cl_BadDeed x_hd_BadDeed x_ga_BadDeed x_gg_BadDeed x_oc_BadDeed x_om_BadDeed x_sv_BadDeed x_sb_BadDeed_BadDeed x_kp_FloorError x_be_FloorError x_ty_FloorError x_cl_FloorError x_hd_FloorError x_ga_FloorError x_gg_FloorError x_oc_FloorError x_om_FloorError x_sv_FloorError x_sb_FloorError_FloorError x_xn_BadTie x_sb_BadTie_BadDeed x_sb_BadTie_FloorError x_sb_BadTie_BadText x_sb_BadTie_NotFlat x_xn_BadTurns x_sb_BadTurns_BadDeed x_sb_BadTurns_FloorError x_sb_BadTurns_BadText x_sb_BadTurns_NotFlat x_xn_Parted x_sb_Parted_BadDeed x_sb_Parted_FloorError x_sb_Parted_BadText x_sb_Parted_NotFlat x_xn_NotFlat x_sb_NotFlat_BadDeed x_sb_NotFlat_FloorError x_sb_NotFlat_BadText x_sb_BadText_BadDeed x_sb_BadText_FloorError x_sb_BadText_NotFlat x_xn_BadDeed x_sb_BadDeed_FloorError x_sb_BadDeed_BadText x_sb_BadDeed_NotFlat
end Sf
open PySem PySem.W PySem.Calls PyProof.Rows
set_option maxRecDepth 100000 in
set_option maxHeartbeats 0 in
theorem PySem.Challenge.cw_spinfloor_k64_deeds_refused_holds : PySem.Challenge.rw_spinfloor_k64_deeds_refused.Holds := by
  refine Sf.headQ ?_
  refine Sf.walk_ofK (l := PySem.Challenge.rw_spinfloor_k64_deeds_refused) (n := 63) (k := 11) (sp := Sf.spLaw) rfl (by decide) (by kernel_rfl) ⟨rfl, by decide, by decide⟩ ?F (fun _ _ a ns hl hb hS => ⟨a, ns, rfl, hS, hl, hb, fun _ => rfl⟩)
  intro w mg fa h Y G hmg0
  obtain ⟨K, KX, c⟩ := Y
  have hmg : mg ("law" : PySem.Str) = some (.ref fa) := by
    have e : (HandSHeadRun.topDef (PySem.W.OpenLaw.row PySem.Challenge.rw_spinfloor_k64_deeds_refused).prog 64).name = ("law" : PySem.Str) := by kernel_rfl
    rw [← e]
    exact hmg0
  exact ⟨K, KX, Sf.factsQ (l := PySem.Challenge.rw_spinfloor_k64_deeds_refused) KX G hmg c⟩

