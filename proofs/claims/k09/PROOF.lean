
import PyProof.Rows.All
import Wide.All
import OpenK.AllK
import Wide.FinOn
import HandS.ForMost
import HandS.Wide
import HandS.WideBits
import HandS.IsInst
import HandS.More
import HandS.EndBits
import HandS.SortInts
import KE.SortData
import HandS.TupLe
import HandS.Exc
import HandS.ExcOwn
import HandS.WordsExc
import HandS.ExcInit
import HandS.ExcField
import HandS.ExcIs
import HandS.TryOnly
import HandS.Small
import KE.KExcIs
import HandS.SetFor
import HandS.Replace
import PyProof.StrBlock2
import KE.DataMinMax
import HandS.Rev
import HandS.RevTup
import HandS.Conv
import KE.KStateDown
import HandS.Defaults
import HandS.Head0
import HandS.Head1
import HandS.Head2
import HandS.HeadHook1
import HandS.HeadHook2
import PySem.Challenge.RW_spinfloor_k09_whole_flat_webs
set_option Elab.async false
set_option linter.all false
set_option pp.deepTerms false
set_option pp.deepTerms.threshold 4
set_option maxRecDepth 100000
set_option maxHeartbeats 2000000
namespace Sf
open PySem PySem.Spec PyProof.Rows L2

/-! ### lists as sets -/
theorem perm_of_nodup {α : Type} [DecidableEq α] {xs ys : List α} (hx : xs.Nodup) (hy : ys.Nodup) (h : ∀ a, a ∈ xs ↔ a ∈ ys) : xs.Perm ys := by
  rw [List.perm_iff_count]
  intro a
  rw [List.Nodup.count hx, List.Nodup.count hy]
  by_cases e : a ∈ xs
  · rw [if_pos e, if_pos ((h a).mp e)]
  · rw [if_neg e, if_neg (fun z => e ((h a).mpr z))]
theorem len_of_nodup {α : Type} [DecidableEq α] {xs ys : List α} (hx : xs.Nodup) (hy : ys.Nodup) (h : ∀ a, a ∈ xs ↔ a ∈ ys) : xs.length = ys.length := (perm_of_nodup hx hy h).length_eq
theorem nodup_sub_len {α : Type} [DecidableEq α] : ∀ {xs ys : List α}, xs.Nodup → (∀ a ∈ xs, a ∈ ys) → xs.length ≤ ys.length
  | [], _, _, _ => Nat.zero_le _
  | x :: xs, ys, hx, h => by
    have hx' := List.nodup_cons.mp hx
    have ih := nodup_sub_len (ys := ys.erase x) hx'.2 fun a ha => by
      have : a ≠ x := fun e => hx'.1 (e ▸ ha)
      exact (List.mem_erase_of_ne this).mpr (h a (List.mem_cons_of_mem _ ha))
    have hm := h x List.mem_cons_self
    have := List.length_erase_of_mem hm
    have hp : 0 < ys.length := List.length_pos_of_mem hm
    rw [List.length_cons]
    omega
/-- as many as there are: all -/
theorem nodup_full {α : Type} [DecidableEq α] {xs ys : List α} (hx : xs.Nodup) (hs : ∀ a ∈ xs, a ∈ ys) (hl : ys.length ≤ xs.length) : ∀ a ∈ ys, a ∈ xs := fun a ha => by
  by_cases e : a ∈ xs
  · exact e
  · have : (a :: xs).Nodup := List.nodup_cons.mpr ⟨e, hx⟩
    have h2 := nodup_sub_len this (fun b hb => by rcases List.mem_cons.mp hb with r | r; exact r ▸ ha; exact hs b r)
    rw [List.length_cons] at h2
    omega
/-! ### the next one in a list that goes round -/

def nxt (r : List Nat) (x : Nat) : Nat := r.getD ((r.idxOf x + 1) % r.length) 0
theorem idx_at {r : List Nat} (h : r.Nodup) {i x : Nat} (e : r[i]? = some x) : r.idxOf x = i := by
  obtain ⟨hi, rfl⟩ := List.getElem?_eq_some_iff.mp e
  exact h.idxOf_getElem i hi
theorem nxt_at {r : List Nat} (h : r.Nodup) {i x y : Nat} (e : r[i]? = some x) (e2 : r[(i + 1) % r.length]? = some y) : nxt r x = y := by
  unfold nxt
  rw [idx_at h e, List.getD_eq_getElem?_getD, e2]
  rfl
theorem nxt_mem {r : List Nat} {x : Nat} (h : x ∈ r) : nxt r x ∈ r := by
  unfold nxt
  have hl : 0 < r.length := List.length_pos_of_mem h
  have h2 : (r.idxOf x + 1) % r.length < r.length := Nat.mod_lt _ hl
  rw [List.getD_eq_getElem?_getD, List.getElem?_eq_getElem h2]
  exact List.getElem_mem h2
theorem nxt_inj {r : List Nat} (h : r.Nodup) {x y : Nat} (hx : x ∈ r) (hy : y ∈ r) (e : nxt r x = nxt r y) : x = y := by
  obtain ⟨i, hi, rfl⟩ := List.mem_iff_getElem.mp hx
  obtain ⟨j, hj, rfl⟩ := List.mem_iff_getElem.mp hy
  have hl : 0 < r.length := by omega
  have m1 : (i + 1) % r.length < r.length := Nat.mod_lt _ hl
  have m2 : (j + 1) % r.length < r.length := Nat.mod_lt _ hl
  rw [nxt_at h (List.getElem?_eq_getElem hi) (List.getElem?_eq_getElem m1), nxt_at h (List.getElem?_eq_getElem hj) (List.getElem?_eq_getElem m2)] at e
  have e2 := (List.getElem_inj h).mp e
  have e3 : i = j := by
    by_cases a : i + 1 = r.length <;> by_cases b : j + 1 = r.length
    · omega
    · rw [a, Nat.mod_self, Nat.mod_eq_of_lt (by omega)] at e2; omega
    · rw [b, Nat.mod_self, Nat.mod_eq_of_lt (by omega)] at e2; omega
    · rw [Nat.mod_eq_of_lt (by omega), Nat.mod_eq_of_lt (by omega)] at e2; omega
  subst e3
  rfl
/-- x put in behind the k-th -/
def putAt (r : List Nat) (k x : Nat) : List Nat := r.take k ++ [x] ++ r.drop k
theorem putAt_len (r : List Nat) (k x : Nat) : (putAt r k x).length = r.length + 1 := by
  unfold putAt
  simp
  omega
theorem putAt_get (r : List Nat) (k x i : Nat) (hk : k ≤ r.length) : (putAt r k x)[i]? = if i < k then r[i]? else if i = k then some x else r[i - 1]? := by
  unfold putAt
  by_cases h : i < k
  · rw [if_pos h, List.append_assoc, List.getElem?_append_left (by simp; omega), List.getElem?_take, if_pos h]
  · rw [if_neg h, List.append_assoc, List.getElem?_append_right (by simp; omega)]
    have e : (r.take k).length = k := by simp; omega
    rw [e]
    by_cases h2 : i = k
    · rw [if_pos h2, h2, Nat.sub_self]; rfl
    · rw [if_neg h2]
      obtain ⟨j, hj⟩ : ∃ j, i - k = j + 1 := ⟨i - k - 1, by omega⟩
      rw [hj]
      show (r.drop k)[j]? = r[i - 1]?
      rw [List.getElem?_drop]
      congr 1
      omega
theorem putAt_perm (r : List Nat) (k x : Nat) : (putAt r k x).Perm (x :: r) := by
  unfold putAt
  rw [List.append_assoc]
  refine (List.perm_append_comm_assoc _ _ _).trans ?_
  rw [List.take_append_drop]
  exact List.Perm.refl _
theorem putAt_mem {r : List Nat} {k x y : Nat} : y ∈ putAt r k x ↔ y = x ∨ y ∈ r := by
  rw [(putAt_perm r k x).mem_iff, List.mem_cons]
theorem putAt_nodup {r : List Nat} {k x : Nat} (h : r.Nodup) (hx : x ∉ r) : (putAt r k x).Nodup := by
  rw [(putAt_perm r k x).nodup_iff]
  exact List.nodup_cons.mpr ⟨hx, h⟩
/-- behind x stands the new one, behind it what stood behind x -/
theorem nxt_put {r : List Nat} (h : r.Nodup) {x y : Nat} (hx : x ∈ r) (hy : y ∉ r) :
    nxt (putAt r (r.idxOf x + 1) y) x = y ∧ nxt (putAt r (r.idxOf x + 1) y) y = nxt r x ∧ ∀ z ∈ r, z ≠ x → nxt (putAt r (r.idxOf x + 1) y) z = nxt r z := by
  obtain ⟨i, hi, rfl⟩ := List.mem_iff_getElem.mp hx
  have ei : r.idxOf r[i] = i := h.idxOf_getElem i hi
  rw [ei]
  have hn := putAt_nodup (k := i + 1) h hy
  have hl := putAt_len r (i + 1) y
  have g := fun j => putAt_get r (i + 1) y j (by omega)
  have hl0 : 0 < r.length := by omega
  refine ⟨?_, ?_, fun z hz hne => ?_⟩
  · refine nxt_at (i := i) hn ?_ ?_
    · rw [g, if_pos (by omega), List.getElem?_eq_getElem hi]
    · rw [hl, Nat.mod_eq_of_lt (by omega), g, if_neg (by omega), if_pos rfl]
  · have m1 : (i + 1) % r.length < r.length := Nat.mod_lt _ hl0
    rw [nxt_at h (List.getElem?_eq_getElem hi) (List.getElem?_eq_getElem m1)]
    refine nxt_at (i := i + 1) hn ?_ ?_
    · rw [g, if_neg (by omega), if_pos rfl]
    · rw [hl, g]
      by_cases e : i + 1 = r.length
      · have e1 : (i + 1 + 1) % (r.length + 1) = 0 := by rw [e, Nat.mod_self]
        have e2 : (i + 1) % r.length = 0 := by rw [e, Nat.mod_self]
        rw [e1, if_pos (by omega)]
        simp only [e2]
        exact List.getElem?_eq_getElem hl0
      · have e1 : (i + 1 + 1) % (r.length + 1) = i + 2 := Nat.mod_eq_of_lt (by omega)
        have e2 : (i + 1) % r.length = i + 1 := Nat.mod_eq_of_lt (by omega)
        rw [e1, if_neg (by omega), if_neg (by omega)]
        simp only [e2]
        exact List.getElem?_eq_getElem (by omega)
  · obtain ⟨j, hj, rfl⟩ := List.mem_iff_getElem.mp hz
    have hij : j ≠ i := fun e => hne (by subst e; rfl)
    have m1 : (j + 1) % r.length < r.length := Nat.mod_lt _ hl0
    rw [nxt_at h (List.getElem?_eq_getElem hj) (List.getElem?_eq_getElem m1)]
    by_cases hlt : j < i
    · have e2 : (j + 1) % r.length = j + 1 := Nat.mod_eq_of_lt (by omega)
      refine nxt_at (i := j) hn ?_ ?_
      · rw [g, if_pos (by omega), List.getElem?_eq_getElem hj]
      · rw [hl, Nat.mod_eq_of_lt (by omega), g, if_pos (by omega)]
        simp only [e2]
        exact List.getElem?_eq_getElem (by omega)
    · refine nxt_at (i := j + 1) hn ?_ ?_
      · rw [g, if_neg (by omega), if_neg (by omega)]
        exact List.getElem?_eq_getElem (by omega)
      · rw [hl, g]
        by_cases e : j + 1 = r.length
        · have e1 : (j + 1 + 1) % (r.length + 1) = 0 := by rw [e, Nat.mod_self]
          have e2 : (j + 1) % r.length = 0 := by rw [e, Nat.mod_self]
          rw [e1, if_pos (by omega)]
          simp only [e2]
          exact List.getElem?_eq_getElem hl0
        · have e1 : (j + 1 + 1) % (r.length + 1) = j + 2 := Nat.mod_eq_of_lt (by omega)
          have e2 : (j + 1) % r.length = j + 1 := Nat.mod_eq_of_lt (by omega)
          rw [e1, if_neg (by omega), if_neg (by omega)]
          simp only [e2]
          exact List.getElem?_eq_getElem (by omega)

/-! ### going round by f -/
def Path (f : Nat → Nat) : Nat → List Nat → Nat → Prop
  | x, [], y => f x = y
  | x, z :: l, y => f x = z ∧ Path f z l y
theorem Path.app {f : Nat → Nat} : ∀ {x y z : Nat} {l1 l2 : List Nat}, Path f x (l1 ++ y :: l2) z ↔ Path f x l1 y ∧ Path f y l2 z
  | x, y, z, [], l2 => Iff.rfl
  | x, y, z, a :: l1, l2 => by
    show (f x = a ∧ Path f a (l1 ++ y :: l2) z) ↔ (f x = a ∧ Path f a l1 y) ∧ Path f y l2 z
    rw [Path.app, and_assoc]
theorem Path.other {f g : Nat → Nat} : ∀ {x x' y : Nat} {l : List Nat}, Path f x l y → g x' = f x → (∀ z ∈ l, g z = f z) → Path g x' l y
  | x, x', y, [], h, e, _ => e.trans h
  | x, x', y, a :: l, h, e, hl => ⟨e.trans h.1, Path.other h.2 (hl a List.mem_cons_self) fun z hz => hl z (List.mem_cons_of_mem _ hz)⟩
/-- the rings of f: every dart below m in just one -/
structure Rings (f : Nat → Nat) (m : Nat) (R : List (List Nat)) : Prop where
  all : R.flatten.Perm (List.range m)
  ok : ∀ r ∈ R, ∃ x l, r = x :: l ∧ Path f x l x
theorem Rings.nd {f : Nat → Nat} {m : Nat} {R : List (List Nat)} (h : Rings f m R) : R.flatten.Nodup := h.all.nodup_iff.mpr List.nodup_range
theorem Rings.mem {f : Nat → Nat} {m : Nat} {R : List (List Nat)} (h : Rings f m R) {d : Nat} : d ∈ R.flatten ↔ d < m := by rw [h.all.mem_iff, List.mem_range]
theorem Rings.congr {f g : Nat → Nat} {m : Nat} {R : List (List Nat)} (h : Rings f m R) (e : ∀ d, d < m → g d = f d) : Rings g m R := by
  refine ⟨h.all, fun r hr => ?_⟩
  obtain ⟨x, l, rfl, p⟩ := h.ok r hr
  have hm : ∀ z ∈ x :: l, g z = f z := fun z hz => e z (h.mem.mp (List.mem_flatten.mpr ⟨_, hr, hz⟩))
  exact ⟨x, l, rfl, p.other (hm x List.mem_cons_self) fun z hz => hm z (List.mem_cons_of_mem _ hz)⟩
/-- the ring of x, begun at x -/
theorem Rings.at {f : Nat → Nat} {m : Nat} {R : List (List Nat)} (h : Rings f m R) {x : Nat} (hx : x < m) :
    ∃ A r B l, R = A ++ r :: B ∧ (x :: l).Perm r ∧ Path f x l x := by
  obtain ⟨r, hr, hxr⟩ := List.mem_flatten.mp (h.mem.mpr hx)
  obtain ⟨A, B, e⟩ := List.append_of_mem hr
  obtain ⟨y, l, rfl, p⟩ := h.ok r hr
  rcases List.mem_cons.mp hxr with rfl | hl
  · exact ⟨A, _, B, l, e, List.Perm.refl _, p⟩
  · obtain ⟨u, v, rfl⟩ := List.append_of_mem hl
    obtain ⟨p1, p2⟩ := Path.app.mp p
    refine ⟨A, _, B, v ++ y :: u, e, ?_, Path.app.mpr ⟨p2, p1⟩⟩
    show (x :: v ++ y :: u).Perm (y :: u ++ x :: v)
    exact List.perm_append_comm
theorem range_two (m : Nat) : (List.range (m + 2)).Perm (m :: (m + 1) :: List.range m) := by
  rw [List.range_succ, List.range_succ, List.append_assoc]
  refine List.perm_append_comm.trans ?_
  exact List.Perm.refl _
/-- a leaf: the new dart out goes behind left, back behind it -/
theorem Rings.leaf {f g : Nat → Nat} {m left out back : Nat} {R : List (List Nat)} (h : Rings f m R) (hl : left < m) (ho : (out = m ∧ back = m + 1) ∨ (out = m + 1 ∧ back = m))
    (g1 : g left = out) (g2 : g out = back) (g3 : g back = f left) (g4 : ∀ z, z < m → z ≠ left → g z = f z) : ∃ R', Rings g (m + 2) R' ∧ R'.length = R.length := by
  obtain ⟨A, r, B, l, e, hp, p⟩ := h.at hl
  have hn := h.nd
  have hm : ∀ z ∈ R.flatten, z < m := fun z hz => h.mem.mp hz
  rw [e] at hn hm
  have hs : r.Sublist (A ++ r :: B).flatten := by
    rw [List.flatten_append, List.flatten_cons]
    exact ((List.sublist_append_left r B.flatten)).trans (List.sublist_append_right _ _)
  have hnr : (left :: l).Nodup := (hp.nodup_iff).mpr (hn.sublist hs)
  have hml : ∀ z ∈ l, z < m ∧ z ≠ left := fun z hz => ⟨hm z (hs.subset (hp.mem_iff.mp (List.mem_cons_of_mem _ hz))), fun q => (List.nodup_cons.mp hnr).1 (q ▸ hz)⟩
  refine ⟨A ++ (left :: out :: back :: l) :: B, ⟨?_, ?_⟩, by rw [e]; simp⟩
  · have q1 : (A ++ (left :: out :: back :: l) :: B).flatten.Perm (out :: back :: (A ++ r :: B).flatten) := by
      rw [List.flatten_append, List.flatten_append, List.flatten_cons, List.flatten_cons]
      have q2 : (left :: out :: back :: l).Perm (out :: back :: r) := by
        refine (List.Perm.swap _ _ _).trans (List.Perm.cons _ ((List.Perm.swap _ _ _).trans (List.Perm.cons _ hp)))
      refine (List.Perm.append_left _ (List.Perm.append_right _ q2)).trans ?_
      show (A.flatten ++ ([out, back] ++ (r ++ B.flatten))).Perm ([out, back] ++ (A.flatten ++ (r ++ B.flatten)))
      exact List.perm_append_comm_assoc _ _ _
    rw [← e] at q1
    refine q1.trans (((h.all.cons _).cons _).trans ?_)
    refine List.Perm.trans ?_ (range_two m).symm
    rcases ho with ⟨rfl, rfl⟩ | ⟨rfl, rfl⟩
    · exact List.Perm.refl _
    · exact List.Perm.swap _ _ _
  · intro r' hr'
    have hold : ∀ s ∈ A ++ B, ∃ x l, s = x :: l ∧ Path g x l x := fun s hsm => by
      have hsR : s ∈ R := by rw [e]; rcases List.mem_append.mp hsm with a | a; exact List.mem_append_left _ a; exact List.mem_append_right _ (List.mem_cons_of_mem _ a)
      obtain ⟨x, l', rfl, p'⟩ := h.ok s hsR
      have nl : left ∉ x :: l' := fun hin => by
        have hlr : left ∈ r := hp.mem_iff.mp List.mem_cons_self
        rw [List.flatten_append, List.flatten_cons] at hn
        rcases List.mem_append.mp hsm with a | a
        · exact (List.nodup_append.mp hn).2.2 left (List.mem_flatten.mpr ⟨_, a, hin⟩) left (List.mem_append_left _ hlr) rfl
        · exact (List.nodup_append.mp (List.nodup_append.mp hn).2.1).2.2 left hlr left (List.mem_flatten.mpr ⟨_, a, hin⟩) rfl
      have hz : ∀ z ∈ x :: l', g z = f z := fun z hz => g4 z (h.mem.mp (List.mem_flatten.mpr ⟨_, hsR, hz⟩)) fun q => nl (q ▸ hz)
      exact ⟨x, l', rfl, p'.other (hz x List.mem_cons_self) fun z q => hz z (List.mem_cons_of_mem _ q)⟩
    rcases List.mem_append.mp hr' with a | a
    · exact hold r' (List.mem_append_left _ a)
    · rcases List.mem_cons.mp a with rfl | a
      · exact ⟨left, _, rfl, g1, g2, p.other g3 fun z hz => g4 z (hml z hz).1 (hml z hz).2⟩
      · exact hold r' (List.mem_append_right _ a)
/-- a chord: the ring falls in two -/
theorem Rings.chord {f g : Nat → Nat} {m left right out back : Nat} {R : List (List Nat)} {r0 : List Nat} (h : Rings f m R) (hl : left < m) (hne : left ≠ right) (hp0 : Path f left r0 left) (hn0 : (left :: r0).Nodup) (hr0 : right ∈ r0) (ho : (out = m ∧ back = m + 1) ∨ (out = m + 1 ∧ back = m))
    (g1 : g left = out) (g2 : g out = f right) (g3 : g right = back) (g4 : g back = f left) (g5 : ∀ z, z < m → z ≠ left → z ≠ right → g z = f z) : ∃ R', Rings g (m + 2) R' ∧ R'.length = R.length + 1 := by
  obtain ⟨A, r, B, l, e, hp, p⟩ := h.at hl
  have hn := h.nd
  have hm : ∀ z ∈ R.flatten, z < m := fun z hz => h.mem.mp hz
  rw [e] at hn hm
  have hs : r.Sublist (A ++ r :: B).flatten := by
    rw [List.flatten_append, List.flatten_cons]
    exact ((List.sublist_append_left r B.flatten)).trans (List.sublist_append_right _ _)
  have hnr : (left :: l).Nodup := (hp.nodup_iff).mpr (hn.sublist hs)
  -- the same row
  have same : ∀ {x : Nat} {l1 l2 : List Nat}, Path f x l1 left → Path f x l2 left → left ∉ l1 → left ∉ l2 → l1 = l2 := by
    intro x l1
    induction l1 generalizing x with
    | nil =>
      intro l2 a b _ nb
      cases l2 with
      | nil => rfl
      | cons z t => exact absurd (show left ∈ z :: t by rw [← b.1, show f x = left from a]; exact List.mem_cons_self) nb
    | cons z t ih =>
      intro l2 a b na nb
      cases l2 with
      | nil => exact absurd (show left ∈ z :: t by rw [← a.1, show f x = left from b]; exact List.mem_cons_self) na
      | cons z2 t2 =>
        have e1 : z = z2 := a.1.symm.trans b.1
        subst e1
        rw [ih a.2 b.2 (fun q => na (List.mem_cons_of_mem _ q)) fun q => nb (List.mem_cons_of_mem _ q)]
  have el : r0 = l := same hp0 p (List.nodup_cons.mp hn0).1 (List.nodup_cons.mp hnr).1
  subst el
  have hml : ∀ z ∈ r0, z < m ∧ z ≠ left := fun z hz => ⟨hm z (hs.subset (hp.mem_iff.mp (List.mem_cons_of_mem _ hz))), fun q => (List.nodup_cons.mp hnr).1 (q ▸ hz)⟩
  obtain ⟨u, v, rfl⟩ := List.append_of_mem hr0
  obtain ⟨p1, p2⟩ := Path.app.mp p
  have hnr2 := (List.nodup_cons.mp hnr).2
  have nu : ∀ z ∈ u, z ≠ right := fun z hz q => (List.nodup_append.mp hnr2).2.2 z hz right List.mem_cons_self q
  have nv : ∀ z ∈ v, z ≠ right := fun z hz q => (List.nodup_cons.mp (List.nodup_append.mp hnr2).2.1).1 (q ▸ hz)
  refine ⟨A ++ (left :: out :: v) :: (right :: back :: u) :: B, ⟨?_, ?_⟩, by rw [e]; simp; omega⟩
  · have q1 : (A ++ (left :: out :: v) :: (right :: back :: u) :: B).flatten.Perm (out :: back :: (A ++ r :: B).flatten) := by
      rw [List.flatten_append, List.flatten_append, List.flatten_cons, List.flatten_cons, List.flatten_cons, ← List.append_assoc (left :: out :: v)]
      have q2 : ((left :: out :: v) ++ (right :: back :: u)).Perm (out :: back :: r) := by
        refine List.Perm.trans ?_ ((hp.cons back).cons out)
        rw [List.perm_iff_count]
        intro a
        simp only [List.count_append, List.count_cons]
        omega
      refine (List.Perm.append_left _ (List.Perm.append_right _ q2)).trans ?_
      show (A.flatten ++ ([out, back] ++ (r ++ B.flatten))).Perm ([out, back] ++ (A.flatten ++ (r ++ B.flatten)))
      exact List.perm_append_comm_assoc _ _ _
    rw [← e] at q1
    refine q1.trans (((h.all.cons _).cons _).trans ?_)
    refine List.Perm.trans ?_ (range_two m).symm
    rcases ho with ⟨rfl, rfl⟩ | ⟨rfl, rfl⟩
    · exact List.Perm.refl _
    · exact List.Perm.swap _ _ _
  · intro r' hr'
    have hold : ∀ s ∈ A ++ B, ∃ x l, s = x :: l ∧ Path g x l x := fun s hsm => by
      have hsR : s ∈ R := by rw [e]; rcases List.mem_append.mp hsm with a | a; exact List.mem_append_left _ a; exact List.mem_append_right _ (List.mem_cons_of_mem _ a)
      obtain ⟨x, l', rfl, p'⟩ := h.ok s hsR
      have nl : ∀ z ∈ r, z ∉ x :: l' := fun z hlr hin => by
        rw [List.flatten_append, List.flatten_cons] at hn
        rcases List.mem_append.mp hsm with a | a
        · exact (List.nodup_append.mp hn).2.2 z (List.mem_flatten.mpr ⟨_, a, hin⟩) z (List.mem_append_left _ hlr) rfl
        · exact (List.nodup_append.mp (List.nodup_append.mp hn).2.1).2.2 z hlr z (List.mem_flatten.mpr ⟨_, a, hin⟩) rfl
      have nl1 := nl left (hp.mem_iff.mp List.mem_cons_self)
      have nl2 := nl right (hp.mem_iff.mp (List.mem_cons_of_mem _ hr0))
      have hz : ∀ z ∈ x :: l', g z = f z := fun z hz => g5 z (h.mem.mp (List.mem_flatten.mpr ⟨_, hsR, hz⟩)) (fun q => nl1 (q ▸ hz)) fun q => nl2 (q ▸ hz)
      exact ⟨x, l', rfl, p'.other (hz x List.mem_cons_self) fun z q => hz z (List.mem_cons_of_mem _ q)⟩
    rcases List.mem_append.mp hr' with a | a
    · exact hold r' (List.mem_append_left _ a)
    · rcases List.mem_cons.mp a with rfl | a
      · exact ⟨left, _, rfl, g1, p2.other g2 fun z hz => g5 z (hml z (by simp [hz])).1 (hml z (by simp [hz])).2 (nv z hz)⟩
      · rcases List.mem_cons.mp a with rfl | a
        · exact ⟨right, _, rfl, g3, p1.other g4 fun z hz => g5 z (hml z (by simp [hz])).1 (hml z (by simp [hz])).2 (nu z hz)⟩
        · exact hold r' (List.mem_append_right _ a)
/-! ### as many rings, however they are told -/
def lmin : List Nat → Nat
  | [] => 0
  | [x] => x
  | x :: y :: r => min x (lmin (y :: r))
theorem lmin_mem : ∀ {r : List Nat}, r ≠ [] → lmin r ∈ r
  | [], h => absurd rfl h
  | [x], _ => List.mem_cons_self
  | x :: y :: r, _ => by
    have ih := lmin_mem (r := y :: r) (by simp)
    unfold lmin
    rcases Nat.le_total x (lmin (y :: r)) with h | h
    · rw [Nat.min_eq_left h]; exact List.mem_cons_self
    · rw [Nat.min_eq_right h]; exact List.mem_cons_of_mem _ ih
theorem lmin_le : ∀ {r : List Nat} {x : Nat}, x ∈ r → lmin r ≤ x
  | [x], y, h => by
    have e : y = x := by simpa using h
    rw [e]
    exact Nat.le_refl _
  | x :: y :: r, z, h => by
    unfold lmin
    rcases List.mem_cons.mp h with rfl | h
    · exact Nat.min_le_left _ _
    · exact Nat.le_trans (Nat.min_le_right _ _) (lmin_le h)
def iter (f : Nat → Nat) : Nat → Nat → Nat
  | 0, x => x
  | k + 1, x => iter f k (f x)
def Reach (f : Nat → Nat) (x y : Nat) : Prop := ∃ k, iter f k x = y
theorem Path.reach {f : Nat → Nat} : ∀ {x y : Nat} {l : List Nat}, Path f x l y → ∀ z ∈ l ++ [y], Reach f x z
  | x, y, [], h, z, hz => ⟨1, by rw [show z = y by simpa using hz]; exact h⟩
  | x, y, a :: l, h, z, hz => by
    rcases List.mem_cons.mp hz with rfl | hz
    · exact ⟨1, h.1⟩
    · obtain ⟨k, e⟩ := Path.reach h.2 z hz
      refine ⟨k + 1, ?_⟩
      show iter f k (f x) = z
      rw [h.1]
      exact e
theorem Path.step {f : Nat → Nat} : ∀ {x y : Nat} {l : List Nat}, Path f x l y → ∀ z ∈ x :: l, f z ∈ l ++ [y]
  | x, y, [], h, z, hz => by rw [show z = x by simpa using hz, show f x = y from h]; simp
  | x, y, a :: l, h, z, hz => by
    rcases List.mem_cons.mp hz with rfl | hz
    · rw [h.1]; simp
    · exact List.mem_cons_of_mem _ (Path.step h.2 z hz)
theorem Path.ring {f : Nat → Nat} {x : Nat} {l : List Nat} (h : Path f x l x) {z w : Nat} (hz : z ∈ x :: l) : w ∈ x :: l ↔ Reach f z w := by
  have cl : ∀ z ∈ x :: l, f z ∈ x :: l := fun z hz => by
    have := h.step z hz
    simp at this ⊢
    exact this.symm
  constructor
  · intro hw
    -- from z to x, from x to w
    have toX : Reach f z x := by
      rcases List.mem_cons.mp hz with rfl | hz
      · exact ⟨0, rfl⟩
      · obtain ⟨u, v, rfl⟩ := List.append_of_mem hz
        exact (Path.app.mp h).2.reach x (by simp)
    have toW : Reach f x w := by
      rcases List.mem_cons.mp hw with rfl | hw
      · exact ⟨0, rfl⟩
      · exact h.reach w (by simp [hw])
    obtain ⟨a, ea⟩ := toX
    obtain ⟨b, eb⟩ := toW
    have it : ∀ a z, iter f b (iter f a z) = iter f (a + b) z := by
      intro a
      induction a with
      | zero => intro z; rw [Nat.zero_add]; rfl
      | succ a ih => intro z; rw [Nat.add_right_comm]; exact ih (f z)
    exact ⟨a + b, by rw [← it, ea, eb]⟩
  · rintro ⟨k, e⟩
    subst e
    induction k generalizing z with
    | zero => exact hz
    | succ k ih => exact ih (cl z hz)
theorem Rings.leaders {f : Nat → Nat} {m : Nat} {R : List (List Nat)} (h : Rings f m R) : (R.map lmin).Nodup ∧ ∀ a, a ∈ R.map lmin ↔ a < m ∧ ∀ y, Reach f a y → a ≤ y := by
  constructor
  · have hn := h.nd
    have hne : ∀ r ∈ R, r ≠ [] := fun r hr => by obtain ⟨x, l, rfl, _⟩ := h.ok r hr; simp
    clear h
    induction R with
    | nil => exact List.nodup_nil
    | cons r R ih =>
      rw [List.flatten_cons] at hn
      obtain ⟨n1, n2, n3⟩ := List.nodup_append.mp hn
      refine List.nodup_cons.mpr ⟨fun hin => ?_, ih n2 fun s hs => hne s (List.mem_cons_of_mem _ hs)⟩
      obtain ⟨s, hs, es⟩ := List.mem_map.mp hin
      have h1 := lmin_mem (hne r List.mem_cons_self)
      have h2 := lmin_mem (hne s (List.mem_cons_of_mem _ hs))
      exact n3 _ h1 _ (List.mem_flatten.mpr ⟨s, hs, h2⟩) es.symm
  · intro a
    constructor
    · intro ha
      obtain ⟨r, hr, rfl⟩ := List.mem_map.mp ha
      obtain ⟨x, l, e, p⟩ := h.ok r hr
      have hm := lmin_mem (r := r) (by rw [e]; simp)
      refine ⟨h.mem.mp (List.mem_flatten.mpr ⟨r, hr, hm⟩), fun y hy => lmin_le ?_⟩
      rw [e] at hm ⊢
      rw [e] at hy
      exact (p.ring hm).mpr hy
    · rintro ⟨ha, hl⟩
      obtain ⟨r, hr, har⟩ := List.mem_flatten.mp (h.mem.mpr ha)
      obtain ⟨x, l, e, p⟩ := h.ok r hr
      refine List.mem_map.mpr ⟨r, hr, ?_⟩
      have hm := lmin_mem (r := r) (by rw [e]; simp)
      have h1 := lmin_le har
      have h2 := hl (lmin r) (by rw [e] at hm har ⊢; exact (p.ring har).mp hm)
      omega
theorem Rings.count {f : Nat → Nat} {m : Nat} {R S : List (List Nat)} (h : Rings f m R) (k : Rings f m S) : R.length = S.length := by
  have a := h.leaders
  have b := k.leaders
  have := len_of_nodup a.1 b.1 fun x => (a.2 x).trans (b.2 x).symm
  simpa using this

/-! ### webs: the ends of the ties, the turns of the places -/
abbrev EdgL := List (Nat × Nat)
abbrev Turns := List (List Nat)
def en (E : EdgL) (i : Nat) : Nat × Nat := E.getD i (0, 0)
def row (T : Turns) (p : Nat) : List Nat := T.getD p []
def hd (E : EdgL) (d : Nat) : Nat := if d % 2 = 0 then (en E (d / 2)).2 else (en E (d / 2)).1
def tl (E : EdgL) (d : Nat) : Nat := if d % 2 = 0 then (en E (d / 2)).1 else (en E (d / 2)).2
/-- the dart of tie j that leaves p -/
def outOf (E : EdgL) (p j : Nat) : Nat := 2 * j + if (en E j).1 = p then 0 else 1
def fol (E : EdgL) (T : Turns) (d : Nat) : Nat := outOf E (hd E d) (nxt (row T (hd E d)) (d / 2))
structure Ok (E : EdgL) (T : Turns) : Prop where
  ends : ∀ i, i < E.length → (en E i).1 ≠ (en E i).2 ∧ (en E i).1 < T.length ∧ (en E i).2 < T.length
  nd : ∀ p, p < T.length → (row T p).Nodup
  mem : ∀ p, p < T.length → ∀ i, i ∈ row T p ↔ i < E.length ∧ ((en E i).1 = p ∨ (en E i).2 = p)
section
variable {E : EdgL} {T : Turns}
theorem Ok.hd_lt (h : Ok E T) {d : Nat} (hd' : d < 2 * E.length) : hd E d < T.length := by
  have := h.ends (d / 2) (by omega)
  unfold hd
  split <;> omega
theorem Ok.hd_mem (h : Ok E T) {d : Nat} (hd' : d < 2 * E.length) : d / 2 ∈ row T (hd E d) := by
  refine (h.mem _ (h.hd_lt hd') _).mpr ⟨by omega, ?_⟩
  unfold hd
  split
  · exact .inr rfl
  · exact .inl rfl
theorem outOf_half (E : EdgL) (p j : Nat) : outOf E p j / 2 = j := by unfold outOf; split <;> omega
theorem outOf_tl {E : EdgL} {p j : Nat} (h : (en E j).1 = p ∨ (en E j).2 = p) : tl E (outOf E p j) = p := by
  unfold tl
  rw [outOf_half]
  unfold outOf
  by_cases e : (en E j).1 = p
  · rw [if_pos e, if_pos (by omega)]; exact e
  · rw [if_neg e, if_neg (by omega)]
    rcases h with h | h
    · exact absurd h e
    · exact h
theorem Ok.nxt_mem' (h : Ok E T) {d : Nat} (hd' : d < 2 * E.length) : nxt (row T (hd E d)) (d / 2) < E.length ∧ ((en E (nxt (row T (hd E d)) (d / 2))).1 = hd E d ∨ (en E (nxt (row T (hd E d)) (d / 2))).2 = hd E d) :=
  (h.mem _ (h.hd_lt hd') _).mp (nxt_mem (h.hd_mem hd'))
theorem Ok.fol_lt (h : Ok E T) {d : Nat} (hd' : d < 2 * E.length) : fol E T d < 2 * E.length := by
  have := (h.nxt_mem' hd').1
  unfold fol outOf
  split <;> omega
theorem Ok.fol_tl (h : Ok E T) {d : Nat} (hd' : d < 2 * E.length) : tl E (fol E T d) = hd E d := outOf_tl (h.nxt_mem' hd').2
theorem dart_eq {E : EdgL} {d e : Nat} (hne : (en E (d / 2)).1 ≠ (en E (d / 2)).2) (h1 : d / 2 = e / 2) (h2 : hd E d = hd E e) : d = e := by
  unfold hd at h2
  rw [← h1] at h2
  by_cases a : d % 2 = 0 <;> by_cases b : e % 2 = 0
  · omega
  · rw [if_pos a, if_neg b] at h2; exact absurd h2.symm hne
  · rw [if_neg a, if_pos b] at h2; exact absurd h2 hne
  · omega
theorem Ok.fol_inj (h : Ok E T) {d e : Nat} (h1 : d < 2 * E.length) (h2 : e < 2 * E.length) (q : fol E T d = fol E T e) : d = e := by
  have t1 := h.fol_tl h1
  have t2 := h.fol_tl h2
  rw [q, t2] at t1
  have q2 : fol E T d / 2 = fol E T e / 2 := by rw [q]
  unfold fol at q2
  rw [outOf_half, outOf_half, t1] at q2
  have m1 := h.hd_mem h1
  have m2 := h.hd_mem h2
  rw [t1] at m2
  have := nxt_inj (h.nd _ (h.hd_lt h1)) m1 m2 q2
  exact dart_eq (h.ends (d / 2) (by omega)).1 this t1.symm
end
/-- in one piece -/
def Whole (E : EdgL) (many : Nat) : Prop := ∀ S : Nat → Bool, (∀ i, i < E.length → S (en E i).1 = S (en E i).2) → ∀ p q, p < many → q < many → S p = S q
/-- a flat web -/
structure Flat (E : EdgL) (T : Turns) : Prop where
  ok : Ok E T
  whole : Whole E T.length
  euler : ∃ R, Rings (fol E T) (2 * E.length) R ∧ T.length + R.length = E.length + 2
theorem en_push (E : EdgL) (x : Nat × Nat) (i : Nat) : en (E ++ [x]) i = if i = E.length then x else en E i := by
  unfold en
  rw [List.getD_eq_getElem?_getD, List.getD_eq_getElem?_getD]
  by_cases h : i = E.length
  · subst h
    rw [if_pos rfl, List.getElem?_append_right (Nat.le_refl _)]
    simp
  · rw [if_neg h]
    by_cases h2 : i < E.length
    · rw [List.getElem?_append_left h2]
    · rw [List.getElem?_eq_none (by simp; omega), List.getElem?_eq_none (by omega)]
theorem row_set (T : Turns) {p : Nat} (r : List Nat) (hp : p < T.length) (q : Nat) : row (T.set p r) q = if q = p then r else row T q := by
  unfold row
  rw [List.getD_eq_getElem?_getD, List.getD_eq_getElem?_getD]
  by_cases h : q = p
  · subst h
    rw [if_pos rfl, List.getElem?_set_self hp]
    rfl
  · rw [if_neg h, List.getElem?_set_ne (Ne.symm h)]
theorem row_push (T : Turns) (r : List Nat) (q : Nat) : row (T ++ [r]) q = if q = T.length then r else row T q := by
  unfold row
  rw [List.getD_eq_getElem?_getD, List.getD_eq_getElem?_getD]
  by_cases h : q = T.length
  · subst h
    rw [if_pos rfl, List.getElem?_append_right (Nat.le_refl _)]
    simp
  · rw [if_neg h]
    by_cases h2 : q < T.length
    · rw [List.getElem?_append_left h2]
    · rw [List.getElem?_eq_none (by simp; omega), List.getElem?_eq_none (by omega)]
theorem nxt_one (x : Nat) : nxt [x] x = x := by simp [nxt, Nat.mod_one]
/-- behind tie x in p's list -/
def putBehind (T : Turns) (p x y : Nat) : Turns := T.set p (putAt (row T p) ((row T p).idxOf x + 1) y)
theorem putBehind_len (T : Turns) (p x y : Nat) : (putBehind T p x y).length = T.length := by unfold putBehind; simp
theorem putBehind_row (T : Turns) {p : Nat} (x y : Nat) (hp : p < T.length) (q : Nat) : row (putBehind T p x y) q = if q = p then putAt (row T p) ((row T p).idxOf x + 1) y else row T q := row_set T _ hp q
/-- the first web: two places and a tie -/
theorem flat0 : Flat [(0, 1)] [[0], [0]] := by
  refine ⟨⟨?_, ?_, ?_⟩, ?_, [[0, 1]], ⟨by decide, ?_⟩, rfl⟩
  · intro i hi
    have : i = 0 := by simpa using hi
    subst this
    decide
  · intro p hp
    have : p = 0 ∨ p = 1 := by simp at hp; omega
    rcases this with rfl | rfl <;> decide
  · intro p hp i
    have : p = 0 ∨ p = 1 := by simp at hp; omega
    rcases this with rfl | rfl
    · show i ∈ [0] ↔ _
      constructor
      · intro h
        have : i = 0 := by simpa using h
        subst this
        exact ⟨by decide, .inl rfl⟩
      · rintro ⟨h, _⟩
        have : i = 0 := by simpa using h
        subst this
        decide
    · show i ∈ [0] ↔ _
      constructor
      · intro h
        have : i = 0 := by simpa using h
        subst this
        exact ⟨by decide, .inr rfl⟩
      · rintro ⟨h, _⟩
        have : i = 0 := by simpa using h
        subst this
        decide
  · intro S hS p q hp hq
    have h := hS 0 (by decide)
    have h' : S 0 = S 1 := h
    have a : p = 0 ∨ p = 1 := by simp at hp; omega
    have b : q = 0 ∨ q = 1 := by simp at hq; omega
    rcases a with rfl | rfl <;> rcases b with rfl | rfl
    · rfl
    · exact h'
    · exact h'.symm
    · rfl
  · intro r hr
    have : r = [0, 1] := by simpa using hr
    subst this
    exact ⟨0, [1], rfl, by decide, by show fol [(0, 1)] [[0], [0]] 1 = 0; decide⟩
section
variable {E : EdgL} {T : Turns}
theorem hd_old {x : Nat × Nat} {d : Nat} (h : d < 2 * E.length) : hd (E ++ [x]) d = hd E d := by
  have e : en (E ++ [x]) (d / 2) = en E (d / 2) := by rw [en_push, if_neg (by omega)]
  unfold hd
  rw [e]
theorem outOf_old {x : Nat × Nat} {p j : Nat} (h : j < E.length) : outOf (E ++ [x]) p j = outOf E p j := by
  have e : en (E ++ [x]) j = en E j := by rw [en_push, if_neg (by omega)]
  unfold outOf
  rw [e]
/-- the new tie's dart that leaves its end a (the other one b) -/
def newD (E : EdgL) (flip : Bool) : Nat := 2 * E.length + if flip = true then 1 else 0
def newE (flip : Bool) (a b : Nat) : Nat × Nat := if flip = true then (b, a) else (a, b)
theorem newE_or (flip : Bool) (a b p : Nat) : ((newE flip a b).1 = p ∨ (newE flip a b).2 = p) ↔ (p = a ∨ p = b) := by
  unfold newE
  cases flip <;> simp <;> omega
theorem out_new {flip : Bool} {a b : Nat} (hab : a ≠ b) : outOf (E ++ [newE flip a b]) a E.length = newD E flip ∧ outOf (E ++ [newE flip a b]) b E.length = newD E (!flip) := by
  unfold outOf newD
  rw [en_push, if_pos rfl]
  unfold newE
  cases flip <;> simp [hab, Ne.symm hab]
theorem hd_new {flip : Bool} {a b : Nat} : hd (E ++ [newE flip a b]) (newD E flip) = b ∧ hd (E ++ [newE flip a b]) (newD E (!flip)) = a := by
  have h1 : (2 * E.length + 1) / 2 = E.length := by omega
  have h2 : (2 * E.length) / 2 = E.length := by omega
  have h3 : (2 * E.length + 1) % 2 = 1 := by omega
  have h4 : (2 * E.length) % 2 = 0 := by omega
  unfold hd newD
  cases flip <;> simp [h1, h2, h3, h4, en_push, newE]
theorem newD_half (flip : Bool) : newD E flip / 2 = E.length := by unfold newD; split <;> omega
theorem newD_or (flip : Bool) : (newD E flip = 2 * E.length ∧ newD E (!flip) = 2 * E.length + 1) ∨ (newD E flip = 2 * E.length + 1 ∧ newD E (!flip) = 2 * E.length) := by
  unfold newD
  cases flip <;> simp
/-- a leaf at the corner behind left -/
theorem Flat.leaf (h : Flat E T) {left : Nat} (hl : left < 2 * E.length) (flip : Bool) :
    Flat (E ++ [newE flip (hd E left) T.length]) (putBehind T (hd E left) (left / 2) E.length ++ [[E.length]]) := by
  obtain ⟨ok, wh, R, hR, hE⟩ := h
  have hp := ok.hd_lt hl
  have hin := ok.hd_mem hl
  have hout : E.length ∉ row T (hd E left) := fun z => by have := ((ok.mem _ hp _).mp z).1; omega
  have hab : hd E left ≠ T.length := by omega
  have len2 : (putBehind T (hd E left) (left / 2) E.length ++ [[E.length]]).length = T.length + 1 := by simp [putBehind_len]
  have rows : ∀ q, row (putBehind T (hd E left) (left / 2) E.length ++ [[E.length]]) q = if q = T.length then [E.length] else if q = hd E left then putAt (row T (hd E left)) ((row T (hd E left)).idxOf (left / 2) + 1) E.length else row T q := fun q => by
    rw [row_push, putBehind_len, putBehind_row T _ _ hp]
  obtain ⟨n1, n2, n3⟩ := nxt_put (ok.nd _ hp) hin hout
  have nok : Ok (E ++ [newE flip (hd E left) T.length]) (putBehind T (hd E left) (left / 2) E.length ++ [[E.length]]) := by
    refine ⟨fun i hi => ?_, fun p hp' => ?_, fun p hp' i => ?_⟩
    · rw [len2, en_push]
      rw [List.length_append, List.length_singleton] at hi
      by_cases e : i = E.length
      · rw [if_pos e]
        unfold newE
        cases flip <;> simp <;> omega
      · rw [if_neg e]
        have := ok.ends i (by omega)
        omega
    · rw [rows]
      split
      · exact List.nodup_cons.mpr ⟨by simp, List.nodup_nil⟩
      · split
        · exact putAt_nodup (ok.nd _ hp) hout
        · exact ok.nd p (by rw [len2] at hp'; omega)
    · rw [rows, List.length_append, List.length_singleton, en_push]
      rw [len2] at hp'
      by_cases e : i = E.length
      · subst e
        rw [if_pos rfl, newE_or]
        by_cases e2 : p = T.length
        · rw [if_pos e2]; simp [e2]
        · rw [if_neg e2]
          by_cases e3 : p = hd E left
          · rw [if_pos e3, putAt_mem]; simp [e3]
          · rw [if_neg e3]
            constructor
            · intro z; have := ((ok.mem p (by omega) _).mp z).1; omega
            · rintro ⟨_, z | z⟩ <;> omega
      · rw [if_neg e]
        by_cases e2 : p = T.length
        · rw [if_pos e2]
          constructor
          · intro z; exact absurd (by simpa using z) e
          · rintro ⟨z1, z2⟩
            have := ok.ends i (by omega)
            omega
        · rw [if_neg e2]
          by_cases e3 : p = hd E left
          · rw [if_pos e3, putAt_mem, e3, ok.mem _ hp]
            constructor
            · rintro (z | ⟨z1, z2⟩)
              · exact absurd z e
              · exact ⟨by omega, z2⟩
            · rintro ⟨z1, z2⟩; exact .inr ⟨by omega, z2⟩
          · rw [if_neg e3, ok.mem p (by omega)]
            constructor
            · rintro ⟨z1, z2⟩; exact ⟨by omega, z2⟩
            · rintro ⟨z1, z2⟩; exact ⟨by omega, z2⟩
  refine ⟨nok, ?_, ?_⟩
  · intro S hS
    rw [len2]
    have hS' : ∀ i, i < E.length → S (en E i).1 = S (en E i).2 := fun i hi => by
      have := hS i (by simp; omega)
      rw [en_push, if_neg (by omega)] at this
      exact this
    have hnew : S (hd E left) = S T.length := by
      have := hS E.length (by simp)
      rw [en_push, if_pos rfl] at this
      unfold newE at this
      cases flip
      · exact this
      · exact this.symm
    have base := wh S hS'
    have all : ∀ p, p < T.length + 1 → S p = S (hd E left) := fun p hp' => by
      by_cases e : p = T.length
      · rw [e, hnew]
      · exact base p _ (by omega) hp
    intro p q hp' hq
    rw [all p hp', all q hq]
  · have f4 : ∀ z, z < 2 * E.length → z ≠ left → fol (E ++ [newE flip (hd E left) T.length]) (putBehind T (hd E left) (left / 2) E.length ++ [[E.length]]) z = fol E T z := fun z hz hne => by
      unfold fol
      rw [hd_old hz, rows, if_neg (by have := ok.hd_lt hz; omega)]
      by_cases e : hd E z = hd E left
      · rw [if_pos e]
        have hz2 : z / 2 ≠ left / 2 := fun q => hne (dart_eq (ok.ends _ (by omega)).1 q e)
        have hzm := ok.hd_mem hz
        rw [e] at hzm
        rw [n3 _ hzm hz2, e, outOf_old]
        have := (ok.nxt_mem' hz).1
        rw [e] at this
        exact this
      · rw [if_neg e, outOf_old (ok.nxt_mem' hz).1]
    have f1 : fol (E ++ [newE flip (hd E left) T.length]) (putBehind T (hd E left) (left / 2) E.length ++ [[E.length]]) left = newD E flip := by
      unfold fol
      rw [hd_old hl, rows, if_neg hab, if_pos rfl, n1, (out_new hab).1]
    have f2 : fol (E ++ [newE flip (hd E left) T.length]) (putBehind T (hd E left) (left / 2) E.length ++ [[E.length]]) (newD E flip) = newD E (!flip) := by
      unfold fol
      rw [hd_new.1, rows, if_pos rfl, newD_half, nxt_one, (out_new hab).2]
    have f3 : fol (E ++ [newE flip (hd E left) T.length]) (putBehind T (hd E left) (left / 2) E.length ++ [[E.length]]) (newD E (!flip)) = fol E T left := by
      unfold fol
      rw [hd_new.2, rows, if_neg hab, if_pos rfl, newD_half, n2, outOf_old (ok.nxt_mem' hl).1]
    obtain ⟨R', hR', hl'⟩ := hR.leaf hl (newD_or flip) f1 f2 f3 f4
    refine ⟨R', ?_, ?_⟩
    · have : 2 * (E ++ [newE flip (hd E left) T.length]).length = 2 * E.length + 2 := by simp; omega
      rw [this]
      exact hR'
    · rw [len2, List.length_append, List.length_singleton]; omega
/-- a chord between the corners behind left and right, darts of one ring -/
theorem Flat.chord (h : Flat E T) {left right : Nat} {l : List Nat} (hl : left < 2 * E.length) (hr : right < 2 * E.length) (hab : hd E left ≠ hd E right) (hp0 : Path (fol E T) left l left) (hn0 : (left :: l).Nodup) (hin0 : right ∈ l) (flip : Bool) :
    Flat (E ++ [newE flip (hd E left) (hd E right)]) (putBehind (putBehind T (hd E left) (left / 2) E.length) (hd E right) (right / 2) E.length) := by
  obtain ⟨ok, wh, R, hR, hE⟩ := h
  have hp := ok.hd_lt hl
  have hq := ok.hd_lt hr
  have hinp := ok.hd_mem hl
  have hinq := ok.hd_mem hr
  have hne : left ≠ right := fun e => hab (by rw [e])
  have outp : E.length ∉ row T (hd E left) := fun z => by have := ((ok.mem _ hp _).mp z).1; omega
  have outq : E.length ∉ row T (hd E right) := fun z => by have := ((ok.mem _ hq _).mp z).1; omega
  have len2 : (putBehind (putBehind T (hd E left) (left / 2) E.length) (hd E right) (right / 2) E.length).length = T.length := by rw [putBehind_len, putBehind_len]
  have rows : ∀ z, row (putBehind (putBehind T (hd E left) (left / 2) E.length) (hd E right) (right / 2) E.length) z = if z = hd E right then putAt (row T (hd E right)) ((row T (hd E right)).idxOf (right / 2) + 1) E.length else if z = hd E left then putAt (row T (hd E left)) ((row T (hd E left)).idxOf (left / 2) + 1) E.length else row T z := fun z => by
    rw [putBehind_row _ _ _ (by rw [putBehind_len]; exact hq), putBehind_row _ _ _ hp (hd E right), if_neg (Ne.symm hab), putBehind_row _ _ _ hp z]
  obtain ⟨n1, n2, n3⟩ := nxt_put (ok.nd _ hp) hinp outp
  obtain ⟨m1, m2, m3⟩ := nxt_put (ok.nd _ hq) hinq outq
  have nok : Ok (E ++ [newE flip (hd E left) (hd E right)]) (putBehind (putBehind T (hd E left) (left / 2) E.length) (hd E right) (right / 2) E.length) := by
    refine ⟨fun i hi => ?_, fun p hp' => ?_, fun p hp' i => ?_⟩
    · rw [len2, en_push]
      rw [List.length_append, List.length_singleton] at hi
      by_cases e : i = E.length
      · rw [if_pos e]
        unfold newE
        cases flip <;> simp <;> omega
      · rw [if_neg e]
        exact ok.ends i (by omega)
    · rw [rows]
      rw [len2] at hp'
      split
      · exact putAt_nodup (ok.nd _ hq) outq
      · split
        · exact putAt_nodup (ok.nd _ hp) outp
        · exact ok.nd p hp'
    · rw [rows, List.length_append, List.length_singleton, en_push]
      rw [len2] at hp'
      by_cases e : i = E.length
      · subst e
        rw [if_pos rfl, newE_or]
        by_cases e2 : p = hd E right
        · rw [if_pos e2, putAt_mem]; simp [e2]
        · rw [if_neg e2]
          by_cases e3 : p = hd E left
          · rw [if_pos e3, putAt_mem]; simp [e3]
          · rw [if_neg e3]
            constructor
            · intro z; have := ((ok.mem p hp' _).mp z).1; omega
            · rintro ⟨_, z | z⟩ <;> omega
      · rw [if_neg e]
        have fin : i ∈ row T p ↔ i < E.length + 1 ∧ ((en E i).1 = p ∨ (en E i).2 = p) := by
          rw [ok.mem p hp']
          constructor
          · rintro ⟨z1, z2⟩; exact ⟨by omega, z2⟩
          · rintro ⟨z1, z2⟩; exact ⟨by omega, z2⟩
        by_cases e2 : p = hd E right
        · rw [if_pos e2, putAt_mem, ← e2, ← fin]
          constructor
          · rintro (z | z)
            · exact absurd z e
            · exact z
          · exact .inr
        · rw [if_neg e2]
          by_cases e3 : p = hd E left
          · rw [if_pos e3, putAt_mem, ← e3, ← fin]
            constructor
            · rintro (z | z)
              · exact absurd z e
              · exact z
            · exact .inr
          · rw [if_neg e3, fin]
  refine ⟨nok, ?_, ?_⟩
  · intro S hS
    rw [len2]
    exact wh S fun i hi => by
      have := hS i (by simp; omega)
      rw [en_push, if_neg (by omega)] at this
      exact this
  · have f5 : ∀ z, z < 2 * E.length → z ≠ left → z ≠ right → fol (E ++ [newE flip (hd E left) (hd E right)]) (putBehind (putBehind T (hd E left) (left / 2) E.length) (hd E right) (right / 2) E.length) z = fol E T z := fun z hz hne1 hne2 => by
      unfold fol
      rw [hd_old hz, rows]
      by_cases e : hd E z = hd E right
      · rw [if_pos e]
        have hz2 : z / 2 ≠ right / 2 := fun q => hne2 (dart_eq (ok.ends _ (by omega)).1 q e)
        have hzm := ok.hd_mem hz
        rw [e] at hzm
        rw [m3 _ hzm hz2, e, outOf_old]
        have := (ok.nxt_mem' hz).1
        rw [e] at this
        exact this
      · rw [if_neg e]
        by_cases e2 : hd E z = hd E left
        · rw [if_pos e2]
          have hz2 : z / 2 ≠ left / 2 := fun q => hne1 (dart_eq (ok.ends _ (by omega)).1 q e2)
          have hzm := ok.hd_mem hz
          rw [e2] at hzm
          rw [n3 _ hzm hz2, e2, outOf_old]
          have := (ok.nxt_mem' hz).1
          rw [e2] at this
          exact this
        · rw [if_neg e2, outOf_old (ok.nxt_mem' hz).1]
    have f1 : fol (E ++ [newE flip (hd E left) (hd E right)]) (putBehind (putBehind T (hd E left) (left / 2) E.length) (hd E right) (right / 2) E.length) left = newD E flip := by
      unfold fol
      rw [hd_old hl, rows, if_neg hab, if_pos rfl, n1, (out_new hab).1]
    have f2 : fol (E ++ [newE flip (hd E left) (hd E right)]) (putBehind (putBehind T (hd E left) (left / 2) E.length) (hd E right) (right / 2) E.length) (newD E flip) = fol E T right := by
      unfold fol
      rw [hd_new.1, rows, if_pos rfl, newD_half, m2, outOf_old (ok.nxt_mem' hr).1]
    have f3 : fol (E ++ [newE flip (hd E left) (hd E right)]) (putBehind (putBehind T (hd E left) (left / 2) E.length) (hd E right) (right / 2) E.length) right = newD E (!flip) := by
      unfold fol
      rw [hd_old hr, rows, if_pos rfl, m1, (out_new hab).2]
    have f4 : fol (E ++ [newE flip (hd E left) (hd E right)]) (putBehind (putBehind T (hd E left) (left / 2) E.length) (hd E right) (right / 2) E.length) (newD E (!flip)) = fol E T left := by
      unfold fol
      rw [hd_new.2, rows, if_neg hab, if_pos rfl, newD_half, n2, outOf_old (ok.nxt_mem' hl).1]
    obtain ⟨R', hR', hl'⟩ := hR.chord hl hne hp0 hn0 hin0 (newD_or flip) f1 f2 f3 f4 f5
    refine ⟨R', ?_, ?_⟩
    · have : 2 * (E ++ [newE flip (hd E left) (hd E right)]).length = 2 * E.length + 2 := by simp; omega
      rw [this]
      exact hR'
    · rw [len2, List.length_append, List.length_singleton]; omega
end

/-! ### rings as they are told by the growing -/
def Cyc (f : Nat → Nat) (r : List Nat) : Prop := ∃ x l, r = x :: l ∧ Path f x l x
theorem cyc_rot {f : Nat → Nat} {u v : List Nat} (h : Cyc f (u ++ v)) : Cyc f (v ++ u) := by
  obtain ⟨x, l, e, p⟩ := h
  cases u with
  | nil => exact ⟨x, l, by rw [List.append_nil]; exact e, p⟩
  | cons a u =>
    cases v with
    | nil => exact ⟨x, l, by rw [List.append_nil] at e; exact e, p⟩
    | cons b v =>
      rw [List.cons_append] at e
      injection e with e1 e2
      subst e1 e2
      obtain ⟨p1, p2⟩ := Path.app.mp p
      exact ⟨b, v ++ a :: u, rfl, Path.app.mpr ⟨p2, p1⟩⟩
theorem cyc_head {f : Nat → Nat} {x : Nat} {l : List Nat} (h : Cyc f (x :: l)) : Path f x l x := by
  obtain ⟨y, l', e, p⟩ := h
  injection e with e1 e2
  subst e1 e2
  exact p
theorem Cyc.at {f : Nat → Nat} {x : Nat} {u v : List Nat} (h : Cyc f (u ++ x :: v)) : Path f x (v ++ u) x := cyc_head (cyc_rot h)
theorem Cyc.leaf {f g : Nat → Nat} {u v : List Nat} {left out back : Nat} (h : Cyc f (u ++ left :: v)) (g1 : g left = out) (g2 : g out = back) (g3 : g back = f left) (g4 : ∀ z ∈ v ++ u, g z = f z) : Cyc g (u ++ left :: out :: back :: v) := by
  have p := h.at
  have : Cyc g ((left :: out :: back :: v) ++ u) := ⟨left, out :: back :: (v ++ u), rfl, g1, g2, p.other g3 g4⟩
  exact cyc_rot this
theorem Cyc.chord {f g : Nat → Nat} {u m v : List Nat} {left right out back : Nat} (h : Cyc f (u ++ left :: (m ++ right :: v))) (g1 : g left = out) (g2 : g out = f right) (g3 : g right = back) (g4 : g back = f left) (g5 : ∀ z, (z ∈ m ∨ z ∈ v ++ u) → g z = f z) : Cyc g (u ++ left :: out :: v) ∧ Cyc g (m ++ [right, back]) := by
  have p := h.at
  rw [List.append_assoc, List.cons_append] at p
  obtain ⟨p1, p2⟩ := Path.app.mp p
  have a : Cyc g ((left :: out :: v) ++ u) := ⟨left, out :: (v ++ u), rfl, g1, p2.other g2 fun z hz => g5 z (.inr hz)⟩
  have b : Cyc g ([right, back] ++ m) := ⟨right, back :: m, rfl, g3, p1.other g4 fun z hz => g5 z (.inl hz)⟩
  exact ⟨cyc_rot a, cyc_rot b⟩
theorem set_split {α : Type} {R : List α} {w : Nat} {r : α} (h : R[w]? = some r) : ∃ A B, R = A ++ r :: B ∧ ∀ r', R.set w r' = A ++ r' :: B := by
  induction R generalizing w with
  | nil => simp at h
  | cons s R ih =>
    cases w with
    | zero =>
      rw [List.getElem?_cons_zero] at h
      injection h with h
      exact ⟨[], R, by rw [h]; rfl, fun r' => rfl⟩
    | succ w =>
      rw [List.getElem?_cons_succ] at h
      obtain ⟨A, B, e1, e2⟩ := ih h
      exact ⟨s :: A, B, by rw [e1]; rfl, fun r' => by rw [List.set_cons_succ, e2]; rfl⟩
theorem two_perm {m out back : Nat} (ho : (out = m ∧ back = m + 1) ∨ (out = m + 1 ∧ back = m)) : (out :: back :: List.range m).Perm (List.range (m + 2)) := by
  refine List.Perm.trans ?_ (range_two m).symm
  rcases ho with ⟨rfl, rfl⟩ | ⟨rfl, rfl⟩
  · exact List.Perm.refl _
  · exact List.Perm.swap _ _ _
theorem Rings.leafB {f g : Nat → Nat} {m w left out back : Nat} {R : List (List Nat)} {u v : List Nat} (h : Rings f m R) (hw : R[w]? = some (u ++ left :: v)) (ho : (out = m ∧ back = m + 1) ∨ (out = m + 1 ∧ back = m))
    (g1 : g left = out) (g2 : g out = back) (g3 : g back = f left) (g4 : ∀ z, z < m → z ≠ left → g z = f z) : Rings g (m + 2) (R.set w (u ++ left :: out :: back :: v)) := by
  obtain ⟨A, B, e, es⟩ := set_split hw
  have hn := h.nd
  rw [es]
  have hmem : ∀ r ∈ R, ∀ z ∈ r, z < m := fun r hr z hz => h.mem.mp (List.mem_flatten.mpr ⟨r, hr, hz⟩)
  have hrR : u ++ left :: v ∈ R := by rw [e]; simp
  rw [e, List.flatten_append, List.flatten_cons] at hn
  have hn2 := (List.nodup_append.mp hn).2.1
  have hnr := (List.nodup_append.mp hn2).1
  refine ⟨?_, fun r' hr' => ?_⟩
  · refine List.Perm.trans ?_ (two_perm ho)
    refine List.Perm.trans ?_ ((h.all.cons back).cons out)
    rw [e, List.perm_iff_count]
    intro a
    simp only [List.flatten_append, List.flatten_cons, List.count_append, List.count_cons]
    omega
  · have hold : ∀ s ∈ A ++ B, ∃ x l, s = x :: l ∧ Path g x l x := fun s hsm => by
      have hsR : s ∈ R := by rw [e]; rcases List.mem_append.mp hsm with a | a; exact List.mem_append_left _ a; exact List.mem_append_right _ (List.mem_cons_of_mem _ a)
      obtain ⟨x, l', rfl, p'⟩ := h.ok s hsR
      have nl : left ∉ x :: l' := fun hin => by
        rcases List.mem_append.mp hsm with a | a
        · exact (List.nodup_append.mp hn).2.2 left (List.mem_flatten.mpr ⟨_, a, hin⟩) left (List.mem_append_left _ (by simp)) rfl
        · exact (List.nodup_append.mp hn2).2.2 left (by simp) left (List.mem_flatten.mpr ⟨_, a, hin⟩) rfl
      have hz : ∀ z ∈ x :: l', g z = f z := fun z hz => g4 z (hmem _ hsR z hz) fun q => nl (q ▸ hz)
      exact ⟨x, l', rfl, p'.other (hz x List.mem_cons_self) fun z q => hz z (List.mem_cons_of_mem _ q)⟩
    rcases List.mem_append.mp hr' with a | a
    · exact hold r' (List.mem_append_left _ a)
    · rcases List.mem_cons.mp a with rfl | a
      · refine Cyc.leaf (h.ok _ hrR) g1 g2 g3 fun z hz => g4 z (hmem _ hrR z (by simp at hz ⊢; rcases hz with a | a <;> simp [a])) fun q => ?_
        subst q
        rcases List.mem_append.mp hz with a | a
        · exact (List.nodup_cons.mp (List.nodup_append.mp hnr).2.1).1 a
        · exact (List.nodup_append.mp hnr).2.2 z a z List.mem_cons_self rfl
      · exact hold r' (List.mem_append_right _ a)
theorem Rings.chordB {f g : Nat → Nat} {m w left right out back : Nat} {R : List (List Nat)} {u n v : List Nat} (h : Rings f m R) (hw : R[w]? = some (u ++ left :: (n ++ right :: v))) (ho : (out = m ∧ back = m + 1) ∨ (out = m + 1 ∧ back = m))
    (g1 : g left = out) (g2 : g out = f right) (g3 : g right = back) (g4 : g back = f left) (g5 : ∀ z, z < m → z ≠ left → z ≠ right → g z = f z) : Rings g (m + 2) (R.set w (u ++ left :: out :: v) ++ [n ++ [right, back]]) := by
  obtain ⟨A, B, e, es⟩ := set_split hw
  have hn := h.nd
  rw [es]
  have hmem : ∀ r ∈ R, ∀ z ∈ r, z < m := fun r hr z hz => h.mem.mp (List.mem_flatten.mpr ⟨r, hr, hz⟩)
  have hrR : u ++ left :: (n ++ right :: v) ∈ R := by rw [e]; simp
  rw [e, List.flatten_append, List.flatten_cons] at hn
  have hn2 := (List.nodup_append.mp hn).2.1
  have hnr := (List.nodup_append.mp hn2).1
  have hcy := Cyc.chord (h.ok _ hrR) g1 g2 g3 g4 fun z hz => by
    have hzr : z ∈ u ++ left :: (n ++ right :: v) := by simp at hz ⊢; rcases hz with a | a | a <;> simp [a]
    refine g5 z (hmem _ hrR z hzr) (fun q => ?_) fun q => ?_
    · subst q
      rw [List.nodup_append] at hnr
      obtain ⟨_, k1, k2⟩ := hnr
      rcases hz with a | a
      · exact (List.nodup_cons.mp k1).1 (by simp [a])
      · rcases List.mem_append.mp a with a | a
        · exact (List.nodup_cons.mp k1).1 (by simp [a])
        · exact k2 z a z List.mem_cons_self rfl
    · subst q
      rw [List.nodup_append] at hnr
      obtain ⟨_, k1, k2⟩ := hnr
      have k3 := (List.nodup_cons.mp k1).2
      rw [List.nodup_append] at k3
      obtain ⟨_, k4, k5⟩ := k3
      rcases hz with a | a
      · exact k5 z a z List.mem_cons_self rfl
      · rcases List.mem_append.mp a with a | a
        · exact (List.nodup_cons.mp k4).1 a
        · exact k2 z a z (by simp) rfl
  refine ⟨?_, fun r' hr' => ?_⟩
  · refine List.Perm.trans ?_ (two_perm ho)
    refine List.Perm.trans ?_ ((h.all.cons back).cons out)
    rw [e, List.perm_iff_count]
    intro a
    simp only [List.flatten_append, List.flatten_cons, List.count_append, List.count_cons, List.flatten_nil, List.count_nil]
    omega
  · have hold : ∀ s ∈ A ++ B, ∃ x l, s = x :: l ∧ Path g x l x := fun s hsm => by
      have hsR : s ∈ R := by rw [e]; rcases List.mem_append.mp hsm with a | a; exact List.mem_append_left _ a; exact List.mem_append_right _ (List.mem_cons_of_mem _ a)
      obtain ⟨x, l', rfl, p'⟩ := h.ok s hsR
      have nl : ∀ y, y ∈ u ++ left :: (n ++ right :: v) → y ∉ x :: l' := fun y hy hin => by
        rcases List.mem_append.mp hsm with a | a
        · exact (List.nodup_append.mp hn).2.2 y (List.mem_flatten.mpr ⟨_, a, hin⟩) y (List.mem_append_left _ hy) rfl
        · exact (List.nodup_append.mp hn2).2.2 y hy y (List.mem_flatten.mpr ⟨_, a, hin⟩) rfl
      have hz : ∀ z ∈ x :: l', g z = f z := fun z hz => g5 z (hmem _ hsR z hz) (fun q => nl left (by simp) (q ▸ hz)) fun q => nl right (by simp) (q ▸ hz)
      exact ⟨x, l', rfl, p'.other (hz x List.mem_cons_self) fun z q => hz z (List.mem_cons_of_mem _ q)⟩
    rcases List.mem_append.mp hr' with a | a
    · rcases List.mem_append.mp a with a | a
      · exact hold r' (List.mem_append_left _ a)
      · rcases List.mem_cons.mp a with rfl | a
        · exact hcy.1
        · exact hold r' (List.mem_append_right _ a)
    · rw [List.mem_singleton.mp a]
      exact hcy.2
section
variable {E : EdgL} {T : Turns}
theorem leaf_fol (ok : Ok E T) {left : Nat} (hl : left < 2 * E.length) (flip : Bool) :
    let g := fol (E ++ [newE flip (hd E left) T.length]) (putBehind T (hd E left) (left / 2) E.length ++ [[E.length]])
    g left = newD E flip ∧ g (newD E flip) = newD E (!flip) ∧ g (newD E (!flip)) = fol E T left ∧ ∀ z, z < 2 * E.length → z ≠ left → g z = fol E T z := by
  have hp := ok.hd_lt hl
  have hin := ok.hd_mem hl
  have hout : E.length ∉ row T (hd E left) := fun z => by have := ((ok.mem _ hp _).mp z).1; omega
  have hab : hd E left ≠ T.length := by omega
  have rows : ∀ q, row (putBehind T (hd E left) (left / 2) E.length ++ [[E.length]]) q = if q = T.length then [E.length] else if q = hd E left then putAt (row T (hd E left)) ((row T (hd E left)).idxOf (left / 2) + 1) E.length else row T q := fun q => by
    rw [row_push, putBehind_len, putBehind_row T _ _ hp]
  obtain ⟨n1, n2, n3⟩ := nxt_put (ok.nd _ hp) hin hout
  refine ⟨?_, ?_, ?_, fun z hz hne => ?_⟩
  · unfold fol
    rw [hd_old hl, rows, if_neg hab, if_pos rfl, n1, (out_new hab).1]
  · unfold fol
    rw [hd_new.1, rows, if_pos rfl, newD_half, nxt_one, (out_new hab).2]
  · unfold fol
    rw [hd_new.2, rows, if_neg hab, if_pos rfl, newD_half, n2, outOf_old (ok.nxt_mem' hl).1]
  · unfold fol
    rw [hd_old hz, rows, if_neg (by have := ok.hd_lt hz; omega)]
    by_cases e : hd E z = hd E left
    · rw [if_pos e]
      have hz2 : z / 2 ≠ left / 2 := fun q => hne (dart_eq (ok.ends _ (by omega)).1 q e)
      have hzm := ok.hd_mem hz
      rw [e] at hzm
      rw [n3 _ hzm hz2, e, outOf_old]
      have := (ok.nxt_mem' hz).1
      rw [e] at this
      exact this
    · rw [if_neg e, outOf_old (ok.nxt_mem' hz).1]
theorem chord_fol (ok : Ok E T) {left right : Nat} (hl : left < 2 * E.length) (hr : right < 2 * E.length) (hab : hd E left ≠ hd E right) (flip : Bool) :
    let g := fol (E ++ [newE flip (hd E left) (hd E right)]) (putBehind (putBehind T (hd E left) (left / 2) E.length) (hd E right) (right / 2) E.length)
    g left = newD E flip ∧ g (newD E flip) = fol E T right ∧ g right = newD E (!flip) ∧ g (newD E (!flip)) = fol E T left ∧ ∀ z, z < 2 * E.length → z ≠ left → z ≠ right → g z = fol E T z := by
  have hp := ok.hd_lt hl
  have hq := ok.hd_lt hr
  have hinp := ok.hd_mem hl
  have hinq := ok.hd_mem hr
  have outp : E.length ∉ row T (hd E left) := fun z => by have := ((ok.mem _ hp _).mp z).1; omega
  have outq : E.length ∉ row T (hd E right) := fun z => by have := ((ok.mem _ hq _).mp z).1; omega
  have rows : ∀ z, row (putBehind (putBehind T (hd E left) (left / 2) E.length) (hd E right) (right / 2) E.length) z = if z = hd E right then putAt (row T (hd E right)) ((row T (hd E right)).idxOf (right / 2) + 1) E.length else if z = hd E left then putAt (row T (hd E left)) ((row T (hd E left)).idxOf (left / 2) + 1) E.length else row T z := fun z => by
    rw [putBehind_row _ _ _ (by rw [putBehind_len]; exact hq), putBehind_row _ _ _ hp (hd E right), if_neg (Ne.symm hab), putBehind_row _ _ _ hp z]
  obtain ⟨n1, n2, n3⟩ := nxt_put (ok.nd _ hp) hinp outp
  obtain ⟨m1, m2, m3⟩ := nxt_put (ok.nd _ hq) hinq outq
  refine ⟨?_, ?_, ?_, ?_, fun z hz hne1 hne2 => ?_⟩
  · unfold fol
    rw [hd_old hl, rows, if_neg hab, if_pos rfl, n1, (out_new hab).1]
  · unfold fol
    rw [hd_new.1, rows, if_pos rfl, newD_half, m2, outOf_old (ok.nxt_mem' hr).1]
  · unfold fol
    rw [hd_old hr, rows, if_pos rfl, m1, (out_new hab).2]
  · unfold fol
    rw [hd_new.2, rows, if_neg hab, if_pos rfl, newD_half, n2, outOf_old (ok.nxt_mem' hl).1]
  · unfold fol
    rw [hd_old hz, rows]
    by_cases e : hd E z = hd E right
    · rw [if_pos e]
      have hz2 : z / 2 ≠ right / 2 := fun q => hne2 (dart_eq (ok.ends _ (by omega)).1 q e)
      have hzm := ok.hd_mem hz
      rw [e] at hzm
      rw [m3 _ hzm hz2, e, outOf_old]
      have := (ok.nxt_mem' hz).1
      rw [e] at this
      exact this
    · rw [if_neg e]
      by_cases e2 : hd E z = hd E left
      · rw [if_pos e2]
        have hz2 : z / 2 ≠ left / 2 := fun q => hne1 (dart_eq (ok.ends _ (by omega)).1 q e2)
        have hzm := ok.hd_mem hz
        rw [e2] at hzm
        rw [n3 _ hzm hz2, e2, outOf_old]
        have := (ok.nxt_mem' hz).1
        rw [e2] at this
        exact this
      · rw [if_neg e2, outOf_old (ok.nxt_mem' hz).1]
end
/-- a flat web with its rings told -/
structure GB (E : EdgL) (T : Turns) (R : List (List Nat)) : Prop where
  flat : Flat E T
  rings : Rings (fol E T) (2 * E.length) R
theorem GB.rlen {E : EdgL} {T : Turns} {R : List (List Nat)} (h : GB E T R) : T.length + R.length = E.length + 2 := by
  obtain ⟨S, hS, hl⟩ := h.flat.euler
  rw [h.rings.count hS]
  exact hl
theorem GB.lt {E : EdgL} {T : Turns} {R : List (List Nat)} (h : GB E T R) {w d : Nat} {r : List Nat} (hw : R[w]? = some r) (hd' : d ∈ r) : d < 2 * E.length := h.rings.mem.mp (List.mem_flatten.mpr ⟨r, List.mem_of_getElem? hw, hd'⟩)
theorem GB.leaf {E : EdgL} {T : Turns} {R : List (List Nat)} (h : GB E T R) {w left : Nat} {u v : List Nat} (hw : R[w]? = some (u ++ left :: v)) (flip : Bool) :
    GB (E ++ [newE flip (hd E left) T.length]) (putBehind T (hd E left) (left / 2) E.length ++ [[E.length]]) (R.set w (u ++ left :: newD E flip :: newD E (!flip) :: v)) := by
  have hl := h.lt hw (show left ∈ u ++ left :: v by simp)
  obtain ⟨f1, f2, f3, f4⟩ := leaf_fol h.flat.ok hl flip
  refine ⟨h.flat.leaf hl flip, ?_⟩
  have : 2 * (E ++ [newE flip (hd E left) T.length]).length = 2 * E.length + 2 := by simp; omega
  rw [this]
  exact h.rings.leafB hw (newD_or flip) f1 f2 f3 f4
theorem GB.chord {E : EdgL} {T : Turns} {R : List (List Nat)} (h : GB E T R) {w left right : Nat} {u n v : List Nat} (hw : R[w]? = some (u ++ left :: (n ++ right :: v))) (hab : hd E left ≠ hd E right) (flip : Bool) :
    GB (E ++ [newE flip (hd E left) (hd E right)]) (putBehind (putBehind T (hd E left) (left / 2) E.length) (hd E right) (right / 2) E.length) (R.set w (u ++ left :: newD E flip :: v) ++ [n ++ [right, newD E (!flip)]]) := by
  have hl := h.lt hw (show left ∈ u ++ left :: (n ++ right :: v) by simp)
  have hr := h.lt hw (show right ∈ u ++ left :: (n ++ right :: v) by simp)
  obtain ⟨f1, f2, f3, f4, f5⟩ := chord_fol h.flat.ok hl hr hab flip
  have hcy : Cyc (fol E T) (u ++ left :: (n ++ right :: v)) := h.rings.ok _ (List.mem_of_getElem? hw)
  have hnd : ((u ++ left :: (n ++ right :: v))).Nodup := h.rings.nd.sublist (List.sublist_flatten_of_mem (List.mem_of_getElem? hw))
  have hnd2 : (left :: ((n ++ right :: v) ++ u)).Nodup := (List.perm_append_comm (l₁ := u) (l₂ := left :: (n ++ right :: v))).nodup_iff.mp hnd
  refine ⟨h.flat.chord hl hr hab hcy.at hnd2 (by simp) flip, ?_⟩
  have : 2 * (E ++ [newE flip (hd E left) (hd E right)]).length = 2 * E.length + 2 := by simp; omega
  rw [this]
  exact h.rings.chordB hw (newD_or flip) f1 f2 f3 f4 f5
theorem gb0 : GB [(0, 1)] [[0], [0]] [[0, 1]] := by
  refine ⟨flat0, ⟨by decide, fun r hr => ?_⟩⟩
  rw [List.mem_singleton.mp hr]
  exact ⟨0, [1], rfl, by decide, (by show fol [(0, 1)] [[0], [0]] 1 = 0; decide)⟩
theorem put_push {T : Turns} {p x y : Nat} {r : List Nat} (hp : p < T.length) : putBehind (T ++ [r]) p x y = putBehind T p x y ++ [r] := by
  unfold putBehind
  rw [row_push, if_neg (by omega), List.set_append_left _ _ hp]
theorem put_comm {T : Turns} {p q x x' y : Nat} (hne : p ≠ q) : putBehind (putBehind T q x' y) p x y = putBehind (putBehind T p x y) q x' y := by
  unfold putBehind
  have row_ne : ∀ {i j : Nat} {s : List Nat}, i ≠ j → row (T.set j s) i = row T i := fun {i j s} h => by
    unfold row
    rw [List.getD_eq_getElem?_getD, List.getElem?_set_ne (Ne.symm h), ← List.getD_eq_getElem?_getD]
  rw [row_ne hne, row_ne (Ne.symm hne), List.set_comm _ _ (Ne.symm hne)]

/-! ### numbered anew -/
def pm (π : List Nat) (i : Nat) : Nat := π.getD i 0
section
variable {π : List Nat} {m : Nat}
theorem pm_at (h : π.Perm (List.range m)) {i : Nat} (hi : i < m) : π[i]? = some (pm π i) := by
  have hl : π.length = m := by rw [h.length_eq, List.length_range]
  unfold pm
  rw [List.getD_eq_getElem?_getD, List.getElem?_eq_getElem (by omega)]
  rfl
theorem pm_lt (h : π.Perm (List.range m)) {i : Nat} (hi : i < m) : pm π i < m := by
  have := List.mem_of_getElem? (pm_at h hi)
  rw [h.mem_iff, List.mem_range] at this
  exact this
theorem pm_inj (h : π.Perm (List.range m)) {i j : Nat} (hi : i < m) (hj : j < m) (e : pm π i = pm π j) : i = j := by
  have hl : π.length = m := by rw [h.length_eq, List.length_range]
  have hn : π.Nodup := h.nodup_iff.mpr List.nodup_range
  have a := pm_at h hi
  have b := pm_at h hj
  rw [List.getElem?_eq_getElem (by omega)] at a b
  have e2 : π[i]'(by omega) = π[j]'(by omega) := by rw [Option.some.inj a, Option.some.inj b, e]
  exact (List.getElem_inj hn).mp e2
theorem pm_surj (h : π.Perm (List.range m)) {x : Nat} (hx : x < m) : ∃ i, i < m ∧ pm π i = x := by
  have hm : x ∈ π := h.mem_iff.mpr (List.mem_range.mpr hx)
  obtain ⟨i, hi, e⟩ := List.mem_iff_getElem.mp hm
  have hl : π.length = m := by rw [h.length_eq, List.length_range]
  refine ⟨i, by omega, ?_⟩
  have := pm_at h (i := i) (by omega)
  rw [List.getElem?_eq_getElem hi] at this
  rw [← Option.some.inj this, e]
end
def rot (c : Nat) (r : List Nat) : List Nat := r.drop c ++ r.take c
theorem rot_perm (c : Nat) (r : List Nat) : (rot c r).Perm r := by
  unfold rot
  refine List.perm_append_comm.trans ?_
  rw [List.take_append_drop]
theorem nxt_split {a b : List Nat} {x y : Nat} (h : (a ++ x :: y :: b).Nodup) : nxt (a ++ x :: y :: b) x = y := by
  refine nxt_at (i := a.length) h ?_ ?_
  · rw [List.getElem?_append_right (Nat.le_refl _), Nat.sub_self]; rfl
  · rw [Nat.mod_eq_of_lt (by simp), List.getElem?_append_right (by omega), show a.length + 1 - a.length = 1 by omega]; rfl
theorem nxt_end {a : List Nat} {x y : Nat} (h : (y :: (a ++ [x])).Nodup) : nxt (y :: (a ++ [x])) x = y := by
  refine nxt_at (i := a.length + 1) h ?_ ?_
  · show (a ++ [x])[a.length]? = some x
    rw [List.getElem?_append_right (Nat.le_refl _), Nat.sub_self]; rfl
  · have : (a.length + 1 + 1) % (y :: (a ++ [x])).length = 0 := by
      rw [show (y :: (a ++ [x])).length = a.length + 1 + 1 by simp, Nat.mod_self]
    rw [this]
    rfl
theorem nxt_rot1 {x : Nat} {r : List Nat} (h : (x :: r).Nodup) {z : Nat} (hz : z ∈ x :: r) : nxt (r ++ [x]) z = nxt (x :: r) z := by
  have h2 : (r ++ [x]).Nodup := (List.perm_append_comm (l₁ := r) (l₂ := [x])).nodup_iff.mpr h
  rcases List.mem_cons.mp hz with rfl | hz
  · cases r with
    | nil => rfl
    | cons y t =>
      have e : nxt (z :: y :: t) z = y := nxt_split (a := []) (b := t) h
      rw [e]
      exact nxt_end h2
  · obtain ⟨u, v, rfl⟩ := List.append_of_mem hz
    cases v with
    | nil =>
      rw [nxt_end h]
      have h3 : (u ++ z :: x :: []).Nodup := by
        have e : u ++ [z] ++ [x] = u ++ z :: x :: [] := by simp
        rw [← e]; exact h2
      have e : u ++ [z] ++ [x] = u ++ z :: x :: [] := by simp
      rw [e]
      exact nxt_split h3
    | cons y t =>
      have e1 : (x :: (u ++ z :: y :: t)) = (x :: u) ++ z :: y :: t := rfl
      have e2 : (u ++ z :: y :: t) ++ [x] = u ++ z :: y :: (t ++ [x]) := by simp
      rw [e1] at h
      rw [e2] at h2
      rw [e1, e2, nxt_split h, nxt_split h2]
theorem nxt_rot {z : Nat} : ∀ (c : Nat) {r : List Nat}, r.Nodup → z ∈ r → nxt (rot c r) z = nxt r z
  | 0, r, _, _ => by unfold rot; simp
  | c + 1, [], _, hz => by simp at hz
  | c + 1, x :: r, h, hz => by
    have h2 : (r ++ [x]).Nodup := (List.perm_append_comm (l₁ := r) (l₂ := [x])).nodup_iff.mpr h
    have hz2 : z ∈ r ++ [x] := (List.perm_append_comm (l₁ := r) (l₂ := [x])).mem_iff.mpr hz
    rw [← nxt_rot1 h hz]
    by_cases hc : c ≤ r.length
    · rw [← nxt_rot c h2 hz2]
      congr 1
      unfold rot
      rw [List.drop_succ_cons, List.take_succ_cons, List.drop_append_of_le_length hc, List.take_append_of_le_length hc]
      simp
    · unfold rot
      rw [List.drop_of_length_le (by simp; omega), List.take_of_length_le (by simp; omega), List.nil_append, nxt_rot1 h hz]
theorem nxt_map {f : Nat → Nat} {r : List Nat} {x : Nat} (hr : r.Nodup) (hi : ∀ a ∈ r, ∀ b ∈ r, f a = f b → a = b) (hx : x ∈ r) : nxt (r.map f) (f x) = f (nxt r x) := by
  obtain ⟨i, hi', rfl⟩ := List.mem_iff_getElem.mp hx
  have hl : 0 < r.length := by omega
  have m1 : (i + 1) % r.length < r.length := Nat.mod_lt _ hl
  rw [nxt_at hr (List.getElem?_eq_getElem hi') (List.getElem?_eq_getElem m1)]
  have hn : (r.map f).Nodup := by
    rw [List.Nodup, List.pairwise_map]
    refine List.Pairwise.imp_of_mem ?_ hr
    intro a b ha hb hne e
    exact hne (hi a ha b hb e)
  refine nxt_at (i := i) hn ?_ ?_
  · rw [List.getElem?_map, List.getElem?_eq_getElem hi']; rfl
  · rw [List.length_map, List.getElem?_map, List.getElem?_eq_getElem m1]; rfl
theorem Path.map {f g φ : Nat → Nat} : ∀ {x y : Nat} {l : List Nat}, Path f x l y → (∀ z ∈ x :: l, g (φ z) = φ (f z)) → Path g (φ x) (l.map φ) (φ y)
  | x, y, [], h, e => by
    show g (φ x) = φ y
    rw [e x List.mem_cons_self, show f x = y from h]
  | x, y, a :: l, h, e => by
    refine ⟨?_, Path.map h.2 fun z hz => e z (List.mem_cons_of_mem _ hz)⟩
    rw [e x List.mem_cons_self, h.1]
/-- the dart d in the new numbers -/
def dm (τ : List Nat) (d : Nat) : Nat := 2 * pm τ (d / 2) + d % 2
theorem dm_perm {τ : List Nat} {n : Nat} (h : τ.Perm (List.range n)) : ((List.range (2 * n)).map (dm τ)).Perm (List.range (2 * n)) := by
  have lt : ∀ d, d < 2 * n → dm τ d < 2 * n := fun d hd => by
    have := pm_lt h (i := d / 2) (by omega)
    unfold dm
    omega
  have inj : ∀ d e, d < 2 * n → e < 2 * n → dm τ d = dm τ e → d = e := fun d e hd he q => by
    unfold dm at q
    have := pm_inj h (i := d / 2) (j := e / 2) (by omega) (by omega) (by omega)
    omega
  have hn : ((List.range (2 * n)).map (dm τ)).Nodup := by
    rw [List.Nodup, List.pairwise_map]
    refine List.Pairwise.imp_of_mem ?_ List.nodup_range
    intro a b ha hb hne e
    exact hne (inj a b (List.mem_range.mp ha) (List.mem_range.mp hb) e)
  refine perm_of_nodup hn List.nodup_range fun a => ?_
  have hs : ∀ a ∈ (List.range (2 * n)).map (dm τ), a ∈ List.range (2 * n) := fun a ha => by
    obtain ⟨d, hd, rfl⟩ := List.mem_map.mp ha
    exact List.mem_range.mpr (lt d (List.mem_range.mp hd))
  exact ⟨hs a, nodup_full hn hs (by simp) a⟩
structure Renum (E : EdgL) (T : Turns) (σ τ : List Nat) (E' : EdgL) (T' : Turns) : Prop where
  ps : σ.Perm (List.range T.length)
  pt : τ.Perm (List.range E.length)
  le : E'.length = E.length
  lt : T'.length = T.length
  ends : ∀ k, k < E.length → en E' (pm τ k) = (pm σ (en E k).1, pm σ (en E k).2)
  rows : ∀ p, p < T.length → ∃ c, row T' (pm σ p) = rot c ((row T p).map (pm τ))
section
variable {E E' : EdgL} {T T' : Turns} {σ τ : List Nat}
theorem Renum.hd (h : Renum E T σ τ E' T') {d : Nat} (hd' : d < 2 * E.length) : hd E' (dm τ d) = pm σ (Sf.hd E d) := by
  have e1 : dm τ d / 2 = pm τ (d / 2) := by unfold dm; omega
  have e2 : dm τ d % 2 = d % 2 := by unfold dm; omega
  unfold Sf.hd
  rw [e1, e2, h.ends _ (by omega)]
  split <;> rfl
theorem Renum.fol (h : Renum E T σ τ E' T') (ok : Ok E T) {d : Nat} (hd' : d < 2 * E.length) : fol E' T' (dm τ d) = dm τ (Sf.fol E T d) := by
  have hp := ok.hd_lt hd'
  have hm := ok.hd_mem hd'
  obtain ⟨hj, hor⟩ := ok.nxt_mem' hd'
  have inj : ∀ a ∈ row T (Sf.hd E d), ∀ b ∈ row T (Sf.hd E d), pm τ a = pm τ b → a = b := fun a ha b hb e => pm_inj h.pt ((ok.mem _ hp a).mp ha).1 ((ok.mem _ hp b).mp hb).1 e
  have hn2 : ((row T (Sf.hd E d)).map (pm τ)).Nodup := by
    rw [List.Nodup, List.pairwise_map]
    refine List.Pairwise.imp_of_mem ?_ (ok.nd _ hp)
    intro a b ha hb hne e
    exact hne (inj a ha b hb e)
  obtain ⟨c, hc⟩ := h.rows _ hp
  have e1 : dm τ d / 2 = pm τ (d / 2) := by unfold dm; omega
  unfold Sf.fol
  rw [h.hd hd', e1, hc, nxt_rot c hn2 (List.mem_map.mpr ⟨_, hm, rfl⟩), nxt_map (ok.nd _ hp) inj hm]
  generalize nxt (row T (Sf.hd E d)) (d / 2) = j at hj hor
  have hends := ok.ends j hj
  unfold outOf dm
  rw [h.ends j hj]
  by_cases e : (en E j).1 = Sf.hd E d
  · rw [if_pos e, if_pos (by rw [e])]
    have : (2 * j + 0) / 2 = j := by omega
    rw [this]
    omega
  · rw [if_neg e, if_neg (fun q => e (pm_inj h.ps (by omega) hp q))]
    have : (2 * j + 1) / 2 = j := by omega
    rw [this]
    omega
theorem Renum.flat (h : Renum E T σ τ E' T') (F : Flat E T) : Flat E' T' := by
  obtain ⟨ok, wh, R, hR, hE⟩ := F
  have rowsP : ∀ p, p < T.length → (row T' (pm σ p)).Perm ((row T p).map (pm τ)) := fun p hp => by
    obtain ⟨c, hc⟩ := h.rows p hp
    rw [hc]
    exact rot_perm _ _
  refine ⟨⟨fun i hi => ?_, fun p hp => ?_, fun p hp i => ?_⟩, ?_, ?_⟩
  · rw [h.le] at hi
    obtain ⟨k, hk, rfl⟩ := pm_surj h.pt hi
    rw [h.ends k hk, h.lt]
    obtain ⟨a, b, c⟩ := ok.ends k hk
    exact ⟨fun q => a (pm_inj h.ps b c q), pm_lt h.ps b, pm_lt h.ps c⟩
  · rw [h.lt] at hp
    obtain ⟨q, hq, rfl⟩ := pm_surj h.ps hp
    rw [(rowsP q hq).nodup_iff, List.Nodup, List.pairwise_map]
    refine List.Pairwise.imp_of_mem ?_ (ok.nd q hq)
    intro a b ha hb hne e
    exact hne (pm_inj h.pt ((ok.mem q hq a).mp ha).1 ((ok.mem q hq b).mp hb).1 e)
  · rw [h.lt] at hp
    obtain ⟨q, hq, rfl⟩ := pm_surj h.ps hp
    rw [(rowsP q hq).mem_iff, List.mem_map, h.le]
    constructor
    · rintro ⟨k, hk, rfl⟩
      obtain ⟨k1, k2⟩ := (ok.mem q hq k).mp hk
      refine ⟨pm_lt h.pt k1, ?_⟩
      rw [h.ends k k1]
      rcases k2 with z | z
      · exact .inl (by rw [z])
      · exact .inr (by rw [z])
    · rintro ⟨hi, ho⟩
      obtain ⟨k, hk, rfl⟩ := pm_surj h.pt hi
      refine ⟨k, (ok.mem q hq k).mpr ⟨hk, ?_⟩, rfl⟩
      rw [h.ends k hk] at ho
      have := ok.ends k hk
      rcases ho with z | z
      · exact .inl (pm_inj h.ps (by omega) hq z)
      · exact .inr (pm_inj h.ps (by omega) hq z)
  · intro S hS
    rw [h.lt]
    have base := wh (fun p => S (pm σ p)) fun i hi => by
      have := hS (pm τ i) (by rw [h.le]; exact pm_lt h.pt hi)
      rw [h.ends i hi] at this
      exact this
    intro p q hp hq
    obtain ⟨p', hp', rfl⟩ := pm_surj h.ps hp
    obtain ⟨q', hq', rfl⟩ := pm_surj h.ps hq
    exact base p' q' hp' hq'
  · refine ⟨R.map (List.map (dm τ)), ⟨?_, ?_⟩, ?_⟩
    · rw [h.le, ← List.map_flatten]
      exact (hR.all.map _).trans (dm_perm h.pt)
    · intro r hr
      obtain ⟨s, hs, rfl⟩ := List.mem_map.mp hr
      obtain ⟨x, l, rfl, p⟩ := hR.ok s hs
      refine ⟨dm τ x, l.map (dm τ), rfl, p.map fun z hz => ?_⟩
      exact h.fol ok (hR.mem.mp (List.mem_flatten.mpr ⟨_, hs, hz⟩))
    · rw [h.lt, h.le, List.length_map]
      exact hE
end
theorem Path.get {f : Nat → Nat} : ∀ {x y : Nat} {l : List Nat}, Path f x l y → ∀ i, i ≤ l.length → f ((x :: l).getD i 0) = (l ++ [y]).getD i 0
  | x, y, [], h, i, hi => by
    have : i = 0 := by simpa using hi
    subst this
    exact h
  | x, y, a :: l, h, 0, _ => h.1
  | x, y, a :: l, h, i + 1, hi => Path.get h.2 i (by simpa using hi)

/-! ### the rings in the order of their least darts -/
structure Canon (f : Nat → Nat) (m : Nat) (R : List (List Nat)) : Prop where
  rings : Rings f m R
  least : ∀ r ∈ R, ∃ x l, r = x :: l ∧ ∀ z ∈ l, x < z
  order : R.Pairwise fun r s => r.headD 0 < s.headD 0
structure Pre (f : Nat → Nat) (m i : Nat) (R : List (List Nat)) : Prop where
  ok : ∀ r ∈ R, ∃ x l, r = x :: l ∧ Path f x l x ∧ (∀ z ∈ l, x < z) ∧ x < i
  nd : R.flatten.Nodup
  lt : ∀ d ∈ R.flatten, d < m
  cov : ∀ d, d < i → d ∈ R.flatten
  order : R.Pairwise fun r s => r.headD 0 < s.headD 0
section
variable {f : Nat → Nat} {m i : Nat} {R : List (List Nat)}
theorem Pre.zero : Pre f m 0 [] := ⟨fun r h => by simp at h, List.nodup_nil, fun d h => by simp at h, fun d h => absurd h (by omega), List.Pairwise.nil⟩
theorem Pre.skip (h : Pre f m i R) (hi : i ∈ R.flatten) : Pre f m (i + 1) R :=
  ⟨fun r hr => by obtain ⟨x, l, a, b, c, d⟩ := h.ok r hr; exact ⟨x, l, a, b, c, by omega⟩, h.nd, h.lt, fun d hd => by
    by_cases e : d = i
    · rw [e]; exact hi
    · exact h.cov d (by omega), h.order⟩
theorem Pre.add (h : Pre f m i R) (ni : i ∉ R.flatten) {l : List Nat} (p : Path f i l i) (hn : (i :: l).Nodup) (hlt : ∀ z ∈ i :: l, z < m) : Pre f m (i + 1) (R ++ [i :: l]) ∧ ∀ z ∈ i :: l, z ∉ R.flatten := by
  have dis : ∀ z ∈ i :: l, z ∉ R.flatten := fun z hz hin => by
    obtain ⟨r, hr, hzr⟩ := List.mem_flatten.mp hin
    obtain ⟨x, l', rfl, p', _, _⟩ := h.ok r hr
    have h1 : Reach f z i := (p.ring hz).mp List.mem_cons_self
    exact ni (List.mem_flatten.mpr ⟨_, hr, (p'.ring hzr).mpr h1⟩)
  have big : ∀ z ∈ l, i < z := fun z hz => by
    have h1 : z ≠ i := fun e => (List.nodup_cons.mp hn).1 (e ▸ hz)
    have h2 : ¬ z < i := fun e => dis z (List.mem_cons_of_mem _ hz) (h.cov z e)
    omega
  refine ⟨⟨fun r hr => ?_, ?_, fun d hd => ?_, fun d hd => ?_, ?_⟩, dis⟩
  · rcases List.mem_append.mp hr with a | a
    · obtain ⟨x, l', a, b, c, d⟩ := h.ok r a; exact ⟨x, l', a, b, c, by omega⟩
    · have : r = i :: l := by simpa using a
      exact ⟨i, l, this, p, big, by omega⟩
  · rw [List.flatten_append, List.flatten_singleton]
    exact List.nodup_append.mpr ⟨h.nd, hn, fun a ha b hb e => dis b hb (e ▸ ha)⟩
  · rw [List.flatten_append, List.flatten_singleton] at hd
    rcases List.mem_append.mp hd with a | a
    · exact h.lt d a
    · exact hlt d a
  · rw [List.flatten_append, List.flatten_singleton]
    by_cases e : d = i
    · rw [e]; exact List.mem_append_right _ List.mem_cons_self
    · exact List.mem_append_left _ (h.cov d (by omega))
  · refine List.pairwise_append.mpr ⟨h.order, List.pairwise_singleton _ _, fun r hr s hs => ?_⟩
    have : s = i :: l := by simpa using hs
    subst this
    obtain ⟨x, l', rfl, _, _, hx⟩ := h.ok r hr
    exact hx
theorem Pre.done (h : Pre f m m R) : Canon f m R := by
  refine ⟨⟨perm_of_nodup h.nd List.nodup_range fun a => ?_, fun r hr => ?_⟩, fun r hr => ?_, h.order⟩
  · rw [List.mem_range]
    exact ⟨h.lt a, h.cov a⟩
  · obtain ⟨x, l, a, b, _, _⟩ := h.ok r hr; exact ⟨x, l, a, b⟩
  · obtain ⟨x, l, a, _, c, _⟩ := h.ok r hr; exact ⟨x, l, a, c⟩
end
/-- the ring that d is in -/
def sideOf (R : List (List Nat)) (d : Nat) : Nat := R.findIdx fun r => r.contains d
theorem sideOf_at : ∀ {R : List (List Nat)} {i d : Nat} {r : List Nat}, R.flatten.Nodup → R[i]? = some r → d ∈ r → sideOf R d = i
  | [], i, d, r, _, h, _ => by simp at h
  | s :: R, 0, d, r, _, h, hd => by
    have e : s = r := by simpa using h
    subst e
    unfold sideOf
    rw [List.findIdx_cons]
    simp [hd]
  | s :: R, i + 1, d, r, hn, h, hd => by
    rw [List.flatten_cons] at hn
    obtain ⟨_, n2, n3⟩ := List.nodup_append.mp hn
    have h' : R[i]? = some r := by simpa using h
    have hns : d ∉ s := fun z => n3 d z d (List.mem_flatten.mpr ⟨r, List.mem_of_getElem? h', hd⟩) rfl
    have ih := sideOf_at n2 h' hd
    unfold sideOf at ih ⊢
    have e : s.contains d = false := by simpa using hns
    rw [List.findIdx_cons, e]
    show List.findIdx (fun r => r.contains d) R + 1 = i + 1
    rw [ih]
theorem flatten_ge : ∀ {R : List (List Nat)}, (∀ r ∈ R, 1 ≤ r.length) → R.length ≤ R.flatten.length
  | [], _ => Nat.le_refl _
  | r :: R, h => by
    have h1 := h r List.mem_cons_self
    have h2 := flatten_ge fun s hs => h s (List.mem_cons_of_mem _ hs)
    rw [List.flatten_cons, List.length_append, List.length_cons]
    omega

/-! ### the rings in their order are told by f -/
theorem Path.uniq {f : Nat → Nat} {x : Nat} : ∀ {y : Nat} {l l' : List Nat}, Path f y l x → Path f y l' x → x ∉ l → x ∉ l' → l = l'
  | _, [], [], _, _, _, _ => rfl
  | _, [], a :: l', h, h', _, n => absurd (List.mem_cons.mpr (.inl ((show _ = x from h).symm.trans h'.1))) n
  | _, a :: l, [], h, h', n, _ => absurd (List.mem_cons.mpr (.inl ((show _ = x from h').symm.trans h.1))) n
  | y, a :: l, b :: l', h, h', n, n' => by
    have e : a = b := h.1.symm.trans h'.1
    subst e
    rw [Path.uniq h.2 h'.2 (fun z => n (List.mem_cons_of_mem _ z)) (fun z => n' (List.mem_cons_of_mem _ z))]
theorem sorted_eq : ∀ {xs ys : List Nat}, xs.Pairwise (· < ·) → ys.Pairwise (· < ·) → (∀ a, a ∈ xs ↔ a ∈ ys) → xs = ys
  | [], [], _, _, _ => rfl
  | [], y :: ys, _, _, h => absurd ((h y).mpr List.mem_cons_self) (by simp)
  | x :: xs, [], _, _, h => absurd ((h x).mp List.mem_cons_self) (by simp)
  | x :: xs, y :: ys, h1, h2, h => by
    obtain ⟨a1, a2⟩ := List.pairwise_cons.mp h1
    obtain ⟨b1, b2⟩ := List.pairwise_cons.mp h2
    have e : x = y := by
      rcases List.mem_cons.mp ((h x).mp List.mem_cons_self) with e | e
      · exact e
      · rcases List.mem_cons.mp ((h y).mpr List.mem_cons_self) with e2 | e2
        · exact e2.symm
        · have := a1 _ e2; have := b1 _ e; omega
    subst e
    rw [sorted_eq a2 b2 fun a => ?_]
    constructor
    · intro ha
      rcases List.mem_cons.mp ((h a).mp (List.mem_cons_of_mem _ ha)) with e | e
      · have := a1 _ ha; omega
      · exact e
    · intro ha
      rcases List.mem_cons.mp ((h a).mpr (List.mem_cons_of_mem _ ha)) with e | e
      · have := b1 _ ha; omega
      · exact e

theorem lmin_head {x : Nat} {l : List Nat} (h : ∀ z ∈ l, x < z) : lmin (x :: l) = x := by
  have h1 := lmin_mem (r := x :: l) (by simp)
  have h2 := lmin_le (r := x :: l) (x := x) List.mem_cons_self
  rcases List.mem_cons.mp h1 with e | e
  · exact e
  · have := h _ e; omega
theorem Canon.heads {f : Nat → Nat} {m : Nat} {R : List (List Nat)} (h : Canon f m R) : R.map lmin = R.map fun r => r.headD 0 := by
  refine List.map_congr_left fun r hr => ?_
  obtain ⟨x, l, rfl, hl⟩ := h.least r hr
  exact lmin_head hl
theorem Canon.eq {f : Nat → Nat} {m : Nat} {R S : List (List Nat)} (h : Canon f m R) (k : Canon f m S) : R = S := by
  have e : R.map (fun r => r.headD 0) = S.map fun r => r.headD 0 := by
    refine sorted_eq (List.pairwise_map.mpr h.order) (List.pairwise_map.mpr k.order) fun a => ?_
    rw [← h.heads, ← k.heads]
    exact (h.rings.leaders.2 a).trans (k.rings.leaders.2 a).symm
  have hl : R.length = S.length := by simpa using congrArg List.length e
  refine List.ext_getElem hl fun i h1 h2 => ?_
  have ei : R[i].headD 0 = S[i].headD 0 := by
    have a1 : (R.map fun r => r.headD 0)[i]? = (S.map fun r => r.headD 0)[i]? := by rw [e]
    rw [List.getElem?_map, List.getElem?_map, List.getElem?_eq_getElem h1, List.getElem?_eq_getElem h2] at a1
    exact Option.some.inj a1
  obtain ⟨x, l, e1, p1⟩ := h.rings.ok _ (List.getElem_mem h1)
  obtain ⟨y, l', e2, p2⟩ := k.rings.ok _ (List.getElem_mem h2)
  rw [e1, e2] at ei ⊢
  have exy : x = y := ei
  subst exy
  have n1 : (x :: l).Nodup := by rw [← e1]; exact h.rings.nd.sublist (List.sublist_flatten_of_mem (List.getElem_mem h1))
  have n2 : (x :: l').Nodup := by rw [← e2]; exact k.rings.nd.sublist (List.sublist_flatten_of_mem (List.getElem_mem h2))
  rw [p1.uniq p2 (List.nodup_cons.mp n1).1 (List.nodup_cons.mp n2).1]

/-! ### rings turned to their least, in their order, are the rounds -/
def turnF (r : List Nat) : List Nat := r.drop (r.idxOf (lmin r)) ++ r.take (r.idxOf (lmin r))
theorem turnF_perm (r : List Nat) : (turnF r).Perm r := by
  unfold turnF
  have e : r = r.take (r.idxOf (lmin r)) ++ r.drop (r.idxOf (lmin r)) := (List.take_append_drop _ _).symm
  exact List.perm_append_comm.trans (List.Perm.of_eq e.symm)
theorem turnF_head {r : List Nat} (h : r ≠ []) : ∃ l, turnF r = lmin r :: l := by
  have hm := lmin_mem h
  have hi : r.idxOf (lmin r) < r.length := List.idxOf_lt_length_iff.mpr hm
  unfold turnF
  rw [List.drop_eq_getElem_cons hi, List.getElem_idxOf hi, List.cons_append]
  exact ⟨_, rfl⟩
theorem flat_turn : ∀ R : List (List Nat), (R.map turnF).flatten.Perm R.flatten
  | [] => List.Perm.refl _
  | r :: R => by
    rw [List.map_cons, List.flatten_cons, List.flatten_cons]
    exact (turnF_perm r).append (flat_turn R)
theorem canon_rows {f : Nat → Nat} {m : Nat} {R S : List (List Nat)} (h : Rings f m R) (hp : S.Perm (R.map turnF)) (ho : S.Pairwise fun r s => r.headD 0 ≤ s.headD 0) : Canon f m S := by
  have hall : S.flatten.Perm (List.range m) := (hp.flatten.trans (flat_turn R)).trans h.all
  have hnd : S.flatten.Nodup := hall.nodup_iff.mpr List.nodup_range
  have hS : ∀ s ∈ S, ∃ r ∈ R, s = turnF r ∧ r ≠ [] := fun s hs => by
    obtain ⟨r, hr, e⟩ := List.mem_map.mp (hp.mem_iff.mp hs)
    obtain ⟨x, l, e2, _⟩ := h.ok r hr
    exact ⟨r, hr, e.symm, by rw [e2]; simp⟩
  refine ⟨⟨hall, fun s hs => ?_⟩, fun s hs => ?_, ?_⟩
  · obtain ⟨r, hr, rfl, _⟩ := hS s hs
    obtain ⟨x, l, e, p⟩ := h.ok r hr
    have hc : Cyc f (r.take (r.idxOf (lmin r)) ++ r.drop (r.idxOf (lmin r))) := ⟨x, l, by rw [List.take_append_drop]; exact e, p⟩
    exact cyc_rot hc
  · obtain ⟨r, hr, e, hne⟩ := hS s hs
    obtain ⟨l, el⟩ := turnF_head hne
    refine ⟨lmin r, l, e.trans el, fun z hz => ?_⟩
    have hzr : z ∈ r := (turnF_perm r).mem_iff.mp (by rw [el]; exact List.mem_cons_of_mem _ hz)
    have h1 := lmin_le hzr
    have hns : (lmin r :: l).Nodup := by
      rw [← el, ← e]
      exact hnd.sublist (List.sublist_flatten_of_mem hs)
    have h2 : lmin r ≠ z := fun y => (List.nodup_cons.mp hns).1 (by rw [y]; exact hz)
    omega
  · have hd := (List.pairwise_flatten.mp hnd).2
    refine (ho.and hd).imp_of_mem fun {r s} hr hs hh => ?_
    obtain ⟨h1, h2⟩ := hh
    obtain ⟨r', _, er, hr'⟩ := hS r hr
    obtain ⟨s', _, es, hs'⟩ := hS s hs
    obtain ⟨l, el⟩ := turnF_head hr'
    obtain ⟨l', el'⟩ := turnF_head hs'
    rw [er, el, es, el'] at h1 h2 ⊢
    have h1' : lmin r' ≤ lmin s' := h1
    have h3 : lmin r' ≠ lmin s' := fun y => h2 _ List.mem_cons_self _ List.mem_cons_self y
    show lmin r' < lmin s'
    omega

/-! ### defs by name -/
structure Has (P : Program) (w : World) (K : PySem.W.Frag) (mg : Str → Option Value) (base : Heap) (CX : CXT) (k : Nat) (x : Str) (ps : List Str) (sp : Sp) : Prop where
  ex : ∃ f fd, FnOk P w K mg base CX k f fd ps sp ∧ mg x = some (.ref f) ∧ PySem.W.keepIn K (.ref f) = true ∧ Binds K fd ps []
section
variable {P : Program} {w : World} {K : PySem.W.Frag} {mg : Str → Option Value} {base : Heap} {x qual : Str} {ps N : List Str} {sp : Sp} {k : Nat}
theorem Has.mk' {st : Stmt} {f : Addr} {fd : FuncData} (F : Fun K x qual st f fd) (gf : mg x = some (.ref f)) (b : Binds K fd ps []) (S : FnScope N ps (defScope st)) (len : ∀ vs H Q E, sp vs H Q E → vs.length = ps.length)
    (hbody : ∀ (cdv : Value) (A : Around) (outer : List Env) (s : Shared) (H : Hp) (vs : List V) (Q : VK) (E : XK), Room k (A.deeper (envOfC qual (defScope st) s.heap.objs.size f cdv)) → sp vs H Q E →
      ∃ t, PSs (cxOf CX0 P w K mg base N qual (defScope st) f cdv A outer s H E).nox (defBody st) t ∧ t { nx := fun _ H' => Q .non H', rt := Q } (start N vs) H) : Has P w K mg base CX0 (k + 1) x ps sp :=
  ⟨f, fd, F.ok S len hbody, gf, F.kp, b⟩
end
section
variable {X : Cx} {k : Nat} {ps : List Str} {sp : Sp} {x : Str} {p pos : Pos} {e : Expr} {es : List Expr} {t : TA}
theorem pe_fn (h : Has X.prog X.w X.K X.mg X.base CX0 k x ps sp) (hr : Room k X.A) (hg : Gl X x) (ha : PA X (e :: es) t) (hdb : (x == ("__debug__" : Str)) = false := by decide) (he : starEach (e :: es) X.env = (false, eval e X.env) :: starEach es X.env := by rfl) (hpl : (backTo pos (starEach es X.env)).any (·.1) = false := by rfl) :
    PE X (.Call (.Name x p) (e :: es) [] pos) (tCall sp [] E0 t) := by
  obtain ⟨f, fd, F, gf, kp, b⟩ := h.ex
  exact pe_call F hr hg gf kp b .nil pass0 ha hdb he hpl
theorem pe_fn0 (h : Has X.prog X.w X.K X.mg X.base CX0 k x ps sp) (hr : Room k X.A) (hg : Gl X x) (hdb : (x == ("__debug__" : Str)) = false := by decide) :
    PE X (.Call (.Name x p) [] [] pos) (tCall sp [] E0 tNil) := by
  obtain ⟨f, fd, F, gf, kp, b⟩ := h.ex
  exact pe_call0 F hr hg gf kp b .nil pass0 hdb
end
/-! ### lists whose object is known to the sign; the sum of two -/
def LsE (K : PySem.W.Frag) (H : Hp) (a : Addr) (xs : List V) : Prop :=
  Rd H a (.lst xs) ∨ ∃ (its : List Value) (n : Nat), K.lookup a = some { cls := .type "list", data := .seq its.toArray n } ∧ Vals xs its ∧ xs.length ≤ sizeLine
theorem LsE.sq {K : PySem.W.Frag} {H : Hp} {a : Addr} {xs : List V} (h : LsE K H a xs) : SqL K H a xs := by
  rcases h with h | ⟨its, n, h1, h2, h3⟩
  · exact .inl h
  · exact .inr ⟨_, its.toArray, n, h1, rfl, rfl, rfl, by rw [List.size_toArray, ← h2.length]; exact h3, by simpa using h2⟩
theorem LsE.of {K : PySem.W.Frag} {H : Hp} {a : Addr} {xs : List V} (h : H a = some (.lst xs)) : LsE K H a xs := .inl (.inl h)
theorem LsE.same {K : PySem.W.Frag} {H H' : Hp} {a : Addr} {xs : List V} (e : Same H H') (h : LsE K H a xs) : LsE K H' a xs := by
  rcases h with (h | ⟨o, h⟩) | h
  · exact .inl (.inl (e _ _ h))
  · exact .inl (.inr ⟨o, e _ _ h⟩)
  · exact .inr h
section
variable {X : Cx}
theorem LsE.obj {pins : List (Addr × Obj)} {σ : L2.St} {H : Hp} {s : Shared} {a : Addr} {xs : List V} (I : Inv X pins σ H s) (h : LsE X.K H a xs) :
    ∃ (its : List Value) (n : Nat), Vals xs its ∧ s.heap.get? a = some { cls := .type "list", data := .seq its.toArray n } := by
  rcases h with h | ⟨its, n, h1, h2, _⟩
  · obtain ⟨_, its, n, r, e⟩ := h.ok I.hok
    exact ⟨its, n, r, e⟩
  · exact ⟨its, n, h2, I.kIn a _ h1⟩
def rCatE (K : PySem.W.Frag) : R2 := fun x y H Q => ∃ l b xs zs, x = .ref l ∧ y = .ref b ∧ LsE K H l xs ∧ LsE K H b zs ∧ xs.length + zs.length ≤ sizeLine ∧ ∀ p, H p = none → Q (.ref p) (upd H p (.lst (xs ++ zs)))
theorem op_catE : OpR X (binaryOp .Add) (rCatE X.K) := by
  intro pins s σ H x y v u Q I rx ry h
  obtain ⟨l, b, xs, zs, rfl, rfl, hl, hb, hz, q⟩ := h
  cases rx
  cases ry
  obtain ⟨ix, n, rl, el⟩ := hl.obj I
  obtain ⟨iz, m, rb, eb⟩ := hb.obj I
  refine PySem.P.add_list el eb ?_ (by simp only [List.size_toArray, ← rl.length, ← rb.length]; exact hz)
  have join : ix.toArray ++ iz.toArray = (ix ++ iz).toArray := by simp
  rw [join]
  exact ⟨.ref s.heap.objs.size, _, I.lnew (t' := s.toks) (rl.append rb) (by simpa using hz), rfl, q _ I.fresh⟩
end
/-! ### tests -/
theorem ifd {c A B : Prop} [Decidable c] (h1 : c → A) (h2 : ¬ c → B) : if decide c = true then A else B := by
  by_cases h : c
  · simp only [h, decide_true, if_true]; exact h1 h
  · simp only [h, decide_false, Bool.false_eq_true, if_false]; exact h2 h
theorem ifnd {c A B : Prop} [Decidable c] (h1 : ¬ c → A) (h2 : c → B) : if (!decide c) = true then A else B := by
  by_cases h : c
  · simp only [h, decide_true, Bool.not_true, Bool.false_eq_true, if_false]; exact h2 h
  · simp only [h, decide_false, Bool.not_false, if_true]; exact h1 h
theorem ifb {b : Bool} {A B : Prop} (h1 : b = true → A) (h2 : b = false → B) : if b = true then A else B := by
  cases b with
  | true => exact h1 rfl
  | false => exact h2 rfl
theorem ifT {b : Bool} {A B : Prop} (hb : b = true) (h : A) : if b = true then A else B := by rw [if_pos hb]; exact h
theorem ifF {b : Bool} {A B : Prop} (hb : b = false) (h : B) : if b = true then A else B := by rw [hb]; exact h
theorem int_eq {i j : Int} : (V.int i = V.int j) = (i = j) := by simp
theorem same_upd {H : Hp} {p : Addr} {o : HO} (h : H p = none) : Same H (upd H p o) := fun b x e => by
  rw [upd_ne (ne_of_none e h)]
  exact e
/-- a place that is free -/
def New (H : Hp) (p : Addr) : Prop := H p = none
theorem w_new {H : Hp} {R : Addr → Prop} (h : ∀ p, New H p → R p) : ∀ p, H p = none → R p := h
theorem ne_new {H : Hp} {a b : Addr} {o : HO} (h : H a = some o) (n : New H b) : a ≠ b := ne_of_none h n
/-- one more object over what was tracked at H -/
theorem _root_.L2.Same.new {H H' : Hp} {p : Addr} {o : HO} (e : Same H H') (h : New H' p) : Same H (upd H' p o) := e.trans (same_upd h)
theorem _root_.L2.Same.get {H H' : Hp} {p : Addr} {o : HO} (e : Same H H') (h : H p = some o) : H' p = some o := e p o h
theorem New.of {H H' : Hp} {p : Addr} (n : New H' p) (e : Same H H') : New H p := e.free n
/-- an object that H does not track is changed -/
theorem _root_.L2.Same.mut {H H' : Hp} {p : Addr} {o : HO} (e : Same H H') (h : New H p) : Same H (upd H' p o) := fun b x hb => by
  rw [upd_ne (ne_of_none hb h)]
  exact e b x hb
/-! ### isinstance of ints and bools -/
theorem kb_ii : kitB "int" "int" = some true := by decide +kernel
theorem kb_ib : kitB "int" "bool" = some false := by decide +kernel
theorem kb_bb : kitB "bool" "bool" = some true := by decide +kernel
theorem kb_bi : kitB "bool" "int" = some true := by decide +kernel
theorem kb_ll : kitB "list" "list" = some true := by decide +kernel
theorem kb_tt : kitB "tuple" "tuple" = some true := by decide +kernel
theorem kb_ni : kitB "NoneType" "int" = some false := by decide +kernel
theorem kb_nb : kitB "NoneType" "bool" = some false := by decide +kernel
theorem kb_tl : kitB "tuple" "list" = some false := by decide +kernel
theorem kb_lt : kitB "list" "tuple" = some false := by decide +kernel
/-! ### the law's end, the script's list known to the sign, its bits told -/
theorem walk_ofE {l : PySem.W.OpenLaw} {n k : Nat} {q : Program} {loose : List Str} {XP : (Str → Option Value) → Heap → Prop} {YP : World → Heap → Prop} {d : DefRec} {K : Params → PySem.W.Frag} {sp : PySem.W.Frag → Sp}
    (hn : l.most = some n) (hn2 : n ≤ sizeLine) (hdf : d.params.defaults = []) (hr : Room k callerA) (hY : ∀ (w : World) (h : Heap), YP w h → (K w.params).In h)
    (F : ∀ (w : World) (mg : Str → Option Value) (fa : Addr) (h : Heap), (K w.params).In h → h.Ns mainGlobals mg → mg d.name = some (.ref fa) →
      ∃ fd : FuncData, (∀ (s : Shared) (u : Value), BindsTo s fd ⟨[u], []⟩ [("script", u)]) ∧ ∀ base : Heap, (K w.params).In base → base.Ns mainGlobals mg → FnOk l.prog w (K w.params) mg base CX0 k fa fd ["script"] (sp (K w.params)))
    (hsp : ∀ (K : PySem.W.Frag) (H : Hp) (a : Addr) (ns : List Int), ns.length ≤ n → (∀ z ∈ ns, Builtin.Int.intBits z ≤ 1048576) → LsE K H a (ns.map V.int) → sp K [.ref a] H (fun v _ => v = .bl true) fun _ _ _ => False) :
    PySem.W.WalkO q loose XP YP l.row.toRowW d [] (fun f vs => PySem.call f vs) := by
  refine Att.attach_callB hn hdf fun w s₀ s₁ mg mb fa o pm cd doc a vs ns G Y ho hd hcd hmg hobj hints hlen hbits hg => ?_
  obtain ⟨fd, hb, hF⟩ := F w mg fa _ (hY w _ Y) G.T.g hmg
  refine law_call (hY w _ Y) G.T.g G.T.b G.T.builtins G.T.nolimit hg hobj hints (Nat.le_trans hlen hn2) hr hF hb (fun H _ hS => hsp _ H a ns hlen hbits ?_) fun _ _ _ h => h
  rcases hS with h | ⟨ob, its, m, hk, h1, h2, h3, h4, h5⟩
  · exact .inl h
  · have e := (hY w _ Y) a ob hk
    rw [hobj] at e
    cases e
    cases h3
    exact .inr ⟨vs, _, hk, by simpa using h5, by rw [List.length_map]; exact Nat.le_trans hlen hn2⟩
/-! ### bounds of operators -/
theorem cdivw_small {i j : Int} (h : 0 < j) (h2 : j < 2 ^ 200) : CDivW i j := wide_div (b := 200) h (by omega) (by decide) (by decide)
theorem nab_lt {i : Int} {a : Nat} (h1 : -(2 ^ a) < i) (h2 : i < 2 ^ a) : i.natAbs < 2 ^ a := by
  have e : ((2 ^ a : Nat) : Int) = (2 : Int) ^ a := by simp
  omega
theorem cmulx_small {i j : Int} (h1 : -(2 ^ 200) < i) (h2 : i < 2 ^ 200) (h3 : -(2 ^ 200) < j) (h4 : j < 2 ^ 200) : CMulX i j := mulx_ok (nab_lt h1 h2) (nab_lt h3 h4) (by decide)
theorem cshl_one {j : Int} (h : 0 ≤ j) (h2 : j ≤ 100000) : CShl 1 j := by
  have e : ((j.toNat : Nat) : Int) = j := Int.toNat_of_nonneg h
  rw [← e]
  exact shl_ok (n := 1) (by decide) (by omega)
theorem cshl_small {i j : Int} (h0 : -(2 ^ 200) < i) (h1 : i < 2 ^ 200) (h : 0 ≤ j) (h2 : j ≤ 100000) : CShl i j := by
  have e : ((j.toNat : Nat) : Int) = j := Int.toNat_of_nonneg h
  rw [← e]
  exact shl_ok (n := 200) (nab_lt h0 h1) (by omega)
theorem szle {α : Type} {xs : List α} (h : Nat.ble xs.length 1000 = true) : xs.length ≤ sizeLine := Nat.le_trans (Nat.le_of_ble_eq_true h) (by decide)
theorem szlt {α : Type} {xs : List α} (h : xs.length < 1000000) : xs.length < sizeLine := Nat.lt_of_lt_of_le h (by decide)
theorem atI_get {α : Type} {xs : List α} {i : Int} {j : Nat} (e : i = j) (h : j < xs.length) : atI xs i = some xs[j] := by
  subst e
  exact atI_nat (List.getElem?_eq_getElem h)
theorem atI_map {α β : Type} {f : α → β} {xs : List α} {i : Int} {j : Nat} (e : i = j) (h : j < xs.length) : atI (xs.map f) i = some (f xs[j]) := by
  subst e
  exact atI_nat (by rw [List.getElem?_map, List.getElem?_eq_getElem h]; rfl)
/-! ### the readings, one at a time -/
section
variable {σ : L2.St} {H : Hp} {Q : VK} {QT : Bool → Hp → Prop} {QA : List V → Hp → Prop} {D : Ends} {v x y z : V} {ta tb tc te tv : TE} {t u c : TT} {ts us : TS} {tl tr : TA} {r : R2} {g : TG} {gs : TGs} {i j : Nat} {m n : Int} {K : PySem.W.Frag} {a p q C dx : Addr} {f : Str} {xs ys : List V} {fs : List (Str × V)}
theorem w_seq (h : ts { D with nx := us D } σ H) : tSeq ts us D σ H := h
theorem w_next (h : D.nx σ H) : tNext D σ H := h
theorem w_var (h : ∃ v, σ[i]? = some (some v) ∧ Q v H) : tVar i σ H Q := h
theorem w_c (h : Q v H) : tC v σ H Q := h
theorem w_op (h : ta σ H fun x H1 => tb σ H1 fun y H2 => r x y H2 Q) : tOp r ta tb σ H Q := h
theorem w_un {r : V → Hp → VK → Prop} (h : ta σ H fun x H1 => r x H1 Q) : tUn r ta σ H Q := h
theorem w_rI0 {g : Int → Int → V} (h : Q (g m n) H) : rI0 g (.int m) (.int n) H Q := ⟨m, n, rfl, rfl, h⟩
theorem w_mod (h0 : 0 < n) (h : Q (.int (m % n)) H) : rI (fun _ j => 0 < j) (fun i j => .int (i % j)) (.int m) (.int n) H Q := ⟨m, n, rfl, rfl, h0, h⟩
theorem w_div (h0 : 0 < n) (h1 : n < 2 ^ 200) (h : Q (.int (m / n)) H) : rI CDivW (fun i j => .int (i / j)) (.int m) (.int n) H Q := ⟨m, n, rfl, rfl, cdivw_small h0 h1, h⟩
theorem w_shr (h0 : 0 ≤ n) (h : Q (.int (m / 2 ^ n.toNat)) H) : rI (fun _ j => 0 ≤ j) (fun i j => .int (i / 2 ^ j.toNat)) (.int m) (.int n) H Q := ⟨m, n, rfl, rfl, h0, h⟩
theorem w_mul (h1 : -(2 ^ 200) < m) (h2 : m < 2 ^ 200) (h3 : -(2 ^ 200) < n) (h4 : n < 2 ^ 200) (h : Q (.int (m * n)) H) : rI CMulX (fun i j => .int (i * j)) (.int m) (.int n) H Q := ⟨m, n, rfl, rfl, cmulx_small h1 h2 h3 h4, h⟩
theorem w_shl1 (h1 : 0 ≤ n) (h2 : n ≤ 100000) (h : Q (.int (1 * 2 ^ n.toNat)) H) : rI CShl (fun i j => .int (i * 2 ^ j.toNat)) (.int 1) (.int n) H Q := ⟨1, n, rfl, rfl, cshl_one h1 h2, h⟩
theorem w_shl (h1 : -(2 ^ 200) < m) (h2 : m < 2 ^ 200) (h3 : 0 ≤ n) (h4 : n ≤ 100000) (h : Q (.int (m * 2 ^ n.toNat)) H) : rI CShl (fun i j => .int (i * 2 ^ j.toNat)) (.int m) (.int n) H Q := ⟨m, n, rfl, rfl, cshl_small h1 h2 h3 h4, h⟩
theorem w_pow (h0 : CPow m n) (h : Q (.int (m ^ n.toNat)) H) : rI CPow (fun i j => .int (i ^ j.toNat)) (.int m) (.int n) H Q := ⟨m, n, rfl, rfl, h0, h⟩
theorem w_rU {g : Int → V} (h : Q (g m) H) : rU g (.int m) H Q := ⟨m, rfl, h⟩
theorem dec_ii : decide (V.int m = V.int n) = decide (m = n) := by
  by_cases h : m = n
  · rw [h]; simp
  · simp [h]
theorem dec_bb {a b : Bool} : decide (V.bl a = V.bl b) = decide (a = b) := by cases a <;> cases b <;> decide
theorem dec_ss {a b : Str} : decide (V.str a = V.str b) = decide (a = b) := by
  by_cases h : a = b
  · rw [h]; simp
  · simp [h]
theorem w_eqI (h : Q (.bl (decide (m = n))) H) : rEq (.int m) (.int n) H Q := ⟨rfl, by rw [dec_ii]; exact h⟩
theorem w_eqB {a b : Bool} (h : Q (.bl (decide (a = b))) H) : rEq (.bl a) (.bl b) H Q := ⟨rfl, by rw [dec_bb]; exact h⟩
theorem w_eqS {a b : Str} (h : Q (.bl (decide (a = b))) H) : rEq (.str a) (.str b) H Q := ⟨rfl, by rw [dec_ss]; exact h⟩
theorem w_eqNI (h : Q (.bl false) H) : rEq .non (.int n) H Q := ⟨rfl, by rw [decide_eq_false (by simp)]; exact h⟩
theorem w_eqIN (h : Q (.bl false) H) : rEq (.int n) .non H Q := ⟨rfl, by rw [decide_eq_false (by simp)]; exact h⟩
theorem w_neI (h : Q (.bl (!decide (m = n))) H) : rNe (.int m) (.int n) H Q := ⟨rfl, by rw [dec_ii]; exact h⟩
theorem w_neB {a b : Bool} (h : Q (.bl (!decide (a = b))) H) : rNe (.bl a) (.bl b) H Q := ⟨rfl, by rw [dec_bb]; exact h⟩
theorem w_neS {a b : Str} (h : Q (.bl (!decide (a = b))) H) : rNe (.str a) (.str b) H Q := ⟨rfl, by rw [dec_ss]; exact h⟩
theorem w_ixL (hs : SqL K H p xs) (ha : atI xs m = some v) (h : Q v H) : rIxL K (.ref p) (.int m) H Q := ⟨p, xs, m, v, rfl, rfl, hs, ha, h⟩
theorem w_ixT (hs : SqT K H p xs) (ha : atI xs m = some v) (h : Q v H) : rIxT K (.ref p) (.int m) H Q := ⟨p, xs, m, v, rfl, rfl, hs, ha, h⟩
theorem w_ixl (hs : SqL K H p xs) (ha : atI xs m = some v) (h : Q v H) : rIx K (.ref p) (.int m) H Q := .inl ⟨p, xs, m, v, rfl, rfl, hs, ha, h⟩
theorem w_ixt (hs : SqT K H p xs) (ha : atI xs m = some v) (h : Q v H) : rIx K (.ref p) (.int m) H Q := .inr (.inl ⟨p, xs, m, v, rfl, rfl, hs, ha, h⟩)
theorem w_catE (h1 : LsE K H p xs) (h2 : LsE K H q ys) (hz : xs.length + ys.length ≤ sizeLine) (h : ∀ p, H p = none → Q (.ref p) (upd H p (.lst (xs ++ ys)))) : rCatE K (.ref p) (.ref q) H Q := ⟨p, q, xs, ys, rfl, rfl, h1, h2, hz, h⟩
theorem w_rep (h1 : H p = some (.lst xs)) (h2 : -(2 ^ 63) ≤ n) (h3 : n < 2 ^ 63) (h4 : xs.length * n.toNat ≤ sizeLine) (h : ∀ p, H p = none → Q (.ref p) (upd H p (.lst (List.replicate n.toNat xs).flatten))) : rRep (.ref p) (.int n) H Q := ⟨p, n, xs, rfl, rfl, h1, h2, h3, h4, h⟩
theorem w_test (h : te σ H fun x H' => ∃ k, x = .bl k ∧ QT k H') : tTest te σ H QT := h
theorem w_tB (h : te σ H fun x H' => ∃ k, x = .bl k ∧ QT k H') : tB te σ H QT := h
theorem w_bl {b : Bool} {R : Bool → Prop} (h : R b) : ∃ k, V.bl b = .bl k ∧ R k := ⟨b, rfl, h⟩
theorem w_and (h : t σ H fun c H1 => if c = true then u σ H1 QT else QT false H1) : tAnd t u σ H QT := h
theorem w_or (h : t σ H fun c H1 => if c = true then QT true H1 else u σ H1 QT) : tOr t u σ H QT := h
theorem w_not (h : t σ H fun c H1 => QT (!c) H1) : tNot t σ H QT := h
theorem w_andV (h : ta σ H fun x H1 => ∃ c, x = .bl c ∧ if c = true then tb σ H1 Q else Q (.bl false) H1) : tAndV ta tb σ H Q := h
theorem w_orV (h : ta σ H fun x H1 => ∃ c, x = .bl c ∧ if c = true then Q (.bl true) H1 else tb σ H1 Q) : tOrV ta tb σ H Q := h
theorem w_notV (h : ta σ H fun x H1 => ∃ c, x = .bl c ∧ Q (.bl (!c)) H1) : tNotV ta σ H Q := h
theorem w_ifE (h : t σ H fun c H1 => if c = true then ta σ H1 Q else tb σ H1 Q) : tIf t ta tb σ H Q := h
theorem w_asg (h : te σ H fun x H1 => g x σ H1 D.nx) : tAsg te g D σ H := h
theorem w_gn {R : L2.St → Hp → Prop} (h : R (σ.set i (some v)) H) : gName i v σ H R := h
theorem w_gt {R : L2.St → Hp → Prop} {k : Nat} (hs : SqT K H p xs) (hl : xs.length = k) (h : gs xs σ H R) : gTup K k gs (.ref p) σ H R := ⟨p, xs, rfl, hs, hl, h⟩
theorem w_gc {R : L2.St → Hp → Prop} (h : g v σ H fun σ' H' => gs xs σ' H' R) : gCons g gs (v :: xs) σ H R := ⟨v, xs, rfl, h⟩
theorem w_g0 {R : L2.St → Hp → Prop} (h : R σ H) : gNil [] σ H R := ⟨rfl, h⟩
theorem w_gs {R : L2.St → Hp → Prop} {tt : TSet} (h : ta σ H fun o H1 => tb σ H1 fun i H2 => tt o i v H2 fun H3 => R σ H3) : gSub ta tb tt v σ H R := h
theorem w_setL {R : Hp → Prop} (hp : H p = some (.lst xs)) (hj : ixN xs.length m = some j) (h : R (upd H p (.lst (xs.set j v)))) : rSetL (.ref p) (.int m) v H R := ⟨p, xs, m, j, rfl, rfl, hp, hj, h⟩
theorem w_drop (h : te σ H fun _ H1 => D.nx σ H1) : tDrop te D σ H := h
theorem w_ret (h : te σ H D.rt) : tRet te D σ H := h
theorem w_retN (h : D.rt .non H) : tRetN D σ H := h
theorem w_if (h : t σ H fun b H1 => if b = true then ts D σ H1 else us D σ H1) : tIfS t ts us D σ H := h
theorem w_break (h : D.bk σ H) : tBreak D σ H := h
theorem w_cont (h : D.ct σ H) : tCont D σ H := h
theorem w_aug {ti : TIp} (h : ∃ x, σ[i]? = some (some x) ∧ te σ H fun y H1 => ti x y H1 fun z H2 => D.nx (σ.set i (some z)) H2) : tAug i te ti D σ H := h
theorem w_ip {f : Int → Int → Int} (h : Q (.int (f m n)) H) : ipI f (.int m) (.int n) H Q := ⟨m, n, rfl, rfl, h⟩
theorem w_par (h : tl σ H fun vs H1 => ∃ v w, vs = [v, w] ∧ D.nx ((σ.set i (some v)).set j (some w)) H1) : tPar i j tl D σ H := h
theorem w_par2 {R : V → V → Prop} (h : R v x) : ∃ a b, [v, x] = [a, b] ∧ R a b := ⟨v, x, rfl, h⟩
theorem w_nil (h : QA [] H) : tNil σ H QA := h
theorem w_cons (h : ta σ H fun x H1 => tl σ H1 fun xs H2 => QA (x :: xs) H2) : tCons ta tl σ H QA := h
theorem w_call {sp : Sp} {E : XK} (h : tl σ H fun vs H1 => sp vs H1 Q E) : tCall sp [] E tl σ H Q := by
  unfold tCall
  simp only [List.append_nil]
  exact h
theorem w_cb {r : List V → Hp → VK → Prop} (h : tl σ H fun vs H1 => r vs H1 Q) : tCB r tl σ H Q := h
theorem w_tup (h : tl σ H fun xs H1 => xs.length ≤ sizeLine ∧ ∀ p, H1 p = none → Q (.ref p) (upd H1 p (.tup xs))) : tTup tl σ H Q := h
theorem w_lst (h : tl σ H fun xs H1 => xs.length ≤ sizeLine ∧ ∀ p, H1 p = none → Q (.ref p) (upd H1 p (.lst xs))) : tLst tl σ H Q := h
theorem w_sl {r : V → Option Int → Option Int → Hp → VK → Prop} {to tu : TO} (h : te σ H fun x H1 => to σ H1 fun l H2 => tu σ H2 fun u H3 => r x l u H3 Q) : tSl r te to tu σ H Q := h
theorem w_np {R : Option Int → Hp → Prop} (h : R none H) : tNoPart σ H R := h
theorem w_part {R : Option Int → Hp → Prop} (h : te σ H fun x H1 => ∃ i, x = .int i ∧ R (some i) H1) : tPart te σ H R := h
theorem w_partI {R : Int → Prop} (h : R m) : ∃ i, V.int m = .int i ∧ R i := ⟨m, rfl, h⟩
theorem w_slL {lo hi : Option Int} (hs : SqL K H p xs) (h : ∀ q, H q = none → Q (.ref q) (upd H q (.lst (cutV xs lo hi)))) : rSlL K (.ref p) lo hi H Q := ⟨p, xs, rfl, hs, h⟩
theorem w_bm {T : String} {r : V → List V → Hp → VK → Prop} (h : ta σ H fun x H1 => tyV K T x H1 ∧ tl σ H1 fun xs H2 => r x xs H2 Q) : tBM K T r ta tl σ H Q := h
theorem w_bm0 {T : String} {r : V → List V → Hp → VK → Prop} (h : ta σ H fun x H1 => tyV K T x H1 ∧ r x [] H1 Q) : tBM0 K T r ta σ H Q := h
theorem w_tyl {R : Prop} (hs : SqL K H p xs) (h : R) : tyV K "list" (.ref p) H ∧ R := ⟨.inl ⟨rfl, xs, hs⟩, h⟩
theorem w_app (hp : H p = some (.lst xs)) (hl : xs.length < sizeLine) (h : Q .non (upd H p (.lst (xs ++ [v])))) : rAppend (.ref p) [v] H Q := ⟨p, xs, v, rfl, rfl, hp, hl, h⟩
theorem w_rev (hp : H p = some (.lst xs)) (h : Q .non (upd H p (.lst xs.reverse))) : rReverse (.ref p) [] H Q := ⟨p, xs, rfl, rfl, hp, h⟩
theorem w_len {R : List V → Prop} (hs : SqL K H p xs) (h : R xs) : ∃ p' ys, [V.ref p] = [.ref p'] ∧ (SqL K H p' ys ∨ SqT K H p' ys) ∧ R ys := ⟨p, xs, rfl, .inl hs, h⟩
theorem w_lenT {R : List V → Prop} (hs : SqT K H p xs) (h : R xs) : ∃ p' ys, [V.ref p] = [.ref p'] ∧ (SqL K H p' ys ∨ SqT K H p' ys) ∧ R ys := ⟨p, xs, rfl, .inr hs, h⟩
theorem w_isi {s : String} {b : Bool} (hk : kitB "int" s = some b) (h : Q (.bl b) H) : rIsi K [.int m, .ty s] H Q := ⟨_, _, _, _, b, rfl, .ty _, .base (.int _), kit_ty hk, h⟩
theorem w_isb {k : Bool} {s : String} {b : Bool} (hk : kitB "bool" s = some b) (h : Q (.bl b) H) : rIsi K [.bl k, .ty s] H Q := ⟨_, _, _, _, b, rfl, .ty _, .base (.bl _), kit_ty hk, h⟩
theorem w_isn {s : String} {b : Bool} (hk : kitB "NoneType" s = some b) (h : Q (.bl b) H) : rIsi K [.non, .ty s] H Q := ⟨_, _, _, _, b, rfl, .ty _, .base .non, kit_ty hk, h⟩
theorem w_isl {s : String} {b : Bool} (hp : H p = some (.lst xs)) (hk : kitB "list" s = some b) (h : Q (.bl b) H) : rIsi K [.ref p, .ty s] H Q := ⟨_, _, _, _, b, rfl, .ty _, .base (.lst hp), kit_ty hk, h⟩
theorem w_ist {s : String} {b : Bool} (hp : H p = some (.tup xs)) (hk : kitB "tuple" s = some b) (h : Q (.bl b) H) : rIsi K [.ref p, .ty s] H Q := ⟨_, _, _, _, b, rfl, .ty _, .base (.tup hp), kit_ty hk, h⟩
theorem w_2i {R : Int → Int → Prop} (h : R m n) : ∃ i j, [V.int m, V.int n] = [.int i, .int j] ∧ R i j := ⟨m, n, rfl, h⟩
theorem w_1i {R : Int → Prop} (h : R m) : ∃ i, [V.int m] = [.int i] ∧ R i := ⟨m, rfl, h⟩
theorem w_int1 {R : Int → Prop} {S : Prop} (h : R m) : (∃ i, [V.int m] = [.int i] ∧ R i) ∨ S := .inl ⟨m, rfl, h⟩
theorem w_intb {b : Bool} {R : Bool → Prop} {S : Prop} (h : R b) : S ∨ ∃ k, [V.bl b] = [.bl k] ∧ R k := .inr ⟨b, rfl, h⟩
theorem w_isN {R : Prop} (h : R) : V.non = .non ∧ R := ⟨rfl, h⟩
theorem w_fld {v : V} {R : V → Prop} (hp : H p = some (.ins C dx fs)) (hc : Cls K C) (hn : NoAttr K C f) (hl : fs.lookup f = some v) (h : R v) : ∃ a C' dx' fs' v', V.ref p = .ref a ∧ H a = some (.ins C' dx' fs') ∧ Cls K C' ∧ NoAttr K C' f ∧ fs'.lookup f = some v' ∧ R v' := ⟨p, C, dx, fs, v, rfl, hp, hc, hn, hl, h⟩
theorem w_fl (h : ta σ H fun x H1 => ∃ a C dx fs v, x = .ref a ∧ H1 a = some (.ins C dx fs) ∧ Cls K C ∧ NoAttr K C f ∧ fs.lookup f = some v ∧ Q v H1) : tFld K ta f σ H Q := h
theorem w_for {wi : TI} {tu : TS} (h : wi σ H fun J H1 => ∃ W : Nat → Nat → L2.St → Hp → Prop, (∃ m, W 0 m σ H1) ∧ ∀ i m σ H, W i m σ H →
  (J.stop i H ∧ D.nx σ H) ∨ (J.go i H ∧ ∃ N : L2.St → Hp → Prop, (∀ σ' H', N σ' H' → ∃ m', m' < m ∧ W (i + 1) m' σ' H') ∧ ∀ x H', J.yld i H x H' → g x σ H' fun σ2 H2 => tu { D with nx := N, ct := N, bk := D.nx } σ2 H2)) : tFor wi g tu D σ H := h
theorem w_iL {R : It → Hp → Prop} (h : te σ H fun x H1 => ∃ a, x = .ref a ∧ (∃ xs, SqL K H1 a xs) ∧ R (Itl K a) H1) : iList K te σ H R := h
theorem w_iLq {R : Addr → Prop} (hs : SqL K H p xs) (h : R p) : ∃ a, V.ref p = .ref a ∧ (∃ xs, SqL K H a xs) ∧ R a := ⟨p, rfl, ⟨xs, hs⟩, h⟩
theorem w_iTu {R : It → Hp → Prop} (h : te σ H fun x H1 => ∃ a, x = .ref a ∧ (∃ xs, SqT K H1 a xs) ∧ R (Itt K a) H1) : iTup K te σ H R := h
theorem w_iTq {R : Addr → Prop} (hs : SqT K H p xs) (h : R p) : ∃ a, V.ref p = .ref a ∧ (∃ xs, SqT K H a xs) ∧ R a := ⟨p, rfl, ⟨xs, hs⟩, h⟩
theorem w_r1 {R : It → Hp → Prop} (h : tl σ H fun vs H1 => ∃ j : Int, vs = [.int j] ∧ -(2 ^ 62) ≤ j ∧ j < 2 ^ 62 ∧ R (Itr 0 j.toNat) H1) : iRng1 tl σ H R := h
theorem w_r1q {R : Int → Prop} (h1 : -(2 ^ 62) ≤ m) (h2 : m < 2 ^ 62) (h : R m) : ∃ j : Int, [V.int m] = [.int j] ∧ -(2 ^ 62) ≤ j ∧ j < 2 ^ 62 ∧ R j := ⟨m, rfl, h1, h2, h⟩
theorem w_r2 {R : It → Hp → Prop} (h : tl σ H fun vs H1 => ∃ i j : Int, vs = [.int i, .int j] ∧ (-(2 ^ 62) ≤ i ∧ i < 2 ^ 62 ∧ -(2 ^ 62) ≤ j ∧ j < 2 ^ 62) ∧ R (Itr i (j - i).toNat) H1) : iRng2 tl σ H R := h
theorem w_r2q {R : Int → Int → Prop} (h1 : -(2 ^ 62) ≤ m) (h2 : m < 2 ^ 62) (h3 : -(2 ^ 62) ≤ n) (h4 : n < 2 ^ 62) (h : R m n) : ∃ i j : Int, [V.int m, V.int n] = [.int i, .int j] ∧ (-(2 ^ 62) ≤ i ∧ i < 2 ^ 62 ∧ -(2 ^ 62) ≤ j ∧ j < 2 ^ 62) ∧ R i j := ⟨m, n, rfl, ⟨h1, h2, h3, h4⟩, h⟩
theorem w_len1 {R : Prop} (hl : Nat.ble xs.length 1000 = true) (h : R) : xs.length ≤ sizeLine ∧ R := ⟨szle hl, h⟩
end
theorem same_read {K : PySem.W.Frag} {H H' : Hp} {a : Addr} {xs : List V} (e : Same H H') (h : SqT K H a xs) : SqT K H' a xs := by
  rcases h with (h | ⟨o, h⟩) | h
  · exact .inl (.inl (e _ _ h))
  · exact .inl (.inr ⟨o, e _ _ h⟩)
  · exact .inr h
theorem w_iT {A B : Prop} (h : A) : if true = true then A else B := by rw [if_pos rfl]; exact h
theorem w_iF {A B : Prop} (h : B) : if false = true then A else B := by rw [if_neg Bool.false_ne_true]; exact h
theorem w_iNT {A B : Prop} (h : B) : if (!true) = true then A else B := by rw [Bool.not_true, if_neg Bool.false_ne_true]; exact h
theorem w_iNF {A B : Prop} (h : A) : if (!false) = true then A else B := by rw [Bool.not_false, if_pos rfl]; exact h
theorem w_iNN {A B : Prop} {b : Bool} (h : if b = true then A else B) : if (!!b) = true then A else B := by rw [Bool.not_not]; exact h

/-! ### data -/
mutual
theorem dpSame {K : PySem.W.Frag} {H H' : Hp} (e : Same H H') : ∀ (d : PyData) (v : V), Dp K H v d → Dp K H' v d
  | .none, _, h => by cases h; exact .non
  | .bool _, _, h => by cases h; exact .bl _
  | .int _, _, h => by cases h; exact .int _
  | .str _, _, h => by cases h; exact .str _
  | .list ds, _, h => by
    cases h with
    | lst hs ha => exact .lst (e.seq hs) (dpSameAll e ds _ ha)
  | .tuple ds, _, h => by
    cases h with
    | tup hs ha => exact .tup (same_read e hs) (dpSameAll e ds _ ha)
  | .dict _, _, h => by cases h
theorem dpSameAll {K : PySem.W.Frag} {H H' : Hp} (e : Same H H') : ∀ (ds : List PyData) (xs : List V), DpAll K H xs ds → DpAll K H' xs ds
  | [], _, h => by cases h; exact .nil
  | d :: ds, _, h => by
    cases h with
    | cons h1 h2 => exact .cons (dpSame e d _ h1) (dpSameAll e ds _ h2)
end
section
variable {K : PySem.W.Frag} {H H' : Hp} {xs ys : List V} {ds es : List PyData} {v : V} {d : PyData} {a : Addr}
theorem _root_.L2.Dp.same (e : Same H H') (h : Dp K H v d) : Dp K H' v d := dpSame e d v h
theorem _root_.L2.DpAll.same (e : Same H H') (h : DpAll K H xs ds) : DpAll K H' xs ds := dpSameAll e ds xs h
theorem dpaLen : ∀ {xs : List V} {ds : List PyData}, DpAll K H xs ds → xs.length = ds.length
  | _, _, .nil => rfl
  | _, _, .cons _ t => by rw [List.length_cons, List.length_cons, dpaLen t]
theorem dpaGet : ∀ {xs : List V} {ds : List PyData} {i : Nat} {d : PyData}, DpAll K H xs ds → ds[i]? = some d → ∃ v, xs[i]? = some v ∧ Dp K H v d
  | _, _, _, _, .nil, e => by simp at e
  | _, _, 0, _, .cons h _, e => by simp at e; subst e; exact ⟨_, rfl, h⟩
  | _, _, i + 1, _, .cons _ t, e => by
    obtain ⟨v, h1, h2⟩ := dpaGet (i := i) t (by simpa using e)
    exact ⟨v, by simpa using h1, h2⟩
theorem dpaApp : ∀ {xs ys : List V} {ds es : List PyData}, DpAll K H xs ds → DpAll K H ys es → DpAll K H (xs ++ ys) (ds ++ es)
  | _, _, _, _, .nil, h => h
  | _, _, _, _, .cons h t, s => .cons h (dpaApp t s)
theorem dpInts : ∀ ns : List Int, DpAll K H (ns.map V.int) (ns.map PyData.int)
  | [] => .nil
  | n :: r => .cons (.int n) (dpInts r)
theorem dpAll_ints : ∀ {ns : List Int} {xs : List V}, DpAll K H xs (ns.map PyData.int) → xs = ns.map V.int
  | [], _, h => by cases h; rfl
  | n :: r, _, h => by
    cases h with
    | cons h t => cases h; rw [dpAll_ints t]; rfl
theorem dpInt {i : Int} (h : Dp K H v (.int i)) : v = .int i := by cases h; rfl
theorem dpTup (h : Dp K H v (.tuple ds)) : ∃ a xs, v = .ref a ∧ SqT K H a xs ∧ DpAll K H xs ds := by cases h with | tup h1 h2 => exact ⟨_, _, rfl, h1, h2⟩
theorem dpLst (h : Dp K H v (.list ds)) : ∃ a xs, v = .ref a ∧ SqL K H a xs ∧ DpAll K H xs ds := by cases h with | lst h1 h2 => exact ⟨_, _, rfl, h1, h2⟩
theorem dpLstA (h : Dp K H (.ref a) (.list ds)) : ∃ xs, SqL K H a xs ∧ DpAll K H xs ds := by cases h with | lst h1 h2 => exact ⟨_, h1, h2⟩
theorem dpTupA (h : Dp K H (.ref a) (.tuple ds)) : ∃ xs, SqT K H a xs ∧ DpAll K H xs ds := by cases h with | tup h1 h2 => exact ⟨_, h1, h2⟩
end
/-- data that == serves: no dicts, no deeper than n -/
def Good (n : Nat) (d : PyData) : Prop := d.canLay0 = true ∧ d.depth ≤ n
theorem goodInt {n : Nat} {i : Int} : Good n (.int i) := ⟨rfl, Nat.zero_le _⟩
theorem goodBool {n : Nat} {b : Bool} : Good n (.bool b) := ⟨rfl, Nat.zero_le _⟩
theorem goodNone {n : Nat} : Good n .none := ⟨rfl, Nat.zero_le _⟩
theorem goodAll {n : Nat} : ∀ {ds : List PyData}, (∀ d ∈ ds, Good n d) → PyData.canLayAll0 ds = true ∧ PyData.depthAll ds ≤ n
  | [], _ => ⟨rfl, Nat.zero_le _⟩
  | d :: ds, h => by
    obtain ⟨h1, h2⟩ := h d List.mem_cons_self
    obtain ⟨h3, h4⟩ := goodAll fun e he => h e (List.mem_cons_of_mem _ he)
    exact ⟨by simp [PyData.canLayAll0, h1, h3], by simp only [PyData.depthAll]; omega⟩
theorem goodLst {n : Nat} {ds : List PyData} (h : ∀ d ∈ ds, Good n d) : Good (n + 1) (.list ds) := ⟨(goodAll h).1, Nat.succ_le_succ (goodAll h).2⟩
theorem goodTup {n : Nat} {ds : List PyData} (h : ∀ d ∈ ds, Good n d) : Good (n + 1) (.tuple ds) := ⟨(goodAll h).1, Nat.succ_le_succ (goodAll h).2⟩
theorem goodMap {α : Type} {n : Nat} {f : α → PyData} {xs : List α} (h : ∀ x, Good n (f x)) : ∀ d ∈ xs.map f, Good n d := by
  intro d hd
  obtain ⟨x, _, rfl⟩ := List.mem_map.mp hd
  exact h x
theorem Good.mono {n m : Nat} {d : PyData} (h : Good n d) (e : n ≤ m) : Good m d := ⟨h.1, Nat.le_trans h.2 e⟩
theorem Good.shaped {n : Nat} {d : PyData} (h : Good n d) (e : n ≤ 64) : SeqAt.shaped d = true := by
  unfold SeqAt.shaped
  rw [h.1, decide_eq_true (Nat.le_trans h.2 e)]
  rfl
theorem Good.eqv {n : Nat} {d : PyData} (h : Good n d) : PyData.eqv d d = true := SeqAt.eqv_refl d h.1
section
variable {K : PySem.W.Frag} {H : Hp} {x y : V} {d : PyData} {Q : VK} {n : Nat}
/-- two things of the same data are equal -/
theorem w_eqD (h1 : Dp K H x d) (h2 : Dp K H y d) (g : Good n d) (hn : n ≤ 64) (h : Q (.bl true) H) : rEqD K x y H Q := ⟨d, d, h1, h2, g.shaped hn, g.shaped hn, by rw [g.eqv]; exact h⟩
theorem w_neD (h1 : Dp K H x d) (h2 : Dp K H y d) (g : Good n d) (hn : n ≤ 64) (h : Q (.bl false) H) : rNeD K x y H Q := ⟨d, d, h1, h2, g.shaped hn, g.shaped hn, by rw [g.eqv]; exact h⟩
end
/-! ### xs[i] op= e -/
def rGetL (K : PySem.W.Frag) : V → V → Hp → VK → Prop := fun x y H Q => ∃ (p : Addr) (xs : List V) (j : Nat) (v : V), x = .ref p ∧ y = .int j ∧ SqL K H p xs ∧ xs[j]? = some v ∧ Q v H
theorem get_list {X : Cx} : PGet X (rGetL X.K) := by
  intro pins s σ H o i ov iv Q I ro ri h
  obtain ⟨p, xs, j, v, rfl, rfl, hq, he, q⟩ := h
  cases ro
  obtain ⟨t, rfl⟩ := ri
  obtain ⟨its, r, pl, hz⟩ := I.list hq
  obtain ⟨u, eu, ru⟩ := r.get he
  have hj : j < xs.length := (List.getElem?_eq_some_iff.mp he).1
  have hn := line63
  exact wpAny_getItem_list pl.isList (Int.natCast_nonneg j) (by omega) (by simpa using eu) ⟨v, H, I, ru, q⟩
theorem ps_augL {X : Cx} {o i e : Expr} {to ti te : TE} {tip : TIp} {op : Operator} {tpos pos : Pos} (ho : PE X o to) (hi : PE X i ti) (he : PE X e te) (hp : PIp X op tip)
    (ha : ∀ ov iv new, augStore i ov iv new = (do holding [new, ov, iv] (setItem ov iv new); release [new, ov, iv] []; pure .next) := by intros; rfl) : PS X (.AugAssign (.Subscript o i tpos) op e pos) (tAugS to ti te (rGetL X.K) tip rSetL) :=
  ps_augS ho hi get_list he hp set_list ha
section
variable {σ : L2.St} {H : Hp} {Q : VK} {D : Ends} {K : PySem.W.Frag} {p : Addr} {xs : List V} {v : V} {j : Nat}
theorem w_augS {to ti te : TE} {tget : V → V → Hp → VK → Prop} {tip : TIp} {tset : TSet} (h : to σ H fun o H1 => ti σ H1 fun i H2 => tget o i H2 fun x H3 => te σ H3 fun y H4 => tip x y H4 fun z H5 => tset o i z H5 fun H6 => D.nx σ H6) : tAugS to ti te tget tip tset D σ H := h
theorem w_getL (hs : SqL K H p xs) (he : xs[j]? = some v) (h : Q v H) : rGetL K (.ref p) (.int (j : Int)) H Q := ⟨p, xs, j, v, rfl, rfl, hs, he, h⟩
theorem ixN_nat {n j : Nat} (h : j < n) : ixN n (j : Int) = some j := by
  unfold ixN
  rw [if_pos (Int.natCast_nonneg j), if_pos (by omega)]
  simp
end
/-! ### range from nought -/
theorem for_r0 {m : Int} {n : Nat} {g : TG} {tb : TS} {D : Ends} {σ : L2.St} {H : Hp} (hm : m = n) (Pv : Nat → L2.St → Hp → Prop) (h0 : Pv 0 σ H)
    (hs : ∀ i σ H, i < n → Pv i σ H → g (.int (i : Nat)) σ H fun σ2 H2 => tb { D with nx := Pv (i + 1), ct := Pv (i + 1), bk := D.nx } σ2 H2) (hd : ∀ σ H, Pv n σ H → D.nx σ H) :
    ∃ W : Nat → Nat → L2.St → Hp → Prop, (∃ m, W 0 m σ H) ∧ ∀ i k σ H, W i k σ H →
      ((Itr 0 m.toNat).stop i H ∧ D.nx σ H) ∨ ((Itr 0 m.toNat).go i H ∧ ∃ N : L2.St → Hp → Prop, (∀ σ' H', N σ' H' → ∃ m', m' < k ∧ W (i + 1) m' σ' H') ∧ ∀ x H', (Itr 0 m.toNat).yld i H x H' → g x σ H' fun σ2 H2 => tb { D with nx := N, ct := N, bk := D.nx } σ2 H2) := by
  subst hm
  rw [Int.toNat_natCast]
  exact for_range (lo := 0) Pv h0 (fun i σ H hi hp => by rw [Int.zero_add]; exact hs i σ H hi hp) hd
/-! ### bits of numbers from nought on -/
theorem shr_nat (m k : Nat) : (m : Int) / 2 ^ (Int.toNat (k : Int)) = ((m >>> k : Nat) : Int) := by
  rw [Int.toNat_natCast, Nat.shiftRight_eq_div_pow]
  simp
theorem shl_nat (m k : Nat) : (m : Int) * 2 ^ (Int.toNat (k : Int)) = ((m <<< k : Nat) : Int) := by
  rw [Int.toNat_natCast, Nat.shiftLeft_eq]
  simp
theorem shl_one (k : Nat) : (1 : Int) * 2 ^ (Int.toNat (k : Int)) = ((2 ^ k : Nat) : Int) := by
  rw [Int.toNat_natCast, Int.one_mul]
  simp
theorem xor_nat (m n : Nat) : Builtin.bitXor (m : Int) (n : Int) = ((m ^^^ n : Nat) : Int) := by
  have h := Bits.bitXor_pp (x := (m : Int)) (y := (n : Int)) (Int.natCast_nonneg m) (Int.natCast_nonneg n)
  rw [Int.toNat_natCast, Int.toNat_natCast] at h
  exact h
theorem or_nat (m n : Nat) : Builtin.bitOr (m : Int) (n : Int) = ((m ||| n : Nat) : Int) := by
  have h := Bits.bitOr_pp (x := (m : Int)) (y := (n : Int)) (Int.natCast_nonneg m) (Int.natCast_nonneg n)
  rw [Int.toNat_natCast, Int.toNat_natCast] at h
  exact h
theorem and_one (m : Int) (h : 0 ≤ m) : Builtin.bitAnd m 1 = m % 2 := by
  have e := Bits.bitAnd_mask (x := m) 1 h
  simpa using e
theorem bit_nat (m k : Nat) : Builtin.bitAnd ((m : Int) / 2 ^ (Int.toNat (k : Int))) 1 = (((m.testBit k).toNat : Nat) : Int) := by
  rw [shr_nat, and_one _ (Int.natCast_nonneg _), Nat.testBit_eq_decide_div_mod_eq, Nat.shiftRight_eq_div_pow]
  have h : m / 2 ^ k % 2 < 2 := Nat.mod_lt _ (by decide)
  generalize m / 2 ^ k = z at h
  have e : z % 2 = 0 ∨ z % 2 = 1 := by omega
  rcases e with e | e
  · rw [e]; simp; omega
  · rw [e]; simp; omega
theorem bit_dec (m k : Nat) : decide (Builtin.bitAnd ((m : Int) / 2 ^ (Int.toNat (k : Int))) 1 = 1) = m.testBit k := by
  rw [bit_nat]
  cases m.testBit k <;> simp
/-! ### tables by number -/
theorem map_set {α : Type} {f : Nat → α} {m j : Nat} {y : α} : ((List.range m).map f).set j y = (List.range m).map fun r => if r = j then y else f r := by
  apply List.ext_getElem
  · simp
  · intro i h1 h2
    simp only [List.length_set, List.length_map, List.length_range] at h1
    simp only [List.getElem_set, List.getElem_map, List.getElem_range]
    by_cases e : j = i
    · subst e; simp
    · rw [if_neg e, if_neg (Ne.symm e)]
theorem map_at {α : Type} {f : Nat → α} {m j : Nat} (h : j < m) : ((List.range m).map f)[j]? = some (f j) := by
  rw [List.getElem?_map, List.getElem?_range h]
  rfl
theorem map_len {α : Type} {f : Nat → α} {m : Nat} : ((List.range m).map f).length = m := by simp
theorem map_setI {f : Nat → Int} {m j : Nat} {y : Int} : ((List.range m).map fun r => V.int (f r)).set j (V.int y) = (List.range m).map fun r => V.int (if r = j then y else f r) := by
  rw [map_set]
  congr 1
  funext r
  split <;> rfl
/-! ### comprehensions, slices -/
section
variable {σ σ' : L2.St} {H : Hp} {Q : VK} {QT : Bool → Hp → Prop}
theorem w_lc {wi : TI} {g : TG} {tt : TT} {te : TE} {vs : List Nat} (h : wi σ H fun J H1 => ∀ D, New H1 D → ∃ W : Nat → Nat → Hp → Prop, (∃ m, W 0 m (upd H1 D (.lst []))) ∧ ∀ i m H, W i m H →
  (J.stop i H ∧ Q (.ref D) H) ∨ (J.go i H ∧ ∃ Nx : Hp → Prop, (∀ H', Nx H' → ∃ m', m' < m ∧ W (i + 1) m' H') ∧ ∀ x H', J.yld i H x H' → g x (wipe σ vs) H' fun σ2 H2 => wipe σ2 vs = wipe σ vs ∧ tt σ2 H2 fun b H3 =>
    if b = true then te σ2 H3 fun y H4 => ∃ acc, H4 D = some (.lst acc) ∧ acc.length < sizeLine ∧ Nx (upd H4 D (.lst (acc ++ [y]))) else Nx H3)) : tLc wi g tt te vs σ H Q := h
theorem w_wipe {vs : List Nat} {R : Prop} (e : wipe σ vs = wipe σ' vs) (h : R) : wipe σ vs = wipe σ' vs ∧ R := ⟨e, h⟩
theorem w_yes (h : QT true H) : tYes σ H QT := h
theorem cutV_nat (xs : List V) (a b : Nat) : cutV xs (some (a : Int)) (some (b : Int)) = (xs.drop a).take (b - a) := by
  unfold cutV
  rw [HT.sIx_nat, HT.sIx_nat]
  apply List.ext_getElem?
  intro i
  simp only [List.getElem?_take, List.getElem?_drop]
  by_cases ha : a ≤ xs.length
  · rw [Nat.min_eq_left ha]
    by_cases h : i < b - a
    · by_cases h2 : i < min b xs.length - a
      · rw [if_pos h, if_pos h2]
      · rw [if_pos h, if_neg h2, List.getElem?_eq_none (by omega)]
    · rw [if_neg h, if_neg (by omega)]
  · rw [if_neg (by omega)]
    split
    · rw [List.getElem?_eq_none (by omega)]
    · rfl
theorem cutV_from (xs : List V) (a : Nat) : cutV xs (some (a : Int)) none = xs.drop a := by
  unfold cutV
  rw [HT.sIx_nat, HT.sIx_none]
  by_cases h : a ≤ xs.length
  · rw [Nat.min_eq_left h]
    exact List.take_of_length_le (by simp)
  · rw [Nat.min_eq_right (by omega), List.drop_of_length_le (Nat.le_refl _), List.drop_of_length_le (by omega), List.take_nil]
theorem cutV_to (xs : List V) (b : Nat) : cutV xs none (some (b : Int)) = xs.take b := by
  unfold cutV
  rw [HT.sIx_nat, HT.sIx_none, List.drop_zero, Nat.sub_zero]
  by_cases h : b ≤ xs.length
  · rw [Nat.min_eq_left h]
  · rw [Nat.min_eq_right (by omega), List.take_of_length_le (Nat.le_refl _), List.take_of_length_le (by omega)]
end
theorem w_list {K : PySem.W.Frag} {H : Hp} {p : Addr} {xs : List V} {R : List V → Prop} (hs : SqL K H p xs) (h : R xs) : ∃ p' ys, [V.ref p] = [.ref p'] ∧ (SqL K H p' ys ∨ SqT K H p' ys) ∧ R ys := ⟨p, xs, rfl, .inl hs, h⟩
/-! ### a heap without one place -/
def wo (H : Hp) (D : Addr) : Hp := fun b => if b = D then none else H b
section
variable {K : PySem.W.Frag} {H H' H2 : Hp} {D p : Addr} {o : HO} {xs : List V} {ds : List PyData} {v : V} {d : PyData}
theorem wo_same : Same (wo H D) H := fun b o h => by
  unfold wo at h
  split at h
  · cases h
  · exact h
theorem wo_new : New (wo H D) D := if_pos rfl
theorem wo_get (h : H p = some o) (n : p ≠ D) : wo H D p = some o := (if_neg n).trans h
theorem wo_eq : wo (upd H D o) D = wo H D := by
  funext b
  unfold wo
  split
  · rfl
  · rw [upd_ne (by assumption)]
theorem wo_mono (e : Same H H') : Same (wo H D) (wo H' D) := fun b o h => by
  unfold wo at h ⊢
  split at h
  · cases h
  · rw [if_neg (by assumption)]; exact e b o h
theorem same_wo (e : Same H H') (n : New H D) : Same H (wo H' D) := fun b o h => wo_get (e b o h) (ne_new h n)
theorem dpaPush (h : DpAll K (wo H D) xs ds) (e : Same H H2) (hv : Dp K (wo H2 D) v d) : DpAll K (wo (upd H2 D o) D) (xs ++ [v]) (ds ++ [d]) := by
  rw [wo_eq]
  exact dpaApp (h.same (wo_mono e)) (.cons hv .nil)
theorem dpaPushI (h : DpAll K (wo H D) xs ds) {i : Int} : DpAll K (wo (upd H D o) D) (xs ++ [.int i]) (ds ++ [.int i]) := dpaPush h (Same.refl _) (.int i)
end
/-! ### while -/
theorem w_wt {W : Nat → L2.St → Hp → Prop} {tb : TS} {D : Ends} {σ : L2.St} {H : Hp} {m : Nat} (h : tb { D with nx := fun σ' H' => ∃ m', m' < m ∧ W m' σ' H', ct := fun σ' H' => ∃ m', m' < m ∧ W m' σ' H', bk := D.nx } σ H) :
    ∃ N : L2.St → Hp → Prop, (∀ σ' H', N σ' H' → ∃ m', m' < m ∧ W m' σ' H') ∧ tb { D with nx := N, ct := N, bk := D.nx } σ H := ⟨_, fun _ _ h => h, h⟩
theorem and_nat (m n : Nat) : Builtin.bitAnd (m : Int) (n : Int) = ((m &&& n : Nat) : Int) := rfl
/-! ### two ways to read -/
theorem _root_.L2.PE.or {X : Cx} {e : Expr} {t t' : TE} (h : PE X e t) (h' : PE X e t') : PE X e (fun σ H Q => t σ H Q ∨ t' σ H Q) := ⟨fun pins s σ H Q I q => by
  rcases q with q | q
  · exact h.run pins s σ H Q I q
  · exact h'.run pins s σ H Q I q⟩
/-- the same, for an item of a comprehension -/
def tOrE (t t' : TE) : TE := fun σ H Q => t σ H Q ∨ t' σ H Q
theorem _root_.L2.PE.orD {X : Cx} {e : Expr} {t t' : TE} (h : PE X e t) (h' : PE X e t') : PE X e (tOrE t t') := PE.or h h'
theorem w_orE {t t' : TE} {σ : L2.St} {H : Hp} {Q : VK} (h : t σ H Q ∨ t' σ H Q) : tOrE t t' σ H Q := h
/-! ### classes by name -/
structure HasMk (P : Program) (w : World) (K : PySem.W.Frag) (mg : Str → Option Value) (base : Heap) (CX : CXT) (k : Nat) (x : Str) (C : Addr) (ps : List Str) (sp : Sp) : Prop where
  ex : ∃ f fd, FnOk P w K mg base CX k f fd ps sp ∧ Mk K C f ∧ mg x = some (.ref C) ∧ Binds K fd ps []
structure HasMeth (P : Program) (w : World) (K : PySem.W.Frag) (mg : Str → Option Value) (base : Heap) (CX : CXT) (k : Nat) (C : Addr) (m : Str) (ps : List Str) (sp : Sp) : Prop where
  ex : ∃ f fd, FnOk P w K mg base CX k f fd ps sp ∧ Cls K C ∧ Meth K C m f ∧ Binds K fd ps []
/-- a method's body, proved once for whatever class holds it -/
structure HasFn (P : Program) (w : World) (K : PySem.W.Frag) (mg : Str → Option Value) (base : Heap) (CX : CXT) (k : Nat) (f : Addr) (ps : List Str) (sp : Sp) : Prop where
  ex : ∃ fd, FnOk P w K mg base CX k f fd ps sp ∧ Binds K fd ps []
section
variable {P : Program} {w : World} {K : PySem.W.Frag} {mg : Str → Option Value} {base : Heap} {x qual : Str} {ps N : List Str} {sp : Sp} {k : Nat}
theorem HasFn.mk' {st : Stmt} {f : Addr} {fd : FuncData} (F : Fun K x qual st f fd) (b : Binds K fd ps []) (S : FnScope N ps (defScope st)) (len : ∀ vs H Q E, sp vs H Q E → vs.length = ps.length)
    (hbody : ∀ (cdv : Value) (A : Around) (outer : List Env) (s : Shared) (H : Hp) (vs : List V) (Q : VK) (E : XK), Room k (A.deeper (envOfC qual (defScope st) s.heap.objs.size f cdv)) → sp vs H Q E →
      ∃ t, PSs (cxOf CX0 P w K mg base N qual (defScope st) f cdv A outer s H E).nox (defBody st) t ∧ t { nx := fun _ H' => Q .non H', rt := Q } (start N vs) H) : HasFn P w K mg base CX0 (k + 1) f ps sp :=
  ⟨fd, F.ok S len hbody, b⟩
theorem HasFn.mkOf {CX : CXT} {f C : Addr} (h : HasFn P w K mg base CX k f ps sp) (M : Mk K C f) (g : mg x = some (.ref C)) : HasMk P w K mg base CX k x C ps sp := by
  obtain ⟨fd, F, b⟩ := h.ex
  exact ⟨f, fd, F, M, g, b⟩
theorem HasFn.meth {CX : CXT} {f C : Addr} {m : Str} (h : HasFn P w K mg base CX k f ps sp) (c : Cls K C) (M : Meth K C m f) : HasMeth P w K mg base CX k C m ps sp := by
  obtain ⟨fd, F, b⟩ := h.ex
  exact ⟨f, fd, F, c, M, b⟩
end
section
variable {X : Cx} {k : Nat} {ps : List Str} {sp : Sp} {x m : Str} {p pos apos : Pos} {e o : Expr} {es : List Expr} {t : TA} {ta : TE} {C : Addr}
theorem pe_mk (h : HasMk X.prog X.w X.K X.mg X.base CX0 k x C ps sp) (hr : Room (k + 1) X.A) (hg : Gl X x) (ha : PA X (e :: es) t) (hdb : (x == ("__debug__" : Str)) = false := by decide) (he : starEach (e :: es) X.env = (false, eval e X.env) :: starEach es X.env := by rfl) (hpl : (backTo pos (starEach es X.env)).any (·.1) = false := by rfl) :
    PE X (.Call (.Name x p) (e :: es) [] pos) (tMake C sp [] E0 t) := by
  obtain ⟨f, fd, F, M, g, b⟩ := h.ex
  exact pe_make M F hr hg g b .nil pass0 ha hdb he hpl
theorem pe_mt {pl : Sem Bool} (h : HasMeth X.prog X.w X.K X.mg X.base CX0 k C m ps sp) (he : PE X o ta) (hr : Room k X.A) (ha : PA X (e :: es) t)
    (hst : starEach (e :: es) X.env = (false, eval e X.env) :: starEach es X.env := by rfl) (hpl : (backTo pos (starEach es X.env)).any (·.1) = false := by rfl)
    (ht : eval (.Call (.Attribute o m apos) (e :: es) [] pos) X.env = (do
      let v ← eval o X.env
      standAt apos.atName
      let (f, first) ← holding [v] (getMethod v m pl)
      callWith pos f first (backTo pos (starEach (e :: es) X.env)) (backToKw pos (keywordEach [] X.env))) := by rfl) :
    PE X (.Call (.Attribute o m apos) (e :: es) [] pos) (tMeth C m sp [] E0 ta t) := by
  obtain ⟨f, fd, F, c, M, b⟩ := h.ex
  exact pe_meth he c M F hr b .nil pass0 ha hst hpl ht
theorem pe_mt0 {pl : Sem Bool} (h : HasMeth X.prog X.w X.K X.mg X.base CX0 k C m ps sp) (he : PE X o ta) (hr : Room k X.A)
    (ht : eval (.Call (.Attribute o m apos) [] [] pos) X.env = (do
      let v ← eval o X.env
      standAt apos.atName
      let (f, first) ← holding [v] (getMethod v m pl)
      callWith pos f first (backTo pos (starEach [] X.env)) (backToKw pos (keywordEach [] X.env))) := by rfl) :
    PE X (.Call (.Attribute o m apos) [] [] pos) (tMeth C m sp [] E0 ta tNil) := by
  obtain ⟨f, fd, F, c, M, b⟩ := h.ex
  exact pe_meth0 he c M F hr b .nil pass0 ht
end
section
variable {σ : L2.St} {H : Hp} {Q : VK} {D : Ends} {K : PySem.W.Frag} {ta tv : TE} {tl : TA} {sp : Sp} {E : XK} {C p dx : Addr} {fs : List (Str × V)} {f m : Str} {v : V}
theorem w_make (h : tl σ H fun vs H1 => ∀ x dx, New H1 x → New H1 dx → dx ≠ x → sp (.ref x :: vs) (upd (upd H1 dx (.own x)) x (.ins C dx [])) (fun v H2 => v = .non ∧ Q (.ref x) H2) E) : tMake C sp [] E tl σ H Q := by
  unfold tMake
  simp only [List.append_nil]
  exact h
theorem w_meth (h : ta σ H fun x H1 => ∃ a dx fs, x = .ref a ∧ H1 a = some (.ins C dx fs) ∧ fs.lookup m = none ∧ tl σ H1 fun vs H2 => sp (x :: vs) H2 Q E) : tMeth C m sp [] E ta tl σ H Q := by
  unfold tMeth
  simp only [List.append_nil]
  exact h
theorem w_methq {R : Prop} (hp : H p = some (.ins C dx fs)) (hl : fs.lookup m = none) (h : R) : ∃ a dx fs, V.ref p = .ref a ∧ H a = some (.ins C dx fs) ∧ fs.lookup m = none ∧ R := ⟨p, dx, fs, rfl, hp, hl, h⟩
theorem w_sf (h : tv σ H fun y H1 => ta σ H1 fun x H2 => ∃ a C dx fs, x = .ref a ∧ H2 a = some (.ins C dx fs) ∧ Cls K C ∧ NoAttr K C f ∧ fs.length < 1000 ∧ D.nx σ (upd H2 a (.ins C dx (putF f y fs)))) : sFld K ta tv f D σ H := h
theorem w_sfq {R : Addr → Addr → Addr → List (Str × V) → Prop} (hp : H p = some (.ins C dx fs)) (hc : Cls K C) (hn : NoAttr K C f) (hl : fs.length < 1000) (h : R p C dx fs) : ∃ a C' dx' fs', V.ref p = .ref a ∧ H a = some (.ins C' dx' fs') ∧ Cls K C' ∧ NoAttr K C' f ∧ fs'.length < 1000 ∧ R a C' dx' fs' := ⟨p, C, dx, fs, rfl, hp, hc, hn, hl, h⟩
end
/-! ### isinstance of an object -/
structure IsoK (K : PySem.W.Frag) (C : Addr) : Prop where
  cl : Cls K C
  oc : PySem.W.findIn K (.ref C) "__class__" = some (some (.builtin "object.__class__"))
  og : PySem.W.specialIn K (.builtin "object.__class__") "__get__" = some (some (.builtin "getset_descriptor.__get__"))
  ot : PySem.W.takesIn K (.builtin "object.__class__") = some true
  om : PySem.W.mroIn K C (.type "object") = some true
theorem w_iso {K : PySem.W.Frag} {H : Hp} {Q : VK} {p C D dx : Addr} {fs : List (Str × V)} {b : Bool} (hp : H p = some (.ins C dx fs)) (I : IsoK K C) (hk : PySem.W.kitOne K (.ref C) (.ref D) = some b) (h : Q (.bl b) H) : rIsi K [.ref p, .ref D] H Q :=
  ⟨_, _, _, _, b, rfl, .own D, .base (.ins hp I.cl I.oc I.og I.ot I.om), hk, h⟩
theorem w_isoN {K : PySem.W.Frag} {H : Hp} {Q : VK} {D : Addr} {b : Bool} (hk : PySem.W.kitOne K (.type "NoneType") (.ref D) = some b) (h : Q (.bl b) H) : rIsi K [.non, .ref D] H Q :=
  ⟨_, _, _, _, b, rfl, .own D, .base .non, hk, h⟩
theorem kit_own {K : PySem.W.Frag} {C D : Addr} {b : Bool} (h1 : PySem.W.isClsIn K D = true) (h2 : PySem.W.typeIn K (.ref D) = some (.type "type")) (h3 : PySem.W.subIn K (.ref C) (.ref D) = some b) (h4 : PySem.W.subIn K (.ref C) (.ref C) = some true) : PySem.W.kitOne K (.ref C) (.ref D) = some b := by
  unfold PySem.W.kitOne
  by_cases e : C = D
  · subst e
    rw [h4] at h3
    cases h3
    rw [if_pos (by simp)]
  · have hn : ¬ ((Value.ref C == Value.ref D) = true) := by
      intro z
      rw [beq_iff_eq] at z
      cases z
      exact e rfl
    rw [if_neg hn]
    unfold PySem.W.kitCls
    have h5 : (PySem.W.clsIn K D).isSome = true := h1
    show (if ((PySem.W.clsIn K D).isSome && PySem.W.typeIn K (.ref D) == some (.type "type")) = true then PySem.W.subIn K (.ref C) (.ref D) else none) = some b
    rw [h5, h2, if_pos (by simp)]
    exact h3
/-! ### range by steps -/
theorem w_r3 {σ : L2.St} {H : Hp} {ta : TA} {R : It → Hp → Prop} (h : ta σ H fun vs H1 => ∃ (i j c : Int) (n : Nat), vs = [.int i, .int j, .int c] ∧ RgC i j c n ∧ R (Itc i c n) H1) : iRng3 ta σ H R := h
theorem w_r3q {i j c : Int} {n : Nat} {R : Int → Int → Nat → Prop} (hc : RgC i j c n) (h : R i c n) : ∃ (i' j' c' : Int) (n' : Nat), [V.int i, V.int j, V.int c] = [.int i', .int j', .int c'] ∧ RgC i' j' c' n' ∧ R i' c' n' := ⟨i, j, c, n, rfl, hc, h⟩
/-! ### ways joined behind a statement -/
def tCutX (t u : TS) : TS := fun D σ H => ∃ M : L2.St → Hp → Prop, t { D with nx := M } σ H ∧ ∀ σ' H', M σ' H' → u D σ' H'
theorem pss_cutX {X : Cx} {st : Stmt} {more : List Stmt} {t u : TS} (h1 : PS X st t) (h2 : PSs X more u) : PSs X (st :: more) (tCutX t u) := ⟨fun pins s σ H D I h => by
  obtain ⟨M, hm, hu⟩ := h
  refine wpAny_execs_cons (thn (h1.run pins s σ H { D with nx := M } I hm) fun f s1 q => ?_)
  cases f with
  | next => obtain ⟨σ1, H1, I1, q1⟩ := q; exact h2.run pins s1 σ1 H1 D I1 (hu σ1 H1 q1)
  | ret v => exact q
  | brk => exact q
  | cont => exact q⟩
theorem w_cut {t u : TS} {D : Ends} {σ : L2.St} {H : Hp} (M : L2.St → Hp → Prop) (h : t { D with nx := M } σ H) (k : ∀ σ' H', M σ' H' → u D σ' H') : tCutX t u D σ H := ⟨M, h, k⟩
/-! ### dicts with number keys; heaps that grow -/
theorem _root_.L2.Same.add {G H : Hp} {q : Addr} {o : HO} (e : Same G H) (h : H q = some o) : Same (upd G q o) H := fun b u hb => by
  by_cases e2 : b = q
  · subst e2
    rw [upd_same] at hb
    rw [h]
    exact hb
  · rw [upd_ne e2] at hb
    exact e b u hb
theorem New.upd {G : Hp} {p q : Addr} {o : HO} (n : New G p) (h : p ≠ q) : New (upd G q o) p := (upd_ne h).trans n
theorem putK_len {kvs : List (Key × V)} {k : Key} {v : V} : (putK kvs k v).length ≤ kvs.length + 1 := by
  unfold putK
  split <;> simp
theorem w_put {σ : L2.St} {H : Hp} {D : Ends} {td ty tv : TE} (h : tv σ H fun v H1 => td σ H1 fun x H2 => ty σ H2 fun y H3 => ∃ a H4, x = .ref a ∧ DPut H3 a y v H4 ∧ D.nx σ H4) : sDPut td ty tv D σ H := h
theorem w_putI {H : Hp} {a : Addr} {kvs : List (Key × V)} {i : Int} {v : V} {R : Hp → Prop} (e : H a = some (.dK kvs)) (hl : kvs.length < sizeLine) (h : R (upd H a (.dK (putK kvs (.inl i) v)))) : ∃ a' H4, V.ref a = .ref a' ∧ DPut H a' (.int i) v H4 ∧ R H4 := ⟨a, _, rfl, DPut.k (k := .inl i) e hl, h⟩
theorem w_getI {H : Hp} {a : Addr} {kvs : List (Key × V)} {i : Int} {v : V} {R : V → Prop} (e : H a = some (.dK kvs)) (hv : valV kvs (.inl i) = some v) (h : R v) : ∃ a' v', V.ref a = .ref a' ∧ DGet H a' (.int i) (some v') ∧ R v' := ⟨a, v, rfl, by rw [← hv]; exact DGet.k (k := .inl i) e, h⟩
theorem w_inI {H : Hp} {a : Addr} {kvs : List (Key × V)} {i : Int} {R : Option V → Prop} (e : H a = some (.dK kvs)) (h : R (valV kvs (.inl i))) : ∃ a' o, V.ref a = .ref a' ∧ DGet H a' (.int i) o ∧ R o := ⟨a, _, rfl, DGet.k (k := .inl i) e, h⟩
theorem w_din {σ : L2.St} {H : Hp} {Q : VK} {td ty : TE} (h : ty σ H fun y H1 => td σ H1 fun x H2 => ∃ a o, x = .ref a ∧ DGet H2 a y o ∧ Q (.bl o.isSome) H2) : tDIn ty td σ H Q := h
theorem w_dni {σ : L2.St} {H : Hp} {Q : VK} {td ty : TE} (h : ty σ H fun y H1 => td σ H1 fun x H2 => ∃ a o, x = .ref a ∧ DGet H2 a y o ∧ Q (.bl (!o.isSome)) H2) : tDNotIn ty td σ H Q := h
theorem w_dg {σ : L2.St} {H : Hp} {Q : VK} {td ty : TE} (h : td σ H fun x H1 => ty σ H1 fun y H2 => ∃ a v, x = .ref a ∧ DGet H2 a y (some v) ∧ Q v H2) : tDGet td ty σ H Q := h
theorem w_dn {σ : L2.St} {H : Hp} {Q : VK} (h : ∀ p, New H p → Q (.ref p) (upd H p (.dK []))) : tDNewK σ H Q := h
/-- a dict with number keys: what it holds -/
def Holds (kvs : List (Key × V)) (S : List Nat) (g : Nat → V) : Prop := kvs.length ≤ S.length ∧ ∀ d : Nat, valV kvs (.inl (d : Int)) = if d ∈ S then some (g d) else none
theorem Holds.nil {g : Nat → V} : Holds [] [] g := ⟨Nat.le_refl _, fun d => by simp [valV]⟩
theorem Holds.put {kvs : List (Key × V)} {S : List Nat} {g : Nat → V} (h : Holds kvs S g) (x : Nat) : Holds (putK kvs (.inl (x : Int)) (g x)) (S ++ [x]) g := by
  refine ⟨by have := putK_len (kvs := kvs) (k := .inl (x : Int)) (v := g x); have := h.1; simp; omega, fun d => ?_⟩
  rw [valV_put, h.2]
  by_cases e : d = x
  · subst e; simp
  · have : ¬ ((.inl (d : Int) : Key) = .inl (x : Int)) := fun z => e (by have := Sum.inl.inj z; omega)
    rw [if_neg this]
    simp [e]
theorem lc_r0 {m : Int} {n : Nat} {g : TG} {tt : TT} {te : TE} {vs : List Nat} {σ : L2.St} {H1 : Hp} {D : Addr} {Qd : Hp → Prop} (hm : m = n) (Pv : Nat → Hp → Prop) (h0 : Pv 0 (upd H1 D (.lst [])))
    (hs : ∀ i H, i < n → Pv i H → g (.int (i : Nat)) (wipe σ vs) H fun σ2 H2 => wipe σ2 vs = wipe σ vs ∧ tt σ2 H2 fun b H3 =>
      if b = true then te σ2 H3 fun y H4 => ∃ acc, H4 D = some (.lst acc) ∧ acc.length < sizeLine ∧ Pv (i + 1) (upd H4 D (.lst (acc ++ [y]))) else Pv (i + 1) H3) (hd : ∀ H, Pv n H → Qd H) :
    ∃ W : Nat → Nat → Hp → Prop, (∃ m, W 0 m (upd H1 D (.lst []))) ∧ ∀ i k H, W i k H →
      ((Itr 0 m.toNat).stop i H ∧ Qd H) ∨ ((Itr 0 m.toNat).go i H ∧ ∃ Nx : Hp → Prop, (∀ H', Nx H' → ∃ m', m' < k ∧ W (i + 1) m' H') ∧ ∀ x H', (Itr 0 m.toNat).yld i H x H' → g x (wipe σ vs) H' fun σ2 H2 => wipe σ2 vs = wipe σ vs ∧ tt σ2 H2 fun b H3 =>
        if b = true then te σ2 H3 fun y H4 => ∃ acc, H4 D = some (.lst acc) ∧ acc.length < sizeLine ∧ Nx (upd H4 D (.lst (acc ++ [y]))) else Nx H3) := by
  subst hm
  rw [Int.toNat_natCast]
  exact lc_range (lo := 0) Pv h0 (fun i H hi hp => by rw [Int.zero_add]; exact hs i H hi hp) hd
theorem w_acc {H : Hp} {D : Addr} {acc : List V} {R : List V → Prop} (h1 : H D = some (.lst acc)) (h2 : acc.length < sizeLine) (h : R acc) : ∃ acc', H D = some (.lst acc') ∧ acc'.length < sizeLine ∧ R acc' := ⟨acc, h1, h2, h⟩
/-! ### enumerate -/
theorem for_enumX {K : PySem.W.Frag} {a : Addr} {xs : List V} {g : TG} {tb : TS} {D : Ends} {σ : L2.St} {H : Hp} (Pv : Nat → L2.St → Hp → Prop) (h0 : Pv 0 σ H) (hl : ∀ i σ H, i ≤ xs.length → Pv i σ H → SqL K H a xs)
    (hs : ∀ i x σ H p, xs[i]? = some x → Pv i σ H → New H p → g (.ref p) σ (upd H p (.tup [.int (i : Nat), x])) fun σ2 H2 => tb { D with nx := Pv (i + 1), ct := Pv (i + 1), bk := D.nx } σ2 H2) (hd : ∀ σ H, Pv xs.length σ H → D.nx σ H) :
    ∃ W : Nat → Nat → L2.St → Hp → Prop, (∃ m, W 0 m σ H) ∧ ∀ i m σ H, W i m σ H →
      ((Ite K a).stop i H ∧ D.nx σ H) ∨ ((Ite K a).go i H ∧ ∃ N : L2.St → Hp → Prop, (∀ σ' H', N σ' H' → ∃ m', m' < m ∧ W (i + 1) m' σ' H') ∧ ∀ x H', (Ite K a).yld i H x H' → g x σ H' fun σ2 H2 => tb { D with nx := N, ct := N, bk := D.nx } σ2 H2) := by
  refine ⟨fun i m σ H => i + m = xs.length ∧ Pv i σ H, ⟨xs.length, by omega, h0⟩, fun i m σ H hW => ?_⟩
  obtain ⟨e, p⟩ := hW
  have q := hl i σ H (by omega) p
  cases m with
  | zero =>
    have e2 : i = xs.length := by omega
    subst e2
    exact .inl ⟨⟨xs, q, Nat.le_refl _⟩, hd σ H p⟩
  | succ m =>
    have hi : i < xs.length := by omega
    refine .inr ⟨⟨xs, xs[i], q, List.getElem?_eq_getElem hi⟩, Pv (i + 1), fun σ' H' h => ⟨m, by omega, by omega, h⟩, fun x H' hy => ?_⟩
    obtain ⟨T, y, rfl, nT, rfl, hx⟩ := hy
    exact hs i y σ H T (hx xs q) p nT
theorem w_enum {σ : L2.St} {H : Hp} {K : PySem.W.Frag} {ta : TA} {R : It → Hp → Prop} (h : ta σ H fun vs H1 => ∃ a xs, vs = [.ref a] ∧ SqL K H1 a xs ∧ R (Ite K a) H1) : iEnum K ta σ H R := h
theorem w_enq {H : Hp} {K : PySem.W.Frag} {p : Addr} {xs : List V} {R : Addr → Prop} (hs : SqL K H p xs) (h : R p) : ∃ a xs, [V.ref p] = [.ref a] ∧ SqL K H a xs ∧ R a := ⟨p, xs, rfl, hs, h⟩

/-! ### rules that name the written part -/
section
variable {X : Cx}
theorem ix_listK (K : PySem.W.Frag) (hK : X.K = K := by rfl) : IxR X (rIxL K) := by subst hK; exact ix_list
theorem ix_tupK (K : PySem.W.Frag) (hK : X.K = K := by rfl) : IxR X (rIxT K) := by subst hK; exact ix_tup
theorem ix_seqK (K : PySem.W.Frag) (hK : X.K = K := by rfl) : IxR X (rIx K) := by subst hK; exact ix_seq
theorem sl_listK (K : PySem.W.Frag) (hK : X.K = K := by rfl) : SlR X (rSlL K) := by subst hK; exact sl_list
def rLenK (K : PySem.W.Frag) : List V → Hp → VK → Prop := fun xs H Q => ∃ p ys, xs = [.ref p] ∧ (SqL K H p ys ∨ SqT K H p ys) ∧ Q (.int ys.length) H
theorem call_lenK (K : PySem.W.Frag) (hK : X.K = K := by rfl) : CallR X (.builtin "len") (rLenK K) := by subst hK; exact call_len_seq
def rListK (K : PySem.W.Frag) : List V → Hp → VK → Prop := fun xs H Q => ∃ p ys, xs = [.ref p] ∧ (SqL K H p ys ∨ SqT K H p ys) ∧ ∀ l, H l = none → Q (.ref l) (upd H l (.lst ys))
theorem call_listK (K : PySem.W.Frag) (hK : X.K = K := by rfl) : CallR X (.type "list") (rListK K) := by subst hK; exact call_list_of
theorem call_isiK' (K : PySem.W.Frag) (hK : X.K = K := by rfl) : CallR X (.builtin "isinstance") (rIsi K) := by subst hK; exact call_isi
theorem cr_sumK (K : PySem.W.Frag) (hc : X.calm = true) (hK : X.K = K := by rfl) : CallR X (.builtin "sum") (rSum K) := by subst hK; exact cr_sum hc
theorem cr_maxK (K : PySem.W.Frag) (hc : X.calm = true) (hK : X.K = K := by rfl) : CallR X (.builtin "max") (rMax K) := by subst hK; exact cr_max hc
theorem cr_minK (K : PySem.W.Frag) (hc : X.calm = true) (hK : X.K = K := by rfl) : CallR X (.builtin "min") (rMin K) := by subst hK; exact cr_min hc
theorem cr_allK (K : PySem.W.Frag) (hc : X.calm = true) (hK : X.K = K := by rfl) : CallR X (.builtin "all") (rAll K) := by subst hK; exact cr_all hc
theorem cr_anyK (K : PySem.W.Frag) (hc : X.calm = true) (hK : X.K = K := by rfl) : CallR X (.builtin "any") (rAny K) := by subst hK; exact cr_any hc
theorem cr_sortedIK (K : PySem.W.Frag) (hK : X.K = K := by rfl) : CallR X (.builtin "sorted") (rSortedI K) := by subst hK; exact cr_sortedI
theorem op_eqDK (K : PySem.W.Frag) (hu : X.A.units + 64 < cLine) (hK : X.K = K := by rfl) : OpR X (compareOp .Eq) (rEqD K) := by subst hK; exact op_eqD hu
theorem op_neDK (K : PySem.W.Frag) (hu : X.A.units + 64 < cLine) (hK : X.K = K := by rfl) : OpR X (compareOp .NotEq) (rNeD K) := by subst hK; exact op_neD hu
theorem op_inK (K : PySem.W.Frag) (hK : X.K = K := by rfl) : OpR X (compareOp .In) (rIn K false) := by subst hK; exact op_in_seq
theorem op_notInK (K : PySem.W.Frag) (hK : X.K = K := by rfl) : OpR X (compareOp .NotIn) (rIn K true) := by subst hK; exact op_notIn_seq
theorem mt_indexK (K : PySem.W.Frag) (hK : X.K = K := by rfl) : MtR X "list.index" (rIndex K) := by subst hK; exact mt_index
theorem w_lenK {K : PySem.W.Frag} {H : Hp} {Q : VK} {p : Addr} {xs : List V} (hs : SqL K H p xs) (h : Q (.int xs.length) H) : rLenK K [.ref p] H Q := ⟨p, xs, rfl, .inl hs, h⟩
theorem w_lenTK {K : PySem.W.Frag} {H : Hp} {Q : VK} {p : Addr} {xs : List V} (hs : SqT K H p xs) (h : Q (.int xs.length) H) : rLenK K [.ref p] H Q := ⟨p, xs, rfl, .inr hs, h⟩
theorem w_listK {K : PySem.W.Frag} {H : Hp} {Q : VK} {p : Addr} {xs : List V} (hs : SqL K H p xs) (h : ∀ l, New H l → Q (.ref l) (upd H l (.lst xs))) : rListK K [.ref p] H Q := ⟨p, xs, rfl, .inl hs, h⟩
end
section
variable {X : Cx} {e o : Expr} {f name : Str} {pos apos cpos : Pos} {ta to : TE} {t : TA} {es : List Expr}
theorem pe_fldK (K : PySem.W.Frag) (he : PE X e ta) (hb : attributeBase e f X.env (eval e X.env) = eval e X.env) (hK : X.K = K := by rfl) : PE X (.Attribute e f pos) (tFld K ta f) := by subst hK; exact pe_fld he hb
theorem pe_bmK (K : PySem.W.Frag) {T : String} {r : V → List V → Hp → VK → Prop} (h : PE X (.Call (.Attribute o name apos) es [] cpos) (tBM X.K T r to t)) (hK : X.K = K := by rfl) : PE X (.Call (.Attribute o name apos) es [] cpos) (tBM K T r to t) := by subst hK; exact h
theorem pe_bm0K (K : PySem.W.Frag) {T : String} {r : V → List V → Hp → VK → Prop} (h : PE X (.Call (.Attribute o name apos) es [] cpos) (tBM0 X.K T r to)) (hK : X.K = K := by rfl) : PE X (.Call (.Attribute o name apos) es [] cpos) (tBM0 K T r to) := by subst hK; exact h
theorem pi_listK (K : PySem.W.Frag) {tg l : Expr} {tl : TE} (hl : PE X l tl) (hK : X.K = K := by rfl) : PI X tg l (iList K tl) := by subst hK; exact pi_list hl
theorem pi_tupK (K : PySem.W.Frag) {tg l : Expr} {tl : TE} (hl : PE X l tl) (hK : X.K = K := by rfl) : PI X tg l (iTup K tl) := by subst hK; exact pi_tup hl
theorem pg_tupK (K : PySem.W.Frag) {es : List Expr} {k n : Nat} {t : TGs} (hc : X.calm = true) (h : PGs X es t) (hn : (assignEach es X.env).length = n := by rfl) (hst : (assignEach es X.env).findIdx? (·.1) = none := by rfl) (hK : X.K = K := by rfl) : PG X (.Tuple es k pos) (gTup K n t) := by subst hK; exact pg_tup hc h hn hst
end
/-! ### list.insert -/
theorem w_ins {H : Hp} {p : Addr} {xs : List V} {m : Int} {v : V} {R : Addr → List V → Int → V → Prop} (hp : H p = some (.lst xs)) (hl : xs.length < sizeLine) (h0 : 0 ≤ m) (h1 : m < 2 ^ 63) (h : R p xs m v) :
    ∃ (l : Addr) (ys : List V) (i : Int) (y : V), V.ref p = .ref l ∧ [V.int m, v] = [.int i, y] ∧ H l = some (.lst ys) ∧ ys.length < sizeLine ∧ 0 ≤ i ∧ i < 2 ^ 63 ∧ R l ys i y := ⟨p, xs, m, v, rfl, rfl, hp, hl, h0, h1, h⟩

/-! ### the head by facts: what is asked of the heap behind the top -/
section
open PySem PySem.Spec PyProof.Rows L2
def stQ (g : Addr → Option Obj) (f : Obj → List Addr) (as : List Addr) : List Addr := as.flatMap fun a => match g a with
  | some o => f o
  | none => []
def rfF (o : Obj) : List Addr := match o.data with
  | .func fd => He.refV fd.code ++ He.refV fd.defaults
  | .cls cd => [cd.ns]
  | _ => []
def rfD (o : Obj) : List Addr := match o.data with
  | .dict es _ => es.toList.flatMap fun e => He.refV e.val
  | _ => []
def asQ (g : Addr → Option Obj) : List Addr := mainGlobals :: (stQ g rfD [mainGlobals] ++ (stQ g rfF (stQ g rfD [mainGlobals]) ++ (stQ g rfD (stQ g rfF (stQ g rfD [mainGlobals])) ++ stQ g rfF (stQ g rfD (stQ g rfF (stQ g rfD [mainGlobals]))))))
def obsK (fs : PySem.W.Frag → List Bool) (fn : List He.DefD) (K : PySem.W.Frag) : He.AlD := ((fs K).all (fun b => b) && fn.all fun d => d.ok K, fn.map fun d => He.fnW K d.at_)
def valK (fn : List He.DefD) : He.AlD := (true, fn.map He.DefD.val)
def SaysK (fs : PySem.W.Frag → List Bool) (fn : List He.DefD) (K : PySem.W.Frag) : Prop := obsK fs fn K = valK fn
def obsKG (fs : PySem.W.Frag → List Bool) (fn : List He.DefD) (g : Addr → Option Obj) : He.AlD := obsK fs fn (He.frG g (asQ g))
def hookK (fs : PySem.W.Frag → List Bool) (fn : List He.DefD) : PySem.W.Hook where
  α := He.AlD
  obs := fun s => obsKG fs fn s.heap.get?
  val := fun _ => valK fn
  says := fun _ h => ∃ K : PySem.W.Frag, K.In h ∧ SaysK fs fn K
  of := fun _ _ e => ⟨_, He.frG_in, e⟩
  keeps := fun _ _ _ ⟨K, hK, c⟩ k => ⟨K, PySem.W.Frag.In.keeps hK k, c⟩
theorem obsKG_eq {fs : PySem.W.Frag → List Bool} {fn : List He.DefD} {g : Addr → Option Obj} {s : Shared} (h : ∀ a, g a = s.heap.get? a) : obsKG fs fn g = (hookK fs fn).obs s := by
  have e : g = s.heap.get? := funext h
  rw [e] <;> rfl
theorem SaysK.fact {fs : PySem.W.Frag → List Bool} {fn : List He.DefD} {K : PySem.W.Frag} (c : SaysK fs fn K) {b : Bool} (i : Nat) (h : (fs K)[i]? = some b) : b = true := by
  have c1 := (He.ba (show ((fs K).all (fun b => b) && fn.all fun d => d.ok K) = true from congrArg (fun z : He.AlD => z.1) c)).1
  exact List.all_eq_true.mp c1 b (List.mem_of_getElem? h)
theorem SaysK.is {fs : PySem.W.Frag → List Bool} {fn : List He.DefD} {K : PySem.W.Frag} (c : SaysK fs fn K) {p : Prop} [Decidable p] (i : Nat) (h : (fs K)[i]? = some (decide p)) : p := of_decide_eq_true (c.fact i h)
theorem SaysK.def_ {fs : PySem.W.Frag → List Bool} {fn : List He.DefD} {K : PySem.W.Frag} (c : SaysK fs fn K) (i : Nat) {d : He.DefD} (h : fn[i]? = some d) : ∃ fd, FunD K d.name d.qual d.params d.body d.scope (d.dvs K) (d.kws K) (He.fAd K d.at_) fd := by
  have c2 := (He.ba (show ((fs K).all (fun b => b) && fn.all fun d => d.ok K) = true from congrArg (fun z : He.AlD => z.1) c)).2
  have e : fn.map (fun d => He.fnW K d.at_) = fn.map He.DefD.val := congrArg (fun z : He.AlD => z.2) c
  have e2 : (fn.map fun d => He.fnW K d.at_)[i]? = (fn.map He.DefD.val)[i]? := by rw [e]
  rw [List.getElem?_map, List.getElem?_map, h] at e2
  exact He.DefD.funD (Option.some.inj e2) (List.all_eq_true.mp c2 d (List.mem_of_getElem? h))
theorem fnl_of {K : PySem.W.Frag} {x q : Str} {ps : Arguments} {b : List Stmt} {sc : Scope} {f : Addr} {fd : FuncData} (D : FunD K x q ps b sc [] [] f fd) :
    ∃ oc od kV doc pm an cdv ct osl, K.lookup f = some ⟨oc, od, .func (PySem.W.fnOf x q ps b sc .none kV doc pm an cdv ct), osl⟩ ∧ PySem.W.codeIn K cdv q = true ∧ PySem.W.keepIn K (.ref f) = true := by
  obtain ⟨oc, od, dV, kV, doc, pm, an, cdv, ct, osl, rfl, lk, hc, hd, _⟩ := D.ex
  rcases hd with ⟨_, rfl⟩ | ⟨z, _⟩
  · exact ⟨oc, od, kV, doc, pm, an, cdv, ct, osl, lk, hc, D.kp⟩
  · exact absurd rfl z
theorem fnd0_of {K : PySem.W.Frag} {x q : Str} {ps : Arguments} {b : List Stmt} {sc : Scope} {f : Addr} {fd : FuncData} (D : FunD K x q ps b sc [.non] [] f fd) :
    ∃ oc od T kV doc pm an cdv ct osl oc2 od2 n2 sl2, K.lookup f = some ⟨oc, od, .func (PySem.W.fnOf x q ps b sc (.ref T) kV doc pm an cdv ct), osl⟩ ∧ K.lookup T = some ⟨oc2, od2, .seq #[Value.none] n2, sl2⟩ ∧ PySem.W.codeIn K cdv q = true ∧ PySem.W.keepIn K (.ref f) = true := by
  obtain ⟨oc, od, dV, kV, doc, pm, an, cdv, ct, osl, rfl, lk, hc, hd, _⟩ := D.ex
  rcases hd with ⟨z, _⟩ | ⟨_, T, o, its, n, rfl, hT, ho, hv⟩
  · cases z
  · obtain ⟨oc2, od2, dt2, sl2⟩ := o
    cases hv with
    | cons r hv =>
      cases hv
      cases r
      simp only at ho
      subst ho
      exact ⟨oc, od, T, kV, doc, pm, an, cdv, ct, osl, oc2, od2, n, sl2, lk, hT, hc, D.kp⟩
theorem fndi_of {K : PySem.W.Frag} {x q : Str} {ps : Arguments} {b : List Stmt} {sc : Scope} {f : Addr} {fd : FuncData} {i : Int} (D : FunD K x q ps b sc [.int i] [] f fd) :
    ∃ oc od T kV doc pm an cdv ct osl oc2 od2 n2 sl2 tk, K.lookup f = some ⟨oc, od, .func (PySem.W.fnOf x q ps b sc (.ref T) kV doc pm an cdv ct), osl⟩ ∧ K.lookup T = some ⟨oc2, od2, .seq #[Value.int i tk] n2, sl2⟩ ∧ PySem.W.codeIn K cdv q = true ∧ PySem.W.keepIn K (.ref f) = true := by
  obtain ⟨oc, od, dV, kV, doc, pm, an, cdv, ct, osl, rfl, lk, hc, hd, _⟩ := D.ex
  rcases hd with ⟨z, _⟩ | ⟨_, T, o, its, n, rfl, hT, ho, hv⟩
  · cases z
  · obtain ⟨oc2, od2, dt2, sl2⟩ := o
    cases hv with
    | cons r hv =>
      cases hv
      obtain ⟨tk, rfl⟩ := r
      simp only at ho
      subst ho
      exact ⟨oc, od, T, kV, doc, pm, an, cdv, ct, osl, oc2, od2, n, sl2, tk, lk, hT, hc, D.kp⟩
theorem intK_ok {K : PySem.W.Frag} {x : Str} {i : Int} (c : (He.Fa.int x i).ok K = true) : ∃ t, PySem.W.nsIn K mainGlobals x = some (some (.int i t)) := by
  have c2 : (match PySem.W.nsIn K mainGlobals x with
    | some (some (.int j _)) => decide (j = i)
    | _ => false) = true := c
  cases e : PySem.W.nsIn K mainGlobals x with
  | none => rw [e] at c2; cases c2
  | some o =>
    rw [e] at c2
    cases o with
    | none => cases c2
    | some v =>
      cases v with
      | int j t =>
        have ej : j = i := of_decide_eq_true c2
        rw [ej]
        exact ⟨t, rfl⟩
      | _ => cases c2
theorem strK_ok {K : PySem.W.Frag} {x z : Str} (c : (He.Fa.str x z).ok K = true) : ∃ t, PySem.W.nsIn K mainGlobals x = some (some (.str z t)) := by
  have c2 : (match PySem.W.nsIn K mainGlobals x with
    | some (some (.str y _)) => decide (y = z)
    | _ => false) = true := c
  cases e : PySem.W.nsIn K mainGlobals x with
  | none => rw [e] at c2; cases c2
  | some o =>
    rw [e] at c2
    cases o with
    | none => cases c2
    | some v =>
      cases v with
      | str y t =>
        have ej : y = z := of_decide_eq_true c2
        rw [ej]
        exact ⟨t, rfl⟩
      | _ => cases c2
def slB : List (Option Value) → Bool
  | [_, _, _, _, some (.builtin n), _] => decide (n = "ValueError.__new__")
  | _ => false
theorem slB_ok {sl : List (Option Value)} (h : slB sl = true) : ∃ m0 m1 m2 m3 m5, sl = [m0, m1, m2, m3, some (.builtin "ValueError.__new__"), m5] := by
  unfold slB at h
  split at h
  · have h := of_decide_eq_true h
    subst h
    exact ⟨_, _, _, _, _, rfl⟩
  · cases h
/-- a class object of an exception -/
def excB (K : PySem.W.Frag) (C : Addr) (bm : List Value) : Bool := match K.lookup C with
  | some ⟨cl, _, .cls cd, sl⟩ => decide (cl = .type "type") && (decide (cd.mro = .ref C :: bm) && (cd.hasDict && (!cd.hasDel && slB sl.toList)))
  | _ => false
theorem excB_ok {K : PySem.W.Frag} {C : Addr} {bm : List Value} (h : excB K C bm = true) : ∃ nm q N bs sn su ab col dd m0 m1 m2 m3 m5, K.lookup C = some (excClassObj nm q C N bs bm true sn su ab col dd m0 m1 m2 m3 m5 "ValueError.__new__") := by
  unfold excB at h
  cases e : K.lookup C with
  | none => rw [e] at h; cases h
  | some o =>
    rw [e] at h
    obtain ⟨cl, dd, dt, sl⟩ := o
    cases dt with
    | cls cd =>
      obtain ⟨g1, r1⟩ := He.ba h
      obtain ⟨g2, r2⟩ := He.ba r1
      obtain ⟨g3, r3⟩ := He.ba r2
      obtain ⟨g4, g5⟩ := He.ba r3
      obtain ⟨sl⟩ := sl
      obtain ⟨m0, m1, m2, m3, m5, rfl⟩ := slB_ok g5
      obtain ⟨c1, c2, c3, c4, c5, c6, c7, c8, c9, c10, c11⟩ := cd
      have e1 : cl = .type "type" := of_decide_eq_true g1
      have e2 : c3 = .ref C :: bm := of_decide_eq_true g2
      have e3 : c6 = true := g3
      have e4 : (!c11) = true := g4
      have e4 : c11 = false := by simpa using e4
      subst e1 e2 e3 e4
      exact ⟨_, _, _, _, _, _, _, _, _, _, _, _, _, _, rfl⟩
    | _ => cases h
/-- the end, the written part told by a Hook -/
theorem walk_ofK {l : PySem.W.OpenLaw} {n k : Nat} {q : Program} {loose : List Str} {XP : (Str → Option Value) → Heap → Prop} {YP : World → Heap → Prop} {d : DefRec} {sp : PySem.W.Frag → Sp}
    (hn : l.most = some n) (hn2 : n ≤ sizeLine) (hdf : d.params.defaults = []) (hr : Room k callerA)
    (F : ∀ (w : World) (mg : Str → Option Value) (fa : Addr) (h : Heap), YP w h → h.Ns mainGlobals mg → mg d.name = some (.ref fa) → ∃ K : PySem.W.Frag, K.In h ∧
      ∃ fd : FuncData, (∀ (s : Shared) (u : Value), BindsTo s fd ⟨[u], []⟩ [("script", u)]) ∧ ∀ base : Heap, K.In base → base.Ns mainGlobals mg → FnOk l.prog w K mg base CX0 k fa fd ["script"] (sp K))
    (hsp : ∀ (K : PySem.W.Frag) (H : Hp) (a : Addr) (ns : List Int), ns.length ≤ n → (∀ z ∈ ns, Builtin.Int.intBits z ≤ 1048576) → LsE K H a (ns.map V.int) → sp K [.ref a] H (fun v _ => v = .bl true) fun _ _ _ => False) :
    PySem.W.WalkO q loose XP YP l.row.toRowW d [] (fun f vs => PySem.call f vs) := by
  refine Att.attach_callB hn hdf fun w s₀ s₁ mg mb fa o pm cd doc a vs ns G Y ho hd hcd hmg hobj hints hlen hbits hg => ?_
  obtain ⟨K, KX, fd, hb, hF⟩ := F w mg fa _ Y G.T.g hmg
  refine law_call KX G.T.g G.T.b G.T.builtins G.T.nolimit hg hobj hints (Nat.le_trans hlen hn2) hr hF hb (fun H hO hS => hsp _ H a ns hlen hbits ?_) fun _ _ _ h => h
  rcases hS with h | ⟨ob, its, m, hk, h1, h2, h3, h4, h5⟩
  · exact .inl h
  · have e := KX a ob hk
    rw [hobj] at e
    cases e
    cases h3
    exact .inr ⟨vs, _, hk, by simpa using h5, by rw [List.length_map]; exact Nat.le_trans hlen hn2⟩
end


/-! ### exceptions -/
theorem Has.mkX {P : Program} {w : World} {K : PySem.W.Frag} {mg : Str → Option Value} {base : Heap} {x qual : Str} {ps N : List Str} {sp : Sp} {k : Nat} {f : Addr} {fd : FuncData} {st : Stmt} (F : Fun K x qual st f fd) (gf : mg x = some (.ref f)) (b : Binds K fd ps []) (S : FnScope N ps (defScope st)) (len : ∀ vs H Q E, sp vs H Q E → vs.length = ps.length)
    (hbody : ∀ (cdv : Value) (A : Around) (outer : List Env) (s : Shared) (H : Hp) (vs : List V) (Q : VK) (E : XK), Room k (A.deeper (envOfC qual (defScope st) s.heap.objs.size f cdv)) → sp vs H Q E →
      ∃ t, PSs (cxOf (L2.CX P w) P w K mg base N qual (defScope st) f cdv A outer s H E) (defBody st) t ∧ t { nx := fun _ H' => Q .non H', rt := Q } (start N vs) H) : Has P w K mg base (L2.CX P w) (k + 1) x ps sp :=
  ⟨f, fd, F.okX S len hbody, gf, F.kp, b⟩
theorem pe_fnS {X : Cx} {W : WX} {k : Nat} {ps : List Str} {sp : Sp} {x : Str} {p pos : Pos} {e : Expr} {es : List Expr} {t : TA} (tk : Takes X W) (h : Has X.prog X.w X.K X.mg X.base (L2.CX X.prog X.w) k x ps sp) (hr : Room k X.A) (hg : Gl X x) (ha : PA X (e :: es) t) (hdb : (x == ("__debug__" : Str)) = false := by decide)
    (he : starEach (e :: es) X.env = (false, eval e X.env) :: starEach es X.env := by rfl) (hpl : (backTo pos (starEach es X.env)).any (·.1) = false := by rfl) :
    PE X (.Call (.Name x p) (e :: es) [] pos) (tCallS sp (WE W) t) := by
  obtain ⟨f, fd, F, gf, kp, b⟩ := h.ex
  exact pe_callS F hr hg gf kp b (fun σ => passAt tk σ) ha hdb he hpl
theorem pe_fnL {X : Cx} {k : Nat} {ps : List Str} {sp : Sp} {x : Str} {p pos : Pos} {e : Expr} {es : List Expr} {t : TA} (h : Has X.prog X.w X.K X.mg X.base (L2.CX X.prog X.w) k x ps sp) (hr : Room k X.A) (hg : Gl X x) (ha : PA X (e :: es) t) (hdb : (x == ("__debug__" : Str)) = false := by decide)
    (he : starEach (e :: es) X.env = (false, eval e X.env) :: starEach es X.env := by rfl) (hpl : (backTo pos (starEach es X.env)).any (·.1) = false := by rfl) :
    PE X (.Call (.Name x p) (e :: es) [] pos) (tCall sp [] E0 t) := by
  obtain ⟨f, fd, F, gf, kp, b⟩ := h.ex
  exact pe_call F hr hg gf kp b .nil passL ha hdb he hpl
theorem w_callS {σ : L2.St} {H : Hp} {Q : VK} {tl : TA} {sp : Sp} {E : L2.St → XK} (h : tl σ H fun vs H1 => sp vs H1 Q (E σ)) : tCallS sp E tl σ H Q := h
/-- facts of an exception class of the program's own -/
structure ExF (K : PySem.W.Frag) (C : Addr) : Prop where
  kp : PySem.W.keepIn K (.ref C) = true
  be : PySem.W.subIn K (.ref C) (.type "BaseException") = some true
  ty : PySem.W.typeIn K (.ref C) = some (.type "type")
  cl : PySem.W.isClsIn K C = true
  hd : PySem.W.hasDictIn K C = true
  ga : PySem.W.findIn K (.ref C) "__getattribute__" = some (some (.builtin "BaseException.__getattribute__"))
  gg : PySem.W.findIn K (.ref C) "__getattr__" = some none
  oc : PySem.W.findIn K (.ref C) "__class__" = some (some (.builtin "object.__class__"))
  om : PySem.W.mroIn K C (.type "object") = some true
  sv : PySem.W.subIn K (.ref C) (.type "ValueError") = some true
  ss : PySem.W.subIn K (.ref C) (.ref C) = some true
  og : PySem.W.specialIn K (.builtin "object.__class__") "__get__" = some (some (.builtin "getset_descriptor.__get__"))
  ot : PySem.W.takesIn K (.builtin "object.__class__") = some true
theorem ExF.exm {K : PySem.W.Frag} {C D : Addr} {b : Bool} (F : ExF K D) (h : PySem.W.subIn K (.ref C) (.ref D) = some b) : PySem.W.exmOne K (.ref C) (.ref D) = some b := PySem.W.exm_ref F.be F.hd F.ty h
theorem ExF.kit {K : PySem.W.Frag} {C D : Addr} {b : Bool} (F : ExF K C) (G : ExF K D) (h : PySem.W.subIn K (.ref C) (.ref D) = some b) : PySem.W.kitOne K (.ref C) (.ref D) = some b := kit_own G.cl G.ty h F.ss
theorem ExF.kitV {K : PySem.W.Frag} {C : Addr} (F : ExF K C) : PySem.W.kitOne K (.ref C) (.type "ValueError") = some true := by
  unfold PySem.W.kitOne
  rw [if_neg (by intro z; rw [beq_iff_eq] at z; cases z)]
  show (if PySem.W.kitMeta "ValueError" = true then PySem.W.subIn K (.ref C) (.type "ValueError") else none) = some true
  rw [if_pos (by decide +kernel), F.sv]
theorem ExF.xf {K : PySem.W.Frag} {C : Addr} (F : ExF K C) : XfC K C := ⟨F.ga, F.gg, F.be, F.hd⟩
/-- isinstance(e, c), e the exception that the suite holds, with its dict or without -/
def rIsX (K : PySem.W.Frag) (a : Addr) (cls : Value) (d : Option Addr) : List V → Hp → VK → Prop := fun xs H Q => ∃ (D : Addr) (c : V) (cv : Value) (b : Bool), cls = .ref D ∧ ExF K D ∧ (d = none ∨ ∃ dd fs, d = some dd ∧ H dd = some (.xd fs)) ∧ xs = [.ref a, c] ∧ (∀ u, RelV c u → u = cv) ∧ PySem.W.kitOne K (.ref D) cv = some b ∧ Q (.bl b) H
theorem call_isX {X : Cx} {a : Addr} {cls : Value} {d : Option Addr} {oe : Obj} {pn : List (Addr × Obj)} (K : PySem.W.Frag) (hz : Zc cls d oe) (hf : ∃ vs, oe.data = .fields vs) (hK : X.K = K := by rfl) : CallR (X.suite a ((a, oe) :: pn)) (.builtin "isinstance") (rIsX K a cls d) := by
  subst hK
  intro pins s σ H xs us Q I r h
  obtain ⟨D, c, cv, b, rfl, F, hd, rfl, hcv, e, q⟩ := h
  obtain _ | ⟨rx, rr⟩ := r
  obtain _ | ⟨rt, rr⟩ := rr
  cases rr
  cases rx
  have ec := hcv _ rt
  subst ec
  have hget := (I.pin (a, oe) (List.mem_append.mpr (.inl List.mem_cons_self))).1
  obtain ⟨vs, hv⟩ := hf
  have hcl : (PySem.W.clsIn X.K D).isSome = true := F.cl
  have J : ∃ od, PySem.W.InstAt s.heap a oe D od := by
    rcases hd with rfl | ⟨dd, fs, rfl, hdd⟩
    · exact ⟨none, hget, hz.1, by unfold PySem.W.notCls; rw [hv] <;> rfl, by rw [hz.2]; trivial⟩
    · obtain ⟨mA, hns, _⟩ : ObjOk X.prog X.w H s.heap dd (.xd fs) := I.hok dd _ hdd
      obtain ⟨od, ho, _⟩ := lookIn_ns hns
      exact ⟨some od, hget, hz.1, by unfold PySem.W.notCls; rw [hv] <;> rfl, by rw [hz.2]; exact ho⟩
  obtain ⟨od, J⟩ := J
  exact PySem.W.kia_one (PySem.W.kitx_exc hcl F.ga F.gg F.be F.oc F.og F.ot F.om) I.kIn J e (fun z => nomatch z) fun tk => ⟨.bl b, H, I.kept (t' := tk) fun _ _ z => z, rfl, q⟩
theorem w_isX {K : PySem.W.Frag} {H : Hp} {Q : VK} {a D E : Addr} {d : Option Addr} {b : Bool} (F : ExF K D) (G : ExF K E) (hs : PySem.W.subIn K (.ref D) (.ref E) = some b) (hd : d = none ∨ ∃ dd fs, d = some dd ∧ H dd = some (.xd fs)) (h : Q (.bl b) H) : rIsX K a (.ref D) d [.ref a, .ref E] H Q :=
  ⟨D, .ref E, .ref E, b, rfl, F, hd, rfl, fun _ r => r, F.kit G hs, h⟩
theorem w_isXV {K : PySem.W.Frag} {H : Hp} {Q : VK} {a D : Addr} {d : Option Addr} (F : ExF K D) (hd : d = none ∨ ∃ dd fs, d = some dd ∧ H dd = some (.xd fs)) (h : Q (.bl true) H) : rIsX K a (.ref D) d [.ref a, .ty "ValueError"] H Q :=
  ⟨D, .ty "ValueError", .type "ValueError", true, rfl, F, hd, rfl, fun _ r => r, F.kitV, h⟩
/-- an exception class whose __init__ is a def -/
structure HasXM (P : Program) (w : World) (K : PySem.W.Frag) (mg : Str → Option Value) (base : Heap) (k : Nat) (x : Str) (C : Addr) (ps : List Str) (sp : Sp) : Prop where
  oex : OexC K C
  ex : ∃ f fd, FnOk P w K mg base CX0 k f fd ps sp ∧ PySem.W.findIn K (.ref C) "__init__" = some (some (.ref f)) ∧ PySem.W.typeIn K (.ref f) = some (.type "function") ∧ mg x = some (.ref C) ∧ Binds K fd ps []
theorem pmk_xm {X : Cx} {x : Str} {C : Addr} {k : Nat} {ps : List Str} {sp : Sp} {e : Expr} {es : List Expr} {ta : TA} {p pos : Pos} (h : HasXM X.prog X.w X.K X.mg X.base k x C ps sp) (hr : Room (k + 1) X.A) (hg : Gl X x) (ha : PA X (e :: es) ta)
    (hdb : (x == ("__debug__" : Str)) = false := by decide) (he : starEach (e :: es) X.env = (false, eval e X.env) :: starEach es X.env := by rfl) (hpl : (backTo pos (starEach es X.env)).any (·.1) = false := by rfl) :
    PMk X (.Call (.Name x p) (e :: es) [] pos) (tMkO C sp [] ta) := by
  obtain ⟨f, fd, F, iC, tI, hm, b⟩ := h.ex
  exact pmk_oex h.oex iC tI F hr b .nil pass0 hg hm ha hdb he hpl
/-- the promise of an __init__ that keeps its argument as the field f -/
def spKeep (K : PySem.W.Frag) (C : Addr) : Sp := fun vs H Q _ => ∃ (a : Addr) (v : V), vs = [.ref a, v] ∧ OexC K C ∧ PySem.W.findIn K (.ref C) "at" = some none ∧ H a = some (exo a C none) ∧ ∀ d, H d = none → d ≠ a → Q .non (upd (upd H d (exd d [("at", v)])) a (exo a C (some d)))
/-- the raise of such an exception: its dict is new -/
theorem w_raiseK {K : PySem.W.Frag} {H : Hp} {C : Addr} {v : V} {Q : XK} (T : OexC K C) (n : PySem.W.findIn K (.ref C) "at" = some none) (h : ∀ d, New H d → Q (.ref C) (some d) (upd H d (.xd [("at", v)]))) :
    [v].length ≤ 1000 ∧ ∀ a, H a = none → spKeep K C (.ref a :: ([v] ++ [])) (upd H a (exo a C none)) (fun u H2 => u = .non ∧ ∃ (d : Addr) (fs : List (Str × V)), H2 a = some (exo a C (some d)) ∧ H2 d = some (exd d fs) ∧ H d = none ∧ Q (.ref C) (some d) (upd (del H2 a) d (.xd fs))) (fun _ _ _ => False) := by
  refine ⟨by show 1 ≤ 1000; decide, fun a na => ⟨a, v, rfl, T, n, upd_same, fun d nd hda => ⟨rfl, d, _, upd_same, by rw [upd_ne hda, upd_same], ?_, ?_⟩⟩⟩
  · rw [upd_ne hda] at nd
    exact nd
  · have nd' : H d = none := by rw [upd_ne hda] at nd; exact nd
    have e : upd (del (upd (upd (upd H a (exo a C none)) d (exd d [("at", v)])) a (exo a C (some d))) a) d (.xd [("at", v)]) = upd H d (.xd [("at", v)]) := by
      funext b
      by_cases hb : b = d
      · subst hb; rw [upd_same, upd_same]
      · rw [upd_ne hb, upd_ne hb]
        by_cases ha : b = a
        · subst ha; rw [del_same, na]
        · rw [del_ne ha, upd_ne ha, upd_ne hb, upd_ne ha]
    rw [e]
    exact h d nd'
theorem w_ost {K : PySem.W.Frag} {σ : L2.St} {H : Hp} {D : Ends} {to te : TE} {f : Str} (h : te σ H fun y H1 => to σ H1 fun x H2 => ∃ a C : Addr, x = .ref a ∧ OexC K C ∧ PySem.W.findIn K (.ref C) f = some none ∧
  ((H2 a = some (exo a C none) ∧ ∀ dx, H2 dx = none → dx ≠ a → D.nx σ (upd (upd H2 dx (exd dx [(f, y)])) a (exo a C (some dx)))) ∨
    ∃ (dx : Addr) (fs : List (Str × V)), H2 a = some (exo a C (some dx)) ∧ H2 dx = some (exd dx fs) ∧ fs.length ≤ 900 ∧ D.nx σ (upd H2 dx (exd dx ((f, y) :: fs))))) : tOst K f to te D σ H := h
theorem w_xf {σ : L2.St} {H : Hp} {Q : VK} {a C : Addr} {cls : Value} {d : Option Addr} {f : Str} {te : TE} (h : te σ H fun x H1 => x = .ref a ∧ cls = .ref C ∧ ∃ (dd : Addr) (fs : List (Str × V)) (v : V), d = some dd ∧ H1 dd = some (.xd fs) ∧ fs.lookup f = some v ∧ Q v H1) : tXf a cls d C f te σ H Q := h
theorem w_mko {σ : L2.St} {H : Hp} {C : Addr} {sp : Sp} {ta : TA} {Q : XK} (h : ta σ H fun vs H1 => vs.length ≤ 1000 ∧ ∀ a, H1 a = none → sp (.ref a :: (vs ++ [])) (upd H1 a (exo a C none))
  (fun v H2 => v = .non ∧ ∃ (d : Addr) (fs : List (Str × V)), H2 a = some (exo a C (some d)) ∧ H2 d = some (exd d fs) ∧ H1 d = none ∧ Q (.ref C) (some d) (upd (del H2 a) d (.xd fs))) (fun _ _ _ => False)) : tMkO C sp [] ta σ H Q := h

/-! ### steps of the reading -/
local macro_rules | `(tactic| walk_at "len") => `(tactic| (intro vs H Q E h; first | (obtain ⟨e, _⟩ := h; subst e; rfl) | (obtain ⟨_, e, _⟩ := h; subst e; rfl) | (obtain ⟨_, _, e, _⟩ := h; subst e; rfl) | (obtain ⟨_, _, _, e, _⟩ := h; subst e; rfl) | (obtain ⟨_, _, _, _, e, _⟩ := h; subst e; rfl) | (obtain ⟨_, _, _, _, _, e, _⟩ := h; subst e; rfl) | (obtain ⟨_, _, _, _, _, _, e, _⟩ := h; subst e; rfl) | (obtain ⟨_, _, _, _, _, _, _, e, _⟩ := h; subst e; rfl) | (obtain ⟨_, _, _, _, _, _, _, _, e, _⟩ := h; subst e; rfl) | (obtain ⟨_, _, _, _, _, _, _, _, _, e, _⟩ := h; subst e; rfl) | (obtain ⟨_, _, _, _, _, _, _, _, _, _, e, _⟩ := h; subst e; rfl) | (obtain ⟨_, _, _, _, _, _, _, _, _, _, _, e, _⟩ := h; subst e; rfl) | (obtain ⟨_, _, _, _, _, _, _, _, _, _, _, _, e, _⟩ := h; subst e; rfl) | (obtain ⟨_, _, _, _, _, _, _, _, _, _, _, _, _, e, _⟩ := h; subst e; rfl)))
/-- p ≠ q -/
local macro_rules | `(tactic| walk_at "ne1") => `(tactic| (refine ne_new (H := ?H) (o := ?o) ?a ?b; (case b => assumption); (case a => walk_at "hp")))
local macro_rules | `(tactic| walk_at "ne") => `(tactic| first
  | assumption | (apply Ne.symm; assumption) | walk_at "ne1" | (apply Ne.symm; walk_at "ne1") | fail)
/-- H p = some o -/
local macro_rules | `(tactic| walk_at "hp") => `(tactic| first
  | assumption
  | exact upd_same
  | (refine (upd_ne ?n).trans ?h; (case n => walk_at "ne"); (case h => walk_at "hp"))
  | (refine Same.get (H := ?H) ?s ?h; (case s => assumption); (case h => assumption)) | fail)
local macro_rules | `(tactic| walk_at "sq") => `(tactic| first
  | assumption
  | exact SqL.of (by walk_at "hp") | exact SqT.of (by walk_at "hp")
  | (refine Same.seq (H := ?H) ?s ?h; (case h => assumption); (case s => walk_at "same"))
  | (refine same_read (H := ?H) ?s ?h; (case h => assumption); (case s => walk_at "same")) | fail)
/-- a later new object was free ahead -/
local macro_rules | `(tactic| walk_at "fr") => `(tactic| first | assumption | (refine New.of (H' := ?H) ?n ?s; (case n => assumption); (case s => walk_at "same")) | fail)
/-- what was tracked stays -/
local macro_rules | `(tactic| walk_at "same") => `(tactic| first | assumption | exact Same.refl _ | (refine Same.new ?_ (by assumption); walk_at "same") | (refine Same.mut ?s ?n; (case n => walk_at "fr"); (case s => walk_at "same")) | (refine Same.trans (H1 := ?H1) ?a ?b; (case b => assumption); (case a => walk_at "same")) | fail)
local macro_rules | `(tactic| walk_at "side") => `(tactic| first | decide | omega | (with_reducible assumption) | fail)
local macro_rules | `(tactic| walk_at "at") => `(tactic| first | rfl | assumption | exact atI_nat (by assumption) | fail)
local macro_rules | `(tactic| walk_at "ll") => `(tactic| first | omega | (simp only [List.length_append, List.length_cons, List.length_nil, List.length_map, List.length_range, List.length_set, List.length_replicate]; omega) | (simp only [List.length_append, List.length_cons, List.length_nil, List.length_map, List.length_range, List.length_set, List.length_replicate] at *; omega) | (simp; done) | (simp; omega) | fail)
local macro_rules | `(tactic| walk_at "ix") => `(tactic| first | assumption | (refine ixN_nat ?_; walk_at "ll") | rfl | fail)
local macro_rules | `(tactic| walk_at "szlt") => `(tactic| first | assumption | (refine szlt ?_; walk_at "ll") | fail)
local macro_rules | `(tactic| walk_at "szk") => `(tactic| first | assumption | (refine szlt ?_; omega) | fail)
/-- one step -/
local macro_rules | `(tactic| walk_at "st") => `(tactic| first
  | with_reducible refine w_iT ?_
  | with_reducible refine w_iF ?_
  | with_reducible refine w_iNT ?_
  | with_reducible refine w_iNF ?_
  | with_reducible refine w_iNN ?_
  | with_reducible refine w_seq ?_
  | with_reducible refine w_asg ?_
  | with_reducible refine w_gn ?_
  | with_reducible refine w_c ?_
  | with_reducible refine w_op ?_
  | with_reducible refine w_ret ?_
  | with_reducible refine w_if ?_
  | with_reducible refine w_test ?_
  | with_reducible refine w_rI0 ?_
  | with_reducible refine w_cons ?_
  | with_reducible refine w_nil ?_
  | with_reducible refine w_call ?_
  | with_reducible refine w_cb ?_
  | with_reducible refine w_drop ?_
  | with_reducible refine w_next ?_
  | with_reducible refine w_eqI ?_
  | with_reducible refine w_neI ?_
  | ((with_reducible refine w_var ?_); refine ⟨_, rfl, ?_⟩)
  | ((with_reducible refine w_aug ?_); refine ⟨_, rfl, ?_⟩)
  | with_reducible refine w_eqB ?_
  | with_reducible refine w_neB ?_
  | with_reducible refine w_tB ?_
  | with_reducible refine w_bl ?_
  | with_reducible refine w_and ?_
  | with_reducible refine w_or ?_
  | with_reducible refine w_not ?_
  | with_reducible refine w_andV ?_
  | with_reducible refine w_orV ?_
  | with_reducible refine w_notV ?_
  | with_reducible refine w_ifE ?_
  | with_reducible refine w_un ?_
  | with_reducible refine w_rU ?_
  | with_reducible refine w_ip ?_
  | with_reducible refine w_gc ?_
  | with_reducible refine w_g0 ?_
  | with_reducible refine w_gs ?_
  | with_reducible refine w_tup ?_
  | with_reducible refine w_lst ?_
  | with_reducible refine w_sl ?_
  | with_reducible refine w_np ?_
  | with_reducible refine w_part ?_
  | with_reducible refine w_partI ?_
  | with_reducible refine w_bm ?_
  | with_reducible refine w_bm0 ?_
  | with_reducible refine w_for ?_
  | with_reducible refine w_lc ?_
  | with_reducible refine w_yes ?_
  | with_reducible refine w_make ?_
  | with_reducible refine w_meth ?_
  | with_reducible refine w_sf ?_
  | with_reducible refine w_r3 ?_
  | with_reducible refine w_din ?_
  | with_reducible refine w_dni ?_
  | with_reducible refine w_dg ?_
  | with_reducible refine w_put ?_
  | with_reducible refine w_dn ?_
  | with_reducible refine w_enum ?_
  | with_reducible refine w_iL ?_
  | with_reducible refine w_iTu ?_
  | with_reducible refine w_r1 ?_
  | with_reducible refine w_r2 ?_
  | with_reducible refine w_int1 ?_
  | with_reducible refine w_intb ?_
  | with_reducible refine w_fl ?_
  | with_reducible refine w_retN ?_
  | with_reducible refine w_break ?_
  | with_reducible refine w_cont ?_
  | with_reducible refine w_par ?_
  | with_reducible refine w_par2 ?_
  | with_reducible refine w_eqS ?_
  | with_reducible refine w_neS ?_
  | with_reducible refine w_eqNI ?_
  | with_reducible refine w_eqIN ?_
  | with_reducible refine w_callS ?_
  | with_reducible refine w_ost ?_
  | with_reducible refine w_xf ?_
  | with_reducible refine w_mko ?_
  | with_reducible refine w_makeS ?_
  | ((with_reducible refine w_mod ?s0 ?_); (case s0 => walk_at "side"))
  | ((with_reducible refine w_div ?s0 ?s1 ?_); (case s0 => walk_at "side"); (case s1 => walk_at "side"))
  | ((with_reducible refine w_shr ?s0 ?_); (case s0 => walk_at "side"))
  | ((with_reducible refine w_shl1 ?s0 ?s1 ?_); (case s0 => walk_at "side"); (case s1 => walk_at "side"))
  | ((with_reducible refine w_mul ?s0 ?s1 ?s2 ?s3 ?_); (case s0 => walk_at "side"); (case s1 => walk_at "side"); (case s2 => walk_at "side"); (case s3 => walk_at "side"))
  | ((with_reducible refine w_shl ?s0 ?s1 ?s2 ?s3 ?_); (case s0 => walk_at "side"); (case s1 => walk_at "side"); (case s2 => walk_at "side"); (case s3 => walk_at "side"))
  | ((with_reducible refine w_r1q ?s0 ?s1 ?_); (case s0 => walk_at "side"); (case s1 => walk_at "side"))
  | ((with_reducible refine w_r2q ?s0 ?s1 ?s2 ?s3 ?_); (case s0 => walk_at "side"); (case s1 => walk_at "side"); (case s2 => walk_at "side"); (case s3 => walk_at "side"))
  | ((with_reducible refine w_ixL (xs := ?xs) (v := ?v) ?s0 ?s1 ?_); (case s0 => walk_at "sq"); (case s1 => walk_at "at"))
  | ((with_reducible refine w_ixT (xs := ?xs) (v := ?v) ?s0 ?s1 ?_); (case s0 => walk_at "sq"); (case s1 => walk_at "at"))
  | ((with_reducible refine w_ixl (xs := ?xs) (v := ?v) ?s0 ?s1 ?_); (case s0 => walk_at "sq"); (case s1 => walk_at "at"))
  | ((with_reducible refine w_ixt (xs := ?xs) (v := ?v) ?s0 ?s1 ?_); (case s0 => walk_at "sq"); (case s1 => walk_at "at"))
  | ((with_reducible refine w_lenK (xs := ?xs) ?s0 ?_); (case s0 => walk_at "sq"))
  | ((with_reducible refine w_lenTK (xs := ?xs) ?s0 ?_); (case s0 => walk_at "sq"))
  | ((with_reducible refine w_listK (xs := ?xs) ?s0 ?_); (case s0 => walk_at "sq"))
  | ((with_reducible refine w_len (xs := ?xs) ?s0 ?_); (case s0 => walk_at "sq"))
  | ((with_reducible refine w_lenT (xs := ?xs) ?s0 ?_); (case s0 => walk_at "sq"))
  | ((with_reducible refine w_iLq (xs := ?xs) ?s0 ?_); (case s0 => walk_at "sq"))
  | ((with_reducible refine w_iTq (xs := ?xs) ?s0 ?_); (case s0 => walk_at "sq"))
  | ((with_reducible refine w_tyl (xs := ?xs) ?s0 ?_); (case s0 => walk_at "sq"))
  | ((with_reducible refine w_slL (xs := ?xs) ?s0 ?_); (case s0 => walk_at "sq"))
  | ((with_reducible refine w_gt (xs := ?xs) ?s0 ?s1 ?_); (case s0 => walk_at "sq"); (case s1 => rfl))
  | ((with_reducible refine w_setL (xs := ?xs) (j := ?j) ?s0 ?s1 ?_); (case s0 => walk_at "hp"); (case s1 => walk_at "ix"))
  | ((with_reducible refine w_app (xs := ?xs) ?s0 ?s1 ?_); (case s0 => walk_at "hp"); (case s1 => walk_at "szlt"))
  | ((with_reducible refine w_rev (xs := ?xs) ?s0 ?_); (case s0 => walk_at "hp"))
  | with_reducible refine w_isi kb_ii ?_
  | with_reducible refine w_isi kb_ib ?_
  | with_reducible refine w_isb kb_bb ?_
  | with_reducible refine w_isb kb_bi ?_
  | with_reducible refine w_isn kb_ni ?_
  | with_reducible refine w_isn kb_nb ?_
  | ((with_reducible refine w_isl (xs := ?xs) ?s0 kb_ll ?_); (case s0 => walk_at "hp"))
  | ((with_reducible refine w_isl (xs := ?xs) ?s0 kb_lt ?_); (case s0 => walk_at "hp"))
  | ((with_reducible refine w_ist (xs := ?xs) ?s0 kb_tt ?_); (case s0 => walk_at "hp"))
  | ((with_reducible refine w_ist (xs := ?xs) ?s0 kb_tl ?_); (case s0 => walk_at "hp"))
  | with_reducible refine w_len1 rfl ?_
  | with_reducible refine w_isN ?_
  | with_reducible refine w_2i ?_
  | with_reducible refine w_1i ?_
  | with_reducible refine w_augS ?_
  | ((with_reducible refine w_getL (xs := ?xs) (v := ?v) ?s0 ?s1 ?_); (case s0 => walk_at "sq"); (case s1 => assumption))
  | ((with_reducible refine w_wipe ?s0 ?_); (case s0 => rfl))
  | ((with_reducible refine w_inI (kvs := ?kvs) ?s0 ?_); (case s0 => walk_at "hp"))
  | ((with_reducible refine w_putI (kvs := ?kvs) ?s0 ?s1 ?_); (case s0 => walk_at "hp"); (case s1 => walk_at "szk"))
  | ((with_reducible refine w_ins (xs := ?xs) ?s0 ?s1 ?s2 ?s3 ?_); (case s0 => walk_at "hp"); (case s1 => walk_at "szlt"); (case s2 => walk_at "side"); (case s3 => walk_at "side"))
  | ((with_reducible refine w_pow ?s0 ?_); (case s0 => exact ⟨by decide, by decide, by decide⟩))
  | ((with_reducible refine ifd (fun h => ?c) (fun _ => ?_)); (case c => exfalso; omega))
  | ((with_reducible refine ifd (fun _ => ?_) (fun h => ?c)); (case c => exfalso; omega))
  | ((with_reducible refine ifnd (fun h => ?c) (fun _ => ?_)); (case c => exfalso; omega))
  | ((with_reducible refine ifnd (fun _ => ?_) (fun h => ?c)); (case c => exfalso; omega))
  | fail)
local macro_rules | `(tactic| walk_at "sts") => `(tactic| repeat (walk_at "st"))

def topS (i : Nat) : Stmt := PySem.Challenge.pw_spinfloor_k09_whole_flat_webs.main.body.getD i (.Pass ⟨0, 0, 0, 0⟩)
abbrev s_head : Stmt := topS 2
theorem sc_head : FnScope ["ties", "dart"] ["ties", "dart"] (defScope s_head) := ⟨rfl, rfl, rfl, by decide +kernel, rfl, by decide +kernel, by decide +kernel⟩
abbrev s_follower : Stmt := topS 3
theorem sc_follower : FnScope ["ties", "turns", "dart", "place", "row", "number"] ["ties", "turns", "dart"] (defScope s_follower) := ⟨rfl, rfl, rfl, by decide +kernel, rfl, by decide +kernel, by decide +kernel⟩
abbrev s_round_from : Stmt := topS 4
theorem sc_round_from : FnScope ["ties", "turns", "first", "row", "dart"] ["ties", "turns", "first"] (defScope s_round_from) := ⟨rfl, rfl, rfl, by decide +kernel, rfl, by decide +kernel, by decide +kernel⟩
abbrev s_rounds_of : Stmt := topS 5
theorem sc_rounds_of : FnScope ["ties", "turns", "rounds", "seen", "dart", "row", "each"] ["ties", "turns"] (defScope s_rounds_of) := ⟨rfl, rfl, rfl, by decide +kernel, rfl, by decide +kernel, by decide +kernel⟩
abbrev s_sides_of : Stmt := topS 6
theorem sc_sides_of : FnScope ["ties", "rounds", "where", "number", "row", "dart", "i"] ["ties", "rounds"] (defScope s_sides_of) := ⟨rfl, rfl, rfl, by decide +kernel, rfl, by decide +kernel, by decide +kernel⟩
abbrev s_ends_are_places : Stmt := topS 14
theorem sc_ends_are_places : FnScope ["many", "ties", "tie"] ["many", "ties"] (defScope s_ends_are_places) := ⟨rfl, rfl, rfl, by decide +kernel, rfl, by decide +kernel, by decide +kernel⟩
abbrev s_turns_are_right : Stmt := topS 15
theorem sc_turns_are_right : FnScope ["many", "ties", "turns", "place", "own", "i"] ["many", "ties", "turns"] (defScope s_turns_are_right) := ⟨rfl, rfl, rfl, by decide +kernel, rfl, by decide +kernel, by decide +kernel⟩
abbrev s_hangs_together : Stmt := topS 16
theorem sc_hangs_together : FnScope ["many", "ties", "reached", "grew", "tie", "place"] ["many", "ties"] (defScope s_hangs_together) := ⟨rfl, rfl, rfl, by decide +kernel, rfl, by decide +kernel, by decide +kernel⟩
abbrev s_Web___init__ : Stmt := inClass (topS 17) 0
theorem sc_Web___init__ : FnScope ["self", "many", "ties", "turns", "rounds", "row"] ["self", "many", "ties", "turns"] (defScope s_Web___init__) := ⟨rfl, rfl, rfl, by decide +kernel, rfl, by decide +kernel, by decide +kernel⟩
abbrev s_Tie___init__ : Stmt := inClass (topS 19) 0
theorem sc_Tie___init__ : FnScope ["self", "one", "two", "strength"] ["self", "one", "two", "strength"] (defScope s_Tie___init__) := ⟨rfl, rfl, rfl, by decide +kernel, rfl, by decide +kernel, by decide +kernel⟩
abbrev s_law_cell : Stmt := topS 23
theorem sc_law_cell : FnScope ["script", "k"] ["script", "k"] (defScope s_law_cell) := ⟨rfl, rfl, rfl, by decide +kernel, rfl, by decide +kernel, by decide +kernel⟩
abbrev s_law_head : Stmt := topS 24
theorem sc_law_head : FnScope ["ends", "dart"] ["ends", "dart"] (defScope s_law_head) := ⟨rfl, rfl, rfl, by decide +kernel, rfl, by decide +kernel, by decide +kernel⟩
abbrev s_law_put : Stmt := topS 25
theorem sc_law_put : FnScope ["turns", "place", "behind", "fresh", "row"] ["turns", "place", "behind", "fresh"] (defScope s_law_put) := ⟨rfl, rfl, rfl, by decide +kernel, rfl, by decide +kernel, by decide +kernel⟩
abbrev s_law_step : Stmt := topS 26
theorem sc_law_step : FnScope ["cell", "ends", "turns", "rings", "places", "mixed", "which", "rest", "ring", "a", "b", "one", "two", "fresh", "out", "back"] ["cell", "ends", "turns", "rings", "places"] (defScope s_law_step) := ⟨rfl, rfl, rfl, by decide +kernel, rfl, by decide +kernel, by decide +kernel⟩
abbrev s_law_grown : Stmt := topS 27
theorem sc_law_grown : FnScope ["cells", "places", "ends", "turns", "rings", "cell"] ["cells", "places"] (defScope s_law_grown) := ⟨rfl, rfl, rfl, by decide +kernel, rfl, by decide +kernel, by decide +kernel⟩
abbrev s_law_order : Stmt := topS 28
theorem sc_law_order : FnScope ["cell", "many", "order", "mixed", "k"] ["cell", "many"] (defScope s_law_order) := ⟨rfl, rfl, rfl, by decide +kernel, rfl, by decide +kernel, by decide +kernel⟩
abbrev s_law_renumbered : Stmt := topS 29
theorem sc_law_renumbered : FnScope ["grown", "cell", "places", "ties", "ends", "k", "turns", "p", "row", "cut", "rings", "ring", "dart"] ["grown", "cell"] (defScope s_law_renumbered) := ⟨rfl, rfl, rfl, by decide +kernel, rfl, by decide +kernel, by decide +kernel⟩
abbrev s_law_kinds : Stmt := topS 30
theorem sc_law_kinds : FnScope ["script", "many", "kinds", "k", "cell", "strength"] ["script", "many"] (defScope s_law_kinds) := ⟨rfl, rfl, rfl, by decide +kernel, rfl, by decide +kernel, by decide +kernel⟩
abbrev s_law_ties : Stmt := topS 31
theorem sc_law_ties : FnScope ["ends", "kinds", "ties", "k"] ["ends", "kinds"] (defScope s_law_ties) := ⟨rfl, rfl, rfl, by decide +kernel, rfl, by decide +kernel, by decide +kernel⟩
abbrev s_law_number : Stmt := topS 32
theorem sc_law_number : FnScope ["found"] ["found"] (defScope s_law_number) := ⟨rfl, rfl, rfl, by decide +kernel, rfl, by decide +kernel, by decide +kernel⟩
abbrev s_law_rows : Stmt := topS 33
theorem sc_law_rows : FnScope ["found", "due", "k", "row", "i"] ["found", "due"] (defScope s_law_rows) := ⟨rfl, rfl, rfl, by decide +kernel, rfl, by decide +kernel, by decide +kernel⟩
abbrev s_law_turned : Stmt := topS 34
theorem sc_law_turned : FnScope ["ring", "at"] ["ring"] (defScope s_law_turned) := ⟨rfl, rfl, rfl, by decide +kernel, rfl, by decide +kernel, by decide +kernel⟩
abbrev s_law_sides : Stmt := topS 35
theorem sc_law_sides : FnScope ["found", "rings", "where", "k", "dart", "i", "side"] ["found", "rings"] (defScope s_law_sides) := ⟨rfl, rfl, rfl, by decide +kernel, rfl, by decide +kernel, by decide +kernel⟩
abbrev s_law_same_ties : Stmt := topS 36
theorem sc_law_same_ties : FnScope ["found", "ends", "kinds", "k", "tie"] ["found", "ends", "kinds"] (defScope s_law_same_ties) := ⟨rfl, rfl, rfl, by decide +kernel, rfl, by decide +kernel, by decide +kernel⟩
abbrev s_law_fields : Stmt := topS 37
theorem sc_law_fields : FnScope ["web", "grown", "kinds", "due", "ring"] ["web", "grown", "kinds"] (defScope s_law_fields) := ⟨rfl, rfl, rfl, by decide +kernel, rfl, by decide +kernel, by decide +kernel⟩
abbrev s_law : Stmt := topS 38
theorem sc_law : FnScope ["script", "cells", "grown", "kinds", "ties", "turns", "web", "k", "other", "others", "second", "row"] ["script"] (defScope s_law) := ⟨rfl, rfl, rfl, by decide +kernel, rfl, by decide +kernel, by decide +kernel⟩
structure Bl (mg : Str → Option Value) : Prop where
  len : mg "len" = none
  range : mg "range" = none
  enumerate : mg "enumerate" = none
  sorted : mg "sorted" = none
  all : mg "all" = none
  list : mg "list" = none
  max : mg "max" = none
  isinstance : mg "isinstance" = none
  int : mg "int" = none
  bool : mg "bool" = none
  min : mg "min" = none
  tuple : mg "tuple" = none
  reversed : mg "reversed" = none
structure Txt (K : PySem.W.Frag) (mg : Str → Option Value) (C_Pull C_Push C_Web : Addr) : Prop where
  g_Pull : mg "Pull" = some (.ref C_Pull)
  g_Push : mg "Push" = some (.ref C_Push)
  g_Web : mg "Web" = some (.ref C_Web)
  cl_Pull : Cls K C_Pull
  mk_Pull : PySem.W.makesIn K C_Pull = true
  kp_Pull : PySem.W.keepIn K (.ref C_Pull) = true
  n_Pull_one : NoAttr K C_Pull "one"
  n_Pull_two : NoAttr K C_Pull "two"
  n_Pull_strength : NoAttr K C_Pull "strength"
  cl_Push : Cls K C_Push
  mk_Push : PySem.W.makesIn K C_Push = true
  kp_Push : PySem.W.keepIn K (.ref C_Push) = true
  n_Push_one : NoAttr K C_Push "one"
  n_Push_two : NoAttr K C_Push "two"
  n_Push_strength : NoAttr K C_Push "strength"
  cl_Web : Cls K C_Web
  mk_Web : PySem.W.makesIn K C_Web = true
  kp_Web : PySem.W.keepIn K (.ref C_Web) = true
  n_Web_many : NoAttr K C_Web "many"
  n_Web_ties : NoAttr K C_Web "ties"
  n_Web_turns : NoAttr K C_Web "turns"
  n_Web_rounds : NoAttr K C_Web "rounds"
  n_Web_sides : NoAttr K C_Web "sides"
  og : PySem.W.specialIn K (.builtin "object.__class__") "__get__" = some (some (.builtin "getset_descriptor.__get__"))
  ot : PySem.W.takesIn K (.builtin "object.__class__") = some true
  oc_Pull : PySem.W.findIn K (.ref C_Pull) "__class__" = some (some (.builtin "object.__class__"))
  om_Pull : PySem.W.mroIn K C_Pull (.type "object") = some true
  oc_Push : PySem.W.findIn K (.ref C_Push) "__class__" = some (some (.builtin "object.__class__"))
  om_Push : PySem.W.mroIn K C_Push (.type "object") = some true
  oc_Web : PySem.W.findIn K (.ref C_Web) "__class__" = some (some (.builtin "object.__class__"))
  om_Web : PySem.W.mroIn K C_Web (.type "object") = some true
  ci_Push : PySem.W.isClsIn K C_Push = true
  ty_Push : PySem.W.typeIn K (.ref C_Push) = some (.type "type")
  sb_Pull_Push : PySem.W.subIn K (.ref C_Pull) (.ref C_Push) = some false
  sb_Pull_Pull : PySem.W.subIn K (.ref C_Pull) (.ref C_Pull) = some true
  sb_Push_Push : PySem.W.subIn K (.ref C_Push) (.ref C_Push) = some true
  ci_Pull : PySem.W.isClsIn K C_Pull = true
  ty_Pull : PySem.W.typeIn K (.ref C_Pull) = some (.type "type")
  sb_Push_Pull : PySem.W.subIn K (.ref C_Push) (.ref C_Pull) = some false
theorem Txt.ki_Pull_Push {K : PySem.W.Frag} {mg : Str → Option Value} {C_Pull C_Push C_Web : Addr} (T : Txt K mg C_Pull C_Push C_Web) : PySem.W.kitOne K (.ref C_Pull) (.ref C_Push) = some false := kit_own T.ci_Push T.ty_Push T.sb_Pull_Push T.sb_Pull_Pull
theorem Txt.ki_Push_Push {K : PySem.W.Frag} {mg : Str → Option Value} {C_Pull C_Push C_Web : Addr} (T : Txt K mg C_Pull C_Push C_Web) : PySem.W.kitOne K (.ref C_Push) (.ref C_Push) = some true := kit_own T.ci_Push T.ty_Push T.sb_Push_Push T.sb_Push_Push
theorem Txt.ki_Pull_Pull {K : PySem.W.Frag} {mg : Str → Option Value} {C_Pull C_Push C_Web : Addr} (T : Txt K mg C_Pull C_Push C_Web) : PySem.W.kitOne K (.ref C_Pull) (.ref C_Pull) = some true := kit_own T.ci_Pull T.ty_Pull T.sb_Pull_Pull T.sb_Pull_Pull
theorem Txt.ki_Push_Pull {K : PySem.W.Frag} {mg : Str → Option Value} {C_Pull C_Push C_Web : Addr} (T : Txt K mg C_Pull C_Push C_Web) : PySem.W.kitOne K (.ref C_Push) (.ref C_Pull) = some false := kit_own T.ci_Pull T.ty_Pull T.sb_Push_Pull T.sb_Push_Push
def fsQ (K : PySem.W.Frag) : List Bool := [
  decide (PySem.W.nsIn K mainGlobals "Pull" = some (some (.ref (He.ga K "Pull")))),
  decide (PySem.W.nsIn K mainGlobals "Push" = some (some (.ref (He.ga K "Push")))),
  decide (PySem.W.nsIn K mainGlobals "Web" = some (some (.ref (He.ga K "Web")))),
  decide (PySem.W.nsIn K mainGlobals "head" = some (some (.ref (He.fAd K ("head", none))))),
  decide (PySem.W.nsIn K mainGlobals "follower" = some (some (.ref (He.fAd K ("follower", none))))),
  decide (PySem.W.nsIn K mainGlobals "round_from" = some (some (.ref (He.fAd K ("round_from", none))))),
  decide (PySem.W.nsIn K mainGlobals "rounds_of" = some (some (.ref (He.fAd K ("rounds_of", none))))),
  decide (PySem.W.nsIn K mainGlobals "sides_of" = some (some (.ref (He.fAd K ("sides_of", none))))),
  decide (PySem.W.nsIn K mainGlobals "ends_are_places" = some (some (.ref (He.fAd K ("ends_are_places", none))))),
  decide (PySem.W.nsIn K mainGlobals "turns_are_right" = some (some (.ref (He.fAd K ("turns_are_right", none))))),
  decide (PySem.W.nsIn K mainGlobals "hangs_together" = some (some (.ref (He.fAd K ("hangs_together", none))))),
  decide (PySem.W.findIn K (.ref (He.ga K "Web")) "__init__" = some (some (.ref (He.fAd K ("Web", some "__init__"))))),
  decide (PySem.W.isFn K (.ref (He.fAd K ("Web", some "__init__"))) = true),
  decide (PySem.W.findIn K (.ref (He.ga K "Pull")) "__init__" = some (some (.ref (He.fAd K ("Tie", some "__init__"))))),
  decide (PySem.W.findIn K (.ref (He.ga K "Push")) "__init__" = some (some (.ref (He.fAd K ("Tie", some "__init__"))))),
  decide (PySem.W.isFn K (.ref (He.fAd K ("Tie", some "__init__"))) = true),
  decide (PySem.W.nsIn K mainGlobals "_law_cell" = some (some (.ref (He.fAd K ("_law_cell", none))))),
  decide (PySem.W.nsIn K mainGlobals "_law_head" = some (some (.ref (He.fAd K ("_law_head", none))))),
  decide (PySem.W.nsIn K mainGlobals "_law_put" = some (some (.ref (He.fAd K ("_law_put", none))))),
  decide (PySem.W.nsIn K mainGlobals "_law_step" = some (some (.ref (He.fAd K ("_law_step", none))))),
  decide (PySem.W.nsIn K mainGlobals "_law_grown" = some (some (.ref (He.fAd K ("_law_grown", none))))),
  decide (PySem.W.nsIn K mainGlobals "_law_order" = some (some (.ref (He.fAd K ("_law_order", none))))),
  decide (PySem.W.nsIn K mainGlobals "_law_renumbered" = some (some (.ref (He.fAd K ("_law_renumbered", none))))),
  decide (PySem.W.nsIn K mainGlobals "_law_kinds" = some (some (.ref (He.fAd K ("_law_kinds", none))))),
  decide (PySem.W.nsIn K mainGlobals "_law_ties" = some (some (.ref (He.fAd K ("_law_ties", none))))),
  decide (PySem.W.nsIn K mainGlobals "_law_number" = some (some (.ref (He.fAd K ("_law_number", none))))),
  decide (PySem.W.nsIn K mainGlobals "_law_rows" = some (some (.ref (He.fAd K ("_law_rows", none))))),
  decide (PySem.W.nsIn K mainGlobals "_law_turned" = some (some (.ref (He.fAd K ("_law_turned", none))))),
  decide (PySem.W.nsIn K mainGlobals "_law_sides" = some (some (.ref (He.fAd K ("_law_sides", none))))),
  decide (PySem.W.nsIn K mainGlobals "_law_same_ties" = some (some (.ref (He.fAd K ("_law_same_ties", none))))),
  decide (PySem.W.nsIn K mainGlobals "_law_fields" = some (some (.ref (He.fAd K ("_law_fields", none))))),
  decide (PySem.W.nsIn K mainGlobals "law" = some (some (.ref (He.fAd K ("law", none))))),
  decide (PySem.W.nsIn K mainGlobals "len" = some none),
  decide (PySem.W.nsIn K mainGlobals "range" = some none),
  decide (PySem.W.nsIn K mainGlobals "enumerate" = some none),
  decide (PySem.W.nsIn K mainGlobals "sorted" = some none),
  decide (PySem.W.nsIn K mainGlobals "all" = some none),
  decide (PySem.W.nsIn K mainGlobals "list" = some none),
  decide (PySem.W.nsIn K mainGlobals "max" = some none),
  decide (PySem.W.nsIn K mainGlobals "isinstance" = some none),
  decide (PySem.W.nsIn K mainGlobals "int" = some none),
  decide (PySem.W.nsIn K mainGlobals "bool" = some none),
  decide (PySem.W.nsIn K mainGlobals "min" = some none),
  decide (PySem.W.nsIn K mainGlobals "tuple" = some none),
  decide (PySem.W.nsIn K mainGlobals "reversed" = some none),
  decide (PySem.W.plainGet K (He.ga K "Pull") Str.empty = true),
  decide (PySem.W.hasDictIn K (He.ga K "Pull") = true),
  decide (PySem.W.plainOver K (He.ga K "Pull") = true),
  decide (PySem.W.findIn K (.ref (He.ga K "Pull")) "__setattr__" = some (some (.builtin "object.__setattr__"))),
  decide (PySem.W.makesIn K (He.ga K "Pull") = true),
  decide (PySem.W.keepIn K (.ref (He.ga K "Pull")) = true),
  decide (PySem.W.findIn K (.ref (He.ga K "Pull")) "one" = some none),
  decide (PySem.W.findIn K (.ref (He.ga K "Pull")) "two" = some none),
  decide (PySem.W.findIn K (.ref (He.ga K "Pull")) "strength" = some none),
  decide (PySem.W.plainGet K (He.ga K "Push") Str.empty = true),
  decide (PySem.W.hasDictIn K (He.ga K "Push") = true),
  decide (PySem.W.plainOver K (He.ga K "Push") = true),
  decide (PySem.W.findIn K (.ref (He.ga K "Push")) "__setattr__" = some (some (.builtin "object.__setattr__"))),
  decide (PySem.W.makesIn K (He.ga K "Push") = true),
  decide (PySem.W.keepIn K (.ref (He.ga K "Push")) = true),
  decide (PySem.W.findIn K (.ref (He.ga K "Push")) "one" = some none),
  decide (PySem.W.findIn K (.ref (He.ga K "Push")) "two" = some none),
  decide (PySem.W.findIn K (.ref (He.ga K "Push")) "strength" = some none),
  decide (PySem.W.plainGet K (He.ga K "Web") Str.empty = true),
  decide (PySem.W.hasDictIn K (He.ga K "Web") = true),
  decide (PySem.W.plainOver K (He.ga K "Web") = true),
  decide (PySem.W.findIn K (.ref (He.ga K "Web")) "__setattr__" = some (some (.builtin "object.__setattr__"))),
  decide (PySem.W.makesIn K (He.ga K "Web") = true),
  decide (PySem.W.keepIn K (.ref (He.ga K "Web")) = true),
  decide (PySem.W.findIn K (.ref (He.ga K "Web")) "many" = some none),
  decide (PySem.W.findIn K (.ref (He.ga K "Web")) "ties" = some none),
  decide (PySem.W.findIn K (.ref (He.ga K "Web")) "turns" = some none),
  decide (PySem.W.findIn K (.ref (He.ga K "Web")) "rounds" = some none),
  decide (PySem.W.findIn K (.ref (He.ga K "Web")) "sides" = some none),
  decide (PySem.W.specialIn K (.builtin "object.__class__") "__get__" = some (some (.builtin "getset_descriptor.__get__"))),
  decide (PySem.W.takesIn K (.builtin "object.__class__") = some true),
  decide (PySem.W.findIn K (.ref (He.ga K "Pull")) "__class__" = some (some (.builtin "object.__class__"))),
  decide (PySem.W.mroIn K (He.ga K "Pull") (.type "object") = some true),
  decide (PySem.W.findIn K (.ref (He.ga K "Push")) "__class__" = some (some (.builtin "object.__class__"))),
  decide (PySem.W.mroIn K (He.ga K "Push") (.type "object") = some true),
  decide (PySem.W.findIn K (.ref (He.ga K "Web")) "__class__" = some (some (.builtin "object.__class__"))),
  decide (PySem.W.mroIn K (He.ga K "Web") (.type "object") = some true),
  decide (PySem.W.isClsIn K (He.ga K "Push") = true),
  decide (PySem.W.typeIn K (.ref (He.ga K "Push")) = some (.type "type")),
  decide (PySem.W.subIn K (.ref (He.ga K "Pull")) (.ref (He.ga K "Push")) = some false),
  decide (PySem.W.subIn K (.ref (He.ga K "Pull")) (.ref (He.ga K "Pull")) = some true),
  decide (PySem.W.subIn K (.ref (He.ga K "Push")) (.ref (He.ga K "Push")) = some true),
  decide (PySem.W.isClsIn K (He.ga K "Pull") = true),
  decide (PySem.W.typeIn K (.ref (He.ga K "Pull")) = some (.type "type")),
  decide (PySem.W.subIn K (.ref (He.ga K "Push")) (.ref (He.ga K "Pull")) = some false)]
def fnQ : List He.DefD := [
  ⟨("head", none), "head", "head", defArgs s_head, defBody s_head, defScope s_head, [], []⟩,
  ⟨("follower", none), "follower", "follower", defArgs s_follower, defBody s_follower, defScope s_follower, [], []⟩,
  ⟨("round_from", none), "round_from", "round_from", defArgs s_round_from, defBody s_round_from, defScope s_round_from, [], []⟩,
  ⟨("rounds_of", none), "rounds_of", "rounds_of", defArgs s_rounds_of, defBody s_rounds_of, defScope s_rounds_of, [], []⟩,
  ⟨("sides_of", none), "sides_of", "sides_of", defArgs s_sides_of, defBody s_sides_of, defScope s_sides_of, [], []⟩,
  ⟨("ends_are_places", none), "ends_are_places", "ends_are_places", defArgs s_ends_are_places, defBody s_ends_are_places, defScope s_ends_are_places, [], []⟩,
  ⟨("turns_are_right", none), "turns_are_right", "turns_are_right", defArgs s_turns_are_right, defBody s_turns_are_right, defScope s_turns_are_right, [], []⟩,
  ⟨("hangs_together", none), "hangs_together", "hangs_together", defArgs s_hangs_together, defBody s_hangs_together, defScope s_hangs_together, [], []⟩,
  ⟨("Web", some "__init__"), "__init__", "Web.__init__", defArgs s_Web___init__, defBody s_Web___init__, defScope s_Web___init__, [], []⟩,
  ⟨("Tie", some "__init__"), "__init__", "Tie.__init__", defArgs s_Tie___init__, defBody s_Tie___init__, defScope s_Tie___init__, [], []⟩,
  ⟨("_law_cell", none), "_law_cell", "_law_cell", defArgs s_law_cell, defBody s_law_cell, defScope s_law_cell, [], []⟩,
  ⟨("_law_head", none), "_law_head", "_law_head", defArgs s_law_head, defBody s_law_head, defScope s_law_head, [], []⟩,
  ⟨("_law_put", none), "_law_put", "_law_put", defArgs s_law_put, defBody s_law_put, defScope s_law_put, [], []⟩,
  ⟨("_law_step", none), "_law_step", "_law_step", defArgs s_law_step, defBody s_law_step, defScope s_law_step, [], []⟩,
  ⟨("_law_grown", none), "_law_grown", "_law_grown", defArgs s_law_grown, defBody s_law_grown, defScope s_law_grown, [], []⟩,
  ⟨("_law_order", none), "_law_order", "_law_order", defArgs s_law_order, defBody s_law_order, defScope s_law_order, [], []⟩,
  ⟨("_law_renumbered", none), "_law_renumbered", "_law_renumbered", defArgs s_law_renumbered, defBody s_law_renumbered, defScope s_law_renumbered, [], []⟩,
  ⟨("_law_kinds", none), "_law_kinds", "_law_kinds", defArgs s_law_kinds, defBody s_law_kinds, defScope s_law_kinds, [], []⟩,
  ⟨("_law_ties", none), "_law_ties", "_law_ties", defArgs s_law_ties, defBody s_law_ties, defScope s_law_ties, [], []⟩,
  ⟨("_law_number", none), "_law_number", "_law_number", defArgs s_law_number, defBody s_law_number, defScope s_law_number, [], []⟩,
  ⟨("_law_rows", none), "_law_rows", "_law_rows", defArgs s_law_rows, defBody s_law_rows, defScope s_law_rows, [], []⟩,
  ⟨("_law_turned", none), "_law_turned", "_law_turned", defArgs s_law_turned, defBody s_law_turned, defScope s_law_turned, [], []⟩,
  ⟨("_law_sides", none), "_law_sides", "_law_sides", defArgs s_law_sides, defBody s_law_sides, defScope s_law_sides, [], []⟩,
  ⟨("_law_same_ties", none), "_law_same_ties", "_law_same_ties", defArgs s_law_same_ties, defBody s_law_same_ties, defScope s_law_same_ties, [], []⟩,
  ⟨("_law_fields", none), "_law_fields", "_law_fields", defArgs s_law_fields, defBody s_law_fields, defScope s_law_fields, [], []⟩,
  ⟨("law", none), "law", "law", defArgs s_law, defBody s_law, defScope s_law, [], []⟩]
def loQ0 : List PySem.Str := ["_wall", "head", "follower", "round_from", "rounds_of", "sides_of", "FloorError", "BadTie", "BadTurns", "Parted", "NotFlat", "ends_are_places", "turns_are_right", "hangs_together", "Web", "Tie", "Pull", "Push", "_law_cell", "_law_head", "_law_put", "_law_step", "_law_grown", "_law_order", "_law_renumbered", "_law_kinds", "_law_ties", "_law_number", "_law_rows", "_law_turned"]
def loQ1 : List PySem.Str := ["_law_sides", "_law_same_ties", "_law_fields"]
def loQ : List PySem.Str := loQ0 ++ loQ1
abbrev hkQ : PySem.W.Hook := hookK fsQ fnQ
def obQ (s : PySem.W.SharedT) : He.AlD := obsKG fsQ fnQ (HandSHeadRun.getT s)
theorem obQ_eq (s : PySem.W.SharedT) : obQ s = hkQ.obs s.abs := obsKG_eq (HandSHeadRun.getT_eq s)
theorem runQ (w : World) : HandSHeadRun.RunEq (PySem.W.OpenLaw.row PySem.Challenge.rw_spinfloor_k09_whole_flat_webs) (PySem.W.view (PySem.W.OpenLaw.row PySem.Challenge.rw_spinfloor_k09_whole_flat_webs).prog [38]) hkQ obQ 8000 loQ w := by
  intro os
  kernel_rfl
abbrev qQ : Program := PySem.W.view (PySem.W.OpenLaw.row PySem.Challenge.rw_spinfloor_k09_whole_flat_webs).prog [38]
set_option maxRecDepth 100000 in
set_option maxHeartbeats 0 in
theorem headQ (hcall : PySem.W.WalkO qQ loQ (PySem.W.XL qQ []) hkQ.says (PySem.W.OpenLaw.row PySem.Challenge.rw_spinfloor_k09_whole_flat_webs).toRowW (HandSHeadRun.topDef (PySem.W.OpenLaw.row PySem.Challenge.rw_spinfloor_k09_whole_flat_webs).prog 38) [] fun f vs => PySem.call f vs) : PySem.Challenge.rw_spinfloor_k09_whole_flat_webs.Holds := by
  w_on; o_law
  refine HandSHeadRun.head_any (r := (PySem.W.OpenLaw.row PySem.Challenge.rw_spinfloor_k09_whole_flat_webs)) (q := qQ) (H := hkQ) (ob := obQ) (M := 8000) (loose := loQ) (d := (HandSHeadRun.topDef (PySem.W.OpenLaw.row PySem.Challenge.rw_spinfloor_k09_whole_flat_webs).prog 38)) (kwd := []) obQ_eq (by kernel_rfl) (fun s => by kernel_rfl) runQ (by kernel_rfl) (by kernel_rfl) (by kernel_rfl) (by rfl) (by first | assumption | decide +kernel) (by decide +kernel) ⟨rfl, rfl, rfl, rfl, rfl, by decide +kernel⟩ ?hw hcall
  case hw => w_witness2
/-! ### ties -/
structure Ti where
  push : Bool
  one : Nat
  two : Nat
  s : Nat
def tf (a b s : Int) : List (Str × V) := [("one", .int a), ("two", .int b), ("strength", .int s)]
theorem tf_one (a b s : Int) : (tf a b s).lookup ("one" : Str) = some (.int a) := by rfl
theorem tf_two (a b s : Int) : (tf a b s).lookup ("two" : Str) = some (.int b) := by rfl
theorem tf_str (a b s : Int) : (tf a b s).lookup ("strength" : Str) = some (.int s) := by rfl
theorem tf_eq (a b s : Int) : putF "strength" (.int s) (putF "two" (.int b) (putF "one" (.int a) [])) = tf a b s := by rfl
def clsOf (CP CQ : Addr) (push : Bool) : Addr := if push = true then CQ else CP
def TieAt (CP CQ : Addr) (H : Hp) (p : Addr) (t : Ti) : Prop := ∃ dx, H p = some (.ins (clsOf CP CQ t.push) dx (tf t.one t.two t.s))
theorem TieAt.same {CP CQ : Addr} {H H' : Hp} {p : Addr} {t : Ti} (h : TieAt CP CQ H p t) (e : Same H H') : TieAt CP CQ H' p t := by
  obtain ⟨dx, h⟩ := h
  exact ⟨dx, e _ _ h⟩
/-- a list of ties: where each stands -/
def TiesIn (CP CQ : Addr) (H : Hp) (ps : List Addr) (ts : List Ti) : Prop := ps.length = ts.length ∧ ∀ (i : Nat) (p : Addr) (t : Ti), ps[i]? = some p → ts[i]? = some t → TieAt CP CQ H p t
def TiesAt (K : PySem.W.Frag) (CP CQ : Addr) (H : Hp) (a : Addr) (ts : List Ti) : Prop := ∃ ps : List Addr, SqL K H a (ps.map V.ref) ∧ TiesIn CP CQ H ps ts
theorem TiesIn.same {CP CQ : Addr} {H H' : Hp} {ps : List Addr} {ts : List Ti} (h : TiesIn CP CQ H ps ts) (e : Same H H') : TiesIn CP CQ H' ps ts := ⟨h.1, fun i p t a b => (h.2 i p t a b).same e⟩
theorem TiesAt.same {K : PySem.W.Frag} {CP CQ : Addr} {H H' : Hp} {a : Addr} {ts : List Ti} (h : TiesAt K CP CQ H a ts) (e : Same H H') : TiesAt K CP CQ H' a ts := by
  obtain ⟨ps, h1, h2⟩ := h
  exact ⟨ps, e.seq h1, h2.same e⟩
theorem TiesIn.nil {CP CQ : Addr} {H : Hp} : TiesIn CP CQ H [] [] := ⟨rfl, fun i p t a _ => by simp at a⟩
theorem TieAt.ins {CP CQ : Addr} {H : Hp} {p D : Addr} {t : Ti} {xs ys : List V} (h : TieAt CP CQ H p t) (hD : H D = some (.lst xs)) : TieAt CP CQ (upd H D (.lst ys)) p t := by
  obtain ⟨dx, h⟩ := h
  exact ⟨dx, by rw [upd_ne (ne_of h hD (by intro z; cases z))]; exact h⟩
theorem TiesIn.lst {CP CQ : Addr} {H : Hp} {D : Addr} {ps : List Addr} {ts : List Ti} {xs ys : List V} (h : TiesIn CP CQ H ps ts) (hD : H D = some (.lst xs)) : TiesIn CP CQ (upd H D (.lst ys)) ps ts :=
  ⟨h.1, fun i p t a b => (h.2 i p t a b).ins hD⟩
theorem TiesIn.push {CP CQ : Addr} {H : Hp} {p : Addr} {t : Ti} {ps : List Addr} {ts : List Ti} (h : TiesIn CP CQ H ps ts) (hp : TieAt CP CQ H p t) : TiesIn CP CQ H (ps ++ [p]) (ts ++ [t]) := by
  refine ⟨by simp [h.1], fun i p' t' a b => ?_⟩
  have hl := h.1
  by_cases e : i < ps.length
  · rw [List.getElem?_append_left e] at a
    rw [List.getElem?_append_left (by omega)] at b
    exact h.2 i p' t' a b
  · have e2 : i = ps.length := by
      have := (List.getElem?_eq_some_iff.mp a).1
      simp at this
      omega
    subst e2
    rw [List.getElem?_append_right (Nat.le_refl _), Nat.sub_self] at a
    rw [List.getElem?_append_right (by omega), hl, Nat.sub_self] at b
    simp at a b
    subst a b
    exact hp
theorem TiesIn.get {CP CQ : Addr} {H : Hp} {ps : List Addr} {ts : List Ti} (h : TiesIn CP CQ H ps ts) {i : Nat} {t : Ti} (e : ts[i]? = some t) : ∃ p, (ps.map V.ref)[i]? = some (.ref p) ∧ TieAt CP CQ H p t := by
  have hi : i < ps.length := by have := (List.getElem?_eq_some_iff.mp e).1; rw [h.1]; exact this
  exact ⟨ps[i], by rw [List.getElem?_map, List.getElem?_eq_getElem hi]; rfl, h.2 i _ _ (List.getElem?_eq_getElem hi) e⟩
theorem made_same {H : Hp} {x dx C : Addr} {fs : List (Str × V)} (h1 : New H x) (h2 : New H dx) (h3 : dx ≠ x) : Same H (upd (upd H dx (.own x)) x (.ins C dx fs)) :=
  ((Same.refl H).new h2).new (show upd H dx (.own x) x = none by rw [upd_ne (Ne.symm h3)]; exact h1)
section
variable {P : Program} {w : World} {K : PySem.W.Frag} {mg : Str → Option Value} {base : Heap} {C_Pull C_Push C_Web : Addr}
structure TieCls (K : PySem.W.Frag) (CP CQ : Addr) : Prop where
  cp : Cls K CP
  cq : Cls K CQ
  p1 : NoAttr K CP "one"
  p2 : NoAttr K CP "two"
  p3 : NoAttr K CP "strength"
  q1 : NoAttr K CQ "one"
  q2 : NoAttr K CQ "two"
  q3 : NoAttr K CQ "strength"
theorem TieCls.cl (T : TieCls K C_Pull C_Push) (push : Bool) : Cls K (clsOf C_Pull C_Push push) := by cases push; exact T.cp; exact T.cq
theorem TieCls.n1 (T : TieCls K C_Pull C_Push) (push : Bool) : NoAttr K (clsOf C_Pull C_Push push) "one" := by cases push; exact T.p1; exact T.q1
theorem TieCls.n2 (T : TieCls K C_Pull C_Push) (push : Bool) : NoAttr K (clsOf C_Pull C_Push push) "two" := by cases push; exact T.p2; exact T.q2
theorem TieCls.n3 (T : TieCls K C_Pull C_Push) (push : Bool) : NoAttr K (clsOf C_Pull C_Push push) "strength" := by cases push; exact T.p3; exact T.q3
theorem Txt.tie {C_Pull C_Push C_Web : Addr} (T : Txt K mg C_Pull C_Push C_Web) : TieCls K C_Pull C_Push := ⟨T.cl_Pull, T.cl_Push, T.n_Pull_one, T.n_Pull_two, T.n_Pull_strength, T.n_Push_one, T.n_Push_two, T.n_Push_strength⟩
theorem w_t1 {H : Hp} {p : Addr} {t : Ti} {R : V → Prop} (T : TieCls K C_Pull C_Push) (hp : TieAt C_Pull C_Push H p t) (h : R (.int (t.one : Nat))) : ∃ a C' dx' fs' v', V.ref p = .ref a ∧ H a = some (.ins C' dx' fs') ∧ Cls K C' ∧ NoAttr K C' "one" ∧ fs'.lookup ("one" : Str) = some v' ∧ R v' := by
  obtain ⟨dx, e⟩ := hp
  exact ⟨p, _, dx, _, _, rfl, e, T.cl _, T.n1 _, tf_one _ _ _, h⟩
theorem w_t2 {H : Hp} {p : Addr} {t : Ti} {R : V → Prop} (T : TieCls K C_Pull C_Push) (hp : TieAt C_Pull C_Push H p t) (h : R (.int (t.two : Nat))) : ∃ a C' dx' fs' v', V.ref p = .ref a ∧ H a = some (.ins C' dx' fs') ∧ Cls K C' ∧ NoAttr K C' "two" ∧ fs'.lookup ("two" : Str) = some v' ∧ R v' := by
  obtain ⟨dx, e⟩ := hp
  exact ⟨p, _, dx, _, _, rfl, e, T.cl _, T.n2 _, tf_two _ _ _, h⟩
theorem w_t3 {H : Hp} {p : Addr} {t : Ti} {R : V → Prop} (T : TieCls K C_Pull C_Push) (hp : TieAt C_Pull C_Push H p t) (h : R (.int (t.s : Nat))) : ∃ a C' dx' fs' v', V.ref p = .ref a ∧ H a = some (.ins C' dx' fs') ∧ Cls K C' ∧ NoAttr K C' "strength" ∧ fs'.lookup ("strength" : Str) = some v' ∧ R v' := by
  obtain ⟨dx, e⟩ := hp
  exact ⟨p, _, dx, _, _, rfl, e, T.cl _, T.n3 _, tf_str _ _ _, h⟩
def spTInit (CP CQ : Addr) : Sp := fun vs H Q _ => ∃ (p dx : Addr) (t : Ti), vs = [.ref p, .int t.one, .int t.two, .int t.s] ∧ H p = some (.ins (clsOf CP CQ t.push) dx []) ∧ t.one ≠ t.two ∧ Q .non (upd H p (.ins (clsOf CP CQ t.push) dx (tf t.one t.two t.s)))
theorem ok_Tie___init__ {f : Addr} {fd : FuncData} (F : Fun K "__init__" "Tie.__init__" s_Tie___init__ f fd) (B : Bl mg) {C_Pull C_Push C_Web : Addr} (T : Txt K mg C_Pull C_Push C_Web) : HasFn P w K mg base CX0 1 f ["self", "one", "two", "strength"] (spTInit C_Pull C_Push) := by
  refine HasFn.mk' F (F.binds (ps := ["self", "one", "two", "strength"]) fun _ _ _ _ _ _ us hl => match us, hl with | [_, _, _, _], _ => rfl) sc_Tie___init__ (by walk_at "len") (fun cdv A outer s H vs Q E hr h => ?_)
  obtain ⟨p, dx, t, rfl, hp, hne, q⟩ := h
  refine ⟨_, (pss_cons (ps_if (PW.pt (pw_or (pt_cmpR op_eq (pv 1) (pv 2) (nomark _)) (pw_or (pt_cmpR op_lt (pv 1) pe_int (nomark _)) (pw_or (pt_cmpR op_lt (pv 2) pe_int (nomark _)) (pw_or1 (pt_cmpR op_lt (pv 3) pe_int (nomark _))))))) (pss_one ps_never) pss_nil)
 (pss_cons (ps_fld (pv 0) (pv 1) rfl)
 (pss_cons (ps_fld (pv 0) (pv 2) rfl)
 (pss_one (ps_fld (pv 0) (pv 3) rfl))))), ?_⟩
  walk_at "sts"
  refine w_sfq hp (T.tie.cl _) (T.tie.n1 _) (by show 0 < 1000; decide) ?_
  walk_at "sts"
  refine w_sfq upd_same (T.tie.cl _) (T.tie.n2 _) (by show 1 < 1000; decide) ?_
  walk_at "sts"
  refine w_sfq upd_same (T.tie.cl _) (T.tie.n3 _) (by show 2 < 1000; decide) ?_
  walk_at "sts"
  rw [tf_eq, upd_upd, upd_upd]
  exact q
end

/-! ### data of webs -/
def dRow (r : List Nat) : PyData := .list (r.map fun x : Nat => .int (x : Int))
def dRows (T : List (List Nat)) : PyData := .list (T.map dRow)
def iv (r : List Nat) : List V := r.map fun x : Nat => V.int (x : Int)
theorem iv_len (r : List Nat) : (iv r).length = r.length := by unfold iv; simp
theorem iv_at {r : List Nat} {i : Nat} (h : i < r.length) : (iv r)[i]? = some (.int ((r.getD i 0 : Nat) : Int)) := by
  unfold iv
  rw [List.getElem?_map, List.getD_eq_getElem?_getD, List.getElem?_eq_getElem h]
  rfl
theorem iv_app (r s : List Nat) : iv (r ++ s) = iv r ++ iv s := by unfold iv; simp
theorem take_snoc {l : List Nat} {i : Nat} (h : i < l.length) : l.take (i + 1) = l.take i ++ [l.getD i 0] := by
  rw [List.take_add_one, List.getElem?_eq_getElem h, List.getD_eq_getElem?_getD, List.getElem?_eq_getElem h]
  rfl
theorem iv_flat (r : List Nat) : (iv r).all flatV = true := by
  rw [List.all_eq_true]
  intro v hv
  obtain ⟨x, _, rfl⟩ := List.mem_map.mp hv
  rfl
theorem dpRowA {K : PySem.W.Frag} {H : Hp} {a : Addr} {r : List Nat} (h : Dp K H (.ref a) (dRow r)) : SqL K H a (iv r) := by
  obtain ⟨xs, h1, h2⟩ := dpLstA h
  have e := dpAll_ints (ns := r.map fun x : Nat => (x : Int)) (by rw [List.map_map]; exact h2)
  rw [List.map_map] at e
  have e2 : xs = iv r := e
  rw [← e2]
  exact h1
theorem dpRow {K : PySem.W.Frag} {H : Hp} {a : Addr} {r : List Nat} (h : SqL K H a (iv r)) : Dp K H (.ref a) (dRow r) := by
  have := dpInts (K := K) (H := H) (r.map fun x : Nat => (x : Int))
  rw [List.map_map, List.map_map] at this
  exact .lst h this
theorem goodRow (r : List Nat) : Good 1 (dRow r) := goodLst (goodMap fun _ => goodInt)
theorem goodRows (T : List (List Nat)) : Good 2 (dRows T) := goodLst (goodMap fun r => goodRow r)
theorem w_idx {K : PySem.W.Frag} {H : Hp} {Q : VK} {p : Addr} {r : List Nat} {x : Nat} (hs : SqL K H p (iv r)) (hx : x ∈ r) (h : Q (.int ((r.idxOf x : Nat) : Int)) H) : rIndex K (.ref p) [.int (x : Int)] H Q := by
  have hl : r.idxOf x < r.length := List.idxOf_lt_length_of_mem hx
  refine ⟨p, iv r, .int (x : Int), r.idxOf x, .int ((r.getD (r.idxOf x) 0 : Nat) : Int), rfl, rfl, hs, rfl, iv_flat r, iv_at hl, ?_, ?_, h⟩
  · have : r.getD (r.idxOf x) 0 = x := by
      rw [List.getD_eq_getElem?_getD, List.getElem?_eq_getElem hl]
      exact List.getElem_idxOf hl
    rw [this]
    simp [eqV]
  · intro m z' hm hz
    have hml : m < r.length := by omega
    rw [iv_at hml] at hz
    cases hz
    have hne : r.getD m 0 ≠ x := by
      rw [List.getD_eq_getElem?_getD, List.getElem?_eq_getElem hml]
      have := List.not_of_lt_findIdx (xs := r) (p := (· == x)) hm
      simpa using this
    show (((r.getD m 0 : Nat) : Int) == (x : Int)) = false
    rw [beq_eq_false_iff_ne]
    omega
theorem iv_map (r : List Nat) : iv r = (r.map fun x : Nat => (x : Int)).map V.int := by unfold iv; rw [List.map_map]; rfl

theorem dpRowsAt {K : PySem.W.Frag} {H : Hp} {xs : List V} {T : List (List Nat)} (h : DpAll K H xs (T.map dRow)) {i : Nat} (hi : i < T.length) : ∃ q, xs[i]? = some (.ref q) ∧ SqL K H q (iv (row T i)) := by
  obtain ⟨v, h1, h2⟩ := dpaGet (i := i) (d := dRow (row T i)) h (by
    rw [List.getElem?_map, row, List.getD_eq_getElem?_getD, List.getElem?_eq_getElem hi]
    rfl)
  obtain ⟨q, xs', rfl, _, _⟩ := dpLst h2
  exact ⟨q, h1, dpRowA h2⟩
def endsOf (ts : List Ti) : EdgL := ts.map fun t => (t.one, t.two)
theorem endsOf_len (ts : List Ti) : (endsOf ts).length = ts.length := by unfold endsOf; simp
def ti (ts : List Ti) (i : Nat) : Ti := ts.getD i ⟨false, 0, 0, 0⟩
theorem ti_at {ts : List Ti} {i : Nat} (h : i < ts.length) : ts[i]? = some (ti ts i) := by
  unfold ti
  rw [List.getD_eq_getElem?_getD, List.getElem?_eq_getElem h]
  rfl
theorem en_ti {ts : List Ti} {i : Nat} (h : i < ts.length) : en (endsOf ts) i = ((ti ts i).one, (ti ts i).two) := by
  unfold en endsOf
  rw [List.getD_eq_getElem?_getD, List.getElem?_map, ti_at h]
  rfl
section
variable {P : Program} {w : World} {K : PySem.W.Frag} {mg : Str → Option Value} {base : Heap} {C_Pull C_Push C_Web : Addr}
def spHead (K : PySem.W.Frag) (CP CQ : Addr) : Sp := fun vs H Q _ => ∃ (a : Addr) (d : Nat) (ts : List Ti), vs = [.ref a, .int d] ∧ TiesAt K CP CQ H a ts ∧ d < 2 * ts.length ∧ Q (.int (hd (endsOf ts) d : Nat)) H
theorem ok_head {f : Addr} {fd : FuncData} (F : Fun K "head" "head" s_head f fd) (gf : mg "head" = some (.ref f)) (B : Bl mg) {C_Pull C_Push C_Web : Addr} (T : Txt K mg C_Pull C_Push C_Web) : Has P w K mg base CX0 1 "head" ["ties", "dart"] (spHead K C_Pull C_Push) := by
  refine Has.mk' F gf (F.binds (ps := ["ties", "dart"]) fun _ _ _ _ _ _ us hl => match us, hl with | [_, _], _ => rfl) sc_head (by walk_at "len") (fun cdv A outer s H vs Q E hr h => ?_)
  obtain ⟨a, d, ts, rfl, ⟨ps, hS, hT⟩, hd', q⟩ := h
  obtain ⟨p, h1, h2⟩ := hT.get (ti_at (ts := ts) (i := d / 2) (by omega))
  unfold hd at q
  rw [en_ti (by omega)] at q
  refine ⟨_, (pss_cons (ps_if (pt_cmpR op_eq (pe_op op_mod (pv 1) pe_int) pe_int (nomark _)) (pss_one (ps_ret (pe_fldK K (pe_ix (ix_listK K) (pv 0) (pe_op op_fdivW (pv 1) pe_int) (fun _ _ => rfl)) rfl))) pss_nil)
 (pss_one (ps_ret (pe_fldK K (pe_ix (ix_listK K) (pv 0) (pe_op op_fdivW (pv 1) pe_int) (fun _ _ => rfl)) rfl)))), ?_⟩
  walk_at "sts"
  refine ifd (fun h => ?_) (fun h => ?_)
  · rw [if_pos (by omega)] at q
    walk_at "sts"
    refine w_t2 T.tie h2 ?_
    walk_at "sts"
    exact q
  · rw [if_neg (by omega)] at q
    walk_at "sts"
    refine w_t1 T.tie h2 ?_
    walk_at "sts"
    exact q
def spFol (K : PySem.W.Frag) (CP CQ : Addr) : Sp := fun vs H Q _ => ∃ (a b : Addr) (d : Nat) (ts : List Ti) (T : Turns), vs = [.ref a, .ref b, .int d] ∧ TiesAt K CP CQ H a ts ∧ Dp K H (.ref b) (dRows T) ∧ Ok (endsOf ts) T ∧ d < 2 * ts.length ∧ ts.length ≤ 1000 ∧ Q (.int (fol (endsOf ts) T d : Nat)) H
theorem ok_follower {f : Addr} {fd : FuncData} (F : Fun K "follower" "follower" s_follower f fd) (gf : mg "follower" = some (.ref f)) (B : Bl mg) {C_Pull C_Push C_Web : Addr} (T : Txt K mg C_Pull C_Push C_Web) (h_head : Has P w K mg base CX0 1 "head" ["ties", "dart"] (spHead K C_Pull C_Push)) : Has P w K mg base CX0 2 "follower" ["ties", "turns", "dart"] (spFol K C_Pull C_Push) := by
  refine Has.mk' F gf (F.binds (ps := ["ties", "turns", "dart"]) fun _ _ _ _ _ _ us hl => match us, hl with | [_, _, _], _ => rfl) sc_follower (by walk_at "len") (fun cdv A outer s H vs Q E hr h => ?_)
  obtain ⟨a, b, d, ts, Tu, rfl, hTi, hTu, ok, hd', hsz, q⟩ := h
  have hd2 : d < 2 * (endsOf ts).length := by rw [endsOf_len]; exact hd'
  obtain ⟨ps, hS, hT⟩ := id hTi
  obtain ⟨xs, hx, hX⟩ := dpLstA hTu
  obtain ⟨rq, hr1, hr2⟩ := dpRowsAt hX (ok.hd_lt hd2)
  have hm := ok.hd_mem hd2
  obtain ⟨hj, hjo⟩ := ok.nxt_mem' hd2
  rw [endsOf_len] at hj
  obtain ⟨p, h1, h2⟩ := hT.get (ti_at hj)
  unfold fol outOf at q
  rw [en_ti hj] at q
  have hl0 : 0 < (row Tu (hd (endsOf ts) d)).length := List.length_pos_of_mem hm
  have hn : atI (iv (row Tu (hd (endsOf ts) d))) ((((row Tu (hd (endsOf ts) d)).idxOf (d / 2) : Nat) : Int) + 1) = atI (iv (row Tu (hd (endsOf ts) d))) ((((row Tu (hd (endsOf ts) d)).idxOf (d / 2) : Nat) : Int) + 1) := rfl
  have hix : atI (iv (row Tu (hd (endsOf ts) d))) (((((row Tu (hd (endsOf ts) d)).idxOf (d / 2) : Nat) : Int) + 1) % ((iv (row Tu (hd (endsOf ts) d))).length : Int)) = some (.int ((nxt (row Tu (hd (endsOf ts) d)) (d / 2) : Nat) : Int)) := by
    rw [iv_len, show ((((row Tu (hd (endsOf ts) d)).idxOf (d / 2) : Nat) : Int) + 1) % ((row Tu (hd (endsOf ts) d)).length : Int) = (((row Tu (hd (endsOf ts) d)).idxOf (d / 2) + 1) % (row Tu (hd (endsOf ts) d)).length : Nat) by rw [Int.natCast_emod, Int.natCast_add]; rfl]
    exact atI_nat (iv_at (Nat.mod_lt _ hl0))
  have hpos : 0 < ((iv (row Tu (hd (endsOf ts) d))).length : Int) := by rw [iv_len]; omega
  refine ⟨_, (pss_cons (ps_set (i := 3) sc_follower.nd rfl (.inl rfl) (pe_fn h_head (hr.mono (by decide)) (by rfl) (pa_cons (pv 0) (pa_cons (pv 2) pa_nil))))
 (pss_cons (ps_set (i := 4) sc_follower.nd rfl (.inl rfl) (pe_ix (ix_listK K) (pv 1) (pv 3) (fun _ _ => rfl)))
 (pss_cons (ps_set (i := 5) sc_follower.nd rfl (.inl rfl) (pe_ix (ix_listK K) (pv 4) (pe_op op_mod (pe_op op_add (pe_bmK K (pe_bm PySem.F.plainAttrs_list PySem.F.slot_list_index PySem.F.type_list_index (mt_indexK K) (pv 4) (pa_cons (pe_op op_fdivW (pv 2) pe_int) pa_nil))) pe_int) (pe_callB (call_lenK K) (by rfl) B.len (by decide +kernel) (pa_cons (pv 4) pa_nil))) (fun _ _ => rfl)))
 (pss_cons (ps_if (pt_cmpR op_eq (pe_fldK K (pe_ix (ix_listK K) (pv 0) (pv 5) (fun _ _ => rfl)) rfl) (pv 3) (nomark _)) (pss_one (ps_ret (pe_op op_mulX pe_int (pv 5)))) pss_nil)
 (pss_one (ps_ret (pe_op op_add (pe_op op_mulX pe_int (pv 5)) pe_int))))))), ?_⟩
  walk_at "sts"
  refine ⟨a, d, ts, rfl, hTi, hd', ?_⟩
  walk_at "sts"
  refine w_idx hr2 hm ?_
  walk_at "sts"
  refine w_t1 T.tie h2 ?_
  walk_at "sts"
  refine ifd (fun h => ?_) (fun h => ?_)
  · rw [if_pos (by omega)] at q
    walk_at "sts"
    exact q
  · rw [if_neg (by omega)] at q
    walk_at "sts"
    exact q
def spRound (K : PySem.W.Frag) (CP CQ : Addr) : Sp := fun vs H Q _ => ∃ (a b : Addr) (x : Nat) (l : List Nat) (ts : List Ti) (T : Turns), vs = [.ref a, .ref b, .int x] ∧ TiesAt K CP CQ H a ts ∧ Dp K H (.ref b) (dRows T) ∧ Ok (endsOf ts) T ∧ ts.length ≤ 1000 ∧
  Path (fol (endsOf ts) T) x l x ∧ (x :: l).Nodup ∧ (∀ z ∈ x :: l, z < 2 * ts.length) ∧ ∀ p H', Same H H' → New H p → H' p = some (.lst (iv (x :: l))) → Q (.ref p) H'
theorem ok_round_from {f : Addr} {fd : FuncData} (F : Fun K "round_from" "round_from" s_round_from f fd) (gf : mg "round_from" = some (.ref f)) (B : Bl mg) {C_Pull C_Push C_Web : Addr} (T : Txt K mg C_Pull C_Push C_Web) (h_follower : Has P w K mg base CX0 2 "follower" ["ties", "turns", "dart"] (spFol K C_Pull C_Push)) : Has P w K mg base CX0 3 "round_from" ["ties", "turns", "first"] (spRound K C_Pull C_Push) := by
  refine Has.mk' F gf (F.binds (ps := ["ties", "turns", "first"]) fun _ _ _ _ _ _ us hl => match us, hl with | [_, _, _], _ => rfl) sc_round_from (by walk_at "len") (fun cdv A outer s H vs Q E hr h => ?_)
  obtain ⟨a, b, x, l, ts, Tu, rfl, hTi, hTu, ok, hsz, hp, hn, hlt, q⟩ := h
  have hll : l.length ≤ 2 * ts.length := by
    have := nodup_sub_len (ys := List.range (2 * ts.length)) hn fun z hz => List.mem_range.mpr (hlt z hz)
    simp at this
    omega
  have nx : ∀ i, i < l.length → l.getD i 0 ≠ x ∧ l.getD i 0 < 2 * ts.length := fun i hi => by
    have e : l.getD i 0 = l[i] := by rw [List.getD_eq_getElem?_getD, List.getElem?_eq_getElem hi]; rfl
    have hm : l[i] ∈ l := List.getElem_mem hi
    rw [e]
    exact ⟨fun q => (List.nodup_cons.mp hn).1 (q ▸ hm), hlt _ (List.mem_cons_of_mem _ hm)⟩
  have gx : ∀ i, (l ++ [x]).getD i 0 = if i < l.length then l.getD i 0 else if i = l.length then x else 0 := fun i => by
    rw [List.getD_eq_getElem?_getD, List.getD_eq_getElem?_getD]
    by_cases h : i < l.length
    · rw [if_pos h, List.getElem?_append_left h]
    · rw [if_neg h]
      by_cases h2 : i = l.length
      · rw [if_pos h2, h2, List.getElem?_append_right (Nat.le_refl _), Nat.sub_self]; rfl
      · rw [if_neg h2, List.getElem?_eq_none (by simp; omega)]; rfl
  refine ⟨_, (pss_cons (ps_set (i := 3) sc_round_from.nd rfl (.inl rfl) (pe_lst (pa_cons (pv 2) pa_nil)))
 (pss_cons (ps_set (i := 4) sc_round_from.nd rfl (.inl rfl) (pe_fn h_follower (hr.mono (by decide)) (by rfl) (pa_cons (pv 0) (pa_cons (pv 1) (pa_cons (pv 2) pa_nil)))))
 (pss_cons (ps_while PassesOwn.never (pt_cmpR op_ne (pv 4) (pv 2) (nomark _)) (pss_cons (ps_expr (pe_bmK K (pe_bm PySem.F.plainAttrs_list PySem.F.slot_list_append PySem.F.type_list_append mt_append (pv 3) (pa_cons (pv 4) pa_nil))))
 (pss_one (ps_set (i := 4) sc_round_from.nd rfl (.inl rfl) (pe_fn h_follower (hr.mono (by decide)) (by rfl) (pa_cons (pv 0) (pa_cons (pv 1) (pa_cons (pv 4) pa_nil))))))))
 (pss_one (ps_ret (pv 3)))))), ?_⟩
  walk_at "sts"
  refine w_new fun p1 n1 => ?_
  walk_at "sts"
  have s1 : Same H (upd H p1 (.lst [.int (x : Int)])) := by walk_at "same"
  refine ⟨a, b, x, ts, Tu, rfl, hTi.same s1, hTu.same s1, ok, hlt x List.mem_cons_self, hsz, ?_⟩
  have g0 := hp.get 0 (Nat.zero_le _)
  rw [show fol (endsOf ts) Tu x = (l ++ [x]).getD 0 0 from g0]
  walk_at "sts"
  refine ⟨fun k σ H' => ∃ i, i + k = l.length ∧ σ = [some (.ref a), some (.ref b), some (.int (x : Int)), some (.ref p1), some (.int (((l ++ [x]).getD i 0 : Nat) : Int))] ∧ Same H H' ∧ H' p1 = some (.lst (iv (x :: l.take i))), ⟨l.length, 0, by omega, rfl, s1, upd_same⟩, ?_⟩
  rintro k σ H' ⟨i, hi, rfl, s2, h1⟩
  walk_at "sts"
  rw [gx]
  by_cases hk : i < l.length
  · rw [if_pos hk]
    obtain ⟨n2, n3⟩ := nx i hk
    refine ifnd (fun _ => ?_) (fun h => absurd h (by omega))
    refine w_wt ?_
    have hsl : (iv (x :: l.take i)).length < sizeLine := szlt (by rw [iv_len]; simp; omega)
    walk_at "sts"
    have s3 : Same H (upd H' p1 (.lst (iv (x :: l.take i) ++ [.int ((l.getD i 0 : Nat) : Int)]))) := by walk_at "same"
    refine ⟨a, b, _, ts, Tu, rfl, hTi.same s3, hTu.same s3, ok, n3, hsz, ?_⟩
    have g1 := hp.get (i + 1) (by omega)
    rw [show fol (endsOf ts) Tu (l.getD i 0) = (l ++ [x]).getD (i + 1) 0 from g1]
    walk_at "sts"
    refine ⟨k - 1, by omega, i + 1, by omega, rfl, s3, ?_⟩
    rw [upd_same]
    rw [take_snoc hk, ← List.cons_append, iv_app]
    rfl
  · have e : i = l.length := by omega
    rw [if_neg hk, if_pos e]
    refine ifnd (fun h => absurd rfl h) (fun _ => ?_)
    walk_at "sts"
    rw [e, List.take_length] at h1
    exact q p1 H' s2 n1 h1
end
section
variable {P : Program} {w : World} {K : PySem.W.Frag} {mg : Str → Option Value} {base : Heap} {C_Pull C_Push C_Web : Addr}
/-- G holds nothing of H -/
def Apt (H G : Hp) : Prop := ∀ (q : Addr) (o : HO), H q = some o → G q = none
theorem Apt.new {H G : Hp} {p : Addr} {o : HO} (h : Apt H G) (n : New H p) : Apt H (upd G p o) := fun q x e => by
  rw [upd_ne (fun z => by subst z; rw [n] at e; cases e)]
  exact h q x e
theorem Apt.of {H H' G : Hp} (h : Apt H' G) (s : Same H H') : Apt H G := fun q o e => h q o (s q o e)
def spRounds (K : PySem.W.Frag) (CP CQ : Addr) : Sp := fun vs H Q _ => ∃ (a b : Addr) (ts : List Ti) (T : Turns) (F : List (List Nat)), vs = [.ref a, .ref b] ∧ TiesAt K CP CQ H a ts ∧ Dp K H (.ref b) (dRows T) ∧ Ok (endsOf ts) T ∧ ts.length ≤ 1000 ∧ Rings (fol (endsOf ts) T) (2 * ts.length) F ∧
  ∀ p H' R, Same H H' → New H p → (∃ xs G, H' p = some (.lst xs) ∧ Apt H G ∧ Same G H' ∧ New G p ∧ DpAll K G xs (R.map dRow)) → Canon (fol (endsOf ts) T) (2 * ts.length) R → Q (.ref p) H'
theorem ok_rounds_of {f : Addr} {fd : FuncData} (F : Fun K "rounds_of" "rounds_of" s_rounds_of f fd) (gf : mg "rounds_of" = some (.ref f)) (B : Bl mg) {C_Pull C_Push C_Web : Addr} (T : Txt K mg C_Pull C_Push C_Web) (h_round_from : Has P w K mg base CX0 3 "round_from" ["ties", "turns", "first"] (spRound K C_Pull C_Push)) : Has P w K mg base CX0 4 "rounds_of" ["ties", "turns"] (spRounds K C_Pull C_Push) := by
  refine Has.mk' F gf (F.binds (ps := ["ties", "turns"]) fun _ _ _ _ _ _ us hl => match us, hl with | [_, _], _ => rfl) sc_rounds_of (by walk_at "len") (fun cdv A outer s H vs Q E hr h => ?_)
  obtain ⟨a, b, ts, Tu, F, rfl, hTi, hTu, ok, hsz, hF, q⟩ := h
  obtain ⟨ps, hS, hT⟩ := id hTi
  have hpl : (ps.map V.ref).length = ts.length := by rw [List.length_map]; exact hT.1
  refine ⟨_, (pss_cons (ps_set (i := 2) sc_rounds_of.nd rfl (.inl rfl) (pe_lst pa_nil))
 (pss_cons (ps_set (i := 3) sc_rounds_of.nd rfl (.inl rfl) pe_dnewK)
 (pss_cons (ps_for PassesOwn.never rfl (pi_range1 (by rfl) B.range (pa_cons (pe_op op_mulX pe_int (pe_callB (call_lenK K) (by rfl) B.len (by decide +kernel) (pa_cons (pv 0) pa_nil))) pa_nil)) (pg_name (i := 4) sc_rounds_of.nd rfl (.inl rfl)) (pss_one (ps_if (pt_cmp (pc_dnotin (hu_of hr) (pv 4) (pv 3))) (pss_cons (ps_set (i := 5) sc_rounds_of.nd rfl (.inl rfl) (pe_fn h_round_from (hr.mono (by decide)) (by rfl) (pa_cons (pv 0) (pa_cons (pv 1) (pa_cons (pv 4) pa_nil)))))
 (pss_cons (ps_for PassesOwn.never rfl (pi_listK K (pv 5)) (pg_name (i := 6) sc_rounds_of.nd rfl (.inl rfl)) (pss_one (ps_dput (hu_of hr) (pv 3) (pv 6) pe_bl rfl)))
 (pss_one (ps_expr (pe_bmK K (pe_bm PySem.F.plainAttrs_list PySem.F.slot_list_append PySem.F.type_list_append mt_append (pv 2) (pa_cons (pv 5) pa_nil))))))) pss_nil)))
 (pss_one (ps_ret (pv 2)))))), ?_⟩
  walk_at "sts"
  refine w_new fun p1 n1 => ?_
  walk_at "sts"
  refine w_new fun p2 n2 => ?_
  walk_at "sts"
  have n12 : p1 ≠ p2 := ne_new upd_same n2
  have s0 : Same H (upd (upd H p1 (.lst [])) p2 (.dK [])) := by walk_at "same"
  have hS0 := s0.seq hS
  have m1 : New H p2 := n2.of (by walk_at "same")
  have hE : (endsOf ts).length = ts.length := endsOf_len ts
  walk_at "sts"
  refine for_r0 (n := 2 * ts.length) ?_ (fun i σ H' => ∃ (R : List (List Nat)) (xs : List V) (G : Hp) (kvs : List (Key × V)) (y4 y5 y6 : Option V), σ = [some (.ref a), some (.ref b), some (.ref p1), some (.ref p2), y4, y5, y6] ∧ Pre (fol (endsOf ts) Tu) (2 * ts.length) i R ∧
    H' p1 = some (.lst xs) ∧ H' p2 = some (.dK kvs) ∧ Holds kvs R.flatten (fun _ => .bl true) ∧ (Apt H G ∧ Same H H') ∧ Same G H' ∧ New G p1 ∧ New G p2 ∧ DpAll K G xs (R.map dRow)) ?_ ?_ ?_
  · rw [hpl]; omega
  · exact ⟨[], [], fun _ => none, [], _, _, _, rfl, Pre.zero, by walk_at "hp", upd_same, Holds.nil, ⟨fun _ _ _ => rfl, s0⟩, (fun _ _ z => by cases z), rfl, rfl, .nil⟩
  · rintro i σ H' hi ⟨R, xs, G, kvs, y4, y5, y6, rfl, hP, h1, h2, hK, ⟨aG, sHH⟩, sG', g1, g2, hD⟩
    have hfl : R.flatten.length ≤ 2 * ts.length := by
      have := nodup_sub_len (ys := List.range (2 * ts.length)) hP.nd fun z hz => List.mem_range.mpr (hP.lt z hz)
      simpa using this
    have hxl : xs.length = R.length := by have := dpaLen hD; simpa using this
    walk_at "sts"
    rw [hK.2]
    by_cases hin : i ∈ R.flatten
    · rw [if_pos hin]
      refine ifF rfl ?_
      walk_at "sts"
      exact ⟨R, xs, G, kvs, _, _, _, rfl, hP.skip hin, h1, h2, hK, ⟨aG, sHH⟩, sG', g1, g2, hD⟩
    · rw [if_neg hin]
      refine ifT rfl ?_
      walk_at "sts"
      obtain ⟨A, r, B', l, eF, hp, pth⟩ := hF.at hi
      have hrF : r ∈ F := by rw [eF]; simp
      have hnr : (i :: l).Nodup := by
        rw [hp.nodup_iff]
        exact hF.nd.sublist (List.sublist_flatten_of_mem hrF)
      have hlt : ∀ z ∈ i :: l, z < 2 * ts.length := fun z hz => hF.mem.mp (List.mem_flatten.mpr ⟨r, hrF, hp.mem_iff.mp hz⟩)
      have sH : Same H H' := sHH
      refine ⟨a, b, i, l, ts, Tu, rfl, hTi.same sH, hTu.same sH, ok, hsz, pth, hnr, hlt, fun p3 H2 s2 n3 h3 => ?_⟩
      obtain ⟨hP2, dis⟩ := hP.add hin pth hnr hlt
      have n3G : New G p3 := n3.of sG'
      have q13 : p1 ≠ p3 := ne_new h1 n3
      have q23 : p2 ≠ p3 := ne_new h2 n3
      have sG2 : Same G (upd G p3 (.lst (iv (i :: l)))) := (Same.refl G).new n3G
      have sG3 : Same (upd G p3 (.lst (iv (i :: l)))) H2 := (sG'.trans s2).add h3
      have g12 : New (upd G p3 (.lst (iv (i :: l)))) p1 := g1.upd q13
      have g22 : New (upd G p3 (.lst (iv (i :: l)))) p2 := g2.upd q23
      have hD2 : DpAll K (upd G p3 (.lst (iv (i :: l)))) (xs ++ [.ref p3]) ((R ++ [i :: l]).map dRow) := by
        rw [List.map_append]
        exact dpaApp (hD.same sG2) (.cons (dpRow (SqL.of upd_same)) .nil)
      have hl2 : (i :: l).length ≤ 2 * ts.length := by
        have := nodup_sub_len (ys := List.range (2 * ts.length)) hnr fun z hz => List.mem_range.mpr (hlt z hz)
        simpa using this
      have aG2 : Apt H (upd G p3 (.lst (iv (i :: l)))) := aG.new (n3.of sHH)
      have sH2 : Same H H2 := sHH.trans s2
      generalize hGG : upd G p3 (.lst (iv (i :: l))) = G2 at sG2 sG3 g12 g22 hD2 aG2
      have gp3 : G2 p3 = some (.lst (iv (i :: l))) := by rw [← hGG]; exact upd_same
      walk_at "sts"
      refine for_list (xs := iv (i :: l)) (fun j σ H3 => ∃ (kvs : List (Key × V)) (y6 : Option V), σ = [some (.ref a), some (.ref b), some (.ref p1), some (.ref p2), some (.int (i : Nat)), some (.ref p3), y6] ∧ H3 p1 = some (.lst xs) ∧ H3 p2 = some (.dK kvs) ∧ Holds kvs (R.flatten ++ (i :: l).take j) (fun _ => .bl true) ∧ Same G2 H3 ∧ Same H H3) ?_ ?_ ?_ ?_
      · exact ⟨kvs, _, rfl, s2 _ _ h1, s2 _ _ h2, by simpa using hK, sG3, sH2⟩
      · rintro j σ H3 _ ⟨kvs, y6, _, _, _, _, s4, _⟩
        exact SqL.of (s4 _ _ gp3)
      · rintro j x σ H3 hx ⟨kvs, y6, rfl, h1, h2, hK, s4, s5⟩
        have hj : j < (i :: l).length := by
          have := (List.getElem?_eq_some_iff.mp hx).1
          rwa [iv_len] at this
        rw [iv_at hj] at hx
        cases hx
        have hkl : kvs.length < 1000000 := by
          have := hK.1
          rw [List.length_append, List.length_take] at this
          omega
        walk_at "sts"
        refine ⟨_, _, rfl, by walk_at "hp", upd_same, ?_, s4.mut g22, s5.mut m1⟩
        rw [take_snoc hj, ← List.append_assoc]
        exact hK.put _
      · rintro σ H3 ⟨kvs, y6, rfl, h1, h2, hK, s4, s5⟩
        rw [iv_len, List.take_length] at hK
        have hxs : xs.length < 1000000 := by
          have : R.length ≤ R.flatten.length := by
            have hne : ∀ r ∈ R, 1 ≤ r.length := fun r hr => by obtain ⟨x, l', rfl, _⟩ := hP.ok r hr; simp
            exact flatten_ge hne
          omega
        walk_at "sts"
        refine ⟨R ++ [i :: l], _, G2, kvs, _, _, _, rfl, hP2, upd_same, ?_, ?_, ⟨aG2, s5.mut n1⟩, s4.mut g12, g12, g22, hD2⟩
        · rw [upd_ne (Ne.symm n12)]; exact h2
        · rw [List.flatten_append, List.flatten_singleton]; exact hK
  · rintro σ H' ⟨R, xs, G, kvs, y4, y5, y6, rfl, hP, h1, h2, hK, ⟨aG, sHH⟩, sG', g1, g2, hD⟩
    walk_at "sts"
    exact q p1 H' R sHH n1 ⟨xs, G, h1, aG, sG', g1, hD⟩ hP.done
end
/-! ### the rest of a web's making -/
section
variable {P : Program} {w : World} {K : PySem.W.Frag} {mg : Str → Option Value} {base : Heap} {C_Pull C_Push C_Web : Addr}
def spEndsOk (K : PySem.W.Frag) (CP CQ : Addr) : Sp := fun vs H Q _ => ∃ (m : Nat) (a : Addr) (ts : List Ti), vs = [.int m, .ref a] ∧ TiesAt K CP CQ H a ts ∧ (∀ i, i < ts.length → (ti ts i).one < m ∧ (ti ts i).two < m) ∧ Q (.bl true) H
theorem ok_ends_are_places {f : Addr} {fd : FuncData} (F : Fun K "ends_are_places" "ends_are_places" s_ends_are_places f fd) (gf : mg "ends_are_places" = some (.ref f)) (B : Bl mg) {C_Pull C_Push C_Web : Addr} (T : Txt K mg C_Pull C_Push C_Web) : Has P w K mg base CX0 1 "ends_are_places" ["many", "ties"] (spEndsOk K C_Pull C_Push) := by
  refine Has.mk' F gf (F.binds (ps := ["many", "ties"]) fun _ _ _ _ _ _ us hl => match us, hl with | [_, _], _ => rfl) sc_ends_are_places (by walk_at "len") (fun cdv A outer s H vs Q E hr h => ?_)
  obtain ⟨m, a, ts, rfl, ⟨ps, hS, hT⟩, hb, q⟩ := h
  refine ⟨_, (pss_cons (ps_for PassesOwn.never rfl (pi_listK K (pv 1)) (pg_name (i := 2) sc_ends_are_places.nd rfl (.inl rfl)) (pss_one (ps_if (PW.pt (pw_or (pt_cmpR op_ge (pe_fldK K (pv 2) rfl) (pv 0) (nomark _)) (pw_or1 (pt_cmpR op_ge (pe_fldK K (pv 2) rfl) (pv 0) (nomark _))))) (pss_one (ps_ret pe_bl)) pss_nil)))
 (pss_one (ps_ret pe_bl))), ?_⟩
  walk_at "sts"
  refine for_list (xs := ps.map V.ref) (fun i σ H' => ∃ y, σ = [some (.int m), some (.ref a), y] ∧ H' = H) ?_ ?_ ?_ ?_
  · exact ⟨_, rfl, rfl⟩
  · rintro i σ H' _ ⟨y, rfl, rfl⟩
    exact hS
  · rintro i x σ H' hx ⟨y, rfl, rfl⟩
    rw [List.getElem?_map] at hx
    obtain ⟨p, hp, rfl⟩ := Option.map_eq_some_iff.mp hx
    have hi : i < ts.length := by rw [← hT.1]; exact (List.getElem?_eq_some_iff.mp hp).1
    have ht := hT.2 i p _ hp (ti_at hi)
    obtain ⟨b1, b2⟩ := hb i hi
    walk_at "sts"
    refine w_t1 T.tie ht ?_
    walk_at "sts"
    refine w_t2 T.tie ht ?_
    walk_at "sts"
    exact ⟨_, rfl, rfl⟩
  · rintro σ H' ⟨y, rfl, rfl⟩
    walk_at "sts"
    exact q
/-- a list of lists of numbers, each of which may change -/
structure LL (H : Hp) (a : Addr) (qs : List Addr) (T : List (List Nat)) : Prop where
  top : H a = some (.lst (qs.map V.ref))
  len : qs.length = T.length
  nd : qs.Nodup
  row : ∀ (i : Nat) (q : Addr), qs[i]? = some q → H q = some (.lst (iv (row T i)))
  ne : a ∉ qs
theorem LL.same {H H' : Hp} {a : Addr} {qs : List Addr} {T : List (List Nat)} (h : LL H a qs T) (e : Same H H') : LL H' a qs T := ⟨e _ _ h.top, h.len, h.nd, fun i q hq => e _ _ (h.row i q hq), h.ne⟩
theorem LL.get {H : Hp} {a : Addr} {qs : List Addr} {T : List (List Nat)} (h : LL H a qs T) {i : Nat} (hi : i < T.length) : ∃ q, qs[i]? = some q ∧ (qs.map V.ref)[i]? = some (.ref q) ∧ H q = some (.lst (iv (Sf.row T i))) := by
  have hl : i < qs.length := by rw [h.len]; exact hi
  refine ⟨qs[i], List.getElem?_eq_getElem hl, by rw [List.getElem?_map, List.getElem?_eq_getElem hl]; rfl, h.row i _ (List.getElem?_eq_getElem hl)⟩
theorem LL.set {H : Hp} {a q : Addr} {qs : List Addr} {T : List (List Nat)} (h : LL H a qs T) {i : Nat} (hi : i < T.length) (hq : qs[i]? = some q) (r : List Nat) : LL (upd H q (.lst (iv r))) a qs (T.set i r) := by
  have hm : q ∈ qs := List.mem_of_getElem? hq
  have hqa : a ≠ q := fun e => h.ne (by rw [e]; exact hm)
  refine ⟨by rw [upd_ne hqa]; exact h.top, by rw [h.len, List.length_set], h.nd, fun j q' hj => ?_, h.ne⟩
  rw [row_set T r hi]
  by_cases e : j = i
  · subst e
    rw [hq] at hj
    cases hj
    rw [upd_same, if_pos rfl]
  · rw [if_neg e, upd_ne, h.row j q' hj]
    intro z
    subst z
    exact e (nd_ix h.nd hj hq)
theorem LL.push {H : Hp} {a q : Addr} {qs : List Addr} {T : List (List Nat)} (h : LL H a qs T) {r : List Nat} (hq : H q = some (.lst (iv r))) (n1 : q ∉ qs) (n2 : q ≠ a) : LL (upd H a (.lst ((qs ++ [q]).map V.ref))) a (qs ++ [q]) (T ++ [r]) := by
  refine ⟨upd_same, by simp [h.len], ?_, fun i q' hi => ?_, ?_⟩
  · exact List.nodup_append.mpr ⟨h.nd, by simp, fun x hx y hy e => by
      have e2 : y = q := by simpa using hy
      subst e2
      subst e
      exact n1 hx⟩
  · rw [row_push]
    by_cases e : i < qs.length
    · rw [List.getElem?_append_left e] at hi
      rw [if_neg (by rw [← h.len]; omega), upd_ne, h.row i q' hi]
      intro z
      subst z
      exact h.ne (List.mem_of_getElem? hi)
    · have e2 : i = qs.length := by
        have := (List.getElem?_eq_some_iff.mp hi).1
        simp at this
        omega
      subst e2
      rw [List.getElem?_append_right (Nat.le_refl _), Nat.sub_self] at hi
      simp at hi
      subst hi
      rw [if_pos h.len, upd_ne n2, hq]
  · intro z
    rcases List.mem_append.mp z with z | z
    · exact h.ne z
    · have : a = q := by simpa using z
      exact n2 this.symm
theorem LL.dpa {K : PySem.W.Frag} {H : Hp} {a : Addr} {qs : List Addr} {T : List (List Nat)} (h : LL H a qs T) : DpAll K H (qs.map V.ref) (T.map dRow) := by
  have go : ∀ (qs : List Addr) (T : List (List Nat)), qs.length = T.length → (∀ (i : Nat) (q : Addr), qs[i]? = some q → H q = some (.lst (iv (Sf.row T i)))) → DpAll K H (qs.map V.ref) (T.map dRow) := by
    intro qs
    induction qs with
    | nil => intro T hl _; cases T with
      | nil => exact .nil
      | cons _ _ => simp at hl
    | cons q qs ih =>
      intro T hl hr
      cases T with
      | nil => simp at hl
      | cons r T => exact .cons (dpRow (SqL.of (hr 0 q rfl))) (ih T (by simpa using hl) fun i q' hi => hr (i + 1) q' (by simpa using hi))
  exact go qs T h.len h.row
theorem LL.dp {K : PySem.W.Frag} {H : Hp} {a : Addr} {qs : List Addr} {T : List (List Nat)} (h : LL H a qs T) : Dp K H (.ref a) (dRows T) := .lst (SqL.of h.top) h.dpa
/-- the ties at p, below i -/
def atP (E : EdgL) (p i : Nat) : List Nat := (List.range i).filter fun k => (en E k).1 == p || (en E k).2 == p
def ownT (E : EdgL) (m i : Nat) : List (List Nat) := (List.range m).map fun p => atP E p i
theorem ownT_row {E : EdgL} {m i p : Nat} (h : p < m) : row (ownT E m i) p = atP E p i := by
  unfold row ownT
  rw [List.getD_eq_getElem?_getD, map_at h]
  rfl
theorem atP_succ (E : EdgL) (p i : Nat) : atP E p (i + 1) = if (en E i).1 = p ∨ (en E i).2 = p then atP E p i ++ [i] else atP E p i := by
  unfold atP
  rw [List.range_succ, List.filter_append]
  by_cases h : (en E i).1 = p ∨ (en E i).2 = p
  · rw [if_pos h]
    simp [h]
  · rw [if_neg h]
    have : ¬ (en E i).1 = p ∧ ¬ (en E i).2 = p := by omega
    simp [this]
theorem ownT_step {E : EdgL} {m i : Nat} (h1 : (en E i).1 < m) (h2 : (en E i).2 < m) (hne : (en E i).1 ≠ (en E i).2) :
    ((ownT E m i).set (en E i).1 (atP E (en E i).1 i ++ [i])).set (en E i).2 (atP E (en E i).2 i ++ [i]) = ownT E m (i + 1) := by
  unfold ownT
  rw [map_set, map_set]
  refine List.map_congr_left fun p _ => ?_
  rw [atP_succ]
  by_cases a : p = (en E i).2
  · rw [if_pos a, if_pos (.inr a.symm), a]
  · rw [if_neg a]
    by_cases b : p = (en E i).1
    · rw [if_pos b, if_pos (.inl b.symm), b]
    · rw [if_neg b, if_neg (by omega)]
theorem sorted_own {E : EdgL} {T : Turns} (ok : Ok E T) {p : Nat} (hp : p < T.length) {ns : List Int} (h1 : ns.Perm ((row T p).map fun x : Nat => (x : Int))) (h2 : ns.Pairwise (· ≤ ·)) : ns = (atP E p E.length).map fun x : Nat => (x : Int) := by
  have n2 : (atP E p E.length).Nodup := List.Pairwise.filter _ List.nodup_range
  have pm : ((row T p).map fun x : Nat => (x : Int)).Perm ((atP E p E.length).map fun x : Nat => (x : Int)) := by
    refine List.Perm.map _ (perm_of_nodup (ok.nd p hp) n2 fun a => ?_)
    rw [ok.mem p hp]
    unfold atP
    simp
  have s2 : ((atP E p E.length).map fun x : Nat => (x : Int)).Pairwise (· ≤ ·) := by
    rw [List.pairwise_map]
    refine List.Pairwise.imp ?_ (List.Pairwise.filter _ List.pairwise_lt_range)
    intro a b h
    omega
  exact List.Perm.eq_of_pairwise (fun a b _ _ h1 h2 => Int.le_antisymm h1 h2) h2 s2 (h1.trans pm)
end

theorem row_rep (n i : Nat) : row (List.replicate n []) i = [] := by
  unfold row
  rw [List.getD_eq_getElem?_getD, List.getElem?_replicate]
  split <;> rfl
section
variable {P : Program} {w : World} {K : PySem.W.Frag} {mg : Str → Option Value} {base : Heap} {C_Pull C_Push C_Web : Addr}
def spTurnsOk (K : PySem.W.Frag) (CP CQ : Addr) : Sp := fun vs H Q _ => ∃ (a b : Addr) (ts : List Ti) (T : Turns), vs = [.int T.length, .ref a, .ref b] ∧ TiesAt K CP CQ H a ts ∧ Dp K H (.ref b) (dRows T) ∧ Ok (endsOf ts) T ∧ ts.length ≤ 1000 ∧ T.length ≤ 1000 ∧ ∀ H', Same H H' → Q (.bl true) H'
theorem ok_turns_are_right {f : Addr} {fd : FuncData} (F : Fun K "turns_are_right" "turns_are_right" s_turns_are_right f fd) (gf : mg "turns_are_right" = some (.ref f)) (B : Bl mg) {C_Pull C_Push C_Web : Addr} (T : Txt K mg C_Pull C_Push C_Web) : Has P w K mg base CX0 1 "turns_are_right" ["many", "ties", "turns"] (spTurnsOk K C_Pull C_Push) := by
  refine Has.mk' F gf (F.binds (ps := ["many", "ties", "turns"]) fun _ _ _ _ _ _ us hl => match us, hl with | [_, _, _], _ => rfl) sc_turns_are_right (by walk_at "len") (fun cdv A outer s H vs Q E hr h => ?_)
  obtain ⟨a, b, ts, Tu, rfl, hTi, hTu, ok, hsz, hsz2, q⟩ := h
  obtain ⟨ps, hS, hT⟩ := id hTi
  obtain ⟨xs, hx, hX⟩ := dpLstA hTu
  have hxl : xs.length = Tu.length := by have := dpaLen hX; simpa using this
  have hpl : (ps.map V.ref).length = ts.length := by rw [List.length_map]; exact hT.1
  have hE : (endsOf ts).length = ts.length := endsOf_len ts
  refine ⟨_, (pss_cons (ps_if (pt_cmpR op_ne (pe_callB (call_lenK K) (by rfl) B.len (by decide +kernel) (pa_cons (pv 2) pa_nil)) (pv 0) (nomark _)) (pss_one (ps_ret pe_bl)) pss_nil)
 (pss_cons (ps_setLc (i := 4) (own := [("place", 3)]) rfl sc_turns_are_right.nd rfl rfl (sw_true rfl rfl rfl (by decide +kernel)) (pi_range1 (by rfl) B.range (pa_cons (pv 0) pa_nil)) (blkOk_by (own := [("place", 3)]) (N := ["many", "ties", "turns", "place", "own", "i"]) (sc := defScope s_turns_are_right) (by decide +kernel)) (fun _ _ _ _ _ => pg_name (i := 3) sc_turns_are_right.nd rfl (Or.inl rfl)) (fun _ _ _ _ _ => pts_nil) (fun _ _ _ _ _ => (pe_lst pa_nil)))
 (pss_cons (ps_for PassesOwn.never rfl (pi_range1 (by rfl) B.range (pa_cons (pe_callB (call_lenK K) (by rfl) B.len (by decide +kernel) (pa_cons (pv 1) pa_nil)) pa_nil)) (pg_name (i := 5) sc_turns_are_right.nd rfl (.inl rfl)) (pss_cons (ps_expr (pe_bmK K (pe_bm PySem.F.plainAttrs_list PySem.F.slot_list_append PySem.F.type_list_append mt_append (pe_ix (ix_listK K) (pv 4) (pe_fldK K (pe_ix (ix_listK K) (pv 1) (pv 5) (fun _ _ => rfl)) rfl) (fun _ _ => rfl)) (pa_cons (pv 5) pa_nil))))
 (pss_one (ps_expr (pe_bmK K (pe_bm PySem.F.plainAttrs_list PySem.F.slot_list_append PySem.F.type_list_append mt_append (pe_ix (ix_listK K) (pv 4) (pe_fldK K (pe_ix (ix_listK K) (pv 1) (pv 5) (fun _ _ => rfl)) rfl) (fun _ _ => rfl)) (pa_cons (pv 5) pa_nil)))))))
 (pss_cons (ps_for PassesOwn.never rfl (pi_range1 (by rfl) B.range (pa_cons (pv 0) pa_nil)) (pg_name (i := 3) sc_turns_are_right.nd rfl (.inl rfl)) (pss_one (ps_if (pt_cmpR (op_neDK K hr.units) (pe_callB (cr_sortedIK K) (by rfl) B.sorted (by decide +kernel) (pa_cons (pe_ix (ix_listK K) (pv 2) (pv 3) (fun _ _ => rfl)) pa_nil)) (pe_ix (ix_listK K) (pv 4) (pv 3) (fun _ _ => rfl)) (nomark _)) (pss_one (ps_ret pe_bl)) pss_nil)))
 (pss_one (ps_ret pe_bl)))))), ?_⟩
  walk_at "sts"
  intro D nD
  refine lc_r0 (n := Tu.length) rfl (fun i H' => ∃ qs, LL H' D qs (List.replicate i []) ∧ Same H H' ∧ ∀ q ∈ qs, New H q) ?_ ?_ ?_
  · exact ⟨[], ⟨upd_same, rfl, List.nodup_nil, fun i q h => by simp at h, by simp⟩, by walk_at "same", fun q h => by simp at h⟩
  · rintro i H' hi ⟨qs, hL, s1, hN⟩
    walk_at "sts"
    refine w_new fun q nq => ?_
    have hql : qs.length = i := by rw [hL.len]; simp
    have s2 : Same H' (upd H' q (.lst [])) := by walk_at "same"
    have nq1 : q ∉ qs := fun z => by
      obtain ⟨j, hj, e⟩ := List.mem_iff_getElem.mp z
      have := hL.row j q (by rw [List.getElem?_eq_getElem hj, e])
      exact ne_new this nq rfl
    have nq2 : q ≠ D := Ne.symm (ne_new hL.top nq)
    refine ⟨qs.map V.ref, by rw [upd_ne (Ne.symm nq2)]; exact hL.top, by walk_at "szlt", qs ++ [q], ?_, ?_, ?_⟩
    · have := (hL.same s2).push (r := []) (q := q) upd_same nq1 nq2
      rw [List.map_append] at this
      rw [List.replicate_succ']
      exact this
    · exact (s1.trans s2).mut nD
    · intro z hz
      rcases List.mem_append.mp hz with hz | hz
      · exact hN z hz
      · have : z = q := by simpa using hz
        rw [this]; exact nq.of s1
  · rintro H1 ⟨qs, hL, s1, hN⟩
    walk_at "sts"
    have hL0 : LL H1 D qs (ownT (endsOf ts) Tu.length 0) := by
      have e : ownT (endsOf ts) Tu.length 0 = List.replicate Tu.length [] := by
        unfold ownT atP
        apply List.ext_getElem
        · simp
        · intro i h1 h2; simp
      rw [e]; exact hL
    refine for_r0 (n := ts.length) (by rw [hpl]) (fun i σ H' => ∃ (y3 y5 : Option V), σ = [some (.int (Tu.length : Nat)), some (.ref a), some (.ref b), y3, some (.ref D), y5] ∧ LL H' D qs (ownT (endsOf ts) Tu.length i) ∧ Same H H') ?_ ?_ ?_
    · exact ⟨_, _, rfl, hL0, s1⟩
    · rintro i σ H' hi ⟨y3, y5, rfl, hL, s2⟩
      have hS2 := s2.seq hS
      obtain ⟨p, hp1, hp2⟩ := (hT.same s2).get (ti_at hi)
      obtain ⟨e1, e2, e3⟩ := ok.ends i (by omega)
      rw [en_ti hi] at e1 e2 e3
      have hlen : (ownT (endsOf ts) Tu.length i).length = Tu.length := by unfold ownT; simp
      obtain ⟨q1, g1, g1', g1''⟩ := hL.get (i := (ti ts i).one) (by rw [hlen]; exact e2)
      rw [ownT_row e2] at g1''
      have hal : ∀ p, (iv (atP (endsOf ts) p i)).length < sizeLine := fun p => szlt (by
        rw [iv_len]
        have : (atP (endsOf ts) p i).length ≤ i := by
          unfold atP
          refine Nat.le_trans (List.length_filter_le _ _) (by simp)
        omega)
      have hal1 := hal (ti ts i).one
      have hal2 := hal (ti ts i).two
      have htop := SqL.of (K := K) hL.top
      walk_at "sts"
      refine w_t1 T.tie hp2 ?_
      walk_at "sts"
      have s3 := s2.mut (o := .lst (iv (atP (endsOf ts) (ti ts i).one i) ++ [.int (i : Nat)])) (hN q1 (List.mem_of_getElem? g1))
      have hL2 := hL.set (i := (ti ts i).one) (by rw [hlen]; exact e2) g1 (atP (endsOf ts) (ti ts i).one i ++ [i])
      rw [iv_app] at hL2
      have hS3 := s3.seq hS
      have hp3 := (hT.same s3).2 i p _ (by have := hp1; rw [List.getElem?_map] at this; cases h : ps[i]? with
        | none => rw [h] at this; cases this
        | some z => rw [h] at this; cases this; rfl) (ti_at hi)
      obtain ⟨q2, f1, f1', f1''⟩ := hL2.get (i := (ti ts i).two) (by rw [List.length_set, hlen]; exact e3)
      rw [row_set _ _ (by rw [hlen]; exact e2), if_neg (Ne.symm e1), ownT_row e3] at f1''
      have htop2 := SqL.of (K := K) hL2.top
      walk_at "sts"
      refine w_t2 T.tie hp3 ?_
      walk_at "sts"
      refine ⟨_, _, rfl, ?_, ?_⟩
      · have := hL2.set (i := (ti ts i).two) (by rw [List.length_set, hlen]; exact e3) f1 (atP (endsOf ts) (ti ts i).two i ++ [i])
        rw [iv_app] at this
        have st := ownT_step (E := endsOf ts) (m := Tu.length) (i := i) (by rw [en_ti hi]; exact e2) (by rw [en_ti hi]; exact e3) (by rw [en_ti hi]; exact e1)
        rw [en_ti hi] at st
        rw [st] at this
        exact this
      · exact s3.mut (hN q2 (List.mem_of_getElem? f1))
    · rintro σ H' ⟨y3, y5, rfl, hL, s2⟩
      walk_at "sts"
      refine for_r0 (n := Tu.length) rfl (fun i σ H'' => ∃ (y3 y5 : Option V), σ = [some (.int (Tu.length : Nat)), some (.ref a), some (.ref b), y3, some (.ref D), y5] ∧ Same H' H'') ?_ ?_ ?_
      · exact ⟨_, _, rfl, Same.refl _⟩
      · rintro i σ H'' hi ⟨y3, y5, rfl, s3⟩
        obtain ⟨q1, g1, g2⟩ := dpRowsAt hX hi
        rw [iv_map] at g2
        have hx3 := (s2.trans s3).seq hx
        have g3 := (s2.trans s3).seq g2
        walk_at "sts"
        refine ⟨q1, _, rfl, g3, fun ns p hpm hpw np => ?_⟩
        have s4 : Same H'' (upd H'' p (.lst (ns.map V.int))) := (Same.refl H'').new np
        have hL3 := hL.same (s3.trans s4)
        obtain ⟨q2, f1, f1', f1''⟩ := hL3.get (i := i) (by unfold ownT; simp; exact hi)
        have htop := SqL.of (K := K) hL3.top
        rw [ownT_row hi] at f1''
        have eo := sorted_own ok hi hpm hpw
        rw [hE] at eo
        have d1 : Dp K (upd H'' p (.lst (ns.map V.int))) (.ref p) (dRow (atP (endsOf ts) i ts.length)) := dpRow (SqL.of (by rw [upd_same, iv_map, eo]))
        have d2 : Dp K (upd H'' p (.lst (ns.map V.int))) (.ref q2) (dRow (atP (endsOf ts) i ts.length)) := dpRow (SqL.of f1'')
        walk_at "sts"
        refine w_neD d1 d2 (goodRow _) (by decide) ?_
        walk_at "sts"
        exact ⟨_, _, rfl, s3.trans s4⟩
      · rintro σ H'' ⟨y3, y5, rfl, s3⟩
        walk_at "sts"
        exact q _ (s2.trans s3)
/-! ### in one piece -/
/-! ### how many are not there -/
def cntF (S : Nat → Bool) : Nat → Nat
  | 0 => 0
  | m + 1 => cntF S m + if S m = true then 0 else 1
theorem cntF_le {S S' : Nat → Bool} : ∀ m, (∀ p, p < m → S p = true → S' p = true) → cntF S' m ≤ cntF S m
  | 0, _ => Nat.le_refl _
  | m + 1, h => by
    have ih := cntF_le m fun p hp => h p (by omega)
    have := h m (by omega)
    unfold cntF
    cases a : S m <;> cases b : S' m <;> simp_all <;> omega
theorem cntF_lt {S S' : Nat → Bool} : ∀ m, (∀ p, p < m → S p = true → S' p = true) → (∃ p, p < m ∧ S p = false ∧ S' p = true) → cntF S' m < cntF S m
  | 0, _, ⟨p, hp, _⟩ => absurd hp (by omega)
  | m + 1, h, ⟨p, hp, h1, h2⟩ => by
    have hm := h m (by omega)
    unfold cntF
    by_cases e : p = m
    · subst e
      have := cntF_le p fun q hq => h q (by omega)
      rw [h1, h2]
      simp
      omega
    · have := cntF_lt m (fun q hq => h q (by omega)) ⟨p, by omega, h1, h2⟩
      cases a : S m <;> cases b : S' m <;> simp_all <;> omega

def setS (S : Nat → Bool) (a b : Nat) : Nat → Bool := fun p => if p = b then true else if p = a then true else S p
theorem map_setB {f : Nat → Bool} {m j : Nat} {y : Bool} : ((List.range m).map fun r => V.bl (f r)).set j (V.bl y) = (List.range m).map fun r => V.bl (if r = j then y else f r) := by
  rw [map_set]
  congr 1
  funext r
  split <;> rfl
def spWhole (K : PySem.W.Frag) (CP CQ : Addr) : Sp := fun vs H Q _ => ∃ (m : Nat) (a : Addr) (ts : List Ti), vs = [.int m, .ref a] ∧ TiesAt K CP CQ H a ts ∧ (∀ i, i < ts.length → (ti ts i).one < m ∧ (ti ts i).two < m) ∧ Whole (endsOf ts) m ∧ 0 < m ∧ m ≤ 1000 ∧ ∀ H', Same H H' → Q (.bl true) H'
theorem ok_hangs_together {f : Addr} {fd : FuncData} (F : Fun K "hangs_together" "hangs_together" s_hangs_together f fd) (gf : mg "hangs_together" = some (.ref f)) (B : Bl mg) {C_Pull C_Push C_Web : Addr} (T : Txt K mg C_Pull C_Push C_Web) : Has P w K mg base CX0 1 "hangs_together" ["many", "ties"] (spWhole K C_Pull C_Push) := by
  refine Has.mk' F gf (F.binds (ps := ["many", "ties"]) fun _ _ _ _ _ _ us hl => match us, hl with | [_, _], _ => rfl) sc_hangs_together (by walk_at "len") (fun cdv A outer s H vs Q E hr h => ?_)
  obtain ⟨m, a, ts, rfl, hTi, hb, hw, hm, hsz, q⟩ := h
  obtain ⟨ps, hS, hT⟩ := id hTi
  refine ⟨_, (pss_cons (ps_setLc (i := 2) (own := [("place", 5)]) rfl sc_hangs_together.nd rfl rfl (sw_true rfl rfl rfl (by decide +kernel)) (pi_range1 (by rfl) B.range (pa_cons (pv 0) pa_nil)) (blkOk_by (own := [("place", 5)]) (N := ["many", "ties", "reached", "grew", "tie", "place"]) (sc := defScope s_hangs_together) (by decide +kernel)) (fun _ _ _ _ _ => pg_name (i := 5) sc_hangs_together.nd rfl (Or.inl rfl)) (fun _ _ _ _ _ => pts_nil) (fun _ _ _ _ _ => (pe_cmpR op_eq (pv 5) pe_int (nomark _))))
 (pss_cons (ps_set (i := 3) sc_hangs_together.nd rfl (.inl rfl) pe_bl)
 (pss_cons (ps_while PassesOwn.never (pt_val (pv 3)) (pss_cons (ps_set (i := 3) sc_hangs_together.nd rfl (.inl rfl) pe_bl)
 (pss_one (ps_for PassesOwn.never rfl (pi_listK K (pv 1)) (pg_name (i := 4) sc_hangs_together.nd rfl (.inl rfl)) (pss_one (ps_if (pt_cmpR op_ne (pe_ix (ix_listK K) (pv 2) (pe_fldK K (pv 4) rfl) (fun _ _ => rfl)) (pe_ix (ix_listK K) (pv 2) (pe_fldK K (pv 4) rfl) (fun _ _ => rfl)) (nomark _)) (pss_cons (ps_asg pe_bl (pg_sub (pv 2) (pe_fldK K (pv 4) rfl) set_list))
 (pss_cons (ps_asg pe_bl (pg_sub (pv 2) (pe_fldK K (pv 4) rfl) set_list))
 (pss_one (ps_set (i := 3) sc_hangs_together.nd rfl (.inl rfl) pe_bl)))) pss_nil))))))
 (pss_one (ps_ret (pe_callB (cr_allK K rfl) (by rfl) B.all (by decide +kernel) (pa_cons (pv 2) pa_nil))))))), ?_⟩
  walk_at "sts"
  intro D nD
  refine lc_r0 (n := m) rfl (fun i H' => H' D = some (.lst ((List.range i).map fun p => V.bl (p == 0))) ∧ Same H H') ?_ ?_ ?_
  · exact ⟨upd_same, by walk_at "same"⟩
  · rintro i H' hi ⟨h1, s1⟩
    walk_at "sts"
    refine ⟨_, h1, szlt (by simp; omega), ?_, s1.mut nD⟩
    rw [upd_same, List.range_succ, List.map_append]
    congr 3
    simp
    by_cases e : i = 0 <;> simp [e]
  · rintro H1 ⟨h1, s1⟩
    walk_at "sts"
    refine ⟨fun k σ H' => ∃ (S : Nat → Bool) (g : Bool) (y4 y5 : Option V), σ = [some (.int (m : Nat)), some (.ref a), some (.ref D), some (.bl g), y4, y5] ∧ S 0 = true ∧ (g = false → ∀ i, i < ts.length → S (ti ts i).one = S (ti ts i).two) ∧ k = cntF S m + (if g = true then 1 else 0) ∧
      H' D = some (.lst ((List.range m).map fun p => V.bl (S p))) ∧ Same H H', ⟨_, fun p => p == 0, true, _, _, rfl, rfl, by simp, rfl, h1, s1⟩, ?_⟩
    rintro k σ H' ⟨S, g, y4, y5, rfl, h0, hg, rfl, hD, s2⟩
    walk_at "sts"
    refine ifb (fun e => w_wt ?_) (fun e => ?_)
    · subst e
      have hS2 := s2.seq hS
      walk_at "sts"
      refine for_list (xs := ps.map V.ref) (fun i σ H'' => ∃ (S' : Nat → Bool) (g' : Bool) (y4 y5 : Option V), σ = [some (.int (m : Nat)), some (.ref a), some (.ref D), some (.bl g'), y4, y5] ∧ S' 0 = true ∧ (g' = false → S' = S ∧ ∀ j, j < i → S (ti ts j).one = S (ti ts j).two) ∧ (g' = true → cntF S' m < cntF S m) ∧
        H'' D = some (.lst ((List.range m).map fun p => V.bl (S' p))) ∧ Same H H'') ?_ ?_ ?_ ?_
      · exact ⟨S, false, _, _, rfl, h0, fun _ => ⟨rfl, fun j hj => absurd hj (by omega)⟩, by simp, hD, s2⟩
      · rintro i σ H'' _ ⟨S', g', _, _, _, _, _, _, _, s3⟩
        exact s3.seq hS
      · rintro i x σ H'' hx ⟨S', g', y4, y5, rfl, h0', hf, ht, hD', s3⟩
        rw [List.getElem?_map] at hx
        obtain ⟨p, hp, rfl⟩ := Option.map_eq_some_iff.mp hx
        have hi : i < ts.length := by rw [← hT.1]; exact (List.getElem?_eq_some_iff.mp hp).1
        have hti := (hT.same s3).2 i p _ hp (ti_at hi)
        obtain ⟨b1, b2⟩ := hb i hi
        have g1 := map_at (f := fun p => V.bl (S' p)) b1
        have g2 := map_at (f := fun p => V.bl (S' p)) b2
        walk_at "sts"
        refine w_t1 T.tie hti ?_
        walk_at "sts"
        refine w_t2 T.tie hti ?_
        walk_at "sts"
        refine ifnd (fun hne => ?_) (fun he => ?_)
        · walk_at "sts"
          refine w_t1 T.tie hti ?_
          walk_at "sts"
          rw [map_setB]
          have s4 := s3.mut (o := .lst ((List.range m).map fun r => V.bl (if r = (ti ts i).one then true else S' r))) nD
          have hti4 := (hT.same s4).2 i p _ hp (ti_at hi)
          refine w_t2 T.tie hti4 ?_
          walk_at "sts"
          rw [map_setB]
          refine ⟨setS S' (ti ts i).one (ti ts i).two, true, _, _, rfl, ?_, by simp, fun _ => ?_, ?_, ?_⟩
          · unfold setS; split; rfl; split; rfl; exact h0'
          · have l1 : cntF S' m ≤ cntF S m := by
              cases hg' : g' with
              | true => exact Nat.le_of_lt (ht hg')
              | false => rw [(hf hg').1]; exact Nat.le_refl _
            refine Nat.lt_of_lt_of_le (cntF_lt m (fun p _ h => ?_) ?_) l1
            · unfold setS; split; rfl; split; rfl; exact h
            · cases e1 : S' (ti ts i).one with
              | false => exact ⟨_, b1, e1, by unfold setS; split; rfl; rw [if_pos rfl]⟩
              | true =>
                cases e2 : S' (ti ts i).two with
                | false => exact ⟨_, b2, e2, by unfold setS; rw [if_pos rfl]⟩
                | true => exact absurd (e1.trans e2.symm) hne
          · rw [upd_same]; rfl
          · exact s4.mut nD
        · walk_at "sts"
          refine ⟨S', g', _, _, rfl, h0', fun hg' => ⟨(hf hg').1, fun j hj => ?_⟩, ht, hD', s3⟩
          by_cases e : j = i
          · subst e
            rw [(hf hg').1] at he
            exact he
          · exact (hf hg').2 j (by omega)
      · rintro σ H'' ⟨S', g', y4, y5, rfl, h0', hf, ht, hD', s3⟩
        rw [List.length_map, hT.1] at hf
        refine ⟨_, ?_, S', g', _, _, rfl, h0', fun hg' => ?_, rfl, hD', s3⟩
        · cases hg' : g' with
          | true => have := ht hg'; simp; omega
          | false => rw [(hf hg').1]; simp
        · rw [(hf hg').1]
          exact (hf hg').2
    · subst e
      walk_at "sts"
      have hall := hw S fun i hi => by
        rw [endsOf_len] at hi
        rw [en_ti hi]
        exact hg rfl i hi
      refine ⟨D, (List.range m).map S, rfl, SqL.of (by rw [hD, List.map_map]; rfl), ?_⟩
      have e : ((List.range m).map S).all id = true := by
        rw [List.all_map, List.all_eq_true]
        intro p hp
        show S p = true
        rw [hall p 0 (List.mem_range.mp hp) hm]
        exact h0
      rw [e]
      exact q _ s2
end

def sideD (R : List (List Nat)) (i : Nat) : PyData := .tuple ([((sideOf R (2 * i) : Nat) : Int), ((sideOf R (2 * i + 1) : Nat) : Int)].map PyData.int)
def sidesD (R : List (List Nat)) (n : Nat) : List PyData := (List.range n).map (sideD R)
theorem flat_take (R : List (List Nat)) (i : Nat) (r : List Nat) (h : R[i]? = some r) : (R.take (i + 1)).flatten = (R.take i).flatten ++ r := by
  rw [List.take_add_one, h, List.flatten_append]
  simp
theorem Holds.get {kvs : List (Key × V)} {S : List Nat} {g : Nat → V} (h : Holds kvs S g) {d : Nat} (hd : d ∈ S) : valV kvs (.inl (d : Int)) = some (g d) := by rw [h.2, if_pos hd]
theorem same_wo_upd {H : Hp} {p : Addr} {o : HO} : Same (wo H p) (upd H p o) := fun b u h => by
  unfold wo at h
  split at h
  · cases h
  · rw [upd_ne (by assumption)]; exact h
theorem sqWo {K : PySem.W.Frag} {H : Hp} {p a : Addr} {xs : List V} {C dx : Addr} {fs : List (Str × V)} (hp : H p = some (.ins C dx fs)) (h : SqL K H a xs) : SqL K (wo H p) a xs := by
  rcases h with (h | ⟨o, h⟩) | h
  · exact .inl (.inl (wo_get h (ne_of h hp (by intro z; cases z))))
  · exact .inl (.inr ⟨o, wo_get h (ne_of h hp (by intro z; cases z))⟩)
  · exact .inr h
theorem stWo {K : PySem.W.Frag} {H : Hp} {p a : Addr} {xs : List V} {C dx : Addr} {fs : List (Str × V)} (hp : H p = some (.ins C dx fs)) (h : SqT K H a xs) : SqT K (wo H p) a xs := by
  rcases h with (h | ⟨o, h⟩) | h
  · exact .inl (.inl (wo_get h (ne_of h hp (by intro z; cases z))))
  · exact .inl (.inr ⟨o, wo_get h (ne_of h hp (by intro z; cases z))⟩)
  · exact .inr h
mutual
theorem dpWo {K : PySem.W.Frag} {H : Hp} {p C dx : Addr} {fs : List (Str × V)} (hp : H p = some (.ins C dx fs)) : ∀ (d : PyData) (v : V), Dp K H v d → Dp K (wo H p) v d
  | .none, _, h => by cases h; exact .non
  | .bool _, _, h => by cases h; exact .bl _
  | .int _, _, h => by cases h; exact .int _
  | .str _, _, h => by cases h; exact .str _
  | .list ds, _, h => by
    cases h with
    | lst hs ha => exact .lst (sqWo hp hs) (dpWoAll hp ds _ ha)
  | .tuple ds, _, h => by
    cases h with
    | tup hs ha => exact .tup (stWo hp hs) (dpWoAll hp ds _ ha)
  | .dict _, _, h => by cases h
theorem dpWoAll {K : PySem.W.Frag} {H : Hp} {p C dx : Addr} {fs : List (Str × V)} (hp : H p = some (.ins C dx fs)) : ∀ (ds : List PyData) (xs : List V), DpAll K H xs ds → DpAll K (wo H p) xs ds
  | [], _, h => by cases h; exact .nil
  | d :: ds, _, h => by
    cases h with
    | cons h1 h2 => exact .cons (dpWo hp d _ h1) (dpWoAll hp ds _ h2)
end
section
variable {P : Program} {w : World} {K : PySem.W.Frag} {mg : Str → Option Value} {base : Heap} {C_Pull C_Push C_Web : Addr}
def spSides (K : PySem.W.Frag) : Sp := fun vs H Q _ => ∃ (a b : Addr) (xs : List V) (R : List (List Nat)), vs = [.ref a, .ref b] ∧ SqL K H a xs ∧ Dp K H (.ref b) (dRows R) ∧ R.flatten.Perm (List.range (2 * xs.length)) ∧ (∀ r ∈ R, 1 ≤ r.length) ∧ xs.length ≤ 1000 ∧
  ∀ p H' ys G, Same H H' → New H p → H' p = some (.lst ys) → Apt H G → Same G H' → New G p → DpAll K G ys (sidesD R xs.length) → Q (.ref p) H'
theorem ok_sides_of {f : Addr} {fd : FuncData} (F : Fun K "sides_of" "sides_of" s_sides_of f fd) (gf : mg "sides_of" = some (.ref f)) (B : Bl mg) {C_Pull C_Push C_Web : Addr} (T : Txt K mg C_Pull C_Push C_Web) : Has P w K mg base CX0 1 "sides_of" ["ties", "rounds"] (spSides K) := by
  refine Has.mk' F gf (F.binds (ps := ["ties", "rounds"]) fun _ _ _ _ _ _ us hl => match us, hl with | [_, _], _ => rfl) sc_sides_of (by walk_at "len") (fun cdv A outer s H vs Q E hr h => ?_)
  obtain ⟨a, b, xs, R, rfl, hS, hR, hpm, hne, hsz, q⟩ := h
  obtain ⟨zs, hz, hZ⟩ := dpLstA hR
  have hzl : zs.length = R.length := by have := dpaLen hZ; simpa using this
  have hnd : R.flatten.Nodup := hpm.nodup_iff.mpr List.nodup_range
  have hfl : R.flatten.length = 2 * xs.length := by rw [hpm.length_eq, List.length_range]
  refine ⟨_, (pss_cons (ps_set (i := 2) sc_sides_of.nd rfl (.inr rfl) pe_dnewK)
 (pss_cons (ps_for PassesOwn.never rfl (pi_enum (by rfl) B.enumerate (pa_cons (pv 1) pa_nil)) (pg_tupK K rfl (pgs_cons (pg_name (i := 3) sc_sides_of.nd rfl (.inl rfl)) (pgs_cons (pg_name (i := 4) sc_sides_of.nd rfl (.inl rfl)) pgs_nil))) (pss_one (ps_for PassesOwn.never rfl (pi_listK K (pv 4)) (pg_name (i := 5) sc_sides_of.nd rfl (.inl rfl)) (pss_one (ps_dput (hu_of hr) (pv 2) (pv 5) (pv 3) rfl)))))
 (pss_one (ps_ret (pe_lc (own := [("i", 6)]) rfl sc_sides_of.nd (pi_range1 (by rfl) B.range (pa_cons (pe_callB (call_lenK K) (by rfl) B.len (by decide +kernel) (pa_cons (pv 0) pa_nil)) pa_nil)) (blkOk_by (own := [("i", 6)]) (N := ["ties", "rounds", "where", "number", "row", "dart", "i"]) (sc := defScope s_sides_of) (by decide +kernel)) (fun _ _ _ _ _ => pg_name (i := 6) sc_sides_of.nd rfl (Or.inl rfl)) (fun _ _ _ _ _ => pts_nil) (fun _ _ _ _ _ => (pe_tup (pa_cons (pe_dget (hu_of hr) (pv 2) (pe_op op_mulX pe_int (pv 6)) (fun _ _ => rfl)) (pa_cons (pe_dget (hu_of hr) (pv 2) (pe_op op_add (pe_op op_mulX pe_int (pv 6)) pe_int) (fun _ _ => rfl)) pa_nil))))))))), ?_⟩
  walk_at "sts"
  refine w_new fun p1 n1 => ?_
  walk_at "sts"
  have s0 : Same H (upd H p1 (.dK [])) := by walk_at "same"
  have hz0 := s0.seq hz
  refine w_enq hz0 ?_
  refine for_enumX (xs := zs) (fun i σ H' => ∃ (kvs : List (Key × V)) (y3 y4 y5 y6 : Option V), σ = [some (.ref a), some (.ref b), some (.ref p1), y3, y4, y5, y6] ∧ H' p1 = some (.dK kvs) ∧ Holds kvs (R.take i).flatten (fun d => .int (sideOf R d : Nat)) ∧ Same H H') ?_ ?_ ?_ ?_
  · exact ⟨[], _, _, _, _, rfl, upd_same, by simpa using Holds.nil, s0⟩
  · rintro i σ H' _ ⟨kvs, y3, y4, y5, y6, _, _, _, s1⟩
    exact s1.seq hz
  · rintro i x σ H' T hx ⟨kvs, y3, y4, y5, y6, rfl, h1, hK, s1⟩ nT
    have hi : i < R.length := by rw [← hzl]; exact (List.getElem?_eq_some_iff.mp hx).1
    obtain ⟨r1, e1, e2⟩ := dpRowsAt hZ hi
    rw [hx] at e1
    cases e1
    have hri : R[i]? = some (row R i) := by
      unfold row
      rw [List.getD_eq_getElem?_getD, List.getElem?_eq_getElem hi]
      rfl
    have hpT : p1 ≠ T := ne_new h1 nT
    have s2 : Same H (upd H' T (.tup [.int (i : Nat), .ref r1])) := s1.trans (same_upd nT)
    have e3 := s2.seq e2
    have hle : (R.take (i + 1)).flatten.length ≤ 2 * xs.length := by
      rw [← hfl]
      have : R.flatten.length = (R.take (i + 1)).flatten.length + (R.drop (i + 1)).flatten.length := by rw [← List.length_append, ← List.flatten_append, List.take_append_drop]
      omega
    rw [flat_take R i _ hri, List.length_append] at hle
    refine w_gt (SqT.of upd_same) rfl ?_
    walk_at "sts"
    refine for_list (xs := iv (row R i)) (fun j σ H'' => ∃ (kvs : List (Key × V)) (y5 y6 : Option V), σ = [some (.ref a), some (.ref b), some (.ref p1), some (.int (i : Nat)), some (.ref r1), y5, y6] ∧ H'' p1 = some (.dK kvs) ∧ Holds kvs ((R.take i).flatten ++ (row R i).take j) (fun d => .int (sideOf R d : Nat)) ∧ Same H H'') ?_ ?_ ?_ ?_
    · exact ⟨kvs, _, _, rfl, by walk_at "hp", by simpa using hK, s2⟩
    · rintro j σ H'' _ ⟨kvs, y5, y6, _, _, _, s3⟩
      exact s3.seq e2
    · rintro j x σ H'' hx ⟨kvs, y5, y6, rfl, h1, hK, s3⟩
      have hj : j < (row R i).length := by
        have := (List.getElem?_eq_some_iff.mp hx).1
        rwa [iv_len] at this
      rw [iv_at hj] at hx
      cases hx
      have hkl : kvs.length < 1000000 := by
        have := hK.1
        rw [List.length_append, List.length_take] at this
        omega
      have hm : (row R i).getD j 0 ∈ row R i := by
        rw [List.getD_eq_getElem?_getD, List.getElem?_eq_getElem hj]
        exact List.getElem_mem hj
      have hside : sideOf R ((row R i).getD j 0) = i := sideOf_at hnd hri hm
      walk_at "sts"
      refine ⟨_, _, _, rfl, upd_same, ?_, s3.mut n1⟩
      rw [take_snoc hj, ← List.append_assoc]
      have := hK.put ((row R i).getD j 0)
      rw [hside] at this
      exact this
    · rintro σ H'' ⟨kvs, y5, y6, rfl, h1, hK, s3⟩
      rw [iv_len, List.take_length, ← flat_take R i _ hri] at hK
      exact ⟨kvs, _, _, _, _, rfl, h1, hK, s3⟩
  · rintro σ H1 ⟨kvs, y3, y4, y5, y6, rfl, h1, hK, s1⟩
    rw [hzl, List.take_length] at hK
    have hS1 := s1.seq hS
    walk_at "sts"
    intro D nD
    have nD0 : New H D := nD.of s1
    refine lc_r0 (n := xs.length) rfl (fun i H' => ∃ ys G, H' D = some (.lst ys) ∧ (Apt H1 G ∧ Same H1 H') ∧ Same G H' ∧ New G D ∧ DpAll K G ys (sidesD R i)) ?_ ?_ ?_
    · exact ⟨[], fun _ => none, upd_same, ⟨fun _ _ _ => rfl, same_upd nD⟩, (fun _ _ z => by cases z), rfl, .nil⟩
    · rintro i H' hi ⟨ys, G, d1, ⟨aG, sH⟩, sG', gD, hD⟩
      have hk : H' p1 = some (.dK kvs) := sH _ _ h1
      have hyl : ys.length = i := by have := dpaLen hD; unfold sidesD at this; simpa using this
      have m1 : 2 * i ∈ R.flatten := by rw [hpm.mem_iff, List.mem_range]; omega
      have m2 : 2 * i + 1 ∈ R.flatten := by rw [hpm.mem_iff, List.mem_range]; omega
      have v1 := hK.get m1
      have v2 := hK.get m2
      walk_at "sts"
      refine w_getI (kvs := kvs) hk (v := .int (sideOf R (2 * i) : Nat)) v1 ?_
      walk_at "sts"
      refine w_getI (kvs := kvs) hk (v := .int (sideOf R (2 * i + 1) : Nat)) v2 ?_
      walk_at "sts"
      refine w_new fun t nt => ?_
      have hDt : D ≠ t := ne_new d1 nt
      refine ⟨ys, by walk_at "hp", szlt (by omega), _, upd G t (.tup [.int (sideOf R (2 * i) : Nat), .int (sideOf R (2 * i + 1) : Nat)]), upd_same, ⟨aG.new (nt.of sH), (sH.new nt).mut nD⟩, ?_, gD.upd hDt, ?_⟩
      · refine Same.mut ?_ (gD.upd hDt)
        exact (sG'.trans (same_upd nt)).add upd_same
      · unfold sidesD
        rw [List.range_succ, List.map_append]
        exact dpaApp (hD.same (same_upd (nt.of sG'))) (.cons (.tup (SqT.of upd_same) (dpInts [((sideOf R (2 * i) : Nat) : Int), ((sideOf R (2 * i + 1) : Nat) : Int)])) .nil)
    · rintro H2 ⟨ys, G, d1, ⟨aG, sH⟩, sG', gD, hD⟩
      exact q D H2 ys G (s1.trans sH) nD0 d1 (aG.of s1) sG' gD hD
/-! ### the web -/
structure WebM where
  ts : List Ti
  T : Turns
  R : List (List Nat)
def wf (m : Int) (a b c d : Addr) : List (Str × V) := [("many", .int m), ("ties", .ref a), ("turns", .ref b), ("rounds", .ref c), ("sides", .ref d)]
theorem wf_many (m : Int) (a b c d : Addr) : (wf m a b c d).lookup ("many" : Str) = some (.int m) := by rfl
theorem wf_ties (m : Int) (a b c d : Addr) : (wf m a b c d).lookup ("ties" : Str) = some (.ref a) := by rfl
theorem wf_turns (m : Int) (a b c d : Addr) : (wf m a b c d).lookup ("turns" : Str) = some (.ref b) := by rfl
theorem wf_rounds (m : Int) (a b c d : Addr) : (wf m a b c d).lookup ("rounds" : Str) = some (.ref c) := by rfl
theorem wf_sides (m : Int) (a b c d : Addr) : (wf m a b c d).lookup ("sides" : Str) = some (.ref d) := by rfl
theorem wf_eq (m : Int) (a b c d : Addr) : putF "sides" (.ref d) (putF "rounds" (.ref c) (putF "turns" (.ref b) (putF "ties" (.ref a) (putF "many" (.int m) [])))) = wf m a b c d := by rfl
structure WebAt (K : PySem.W.Frag) (CP CQ CW : Addr) (H : Hp) (p : Addr) (M : WebM) : Prop where
  at_ : ∃ dx a b c d xs, H p = some (.ins CW dx (wf (M.T.length : Nat) a b c d)) ∧ TiesAt K CP CQ H a M.ts ∧ Dp K H (.ref b) (dRows M.T) ∧ Dp K H (.ref c) (dRows M.R) ∧ SqL K H d xs ∧ DpAll K H xs (sidesD M.R M.ts.length)
theorem WebAt.same {K : PySem.W.Frag} {CP CQ CW : Addr} {H H' : Hp} {p : Addr} {M : WebM} (h : WebAt K CP CQ CW H p M) (e : Same H H') : WebAt K CP CQ CW H' p M := by
  obtain ⟨dx, a, b, c, d, xs, h1, h2, h3, h4, h5, h6⟩ := h.at_
  exact ⟨dx, a, b, c, d, xs, e _ _ h1, h2.same e, h3.same e, h4.same e, e.seq h5, h6.same e⟩
/-- the web is as the document says -/
structure WebOk (M : WebM) : Prop where
  flat : Flat (endsOf M.ts) M.T
  canon : Canon (fol (endsOf M.ts) M.T) (2 * M.ts.length) M.R
theorem apt_sub {H0 HF W G : Hp} (hnew : ∀ q, H0 q = none → W q = HF q) (a : Apt H0 G) (s : Same G HF) : Same G W := fun q o e => by
  have hn : H0 q = none := by
    cases h : H0 q with
    | none => rfl
    | some o' => rw [a q o' h] at e; cases e
  rw [hnew q hn]
  exact s q o e
def spWebW (K : PySem.W.Frag) (CP CQ CW : Addr) : Sp := fun vs H Q _ => ∃ (p dx a b : Addr) (ps : List Addr) (ts : List Ti) (T : Turns), vs = [.ref p, .int T.length, .ref a, .ref b] ∧ H p = some (.ins CW dx []) ∧ SqL K (wo H p) a (ps.map V.ref) ∧ TiesIn CP CQ (wo H p) ps ts ∧ Dp K (wo H p) (.ref b) (dRows T) ∧ Flat (endsOf ts) T ∧ 0 < T.length ∧ ts.length ≤ 1000 ∧ T.length ≤ 1000 ∧
  ∀ H' R, Same (wo H p) H' → WebOk ⟨ts, T, R⟩ → (∀ W : Hp, Same W H' → (∀ q, wo H p q = none → W q = H' q) → TiesIn CP CQ W ps ts → WebAt K CP CQ CW W p ⟨ts, T, R⟩) → Q .non H'
theorem ok_Web___init__ {f : Addr} {fd : FuncData} (F : Fun K "__init__" "Web.__init__" s_Web___init__ f fd) (B : Bl mg) {C_Pull C_Push C_Web : Addr} (T : Txt K mg C_Pull C_Push C_Web) (h_rounds_of : Has P w K mg base CX0 4 "rounds_of" ["ties", "turns"] (spRounds K C_Pull C_Push)) (h_sides_of : Has P w K mg base CX0 1 "sides_of" ["ties", "rounds"] (spSides K)) (h_ends_are_places : Has P w K mg base CX0 1 "ends_are_places" ["many", "ties"] (spEndsOk K C_Pull C_Push)) (h_turns_are_right : Has P w K mg base CX0 1 "turns_are_right" ["many", "ties", "turns"] (spTurnsOk K C_Pull C_Push)) (h_hangs_together : Has P w K mg base CX0 1 "hangs_together" ["many", "ties"] (spWhole K C_Pull C_Push)) : HasFn P w K mg base CX0 5 f ["self", "many", "ties", "turns"] (spWebW K C_Pull C_Push C_Web) := by
  refine HasFn.mk' F (F.binds (ps := ["self", "many", "ties", "turns"]) fun _ _ _ _ _ _ us hl => match us, hl with | [_, _, _, _], _ => rfl) sc_Web___init__ (by walk_at "len") (fun cdv A outer s H vs Q E hr h => ?_)
  obtain ⟨p, dx, a, b, ps, ts, Tu, rfl, hp, hps00, hin00, hTu, hF, hm, hsz, hsz2, q⟩ := h
  have hTi : TiesAt K C_Pull C_Push (wo H p) a ts := ⟨ps, hps00, hin00⟩
  have ok := hF.ok
  obtain ⟨F, hFr, hEu⟩ := hF.euler
  rw [endsOf_len] at hFr hEu
  have hb : ∀ i, i < ts.length → (ti ts i).one < Tu.length ∧ (ti ts i).two < Tu.length := fun i hi => by
    have := ok.ends i (by rw [endsOf_len]; exact hi)
    rw [en_ti hi] at this
    exact this.2
  have hTi0 := hTi.same wo_same
  have hTu0 := hTu.same wo_same
  refine ⟨_, (pss_cons (ps_if (pt_not (pt_val (pe_fn h_ends_are_places (hr.mono (by decide)) (by rfl) (pa_cons (pv 1) (pa_cons (pv 2) pa_nil))))) (pss_one ps_never) pss_nil)
 (pss_cons (ps_if (pt_not (pt_val (pe_fn h_turns_are_right (hr.mono (by decide)) (by rfl) (pa_cons (pv 1) (pa_cons (pv 2) (pa_cons (pv 3) pa_nil)))))) (pss_one ps_never) pss_nil)
 (pss_cons (ps_if (pt_not (pt_val (pe_fn h_hangs_together (hr.mono (by decide)) (by rfl) (pa_cons (pv 1) (pa_cons (pv 2) pa_nil))))) (pss_one ps_never) pss_nil)
 (pss_cons (ps_set (i := 4) sc_Web___init__.nd rfl (.inl rfl) (pe_fn h_rounds_of (hr.mono (by decide)) (by rfl) (pa_cons (pv 2) (pa_cons (pv 3) pa_nil))))
 (pss_cons (ps_if (pt_cmpR op_ne (pe_op op_add (pe_op op_sub (pv 1) (pe_callB (call_lenK K) (by rfl) B.len (by decide +kernel) (pa_cons (pv 2) pa_nil))) (pe_callB (call_lenK K) (by rfl) B.len (by decide +kernel) (pa_cons (pv 4) pa_nil))) pe_int (nomark _)) (pss_one ps_never) pss_nil)
 (pss_cons (ps_fld (pv 0) (pv 1) rfl)
 (pss_cons (ps_fld (pv 0) (pe_callTy (call_listK K) (by rfl) B.list (by decide +kernel) (pa_cons (pv 2) pa_nil)) rfl)
 (pss_cons (ps_fld (pv 0) (pe_lc (own := [("row", 5)]) rfl sc_Web___init__.nd (pi_listK K (pv 3)) (blkOk_by (own := [("row", 5)]) (N := ["self", "many", "ties", "turns", "rounds", "row"]) (sc := defScope s_Web___init__) (by decide +kernel)) (fun _ _ _ _ _ => pg_name (i := 5) sc_Web___init__.nd rfl (Or.inl rfl)) (fun _ _ _ _ _ => pts_nil) (fun _ _ _ _ _ => (pe_callTy (call_listK K) (by rfl) B.list (by decide +kernel) (pa_cons (pv 5) pa_nil)))) rfl)
 (pss_cons (ps_fld (pv 0) (pv 4) rfl)
 (pss_one (ps_fld (pv 0) (pe_fn h_sides_of (hr.mono (by decide)) (by rfl) (pa_cons (pv 2) (pa_cons (pv 4) pa_nil))) rfl))))))))))), ?_⟩
  walk_at "sts"
  refine ⟨_, a, ts, rfl, hTi0, hb, ?_⟩
  walk_at "sts"
  refine ⟨a, b, ts, Tu, rfl, hTi0, hTu0, ok, hsz, hsz2, fun H1 s1 => ?_⟩
  walk_at "sts"
  refine ⟨_, a, ts, rfl, hTi0.same s1, hb, hF.whole, hm, hsz2, fun H2 s2 => ?_⟩
  walk_at "sts"
  have s12 := s1.trans s2
  refine ⟨a, b, ts, Tu, F, rfl, hTi0.same s12, hTu0.same s12, ok, hsz, hFr, fun p3 H3 R s3 n3 hR hC => ?_⟩
  obtain ⟨xs, G, r1, rA, rG', rN, rD⟩ := hR
  have rA0 : Apt (wo H p) G := rA.of (wo_same.trans s12)
  have rNp : New G p := rA p _ (s12 _ _ hp)
  have n3' : New (wo H p) p3 := n3.of (wo_same.trans s12)
  have s13 := s12.trans s3
  have hcount : R.length = F.length := hC.rings.count hFr
  have hxl : xs.length = R.length := by have := dpaLen rD; simpa using this
  have hp3 : H3 p = some (.ins C_Web dx []) := s13 _ _ hp
  have w3 : Same (wo H p) (wo H3 p) := wo_mono s13
  have dR : Dp K (wo H3 p) (.ref p3) (dRows R) := dpWo hp3 _ _ (.lst (SqL.of r1) (rD.same rG'))
  have hS3 := hTi.same w3
  have hps := w3.seq hps00
  have hin := hin00.same w3
  have hpl : (ps.map V.ref).length = ts.length := by rw [List.length_map]; exact hin.1
  have hps3 := (wo_same (H := H3) (D := p)).seq hps
  have hr3 : SqL K H3 p3 xs := SqL.of r1
  walk_at "sts"
  refine w_sfq hp3 T.cl_Web T.n_Web_many (by show 0 < 1000; decide) ?_
  have e4 : Same (wo H3 p) (upd H3 p (.ins C_Web dx (putF "many" (.int (Tu.length : Nat)) []))) := same_wo_upd
  have hps4 := e4.seq hps
  walk_at "sts"
  refine w_new fun t1 nt1 => ?_
  have ht1 : t1 ≠ p := Ne.symm (ne_new upd_same nt1)
  have nt1' : New (wo H p) t1 := (show New _ t1 from nt1).of (w3.trans e4)
  have w5 : Same (wo H3 p) (wo (upd (upd H3 p (.ins C_Web dx (putF "many" (.int (Tu.length : Nat)) []))) t1 (.lst (ps.map V.ref))) p) := same_wo (e4.trans (same_upd nt1)) wo_new
  have l5 : wo (upd (upd H3 p (.ins C_Web dx (putF "many" (.int (Tu.length : Nat)) []))) t1 (.lst (ps.map V.ref))) p t1 = some (.lst (ps.map V.ref)) := wo_get upd_same ht1
  have p5 : upd (upd H3 p (.ins C_Web dx (putF "many" (.int (Tu.length : Nat)) []))) t1 (.lst (ps.map V.ref)) p = some (.ins C_Web dx (putF "many" (.int (Tu.length : Nat)) [])) := by rw [upd_ne (Ne.symm ht1), upd_same]
  generalize upd (upd H3 p (.ins C_Web dx (putF "many" (.int (Tu.length : Nat)) []))) t1 (.lst (ps.map V.ref)) = H5 at w5 l5 p5 ⊢
  walk_at "sts"
  refine w_sfq p5 T.cl_Web T.n_Web_ties (by show 1 < 1000; decide) ?_
  have e6 : Same (wo H5 p) (upd H5 p (.ins C_Web dx (putF "ties" (.ref t1) (putF "many" (.int (Tu.length : Nat)) [])))) := same_wo_upd
  have p6 : upd H5 p (.ins C_Web dx (putF "ties" (.ref t1) (putF "many" (.int (Tu.length : Nat)) []))) p = some (.ins C_Web dx (putF "ties" (.ref t1) (putF "many" (.int (Tu.length : Nat)) []))) := upd_same
  generalize upd H5 p (.ins C_Web dx (putF "ties" (.ref t1) (putF "many" (.int (Tu.length : Nat)) []))) = H6 at e6 p6 ⊢
  have hTu6 := (hTu.same (w3.trans w5)).same e6
  obtain ⟨zs, hz, hZ⟩ := dpLstA hTu6
  have hzl : zs.length = Tu.length := by have := dpaLen hZ; simpa using this
  walk_at "sts"
  intro D nD
  refine lc_list (xs := zs) (fun i H' => ∃ ys G, H' D = some (.lst ys) ∧ (Apt H6 G ∧ Same H6 H') ∧ Same G H' ∧ New G D ∧ DpAll K G ys ((Tu.take i).map dRow)) ?_ ?_ ?_ ?_
  · exact ⟨[], fun _ => none, upd_same, ⟨fun _ _ _ => rfl, same_upd nD⟩, (fun _ _ z => by cases z), rfl, .nil⟩
  · rintro i H' _ ⟨ys, G, _, ⟨_, g1⟩, g2, _, _⟩
    exact g1.seq hz
  · rintro i x H' hx ⟨ys, G, y1, ⟨aG, sH⟩, g2, g3, hD⟩
    have hi : i < Tu.length := by rw [← hzl]; exact (List.getElem?_eq_some_iff.mp hx).1
    obtain ⟨q1, e1, e2⟩ := dpRowsAt hZ hi
    rw [hx] at e1
    cases e1
    have e3 := sH.seq e2
    have hyl : ys.length = i := by have := dpaLen hD; simp at this; omega
    walk_at "sts"
    refine w_new fun t nt => ?_
    have hDt : D ≠ t := ne_new y1 nt
    refine ⟨ys, by walk_at "hp", szlt (by omega), _, upd G t (.lst (iv (row Tu i))), upd_same, ⟨aG.new (nt.of sH), (sH.new nt).mut nD⟩, ?_, g3.upd hDt, ?_⟩
    · refine Same.mut ?_ (g3.upd hDt)
      exact (g2.trans (same_upd nt)).add upd_same
    · have et : Tu.take (i + 1) = Tu.take i ++ [row Tu i] := by
        rw [List.take_add_one, List.getElem?_eq_getElem hi]
        unfold row
        rw [List.getD_eq_getElem?_getD, List.getElem?_eq_getElem hi]
        rfl
      rw [et, List.map_append]
      exact dpaApp (hD.same (same_upd (nt.of g2))) (.cons (dpRow (SqL.of upd_same)) .nil)
  · rintro H7 ⟨ys, GT, y1, ⟨aT, e67⟩, g2, g3, hD⟩
    rw [hzl, List.take_length] at hD
    have sw6 : Same (wo H p) H6 := (w3.trans w5).trans e6
    have nD' : New (wo H p) D := (show New H6 D from nD).of sw6
    have aT0 : Apt (wo H p) GT := aT.of sw6
    have nTp : New GT p := aT p _ p6
    have p7 : H7 p = some (.ins C_Web dx (putF "ties" (.ref t1) (putF "many" (.int (Tu.length : Nat)) []))) := e67 _ _ p6
    have w7 : Same (wo H5 p) (wo H7 p) := same_wo (e6.trans e67) wo_new
    have dT : Dp K (wo H7 p) (.ref D) (dRows Tu) := dpWo p7 _ _ (.lst (SqL.of y1) (hD.same g2))
    walk_at "sts"
    refine w_sfq p7 T.cl_Web T.n_Web_turns (by show 2 < 1000; decide) ?_
    walk_at "sts"
    refine w_sfq upd_same T.cl_Web T.n_Web_rounds (by show 3 < 1000; decide) ?_
    rw [upd_upd]
    have e8 : Same (wo H7 p) (upd H7 p (.ins C_Web dx (putF "rounds" (.ref p3) (putF "turns" (.ref D) (putF "ties" (.ref t1) (putF "many" (.int (Tu.length : Nat)) [])))))) := same_wo_upd
    have p8 : upd H7 p (.ins C_Web dx (putF "rounds" (.ref p3) (putF "turns" (.ref D) (putF "ties" (.ref t1) (putF "many" (.int (Tu.length : Nat)) []))))) p = some (.ins C_Web dx (putF "rounds" (.ref p3) (putF "turns" (.ref D) (putF "ties" (.ref t1) (putF "many" (.int (Tu.length : Nat)) []))))) := upd_same
    generalize upd H7 p (.ins C_Web dx (putF "rounds" (.ref p3) (putF "turns" (.ref D) (putF "ties" (.ref t1) (putF "many" (.int (Tu.length : Nat)) []))))) = H8 at e8 p8 ⊢
    have f8 : Same (wo H3 p) H8 := (w5.trans w7).trans e8
    walk_at "sts"
    refine ⟨a, p3, ps.map V.ref, R, rfl, f8.seq hps, dR.same f8, by rw [hpl]; exact hC.rings.all, fun r hr => ?_, by omega, fun pS H9 yS GS s9 n9 l9 gA gB gC dS => ?_⟩
    · obtain ⟨x, l, rfl, _⟩ := hC.rings.ok r hr
      simp
    · have p9 := s9 _ _ p8
      walk_at "sts"
      refine w_sfq p9 T.cl_Web T.n_Web_sides (by show 4 < 1000; decide) ?_
      rw [wf_eq]
      have e10 : Same (wo H9 p) (upd H9 p (.ins C_Web dx (wf (Tu.length : Nat) t1 D p3 pS))) := same_wo_upd
      have w9 : Same (wo H3 p) (wo H9 p) := same_wo (f8.trans s9) wo_new
      have w79 : Same (wo H7 p) (wo H9 p) := same_wo (e8.trans s9) wo_new
      have w59 : Same (wo H5 p) (wo H9 p) := w7.trans w79
      have hpS : pS ≠ p := fun e => by
        subst e
        rw [l9] at p9
        cases p9
      have w08 : Same (wo H p) H8 := (w3.trans f8)
      have aS0 : Apt (wo H p) GS := gA.of w08
      have nSp : New GS p := gA p _ p8
      have n9' : New (wo H p) pS := n9.of w08
      have hDp : D ≠ p := Ne.symm (ne_new p6 nD)
      have hp3p : p3 ≠ p := fun e => by rw [e] at r1; rw [r1] at hp3; cases hp3
      refine q _ R ((w3.trans w9).trans e10) ⟨hF, hC⟩ fun W sW hnew hti => ⟨dx, t1, D, p3, pS, yS, ?_, ?_, ?_, ?_, ?_, ?_⟩
      · rw [hnew p wo_new]; exact upd_same
      · refine ⟨ps, SqL.of ?_, hti⟩
        rw [hnew t1 nt1']
        exact (w59.trans e10) _ _ l5
      · refine .lst (SqL.of ?_) (hD.same (apt_sub hnew aT0 ((same_wo g2 nTp).trans (w79.trans e10))))
        rw [hnew D nD']
        exact (w79.trans e10) _ _ (wo_get y1 hDp)
      · refine .lst (SqL.of ?_) (rD.same (apt_sub hnew rA0 ((same_wo rG' rNp).trans (w9.trans e10))))
        rw [hnew p3 n3']
        exact (w9.trans e10) _ _ (wo_get r1 hp3p)
      · refine SqL.of ?_
        rw [hnew pS n9']
        exact e10 _ _ (wo_get l9 hpS)
      · have := dS.same (apt_sub hnew aS0 ((same_wo gB nSp).trans e10))
        rw [hpl] at this
        exact this
end

def dEnd (e : Nat × Nat) : PyData := .tuple ([((e.1 : Nat) : Int), ((e.2 : Nat) : Int)].map PyData.int)
def dEnds (E : EdgL) : PyData := .list (E.map dEnd)
theorem goodEnds (E : EdgL) : Good 2 (dEnds E) := goodLst (goodMap fun e => goodTup (goodMap fun _ => goodInt))
theorem dpEnd {K : PySem.W.Frag} {H : Hp} {v : V} {e : Nat × Nat} (h : Dp K H v (dEnd e)) : ∃ p, v = .ref p ∧ SqT K H p [.int (e.1 : Nat), .int (e.2 : Nat)] := by
  obtain ⟨p, xs, rfl, h1, h2⟩ := dpTup h
  have e2 := dpAll_ints h2
  rw [e2] at h1
  exact ⟨p, rfl, h1⟩
theorem dEndT {K : PySem.W.Frag} {H : Hp} {p : Addr} {a b : Nat} (h : SqT K H p [.int (a : Nat), .int (b : Nat)]) : Dp K H (.ref p) (dEnd (a, b)) := .tup h (dpInts [((a : Nat) : Int), ((b : Nat) : Int)])
theorem dpEndsAt {K : PySem.W.Frag} {H : Hp} {xs : List V} {E : EdgL} (h : DpAll K H xs (E.map dEnd)) {i : Nat} (hi : i < E.length) : ∃ p, xs[i]? = some (.ref p) ∧ SqT K H p [.int ((en E i).1 : Nat), .int ((en E i).2 : Nat)] := by
  obtain ⟨v, h1, h2⟩ := dpaGet (i := i) (d := dEnd (en E i)) h (by
    rw [List.getElem?_map, en, List.getD_eq_getElem?_getD, List.getElem?_eq_getElem hi]
    rfl)
  obtain ⟨p, rfl, h3⟩ := dpEnd h2
  exact ⟨p, h1, h3⟩
theorem iv_put (r : List Nat) (k x : Nat) : (iv r).take k ++ [V.int (x : Int)] ++ (iv r).drop k = iv (putAt r k x) := by
  unfold iv putAt
  simp

theorem modNB (z : Int) {n : Nat} (h : 0 < n) : ∃ k : Nat, z % (n : Int) = (k : Int) ∧ k < n := by
  have h1 := Int.emod_nonneg z (show (n : Int) ≠ 0 by omega)
  have h2 := Int.emod_lt_of_pos z (show (0 : Int) < n by omega)
  exact ⟨(z % (n : Int)).toNat, by omega, by omega⟩
theorem iv_take (r : List Nat) (k : Nat) : (iv r).take k = iv (r.take k) := by unfold iv; rw [List.map_take]
theorem iv_drop (r : List Nat) (k : Nat) : (iv r).drop k = iv (r.drop k) := by unfold iv; rw [List.map_drop]
theorem iv_set (R : List V) (w : Nat) (v : V) : R.set w v = R.set w v := rfl
theorem split_at {r : List Nat} {a : Nat} (h : a < r.length) : r = r.take a ++ r.getD a 0 :: r.drop (a + 1) := by
  rw [List.getD_eq_getElem?_getD, List.getElem?_eq_getElem h, Option.getD_some, ← List.drop_eq_getElem_cons h, List.take_append_drop]
theorem split_two {r : List Nat} {a b : Nat} (h : b < r.length) (hab : a < b) : r = r.take a ++ r.getD a 0 :: ((r.drop (a + 1)).take (b - a - 1) ++ r.getD b 0 :: r.drop (b + 1)) := by
  have h1 := split_at (r := r) (a := a) (by omega)
  have h2 := split_at (r := r.drop (a + 1)) (a := b - a - 1) (by rw [List.length_drop]; omega)
  have e1 : (r.drop (a + 1)).getD (b - a - 1) 0 = r.getD b 0 := by
    rw [List.getD_eq_getElem?_getD, List.getElem?_drop, List.getD_eq_getElem?_getD]
    congr 2
    omega
  have e2 : (r.drop (a + 1)).drop (b - a - 1 + 1) = r.drop (b + 1) := by
    rw [List.drop_drop]
    congr 1
    omega
  rw [e1, e2] at h2
  rw [← h2]
  exact h1
theorem dpaSetB {K : PySem.W.Frag} {H : Hp} {v : V} {d : PyData} : ∀ {xs : List V} {ds : List PyData}, DpAll K H xs ds → Dp K H v d → ∀ i, DpAll K H (xs.set i v) (ds.set i d)
  | _, _, .nil, _, _ => .nil
  | _, _, .cons _ t, hv, 0 => .cons hv t
  | _, _, .cons h t, hv, i + 1 => .cons h (dpaSetB t hv i)
/-- the three lists while a web grows -/
structure StB (K : PySem.W.Frag) (H0 H G : Hp) (e t r : Addr) (xs ys : List V) (qs : List Addr) (E : EdgL) (T : Turns) (R : List (List Nat)) : Prop where
  e1 : H e = some (.lst xs)
  e2 : DpAll K G xs (E.map dEnd)
  r1 : H r = some (.lst ys)
  r2 : DpAll K G ys (R.map dRow)
  tl : LL H t qs T
  s0 : Same H0 G
  s1 : Same G H
  ge : New G e
  gt : New G t
  gr : New G r
  gq : ∀ q ∈ qs, New G q
  eq : e ∉ qs
  rq : r ∉ qs
  et : e ≠ t
  er : e ≠ r
  tr : t ≠ r
section
variable {K : PySem.W.Frag} {H0 H G : Hp} {e t r : Addr} {xs ys : List V} {qs : List Addr} {E : EdgL} {T : Turns} {R : List (List Nat)}
theorem StB.qne (h : StB K H0 H G e t r xs ys qs E T R) {p : Addr} (n : New H p) : p ∉ qs := fun z => by
  obtain ⟨k, hk, e'⟩ := List.mem_iff_getElem.mp z
  exact ne_new (h.tl.row k p (by rw [List.getElem?_eq_getElem hk, e'])) n rfl
theorem StB.alloc (h : StB K H0 H G e t r xs ys qs E T R) {p : Addr} {o : HO} (n : New H p) : StB K H0 (upd H p o) G e t r xs ys qs E T R := by
  have s := same_upd (o := o) n
  exact ⟨s _ _ h.e1, h.e2, s _ _ h.r1, h.r2, h.tl.same s, h.s0, h.s1.trans s, h.ge, h.gt, h.gr, h.gq, h.eq, h.rq, h.et, h.er, h.tr⟩
theorem StB.keep (h : StB K H0 H G e t r xs ys qs E T R) {p : Addr} {o : HO} (n : New H p) : StB K H0 (upd H p o) (upd G p o) e t r xs ys qs E T R := by
  have s := same_upd (o := o) n
  have sg := same_upd (o := o) (n.of h.s1)
  exact ⟨s _ _ h.e1, h.e2.same sg, s _ _ h.r1, h.r2.same sg, h.tl.same s, h.s0.trans sg, (h.s1.trans s).add upd_same, h.ge.upd (ne_new h.e1 n), h.gt.upd (ne_new h.tl.top n), h.gr.upd (ne_new h.r1 n), fun q hq => (h.gq q hq).upd (fun z => h.qne n (z ▸ hq)), h.eq, h.rq, h.et, h.er, h.tr⟩
theorem StB.setRow (h : StB K H0 H G e t r xs ys qs E T R) {p : Nat} {q : Addr} (hp : p < T.length) (hq : qs[p]? = some q) (l : List Nat) : StB K H0 (upd H q (.lst (iv l))) G e t r xs ys qs E (T.set p l) R := by
  have hm := List.mem_of_getElem? hq
  exact ⟨by rw [upd_ne (fun z => h.eq (by rw [z]; exact hm))]; exact h.e1, h.e2, by rw [upd_ne (fun z => h.rq (by rw [z]; exact hm))]; exact h.r1, h.r2, h.tl.set hp hq l, h.s0, h.s1.mut (h.gq q hm), h.ge, h.gt, h.gr, h.gq, h.eq, h.rq, h.et, h.er, h.tr⟩
theorem LL.upd_ne {H : Hp} {a x : Addr} {qs : List Addr} {T : List (List Nat)} {o : HO} (h : LL H a qs T) (h1 : x ≠ a) (h2 : x ∉ qs) : LL (upd H x o) a qs T :=
  ⟨by rw [L2.upd_ne (Ne.symm h1)]; exact h.top, h.len, h.nd, fun i q hq => by rw [L2.upd_ne (fun z => h2 (by rw [← z]; exact List.mem_of_getElem? hq))]; exact h.row i q hq, h.ne⟩
theorem StB.setRing (h : StB K H0 H G e t r xs ys qs E T R) {w : Nat} {v : V} {l : List Nat} (hv : Dp K G v (dRow l)) : StB K H0 (upd H r (.lst (ys.set w v))) G e t r xs (ys.set w v) qs E T (R.set w l) := by
  refine ⟨by rw [L2.upd_ne h.er]; exact h.e1, h.e2, upd_same, ?_, h.tl.upd_ne (Ne.symm h.tr) h.rq, h.s0, h.s1.mut h.gr, h.ge, h.gt, h.gr, h.gq, h.eq, h.rq, h.et, h.er, h.tr⟩
  rw [List.map_set]
  exact dpaSetB h.r2 hv _
theorem StB.pushRing (h : StB K H0 H G e t r xs ys qs E T R) {v : V} {l : List Nat} (hv : Dp K G v (dRow l)) : StB K H0 (upd H r (.lst (ys ++ [v]))) G e t r xs (ys ++ [v]) qs E T (R ++ [l]) := by
  refine ⟨by rw [L2.upd_ne h.er]; exact h.e1, h.e2, upd_same, ?_, h.tl.upd_ne (Ne.symm h.tr) h.rq, h.s0, h.s1.mut h.gr, h.ge, h.gt, h.gr, h.gq, h.eq, h.rq, h.et, h.er, h.tr⟩
  rw [List.map_append]
  exact dpaApp h.r2 (.cons hv .nil)
theorem StB.pushEnd (h : StB K H0 H G e t r xs ys qs E T R) {v : V} {x : Nat × Nat} (hv : Dp K G v (dEnd x)) : StB K H0 (upd H e (.lst (xs ++ [v]))) G e t r (xs ++ [v]) ys qs (E ++ [x]) T R := by
  refine ⟨upd_same, ?_, by rw [L2.upd_ne (Ne.symm h.er)]; exact h.r1, h.r2, h.tl.upd_ne h.et h.eq, h.s0, h.s1.mut h.ge, h.ge, h.gt, h.gr, h.gq, h.eq, h.rq, h.et, h.er, h.tr⟩
  rw [List.map_append]
  exact dpaApp h.e2 (.cons hv .nil)
theorem StB.pushTurn (h : StB K H0 H G e t r xs ys qs E T R) {q : Addr} {l : List Nat} (n : New H q) : StB K H0 (upd (upd H q (.lst (iv l))) t (.lst ((qs ++ [q]).map V.ref))) G e t r xs ys (qs ++ [q]) E (T ++ [l]) R := by
  have h2 := h.alloc (o := .lst (iv l)) n
  have hq := h.qne n
  have nqe := ne_new h.e1 n
  have nqr := ne_new h.r1 n
  refine ⟨by rw [L2.upd_ne h.et]; exact h2.e1, h.e2, by rw [L2.upd_ne (Ne.symm h.tr)]; exact h2.r1, h.r2, h2.tl.push upd_same hq (Ne.symm (ne_new h.tl.top n)), h.s0, h2.s1.mut h.gt, h.ge, h.gt, h.gr, fun z hz => ?_, by simp [h.eq, nqe], by simp [h.rq, nqr], h.et, h.er, h.tr⟩
  rcases List.mem_append.mp hz with hz | hz
  · exact h.gq z hz
  · rw [List.mem_singleton.mp hz]
    exact n.of h.s1
theorem StB.dE (h : StB K H0 H G e t r xs ys qs E T R) : Dp K H (.ref e) (dEnds E) := .lst (SqL.of h.e1) (h.e2.same h.s1)
theorem StB.dR (h : StB K H0 H G e t r xs ys qs E T R) : Dp K H (.ref r) (dRows R) := .lst (SqL.of h.r1) (h.r2.same h.s1)
end

section
variable {P : Program} {w : World} {K : PySem.W.Frag} {mg : Str → Option Value} {base : Heap} {C_Pull C_Push C_Web : Addr}
def spCell (K : PySem.W.Frag) : Sp := fun vs H Q _ => ∃ (p : Addr) (ns : List Int) (k : Nat), vs = [.ref p, .int k] ∧ SqL K H p (ns.map V.int) ∧ Q (.int (ns.getD k 0)) H
theorem ok_law_cell {f : Addr} {fd : FuncData} (F : Fun K "_law_cell" "_law_cell" s_law_cell f fd) (gf : mg "_law_cell" = some (.ref f)) (B : Bl mg) {C_Pull C_Push C_Web : Addr} (T : Txt K mg C_Pull C_Push C_Web) : Has P w K mg base CX0 1 "_law_cell" ["script", "k"] (spCell K) := by
  refine Has.mk' F gf (F.binds (ps := ["script", "k"]) fun _ _ _ _ _ _ us hl => match us, hl with | [_, _], _ => rfl) sc_law_cell (by walk_at "len") (fun cdv A outer s H vs Q E hr h => ?_)
  obtain ⟨p, ns, k, rfl, hp, q⟩ := h
  refine ⟨_, (pss_cons (ps_if (pt_cmpR op_lt (pv 1) (pe_callB (call_lenK K) (by rfl) B.len (by decide +kernel) (pa_cons (pv 0) pa_nil)) (nomark _)) (pss_one (ps_ret (pe_ix (ix_listK K) (pv 0) (pv 1) (fun _ _ => rfl)))) pss_nil)
 (pss_one (ps_ret pe_int))), ?_⟩
  walk_at "sts"
  refine ifd (fun hc => ?_) (fun hc => ?_)
  · rw [List.length_map] at hc
    have e : (ns.map V.int)[k]? = some (.int (ns.getD k 0)) := by
      rw [List.getElem?_map, List.getD_eq_getElem?_getD, List.getElem?_eq_getElem (by omega)]
      rfl
    walk_at "sts"
    exact q
  · rw [List.length_map] at hc
    walk_at "sts"
    rw [List.getD_eq_getElem?_getD, List.getElem?_eq_none (by omega)] at q
    exact q
def spLHead (K : PySem.W.Frag) : Sp := fun vs H Q _ => ∃ (a : Addr) (d : Nat) (E : EdgL), vs = [.ref a, .int d] ∧ Dp K H (.ref a) (dEnds E) ∧ d < 2 * E.length ∧ Q (.int (hd E d : Nat)) H
theorem ok_law_head {f : Addr} {fd : FuncData} (F : Fun K "_law_head" "_law_head" s_law_head f fd) (gf : mg "_law_head" = some (.ref f)) (B : Bl mg) {C_Pull C_Push C_Web : Addr} (T : Txt K mg C_Pull C_Push C_Web) : Has P w K mg base CX0 1 "_law_head" ["ends", "dart"] (spLHead K) := by
  refine Has.mk' F gf (F.binds (ps := ["ends", "dart"]) fun _ _ _ _ _ _ us hl => match us, hl with | [_, _], _ => rfl) sc_law_head (by walk_at "len") (fun cdv A outer s H vs Q E hr h => ?_)
  obtain ⟨a, d, E', rfl, hE, hd', q⟩ := h
  obtain ⟨xs, hx, hX⟩ := dpLstA hE
  obtain ⟨p, h1, h2⟩ := dpEndsAt hX (i := d / 2) (by omega)
  refine ⟨_, (pss_one (ps_ret (pe_ix (ix_tupK K) (pe_ix (ix_listK K) (pv 0) (pe_op op_fdivW (pv 1) pe_int) (fun _ _ => rfl)) (pe_op op_sub pe_int (pe_op op_mod (pv 1) pe_int)) (fun _ _ => rfl)))), ?_⟩
  have e : atI [V.int ((en E' (d / 2)).1 : Nat), .int ((en E' (d / 2)).2 : Nat)] (1 - (d : Int) % 2) = some (.int (hd E' d : Nat)) := by
    unfold hd
    by_cases hm : d % 2 = 0
    · rw [if_pos hm, show (1 - (d : Int) % 2) = ((1 : Nat) : Int) by omega]; exact atI_nat rfl
    · rw [if_neg hm, show (1 - (d : Int) % 2) = ((0 : Nat) : Int) by omega]; exact atI_nat rfl
  walk_at "sts"
  exact q
end

section
variable {P : Program} {w : World} {K : PySem.W.Frag} {mg : Str → Option Value} {base : Heap} {C_Pull C_Push C_Web : Addr}
def spPutB (K : PySem.W.Frag) : Sp := fun vs H Q _ => ∃ (a : Addr) (p d x : Nat) (T : Turns) (qs : List Addr), vs = [.ref a, .int p, .int d, .int x] ∧ LL H a qs T ∧ p < T.length ∧ d / 2 ∈ row T p ∧ (row T p).length ≤ 1000 ∧ ∀ q, qs[p]? = some q → Q .non (upd H q (.lst (iv (putAt (row T p) ((row T p).idxOf (d / 2) + 1) x))))
theorem ok_law_put {f : Addr} {fd : FuncData} (F : Fun K "_law_put" "_law_put" s_law_put f fd) (gf : mg "_law_put" = some (.ref f)) (B : Bl mg) {C_Pull C_Push C_Web : Addr} (T : Txt K mg C_Pull C_Push C_Web) : Has P w K mg base CX0 1 "_law_put" ["turns", "place", "behind", "fresh"] (spPutB K) := by
  refine Has.mk' F gf (F.binds (ps := ["turns", "place", "behind", "fresh"]) fun _ _ _ _ _ _ us hl => match us, hl with | [_, _, _, _], _ => rfl) sc_law_put (by walk_at "len") (fun cdv A outer s H vs Q E hr h => ?_)
  obtain ⟨a, p, d, x, Tu, qs, rfl, hL, hp, hm, hl, q⟩ := h
  obtain ⟨q1, f1, f2, f3⟩ := hL.get hp
  have htop := SqL.of (K := K) hL.top
  have hsl : (iv (row Tu p)).length < sizeLine := szlt (by rw [iv_len]; omega)
  have hix : (row Tu p).idxOf (d / 2) < (row Tu p).length := List.idxOf_lt_length_of_mem hm
  refine ⟨_, (pss_cons (ps_set (i := 4) sc_law_put.nd rfl (.inl rfl) (pe_ix (ix_listK K) (pv 0) (pv 1) (fun _ _ => rfl)))
 (pss_one (ps_expr (pe_bmK K (pe_bm PySem.F.plainAttrs_list PySem.F.slot_list_insert PySem.F.type_list_insert mt_insert (pv 4) (pa_cons (pe_op op_add (pe_bmK K (pe_bm PySem.F.plainAttrs_list PySem.F.slot_list_index PySem.F.type_list_index (mt_indexK K) (pv 4) (pa_cons (pe_op op_fdivW (pv 2) pe_int) pa_nil))) pe_int) (pa_cons (pv 3) pa_nil))))))), ?_⟩
  walk_at "sts"
  refine w_idx (SqL.of f3) hm ?_
  walk_at "sts"
  have hix2 : (((row Tu p).idxOf (d / 2) : Nat) : Int) + 1 < 2 ^ 63 := by omega
  refine w_ins f3 hsl (by omega) hix2 ?_
  have ep : List.take (Int.toNat ((((row Tu p).idxOf (d / 2) : Nat) : Int) + 1)) (iv (row Tu p)) ++ [V.int (x : Int)] ++ List.drop (Int.toNat ((((row Tu p).idxOf (d / 2) : Nat) : Int) + 1)) (iv (row Tu p)) = iv (putAt (row Tu p) ((row Tu p).idxOf (d / 2) + 1) x) := iv_put _ _ _
  rw [ep]
  exact q q1 f1
theorem sz1000 {n : Nat} (h : n ≤ 1000) : n ≤ sizeLine := Nat.le_trans h (by decide)
/-- between the two halves of a step -/
def MidB (K : PySem.W.Frag) (H0 H' G : Hp) (e t r : Addr) (xs : List V) (E : EdgL) (T : Turns) (fl : Bool) (lf two pl : Nat) : Prop :=
  ∃ (G1 : Hp) (ys1 : List V) (qs1 : List Addr) (T1 : Turns) (R1 : List (List Nat)), Same G G1 ∧ StB K H0 H' G1 e t r xs ys1 qs1 E T1 R1 ∧ GB (E ++ [newE fl (hd E lf) two]) (putBehind T1 (hd E lf) (lf / 2) E.length) R1 ∧ hd E lf < T1.length ∧ row T1 (hd E lf) = row T (hd E lf) ∧ T.length ≤ T1.length ∧ T1.length ≤ pl
def spStepB (K : PySem.W.Frag) : Sp := fun vs H Q _ => ∃ (c : Int) (e t r : Addr) (pl : Nat), vs = [.int c, .ref e, .ref t, .ref r, .int pl] ∧ ∃ (H0 G : Hp) (xs ys : List V) (qs : List Addr) (E : EdgL) (T : Turns) (R : List (List Nat)), StB K H0 H G e t r xs ys qs E T R ∧ GB E T R ∧ 0 < E.length ∧ E.length ≤ 100 ∧ T.length ≤ pl ∧ pl ≤ 100 ∧
  ∀ H' G' xs' ys' qs' E' T' R', StB K H0 H' G' e t r xs' ys' qs' E' T' R' → GB E' T' R' → E'.length ≤ E.length + 1 → E.length ≤ E'.length → T'.length ≤ pl → T.length ≤ T'.length → Q .non H'
theorem ok_law_step {f : Addr} {fd : FuncData} (F : Fun K "_law_step" "_law_step" s_law_step f fd) (gf : mg "_law_step" = some (.ref f)) (B : Bl mg) {C_Pull C_Push C_Web : Addr} (T : Txt K mg C_Pull C_Push C_Web) (h_law_head : Has P w K mg base CX0 1 "_law_head" ["ends", "dart"] (spLHead K)) (h_law_put : Has P w K mg base CX0 1 "_law_put" ["turns", "place", "behind", "fresh"] (spPutB K)) : Has P w K mg base CX0 2 "_law_step" ["cell", "ends", "turns", "rings", "places"] (spStepB K) := by
  refine Has.mk' F gf (F.binds (ps := ["cell", "ends", "turns", "rings", "places"]) fun _ _ _ _ _ _ us hl => match us, hl with | [_, _, _, _, _], _ => rfl) sc_law_step (by walk_at "len") (fun cdv A outer s H vs Q E hr h => ?_)
  obtain ⟨c, e, t, r, pl, rfl, H0, G, xs, ys, qs, E', Tu, R, hS, hG, hEp, hE1, hT1, hpl, q⟩ := h
  have ok := hG.flat.ok
  have hrl := hG.rlen
  have hxl : xs.length = E'.length := by have := dpaLen hS.e2; simpa using this
  have hyl : ys.length = R.length := by have := dpaLen hS.r2; simpa using this
  have hEpos : 0 < E'.length := hEp
  have hRpos : 0 < R.length := by
    have h0 : (0 : Nat) ∈ R.flatten := hG.rings.mem.mpr (by omega)
    obtain ⟨x, hx, _⟩ := List.mem_flatten.mp h0
    exact List.length_pos_of_mem hx
  obtain ⟨M, hM, hM2⟩ : ∃ M : Nat, c % 1000000007 * 48271 % 2147483647 = (M : Int) ∧ M < 2147483647 := ⟨(c % 1000000007 * 48271 % 2147483647).toNat, by omega, by omega⟩
  have hr1 := SqL.of (K := K) hS.r1
  have he1 := SqL.of (K := K) hS.e1
  refine ⟨_, (pss_cons (ps_set (i := 5) sc_law_step.nd rfl (.inl rfl) (pe_op op_mod (pe_op op_mulX (pe_op op_mod (pv 0) pe_int) pe_int) pe_int))
 (pss_cons (ps_set (i := 6) sc_law_step.nd rfl (.inl rfl) (pe_op op_mod (pe_op op_fdivW (pv 5) pe_int) (pe_callB (call_lenK K) (by rfl) B.len (by decide +kernel) (pa_cons (pv 3) pa_nil))))
 (pss_cons (ps_set (i := 7) sc_law_step.nd rfl (.inl rfl) (pe_op op_fdivW (pe_op op_fdivW (pv 5) pe_int) (pe_callB (call_lenK K) (by rfl) B.len (by decide +kernel) (pa_cons (pv 3) pa_nil))))
 (pss_cons (ps_set (i := 8) sc_law_step.nd rfl (.inl rfl) (pe_ix (ix_listK K) (pv 3) (pv 6) (fun _ _ => rfl)))
 (pss_cons (ps_set (i := 9) sc_law_step.nd rfl (.inl rfl) (pe_op op_mod (pv 7) (pe_callB (call_lenK K) (by rfl) B.len (by decide +kernel) (pa_cons (pv 8) pa_nil))))
 (pss_cons (ps_set (i := 10) sc_law_step.nd rfl (.inl rfl) (pv 9))
 (pss_cutX (ps_if (pt_cmpR op_eq (pe_op op_mod (pv 5) pe_int) pe_int (nomark _)) (pss_one (ps_set (i := 10) sc_law_step.nd rfl (.inl rfl) (pe_op op_add (pv 9) (pe_op op_mod (pe_op op_fdivW (pv 7) (pe_callB (call_lenK K) (by rfl) B.len (by decide +kernel) (pa_cons (pv 8) pa_nil))) (pe_op op_sub (pe_callB (call_lenK K) (by rfl) B.len (by decide +kernel) (pa_cons (pv 8) pa_nil)) (pv 9)))))) pss_nil)
 (pss_cons (ps_set (i := 11) sc_law_step.nd rfl (.inl rfl) (pe_fn h_law_head (hr.mono (by decide)) (by rfl) (pa_cons (pv 1) (pa_cons (pe_ix (ix_listK K) (pv 8) (pv 9) (fun _ _ => rfl)) pa_nil))))
 (pss_cons (ps_set (i := 12) sc_law_step.nd rfl (.inl rfl) (pe_fn h_law_head (hr.mono (by decide)) (by rfl) (pa_cons (pv 1) (pa_cons (pe_ix (ix_listK K) (pv 8) (pv 10) (fun _ _ => rfl)) pa_nil))))
 (pss_cons (ps_set (i := 13) sc_law_step.nd rfl (.inl rfl) (pe_callB (call_lenK K) (by rfl) B.len (by decide +kernel) (pa_cons (pv 1) pa_nil)))
 (pss_cons (ps_set (i := 14) sc_law_step.nd rfl (.inl rfl) (pe_op op_add (pe_op op_mulX pe_int (pv 13)) (pe_op op_mod (pe_op op_fdivW (pv 0) pe_int) pe_int)))
 (pss_cons (ps_set (i := 15) sc_law_step.nd rfl (.inl rfl) (pe_op op_sub (pe_op op_add (pe_op op_mulX pe_int (pv 13)) pe_int) (pv 14)))
 (pss_cons (ps_if (PW.pt (pw_and (pt_cmpR op_eq (pv 11) (pv 12) (nomark _)) (pw_and1 (pt_cmpR op_ge (pe_callB (call_lenK K) (by rfl) B.len (by decide +kernel) (pa_cons (pv 2) pa_nil)) (pv 4) (nomark _))))) (pss_one ps_retN) pss_nil)
 (pss_cutX (ps_if (pt_cmpR op_eq (pv 11) (pv 12) (nomark _)) (pss_cons (ps_set (i := 12) sc_law_step.nd rfl (.inl rfl) (pe_callB (call_lenK K) (by rfl) B.len (by decide +kernel) (pa_cons (pv 2) pa_nil)))
 (pss_cons (ps_expr (pe_bmK K (pe_bm PySem.F.plainAttrs_list PySem.F.slot_list_append PySem.F.type_list_append mt_append (pv 2) (pa_cons (pe_lst (pa_cons (pv 13) pa_nil)) pa_nil))))
 (pss_one (ps_asg (pe_op op_cat (pe_op op_cat (pe_slice (sl_listK K) (pv 8) po_none (po_some (pe_op op_add (pv 9) pe_int))) (pe_lst (pa_cons (pv 14) (pa_cons (pv 15) pa_nil)))) (pe_slice (sl_listK K) (pv 8) (po_some (pe_op op_add (pv 9) pe_int)) po_none)) (pg_sub (pv 3) (pv 6) set_list))))) (pss_cons (ps_expr (pe_fn h_law_put (hr.mono (by decide)) (by rfl) (pa_cons (pv 2) (pa_cons (pv 12) (pa_cons (pe_ix (ix_listK K) (pv 8) (pv 10) (fun _ _ => rfl)) (pa_cons (pv 13) pa_nil))))))
 (pss_cons (ps_asg (pe_op op_cat (pe_op op_cat (pe_slice (sl_listK K) (pv 8) po_none (po_some (pe_op op_add (pv 9) pe_int))) (pe_lst (pa_cons (pv 14) pa_nil))) (pe_slice (sl_listK K) (pv 8) (po_some (pe_op op_add (pv 10) pe_int)) po_none)) (pg_sub (pv 3) (pv 6) set_list))
 (pss_one (ps_expr (pe_bmK K (pe_bm PySem.F.plainAttrs_list PySem.F.slot_list_append PySem.F.type_list_append mt_append (pv 3) (pa_cons (pe_op op_cat (pe_slice (sl_listK K) (pv 8) (po_some (pe_op op_add (pv 9) pe_int)) (po_some (pe_op op_add (pv 10) pe_int))) (pe_lst (pa_cons (pv 15) pa_nil))) pa_nil))))))))
 (pss_cons (ps_expr (pe_fn h_law_put (hr.mono (by decide)) (by rfl) (pa_cons (pv 2) (pa_cons (pv 11) (pa_cons (pe_ix (ix_listK K) (pv 8) (pv 9) (fun _ _ => rfl)) (pa_cons (pv 13) pa_nil))))))
 (pss_one (ps_if (pt_cmpR op_eq (pe_op op_mod (pv 14) pe_int) pe_int (nomark _)) (pss_one (ps_expr (pe_bmK K (pe_bm PySem.F.plainAttrs_list PySem.F.slot_list_append PySem.F.type_list_append mt_append (pv 1) (pa_cons (pe_tup (pa_cons (pv 11) (pa_cons (pv 12) pa_nil))) pa_nil))))) (pss_one (ps_expr (pe_bmK K (pe_bm PySem.F.plainAttrs_list PySem.F.slot_list_append PySem.F.type_list_append mt_append (pv 1) (pa_cons (pe_tup (pa_cons (pv 12) (pa_cons (pv 11) pa_nil))) pa_nil)))))))))))))))))))))), ?_⟩
  walk_at "sts"
  rw [hM, hyl]
  obtain ⟨wh, hwh, hwh2⟩ := modNB ((M : Int) / 2) hRpos
  rw [hwh]
  obtain ⟨z, hz1, hz2⟩ := dpRowsAt (hS.r2.same hS.s1) hwh2
  obtain ⟨zG, hzG1, hzG⟩ := dpRowsAt hS.r2 hwh2
  rw [hz1] at hzG1
  cases hzG1
  obtain ⟨rs, hrs⟩ : ∃ rs : Nat, (M : Int) / 2 / ((R.length : Nat) : Int) = (rs : Int) := ⟨M / 2 / R.length, by rw [Int.natCast_ediv, Int.natCast_ediv]; rfl⟩
  have hring : R[wh]? = some (row R wh) := by unfold row; rw [List.getD_eq_getElem?_getD, List.getElem?_eq_getElem hwh2]; rfl
  have hrpos : 0 < (row R wh).length := by
    obtain ⟨x, l, e1, _⟩ := hG.rings.ok _ (List.mem_of_getElem? hring)
    rw [e1]
    exact Nat.succ_pos _
  have hrle : (row R wh).length ≤ 200 := by
    have := nodup_sub_len (ys := List.range (2 * E'.length)) (hG.rings.nd.sublist (List.sublist_flatten_of_mem (List.mem_of_getElem? hring))) fun z hz => List.mem_range.mpr (hG.lt hring hz)
    simp at this
    omega
  have hmem : ∀ i, i < (row R wh).length → (row R wh).getD i 0 < 2 * E'.length := fun i hi => hG.lt hring (by rw [List.getD_eq_getElem?_getD, List.getElem?_eq_getElem hi]; exact List.getElem_mem hi)
  rw [hrs]
  obtain ⟨a, ha, ha2⟩ := modNB (rs : Int) hrpos
  walk_at "sts"
  rw [iv_len]
  walk_at "sts"
  rw [ha]
  have hat := iv_at ha2
  try dsimp only
  refine w_cut (fun σ' H1 => ∃ (b : Nat), σ' = [some (.int c), some (.ref e), some (.ref t), some (.ref r), some (.int pl), some (.int (M : Nat)), some (.int (wh : Nat)), some (.int (rs : Nat)), some (.ref z), some (.int (a : Nat)), some (.int (b : Nat)), none, none, none, none, none] ∧ H1 = H ∧ a ≤ b ∧ b < (row R wh).length) ?_ ?_
  · walk_at "sts"
    refine ifd (fun h1 => ?_) (fun h1 => ?_)
    · obtain ⟨b, hb, hb2⟩ := modNB ((rs : Int) / ((row R wh).length : Nat)) (show 0 < (row R wh).length - a by omega)
      walk_at "sts"
      rw [iv_len]
      walk_at "sts"
      rw [iv_len, show (((row R wh).length : Nat) : Int) - (a : Int) = (((row R wh).length - a : Nat) : Int) by omega]
      walk_at "sts"
      rw [hb]
      exact ⟨a + b, rfl, rfl, by omega, by omega⟩
    · walk_at "sts"
      exact ⟨a, rfl, rfl, Nat.le_refl _, ha2⟩
  rintro σ H1 ⟨b, rfl, rfl, hab, hb⟩
  have hbt := iv_at hb
  have hl := hmem a ha2
  have hr := hmem b hb
  walk_at "sts"
  have hsp := split_at ha2
  have hsp2 : a < b → _ := fun h => split_two hb h
  obtain ⟨lf, hlf⟩ : ∃ lf, lf = (row R wh).getD a 0 := ⟨_, rfl⟩
  obtain ⟨rt, hrt⟩ : ∃ rt, rt = (row R wh).getD b 0 := ⟨_, rfl⟩
  have hdl : a = b → lf = rt := fun e => by rw [hlf, hrt, e]
  rw [← hlf] at hsp hsp2 hl hat ⊢
  rw [← hrt] at hsp2 hr hbt
  refine ⟨e, lf, E', rfl, hS.dE, hl, ?_⟩
  walk_at "sts"
  refine ⟨e, rt, E', rfl, hS.dE, hr, ?_⟩
  walk_at "sts"
  have htl : (qs.map V.ref).length = Tu.length := by rw [List.length_map, hS.tl.len]
  have ht := SqL.of (K := K) hS.tl.top
  obtain ⟨fl, hfl⟩ : ∃ fl : Bool, c / 3 % 2 = if fl = true then 1 else 0 := by
    by_cases h : c / 3 % 2 = 1
    · exact ⟨true, h⟩
    · exact ⟨false, by show c / 3 % 2 = 0; omega⟩
  have hout : 2 * ((E'.length : Nat) : Int) + c / 3 % 2 = ((newD E' fl : Nat) : Int) := by
    rw [hfl]
    unfold newD
    cases fl <;> simp
  have hback : 4 * ((E'.length : Nat) : Int) + 1 - ((newD E' fl : Nat) : Int) = ((newD E' (!fl) : Nat) : Int) := by
    unfold newD
    cases fl <;> simp <;> omega
  have hplt := ok.hd_lt hl
  have hplr := ok.hd_lt hr
  have rl : ∀ p, p < Tu.length → (row Tu p).length ≤ E'.length := fun p hp' => by
    have := nodup_sub_len (ys := List.range E'.length) (ok.nd p hp') fun z hz => List.mem_range.mpr ((ok.mem p hp' z).mp hz).1
    simpa using this
  rw [hxl, hout, hback]
  walk_at "sts"
  refine ifd (fun heq => ?_) (fun hne => ?_)
  have heq' : hd E' lf = hd E' rt := by omega
  walk_at "sts"
  rw [htl]
  refine ifd (fun hle => ?_) (fun hlt => ?_)
  · walk_at "sts"
    exact q _ G xs ys qs E' Tu R hS hG (by omega) (Nat.le_refl _) hT1 (Nat.le_refl _)
  walk_at "sts"
  try dsimp only
  refine w_cut (fun σ' H2 => ∃ two : Nat, σ' = [some (.int c), some (.ref e), some (.ref t), some (.ref r), some (.int pl), some (.int (M : Nat)), some (.int (wh : Nat)), some (.int (rs : Nat)), some (.ref z), some (.int (a : Nat)), some (.int (b : Nat)), some (.int (hd E' lf : Nat)), some (.int (two : Nat)), some (.int (E'.length : Nat)), some (.int (newD E' fl : Nat)), some (.int (newD E' (!fl) : Nat))] ∧ MidB K H0 H2 G e t r xs E' Tu fl lf two pl) ?_ ?_
  · walk_at "sts"
    rw [htl]
    refine w_new fun qn nq => ?_
    have sz1 : (qs.map V.ref).length < sizeLine := szlt (by rw [htl]; omega)
    have t1 := ne_new hS.tl.top nq
    have top1 : upd H1 qn (.lst [.int (E'.length : Nat)]) t = some (.lst (qs.map V.ref)) := by rw [upd_ne t1]; exact hS.tl.top
    walk_at "sts"
    have st1 : StB K H0 (upd (upd H1 qn (.lst [.int (E'.length : Nat)])) t (.lst (qs.map V.ref ++ [.ref qn]))) G e t r xs ys (qs ++ [qn]) E' (Tu ++ [[E'.length]]) R := by
      have := hS.pushTurn (l := [E'.length]) nq
      rw [List.map_append] at this
      exact this
    generalize upd (upd H1 qn (.lst [.int (E'.length : Nat)])) t (.lst (qs.map V.ref ++ [.ref qn])) = H2 at st1 ⊢
    clear top1
    obtain ⟨z', hz1', hz2'⟩ := dpRowsAt (st1.r2.same st1.s1) hwh2
    rw [hz1] at hz1'
    cases hz1'
    walk_at "sts"
    refine w_new fun q1 m1 => ?_
    rw [show ((a : Nat) : Int) + 1 = ((a + 1 : Nat) : Int) from rfl, cutV_to, iv_take]
    have st2 := st1.alloc (o := .lst (iv ((row R wh).take (a + 1)))) m1
    have k1 := upd_same (H := H2) (a := q1) (o := .lst (iv ((row R wh).take (a + 1))))
    have u1 := same_upd (o := .lst (iv ((row R wh).take (a + 1)))) m1
    have hz3 := u1.seq hz2'
    generalize upd H2 q1 (.lst (iv ((row R wh).take (a + 1)))) = H3 at st2 k1 hz3 ⊢
    clear u1 m1
    walk_at "sts"
    refine w_new fun q2 m2 => ?_
    have st3 := st2.alloc (o := .lst [.int (newD E' fl : Nat), .int (newD E' (!fl) : Nat)]) m2
    have k2 := upd_same (H := H3) (a := q2) (o := .lst [.int (newD E' fl : Nat), .int (newD E' (!fl) : Nat)])
    have u2 := same_upd (o := .lst [.int (newD E' fl : Nat), .int (newD E' (!fl) : Nat)]) m2
    have hz4 := u2.seq hz3
    have k1 := u2 _ _ k1
    generalize upd H3 q2 (.lst [.int (newD E' fl : Nat), .int (newD E' (!fl) : Nat)]) = H4 at st3 k1 k2 hz4 ⊢
    clear u2 m2
    refine ⟨q1, q2, _, _, rfl, rfl, k1, k2, sz1000 (by rw [iv_len, List.length_take]; show min (a + 1) (row R wh).length + 2 ≤ 1000; omega), fun q3 m3 => ?_⟩
    have st4 := st3.alloc (o := .lst (iv ((row R wh).take (a + 1)) ++ [.int (newD E' fl : Nat), .int (newD E' (!fl) : Nat)])) m3
    have k3 := upd_same (H := H4) (a := q3) (o := .lst (iv ((row R wh).take (a + 1)) ++ [.int (newD E' fl : Nat), .int (newD E' (!fl) : Nat)]))
    have u3 := same_upd (o := .lst (iv ((row R wh).take (a + 1)) ++ [.int (newD E' fl : Nat), .int (newD E' (!fl) : Nat)])) m3
    have hz5 := u3.seq hz4
    generalize upd H4 q3 (.lst (iv ((row R wh).take (a + 1)) ++ [.int (newD E' fl : Nat), .int (newD E' (!fl) : Nat)])) = H5 at st4 k3 hz5 ⊢
    clear u3 m3 k1 k2
    walk_at "sts"
    refine w_new fun q4 m4 => ?_
    rw [show ((a : Nat) : Int) + 1 = ((a + 1 : Nat) : Int) from rfl, cutV_from, iv_drop]
    have st5 := st4.alloc (o := .lst (iv ((row R wh).drop (a + 1)))) m4
    have k4 := upd_same (H := H5) (a := q4) (o := .lst (iv ((row R wh).drop (a + 1))))
    have k3 := same_upd (o := .lst (iv ((row R wh).drop (a + 1)))) m4 _ _ k3
    generalize upd H5 q4 (.lst (iv ((row R wh).drop (a + 1)))) = H6 at st5 k3 k4 ⊢
    clear m4
    refine ⟨q3, q4, _, _, rfl, rfl, k3, k4, sz1000 (by rw [List.length_append, iv_len, iv_len, List.length_take, List.length_drop]; show min (a + 1) (row R wh).length + 2 + ((row R wh).length - (a + 1)) ≤ 1000; omega), fun q5 m5 => ?_⟩
    obtain ⟨ring', hring'⟩ : ∃ l, l = (row R wh).take a ++ lf :: newD E' fl :: newD E' (!fl) :: (row R wh).drop (a + 1) := ⟨_, rfl⟩
    have hiv : iv ((row R wh).take (a + 1)) ++ [.int (newD E' fl : Nat), .int (newD E' (!fl) : Nat)] ++ iv ((row R wh).drop (a + 1)) = iv ring' := by
      rw [hring', List.take_add_one, List.getElem?_eq_getElem ha2, Option.toList_some, iv_app, iv_app, show (row R wh)[a] = lf by rw [hlf, List.getD_eq_getElem?_getD, List.getElem?_eq_getElem ha2]; rfl, List.append_assoc, List.append_assoc]
      rfl
    rw [hiv]
    have st6 := st5.keep (o := .lst (iv ring')) m5
    have gk : upd G q5 (.lst (iv ring')) q5 = some (.lst (iv ring')) := upd_same
    have sG7 : Same G (upd G q5 (.lst (iv ring'))) := same_upd ((show New _ q5 from m5).of st5.s1)
    generalize upd H6 q5 (.lst (iv ring')) = H7 at st6 ⊢
    generalize upd G q5 (.lst (iv ring')) = G7 at st6 gk sG7
    have hr7 := st6.r1
    walk_at "sts"
    have st7 := st6.setRing (w := wh) (v := .ref q5) (l := ring') (dpRow (SqL.of gk))
    refine ⟨Tu.length, rfl, G7, _, _, _, _, sG7, st7, ?_, by rw [List.length_append]; omega, ?_, by rw [List.length_append]; omega, by rw [List.length_append]; show Tu.length + 1 ≤ pl; omega⟩
    · rw [put_push hplt, hring']
      exact hG.leaf (by rw [hring]; exact congrArg some hsp) fl
    · rw [row_push, if_neg (by omega)]
  rintro σ H2 ⟨two, rfl, G1, ys1, qs1, T1, R1, sG1, hS1, hG1, hp1, hrow1, hT1', hT1''⟩
  have hz9 : SqL K H2 z (iv (row R wh)) := (sG1.trans hS1.s1).seq hzG
  walk_at "sts"
  refine ⟨t, hd E' lf, lf, E'.length, T1, qs1, rfl, hS1.tl, hp1, by rw [hrow1]; exact ok.hd_mem hl, by rw [hrow1]; have := rl _ hplt; omega, fun qp hqp => ?_⟩
  have st := hS1.setRow hp1 hqp (putAt (row T1 (hd E' lf)) ((row T1 (hd E' lf)).idxOf (lf / 2) + 1) E'.length)
  generalize upd H2 qp (.lst (iv (putAt (row T1 (hd E' lf)) ((row T1 (hd E' lf)).idxOf (lf / 2) + 1) E'.length))) = H3 at st ⊢
  have hxsz : xs.length < sizeLine := szlt (by omega)
  have he3 := SqL.of (K := K) st.e1
  walk_at "sts"
  cases fl with
  | false =>
    have e0 : ((newD E' false : Nat) : Int) % 2 = 0 := by unfold newD; simp
    walk_at "sts"
    refine w_new fun pt npt => ?_
    have st' := st.keep (o := .tup [.int (hd E' lf : Nat), .int (two : Nat)]) npt
    have gk : upd G1 pt (.tup [.int (hd E' lf : Nat), .int (two : Nat)]) pt = some (.tup [.int (hd E' lf : Nat), .int (two : Nat)]) := upd_same
    generalize upd H3 pt (.tup [.int (hd E' lf : Nat), .int (two : Nat)]) = H4 at st' ⊢
    generalize upd G1 pt (.tup [.int (hd E' lf : Nat), .int (two : Nat)]) = G4 at st' gk
    have he4 := st'.e1
    have he5 := SqL.of (K := K) st'.e1
    walk_at "sts"
    have st2 := st'.pushEnd (x := newE false (hd E' lf) two) (dEndT (SqT.of gk))
    exact q _ _ _ _ _ _ _ _ st2 hG1 (by rw [List.length_append]; exact Nat.le_refl _) (by rw [List.length_append]; omega) (by rw [List.length_set]; exact hT1'') (by rw [List.length_set]; exact hT1')
  | true =>
    have e0 : ((newD E' true : Nat) : Int) % 2 = 1 := by unfold newD; simp
    walk_at "sts"
    refine w_new fun pt npt => ?_
    have st' := st.keep (o := .tup [.int (two : Nat), .int (hd E' lf : Nat)]) npt
    have gk : upd G1 pt (.tup [.int (two : Nat), .int (hd E' lf : Nat)]) pt = some (.tup [.int (two : Nat), .int (hd E' lf : Nat)]) := upd_same
    generalize upd H3 pt (.tup [.int (two : Nat), .int (hd E' lf : Nat)]) = H4 at st' ⊢
    generalize upd G1 pt (.tup [.int (two : Nat), .int (hd E' lf : Nat)]) = G4 at st' gk
    have he4 := st'.e1
    have he5 := SqL.of (K := K) st'.e1
    walk_at "sts"
    have st2 := st'.pushEnd (x := newE true (hd E' lf) two) (dEndT (SqT.of gk))
    exact q _ _ _ _ _ _ _ _ st2 hG1 (by rw [List.length_append]; exact Nat.le_refl _) (by rw [List.length_append]; omega) (by rw [List.length_set]; exact hT1'') (by rw [List.length_set]; exact hT1')

  refine ifF rfl ?_
  walk_at "sts"
  try dsimp only
  refine w_cut (fun σ' H2 => ∃ two : Nat, σ' = [some (.int c), some (.ref e), some (.ref t), some (.ref r), some (.int pl), some (.int (M : Nat)), some (.int (wh : Nat)), some (.int (rs : Nat)), some (.ref z), some (.int (a : Nat)), some (.int (b : Nat)), some (.int (hd E' lf : Nat)), some (.int (two : Nat)), some (.int (E'.length : Nat)), some (.int (newD E' fl : Nat)), some (.int (newD E' (!fl) : Nat))] ∧ MidB K H0 H2 G e t r xs E' Tu fl lf two pl) ?_ ?_
  · walk_at "sts"
    refine ⟨t, hd E' rt, rt, E'.length, Tu, qs, rfl, hS.tl, hplr, ok.hd_mem hr, by have := rl _ hplr; omega, fun qp hqp => ?_⟩
    have hne' : hd E' lf ≠ hd E' rt := by omega
    have hab' : a < b := by
      rcases Nat.lt_or_ge a b with h | h
      · exact h
      · exact absurd (by rw [hdl (by omega)]) hne'
    have st1 := hS.setRow hplr hqp (putAt (row Tu (hd E' rt)) ((row Tu (hd E' rt)).idxOf (rt / 2) + 1) E'.length)
    generalize upd H1 qp (.lst (iv (putAt (row Tu (hd E' rt)) ((row Tu (hd E' rt)).idxOf (rt / 2) + 1) E'.length))) = H2 at st1 ⊢
    obtain ⟨z', hz1', hz2'⟩ := dpRowsAt (st1.r2.same st1.s1) hwh2
    rw [hz1] at hz1'
    cases hz1'
    walk_at "sts"
    refine w_new fun q1 m1 => ?_
    rw [show ((a : Nat) : Int) + 1 = ((a + 1 : Nat) : Int) from rfl, cutV_to, iv_take]
    have st2 := st1.alloc (o := .lst (iv ((row R wh).take (a + 1)))) m1
    have k1 := upd_same (H := H2) (a := q1) (o := .lst (iv ((row R wh).take (a + 1))))
    have u1 := same_upd (o := .lst (iv ((row R wh).take (a + 1)))) m1
    have hz3 := u1.seq hz2'
    generalize upd H2 q1 (.lst (iv ((row R wh).take (a + 1)))) = H3 at st2 k1 hz3 ⊢
    clear u1 m1
    walk_at "sts"
    refine w_new fun q2 m2 => ?_
    have st3 := st2.alloc (o := .lst [.int (newD E' fl : Nat)]) m2
    have k2 := upd_same (H := H3) (a := q2) (o := .lst [.int (newD E' fl : Nat)])
    have u2 := same_upd (o := .lst [.int (newD E' fl : Nat)]) m2
    have hz4 := u2.seq hz3
    have k1 := u2 _ _ k1
    generalize upd H3 q2 (.lst [.int (newD E' fl : Nat)]) = H4 at st3 k1 k2 hz4 ⊢
    clear u2 m2
    refine ⟨q1, q2, _, _, rfl, rfl, k1, k2, sz1000 (by rw [iv_len, List.length_take]; show min (a + 1) (row R wh).length + 1 ≤ 1000; omega), fun q3 m3 => ?_⟩
    have st4 := st3.alloc (o := .lst (iv ((row R wh).take (a + 1)) ++ [.int (newD E' fl : Nat)])) m3
    have k3 := upd_same (H := H4) (a := q3) (o := .lst (iv ((row R wh).take (a + 1)) ++ [.int (newD E' fl : Nat)]))
    have u3 := same_upd (o := .lst (iv ((row R wh).take (a + 1)) ++ [.int (newD E' fl : Nat)])) m3
    have hz5 := u3.seq hz4
    generalize upd H4 q3 (.lst (iv ((row R wh).take (a + 1)) ++ [.int (newD E' fl : Nat)])) = H5 at st4 k3 hz5 ⊢
    clear u3 m3 k1 k2
    walk_at "sts"
    refine w_new fun q4 m4 => ?_
    rw [show ((b : Nat) : Int) + 1 = ((b + 1 : Nat) : Int) from rfl, cutV_from, iv_drop]
    have st5 := st4.alloc (o := .lst (iv ((row R wh).drop (b + 1)))) m4
    have k4 := upd_same (H := H5) (a := q4) (o := .lst (iv ((row R wh).drop (b + 1))))
    have u4 := same_upd (o := .lst (iv ((row R wh).drop (b + 1)))) m4
    have k3 := u4 _ _ k3
    have hz6 := u4.seq hz5
    generalize upd H5 q4 (.lst (iv ((row R wh).drop (b + 1)))) = H6 at st5 k3 k4 hz6 ⊢
    clear m4 u4
    refine ⟨q3, q4, _, _, rfl, rfl, k3, k4, sz1000 (by rw [List.length_append, iv_len, iv_len, List.length_take, List.length_drop]; show min (a + 1) (row R wh).length + 1 + ((row R wh).length - (b + 1)) ≤ 1000; omega), fun q5 m5 => ?_⟩
    obtain ⟨ring', hring'⟩ : ∃ l, l = (row R wh).take a ++ lf :: newD E' fl :: (row R wh).drop (b + 1) := ⟨_, rfl⟩
    have hiv : iv ((row R wh).take (a + 1)) ++ [.int (newD E' fl : Nat)] ++ iv ((row R wh).drop (b + 1)) = iv ring' := by
      rw [hring', List.take_add_one, List.getElem?_eq_getElem ha2, Option.toList_some, iv_app, iv_app, show (row R wh)[a] = lf by rw [hlf, List.getD_eq_getElem?_getD, List.getElem?_eq_getElem ha2]; rfl, List.append_assoc, List.append_assoc]
      rfl
    rw [hiv]
    have st6 := st5.keep (o := .lst (iv ring')) m5
    have gk : upd G q5 (.lst (iv ring')) q5 = some (.lst (iv ring')) := upd_same
    have sG7 : Same G (upd G q5 (.lst (iv ring'))) := same_upd ((show New _ q5 from m5).of st5.s1)
    have hz7 := (same_upd (o := .lst (iv ring')) m5).seq hz6
    generalize upd H6 q5 (.lst (iv ring')) = H7 at st6 hz7 ⊢
    generalize upd G q5 (.lst (iv ring')) = G7 at st6 gk sG7
    have hr7 := st6.r1
    walk_at "sts"
    have st7 := st6.setRing (w := wh) (v := .ref q5) (l := ring') (dpRow (SqL.of gk))
    have hz8 : SqL K (upd H7 r (.lst (ys.set wh (.ref q5)))) z (iv (row R wh)) := (sG7.trans st7.s1).seq hzG
    generalize upd H7 r (.lst (ys.set wh (.ref q5))) = H8 at st7 hz8 ⊢
    have hr8 := st7.r1
    have hr8' := SqL.of (K := K) st7.r1
    have hsz8 : (ys.set wh (.ref q5)).length < sizeLine := szlt (by rw [List.length_set]; omega)
    walk_at "sts"
    refine w_new fun q6 m6 => ?_
    rw [show ((a : Nat) : Int) + 1 = ((a + 1 : Nat) : Int) from rfl, show ((b : Nat) : Int) + 1 = ((b + 1 : Nat) : Int) from rfl, cutV_nat, iv_drop, iv_take]
    have st8 := st7.alloc (o := .lst (iv (((row R wh).drop (a + 1)).take (b + 1 - (a + 1))))) m6
    have k6 := upd_same (H := H8) (a := q6) (o := .lst (iv (((row R wh).drop (a + 1)).take (b + 1 - (a + 1)))))
    generalize upd H8 q6 (.lst (iv (((row R wh).drop (a + 1)).take (b + 1 - (a + 1))))) = H9 at st8 k6 ⊢
    clear m6
    walk_at "sts"
    refine w_new fun q7 m7 => ?_
    have st9 := st8.alloc (o := .lst [.int (newD E' (!fl) : Nat)]) m7
    have k7 := upd_same (H := H9) (a := q7) (o := .lst [.int (newD E' (!fl) : Nat)])
    have k6 := same_upd (o := .lst [.int (newD E' (!fl) : Nat)]) m7 _ _ k6
    generalize upd H9 q7 (.lst [.int (newD E' (!fl) : Nat)]) = H10 at st9 k6 k7 ⊢
    clear m7
    refine ⟨q6, q7, _, _, rfl, rfl, k6, k7, sz1000 (by rw [iv_len, List.length_take, List.length_drop]; show min (b + 1 - (a + 1)) ((row R wh).length - (a + 1)) + 1 ≤ 1000; omega), fun q8 m8 => ?_⟩
    obtain ⟨ring2, hring2⟩ : ∃ l, l = ((row R wh).drop (a + 1)).take (b - a - 1) ++ [rt, newD E' (!fl)] := ⟨_, rfl⟩
    have hiv2 : iv (((row R wh).drop (a + 1)).take (b + 1 - (a + 1))) ++ [.int (newD E' (!fl) : Nat)] = iv ring2 := by
      have e1 : b + 1 - (a + 1) = (b - a - 1) + 1 := by omega
      have e2 : ((row R wh).drop (a + 1))[b - a - 1]? = some rt := by
        rw [List.getElem?_drop, show a + 1 + (b - a - 1) = b by omega, hrt, List.getD_eq_getElem?_getD, List.getElem?_eq_getElem hb]
        rfl
      rw [hring2, e1, List.take_add_one, e2, Option.toList_some, iv_app, iv_app, List.append_assoc]
      rfl
    rw [hiv2]
    have st10 := st9.keep (o := .lst (iv ring2)) m8
    have gk2 : upd G7 q8 (.lst (iv ring2)) q8 = some (.lst (iv ring2)) := upd_same
    have sG8 : Same G (upd G7 q8 (.lst (iv ring2))) := sG7.trans (same_upd ((show New _ q8 from m8).of st9.s1))
    generalize upd H10 q8 (.lst (iv ring2)) = H11 at st10 ⊢
    generalize upd G7 q8 (.lst (iv ring2)) = G8 at st10 gk2 sG8
    have hr11 := st10.r1
    have hr11' := SqL.of (K := K) st10.r1
    walk_at "sts"
    have st11 := st10.pushRing (v := .ref q8) (l := ring2) (dpRow (SqL.of gk2))
    refine ⟨hd E' rt, rfl, G8, _, _, _, _, sG8, st11, ?_, by rw [List.length_set]; exact hplt, ?_, by rw [List.length_set]; exact Nat.le_refl _, by rw [List.length_set]; exact hT1⟩
    · have := hG.chord (w := wh) (left := lf) (right := rt) (by rw [hring]; exact congrArg some (hsp2 hab')) hne' fl
      rw [← put_comm hne', ← hring', ← hring2] at this
      exact this
    · exact putBehind_row Tu (rt / 2) E'.length hplr (hd E' lf) |>.trans (if_neg hne')
  rintro σ H2 ⟨two, rfl, G1, ys1, qs1, T1, R1, sG1, hS1, hG1, hp1, hrow1, hT1', hT1''⟩
  have hz9 : SqL K H2 z (iv (row R wh)) := (sG1.trans hS1.s1).seq hzG
  walk_at "sts"
  refine ⟨t, hd E' lf, lf, E'.length, T1, qs1, rfl, hS1.tl, hp1, by rw [hrow1]; exact ok.hd_mem hl, by rw [hrow1]; have := rl _ hplt; omega, fun qp hqp => ?_⟩
  have st := hS1.setRow hp1 hqp (putAt (row T1 (hd E' lf)) ((row T1 (hd E' lf)).idxOf (lf / 2) + 1) E'.length)
  generalize upd H2 qp (.lst (iv (putAt (row T1 (hd E' lf)) ((row T1 (hd E' lf)).idxOf (lf / 2) + 1) E'.length))) = H3 at st ⊢
  have hxsz : xs.length < sizeLine := szlt (by omega)
  have he3 := SqL.of (K := K) st.e1
  walk_at "sts"
  cases fl with
  | false =>
    have e0 : ((newD E' false : Nat) : Int) % 2 = 0 := by unfold newD; simp
    walk_at "sts"
    refine w_new fun pt npt => ?_
    have st' := st.keep (o := .tup [.int (hd E' lf : Nat), .int (two : Nat)]) npt
    have gk : upd G1 pt (.tup [.int (hd E' lf : Nat), .int (two : Nat)]) pt = some (.tup [.int (hd E' lf : Nat), .int (two : Nat)]) := upd_same
    generalize upd H3 pt (.tup [.int (hd E' lf : Nat), .int (two : Nat)]) = H4 at st' ⊢
    generalize upd G1 pt (.tup [.int (hd E' lf : Nat), .int (two : Nat)]) = G4 at st' gk
    have he4 := st'.e1
    have he5 := SqL.of (K := K) st'.e1
    walk_at "sts"
    have st2 := st'.pushEnd (x := newE false (hd E' lf) two) (dEndT (SqT.of gk))
    exact q _ _ _ _ _ _ _ _ st2 hG1 (by rw [List.length_append]; exact Nat.le_refl _) (by rw [List.length_append]; omega) (by rw [List.length_set]; exact hT1'') (by rw [List.length_set]; exact hT1')
  | true =>
    have e0 : ((newD E' true : Nat) : Int) % 2 = 1 := by unfold newD; simp
    walk_at "sts"
    refine w_new fun pt npt => ?_
    have st' := st.keep (o := .tup [.int (two : Nat), .int (hd E' lf : Nat)]) npt
    have gk : upd G1 pt (.tup [.int (two : Nat), .int (hd E' lf : Nat)]) pt = some (.tup [.int (two : Nat), .int (hd E' lf : Nat)]) := upd_same
    generalize upd H3 pt (.tup [.int (two : Nat), .int (hd E' lf : Nat)]) = H4 at st' ⊢
    generalize upd G1 pt (.tup [.int (two : Nat), .int (hd E' lf : Nat)]) = G4 at st' gk
    have he4 := st'.e1
    have he5 := SqL.of (K := K) st'.e1
    walk_at "sts"
    have st2 := st'.pushEnd (x := newE true (hd E' lf) two) (dEndT (SqT.of gk))
    exact q _ _ _ _ _ _ _ _ st2 hG1 (by rw [List.length_append]; exact Nat.le_refl _) (by rw [List.length_append]; omega) (by rw [List.length_set]; exact hT1'') (by rw [List.length_set]; exact hT1')

end

section
variable {P : Program} {w : World} {K : PySem.W.Frag} {mg : Str → Option Value} {base : Heap} {C_Pull C_Push C_Web : Addr}
/-- grown is a tuple of ends, turns and rings -/
def GrB (K : PySem.W.Frag) (H : Hp) (p : Addr) (E : EdgL) (T : Turns) (R : List (List Nat)) : Prop := ∃ e t r, SqT K H p [.ref e, .ref t, .ref r] ∧ Dp K H (.ref e) (dEnds E) ∧ Dp K H (.ref t) (dRows T) ∧ Dp K H (.ref r) (dRows R)
theorem GrB.same {K : PySem.W.Frag} {H H' : Hp} {p : Addr} {E : EdgL} {T : Turns} {R : List (List Nat)} (h : GrB K H p E T R) (e : Same H H') : GrB K H' p E T R := by
  obtain ⟨a, b, c, h1, h2, h3, h4⟩ := h
  exact ⟨a, b, c, same_read e h1, h2.same e, h3.same e, h4.same e⟩
def spGrownB (K : PySem.W.Frag) : Sp := fun vs H Q _ => ∃ (a : Addr) (cs : List Int) (pl : Nat), vs = [.ref a, .int pl] ∧ SqL K H a (cs.map V.int) ∧ cs.length ≤ 90 ∧ 2 ≤ pl ∧ pl ≤ 100 ∧
  ∀ p H' E T R, Same H H' → New H p → GrB K H' p E T R → GB E T R → 1 ≤ E.length → E.length ≤ cs.length + 1 → 2 ≤ T.length → T.length ≤ pl → Q (.ref p) H'
theorem ok_law_grown {f : Addr} {fd : FuncData} (F : Fun K "_law_grown" "_law_grown" s_law_grown f fd) (gf : mg "_law_grown" = some (.ref f)) (B : Bl mg) {C_Pull C_Push C_Web : Addr} (T : Txt K mg C_Pull C_Push C_Web) (h_law_step : Has P w K mg base CX0 2 "_law_step" ["cell", "ends", "turns", "rings", "places"] (spStepB K)) : Has P w K mg base CX0 3 "_law_grown" ["cells", "places"] (spGrownB K) := by
  refine Has.mk' F gf (F.binds (ps := ["cells", "places"]) fun _ _ _ _ _ _ us hl => match us, hl with | [_, _], _ => rfl) sc_law_grown (by walk_at "len") (fun cdv A outer s H vs Q E hr h => ?_)
  obtain ⟨a, cs, pl, rfl, hS, hsz, hp2, hp1, q⟩ := h
  refine ⟨_, (pss_cons (ps_set (i := 2) sc_law_grown.nd rfl (.inl rfl) (pe_lst (pa_cons (pe_tup (pa_cons pe_int (pa_cons pe_int pa_nil))) pa_nil)))
 (pss_cons (ps_set (i := 3) sc_law_grown.nd rfl (.inl rfl) (pe_lst (pa_cons (pe_lst (pa_cons pe_int pa_nil)) (pa_cons (pe_lst (pa_cons pe_int pa_nil)) pa_nil))))
 (pss_cons (ps_set (i := 4) sc_law_grown.nd rfl (.inl rfl) (pe_lst (pa_cons (pe_lst (pa_cons pe_int (pa_cons pe_int pa_nil))) pa_nil)))
 (pss_cons (ps_for PassesOwn.never rfl (pi_listK K (pv 0)) (pg_name (i := 5) sc_law_grown.nd rfl (.inl rfl)) (pss_one (ps_expr (pe_fn h_law_step (hr.mono (by decide)) (by rfl) (pa_cons (pv 5) (pa_cons (pv 2) (pa_cons (pv 3) (pa_cons (pv 4) (pa_cons (pv 1) pa_nil)))))))))
 (pss_one (ps_ret (pe_tup (pa_cons (pv 2) (pa_cons (pv 3) (pa_cons (pv 4) pa_nil)))))))))), ?_⟩
  walk_at "sts"
  refine w_new fun p1 n1 => ?_
  walk_at "sts"
  refine w_new fun p2 n2 => ?_
  walk_at "sts"
  refine w_new fun p3 n3 => ?_
  walk_at "sts"
  refine w_new fun p4 n4 => ?_
  walk_at "sts"
  refine w_new fun p5 n5 => ?_
  walk_at "sts"
  refine w_new fun p6 n6 => ?_
  walk_at "sts"
  refine w_new fun p7 n7 => ?_
  walk_at "sts"
  have q12 : p1 ≠ p2 := ne_new upd_same n2
  have q13 : p1 ≠ p3 := ne_new (by walk_at "hp") n3
  have q14 : p1 ≠ p4 := ne_new (by walk_at "hp") n4
  have q15 : p1 ≠ p5 := ne_new (by walk_at "hp") n5
  have q16 : p1 ≠ p6 := ne_new (by walk_at "hp") n6
  have q17 : p1 ≠ p7 := ne_new (by walk_at "hp") n7
  have q23 : p2 ≠ p3 := ne_new upd_same n3
  have q24 : p2 ≠ p4 := ne_new (by walk_at "hp") n4
  have q25 : p2 ≠ p5 := ne_new (by walk_at "hp") n5
  have q26 : p2 ≠ p6 := ne_new (by walk_at "hp") n6
  have q27 : p2 ≠ p7 := ne_new (by walk_at "hp") n7
  have q34 : p3 ≠ p4 := ne_new upd_same n4
  have q35 : p3 ≠ p5 := ne_new (by walk_at "hp") n5
  have q36 : p3 ≠ p6 := ne_new (by walk_at "hp") n6
  have q37 : p3 ≠ p7 := ne_new (by walk_at "hp") n7
  have q45 : p4 ≠ p5 := ne_new upd_same n5
  have q46 : p4 ≠ p6 := ne_new (by walk_at "hp") n6
  have q47 : p4 ≠ p7 := ne_new (by walk_at "hp") n7
  have q56 : p5 ≠ p6 := ne_new upd_same n6
  have q57 : p5 ≠ p7 := ne_new (by walk_at "hp") n7
  have q67 : p6 ≠ p7 := ne_new upd_same n7
  have m2 : New H p2 := n2.of (by walk_at "same")
  have m3 : New H p3 := n3.of (by walk_at "same")
  have m4 : New H p4 := n4.of (by walk_at "same")
  have m5 : New H p5 := n5.of (by walk_at "same")
  have m6 : New H p6 := n6.of (by walk_at "same")
  have m7 : New H p7 := n7.of (by walk_at "same")
  have q61 : p6 ≠ p1 := Ne.symm q16
  have sG1 : Same H (upd H p1 (.tup [.int 0, .int 1])) := same_upd n1
  have m6' : New (upd H p1 (.tup [.int 0, .int 1])) p6 := m6.upd q61
  have sG : Same H (upd (upd H p1 (.tup [.int 0, .int 1])) p6 (.lst (iv [0, 1]))) := sG1.trans (same_upd m6')
  have sAll : Same H (upd (upd (upd (upd (upd (upd (upd H p1 (.tup [.int 0, .int 1])) p2 (.lst [.ref p1])) p3 (.lst [.int 0])) p4 (.lst [.int 0])) p5 (.lst [.ref p3, .ref p4])) p6 (.lst [.int 0, .int 1])) p7 (.lst [.ref p6])) := by walk_at "same"
  refine for_list (xs := cs.map V.int) (fun i σ H' => ∃ (E' : EdgL) (Tu : Turns) (R : List (List Nat)) (xs ys : List V) (qs : List Addr) (G : Hp) (y : Option V), σ = [some (.ref a), some (.int pl), some (.ref p2), some (.ref p5), some (.ref p7), y] ∧ GB E' Tu R ∧ 1 ≤ E'.length ∧ E'.length ≤ i + 1 ∧ 2 ≤ Tu.length ∧ Tu.length ≤ pl ∧ StB K H H' G p2 p5 p7 xs ys qs E' Tu R) ?_ ?_ ?_ ?_
  · refine ⟨[(0, 1)], [[0], [0]], [[0, 1]], [.ref p1], [.ref p6], [p3, p4], upd (upd H p1 (.tup [.int 0, .int 1])) p6 (.lst (iv [0, 1])), _, rfl, gb0, Nat.le_refl _, Nat.le_refl _, Nat.le_refl _, hp2, ?_⟩
    refine ⟨by walk_at "hp", ?_, upd_same, ?_, ?_, sG, ?_, ?_, ?_, ?_, ?_, ?_, ?_, q25, q27, q57⟩
    · exact .cons (dEndT (a := 0) (b := 1) (SqT.of (by rw [upd_ne q16, upd_same]; rfl))) .nil
    · exact .cons (dpRow (SqL.of upd_same)) .nil
    · refine ⟨by rw [upd_ne q57, upd_ne q56, upd_same]; rfl, rfl, by simp [q34], fun i q hq => ?_, by simp [Ne.symm q35, Ne.symm q45]⟩
      match i, hq with
      | 0, hq => cases hq; rw [upd_ne q37, upd_ne q36, upd_ne q35, upd_ne q34, upd_same]; rfl
      | 1, hq => cases hq; rw [upd_ne q47, upd_ne q46, upd_ne q45, upd_same]; rfl
      | i + 2, hq => simp at hq
    · exact (sAll.add (by rw [upd_ne q17, upd_ne q16, upd_ne q15, upd_ne q14, upd_ne q13, upd_ne q12, upd_same])).add (by rw [upd_ne q67, upd_same]; rfl)
    · exact (m2.upd (Ne.symm q12)).upd q26
    · exact (m5.upd (Ne.symm q15)).upd q56
    · exact (m7.upd (Ne.symm q17)).upd (Ne.symm q67)
    · intro q hq
      have : q = p3 ∨ q = p4 := by simpa using hq
      rcases this with rfl | rfl
      · exact (m3.upd (Ne.symm q13)).upd q36
      · exact (m4.upd (Ne.symm q14)).upd q46
    · simp [q23, q24]
    · simp [Ne.symm q37, Ne.symm q47]
  · rintro i σ H' _ ⟨E', Tu, R, xs, ys, qs, G, y, _, _, _, _, _, _, st⟩
    exact (st.s0.trans st.s1).seq hS
  · rintro i x σ H' hx ⟨E', Tu, R, xs, ys, qs, G, y, rfl, hG, b1, b2, b3, b4, st⟩
    have hi : i < cs.length := by
      have := (List.getElem?_eq_some_iff.mp hx).1
      rwa [List.length_map] at this
    rw [List.getElem?_map] at hx
    obtain ⟨c, hc, rfl⟩ := Option.map_eq_some_iff.mp hx
    walk_at "sts"
    refine ⟨c, p2, p5, p7, pl, rfl, H, G, xs, ys, qs, E', Tu, R, st, hG, b1, by omega, b4, hp1, fun H2 G2 xs2 ys2 qs2 E2 T2 R2 st2 hG2 c1 c2 c3 c4 => ?_⟩
    walk_at "sts"
    exact ⟨E2, T2, R2, xs2, ys2, qs2, G2, _, rfl, hG2, by omega, by omega, by omega, c3, st2⟩
  · rintro σ H1 ⟨E', Tu, R, xs, ys, qs, G, y, rfl, hG, b1, b2, b3, b4, st⟩
    rw [List.length_map] at b2
    walk_at "sts"
    refine w_new fun p np => ?_
    have sN := same_upd (o := .tup [.ref p2, .ref p5, .ref p7]) np
    exact q p _ E' Tu R (st.s0.trans (st.s1.trans sN)) (np.of (st.s0.trans st.s1)) ⟨p2, p5, p7, SqT.of upd_same, st.dE.same sN, st.tl.dp.same sN, st.dR.same sN⟩ hG b1 b2 b3 b4
end
/-! ### an order of numbers; the web renumbered -/
theorem iv_put1 (r : List Nat) (k : Nat) (x : Int) (j : Nat) (hx : x = (j : Int)) : (iv r).take (Int.toNat (k : Int)) ++ [V.int x] ++ (iv r).drop (Int.toNat (k : Int)) = iv (putAt r k j) := by
  rw [hx, Int.toNat_natCast]
  exact iv_put r k j
theorem perm_put {r : List Nat} {i k : Nat} (h : r.Perm (List.range i)) : (putAt r k i).Perm (List.range (i + 1)) := by
  refine (putAt_perm r k i).trans ?_
  rw [List.range_succ]
  exact (h.cons i).trans (List.perm_append_comm (l₁ := [i]) (l₂ := List.range i))
theorem dpaOf {K : PySem.W.Frag} {H : Hp} : ∀ {xs : List V} {ds : List PyData}, xs.length = ds.length → (∀ (i : Nat) (v : V) (d : PyData), xs[i]? = some v → ds[i]? = some d → Dp K H v d) → DpAll K H xs ds
  | [], [], _, _ => .nil
  | _ :: xs, _ :: ds, hl, h => .cons (h 0 _ _ rfl rfl) (dpaOf (by simpa using hl) fun i v d a b => h (i + 1) v d a b)
theorem Flat.row_pos {E : EdgL} {T : Turns} (h : Flat E T) (h2 : 2 ≤ T.length) {p : Nat} (hp : p < T.length) : 0 < (row T p).length := by
  refine Nat.pos_of_ne_zero fun e => ?_
  have ok := h.ok
  have em : row T p = [] := List.eq_nil_of_length_eq_zero e
  obtain ⟨q, hq, hne⟩ : ∃ q, q < T.length ∧ q ≠ p := by
    by_cases z : p = 0
    · exact ⟨1, by omega, by omega⟩
    · exact ⟨0, by omega, by omega⟩
  have := h.whole (fun x => decide (x = p)) (fun i hi => by
    have a : ¬ ((en E i).1 = p ∨ (en E i).2 = p) := fun z => by
      have := (ok.mem p hp i).mpr ⟨hi, z⟩
      rw [em] at this
      cases this
    rw [not_or] at a
    show decide _ = decide _
    rw [decide_eq_false a.1, decide_eq_false a.2]) p q hp hq
  simp [hne] at this
theorem cut_rot (r : List Nat) (c : Nat) (h : c ≤ r.length) : cutV (iv r) (some (c : Int)) none ++ cutV (iv r) none (some (c : Int)) = iv (rot c r) := by
  have h1 : HT.sIx (iv r).length 0 (some (c : Int)) = c := by
    rw [iv_len, HT.sIx_nat]; omega
  have h2 : HT.sIx (iv r).length (iv r).length (some (c : Int)) = c := by
    rw [iv_len, HT.sIx_nat]; omega
  unfold cutV
  rw [h1, h2]
  show List.take (HT.sIx (iv r).length (iv r).length none - c) (List.drop c (iv r)) ++ List.take (c - HT.sIx (iv r).length 0 none) (List.drop (HT.sIx (iv r).length 0 none) (iv r)) = _
  have h3 : HT.sIx (iv r).length (iv r).length none = (iv r).length := rfl
  have h4 : HT.sIx (iv r).length 0 none = 0 := rfl
  rw [h3, h4]
  unfold rot
  rw [iv_app]
  unfold iv
  rw [List.map_drop, List.map_take, List.drop_zero, Nat.sub_zero, List.take_of_length_le (by simp)]
def renE (σ τ : List Nat) (E : EdgL) : EdgL := (List.range E.length).map fun j => (pm σ (en E (τ.idxOf j)).1, pm σ (en E (τ.idxOf j)).2)
def cutN (c : Int) (p l : Nat) : Nat := (c % 1009 * ((p : Int) + 1) % (l : Int)).toNat
def renT (σ τ : List Nat) (c : Int) (T : Turns) : Turns := (List.range T.length).map fun q => rot (cutN c (σ.idxOf q) (row T (σ.idxOf q)).length) ((row T (σ.idxOf q)).map (pm τ))
theorem renE_len (σ τ : List Nat) (E : EdgL) : (renE σ τ E).length = E.length := by unfold renE; simp
theorem renT_len (σ τ : List Nat) (c : Int) (T : Turns) : (renT σ τ c T).length = T.length := by unfold renT; simp
theorem pm_idx {τ : List Nat} {n j : Nat} (h : τ.Perm (List.range n)) (hj : j < n) : τ.idxOf j < n ∧ pm τ (τ.idxOf j) = j := by
  obtain ⟨i, hi, e⟩ := pm_surj h hj
  have nd : τ.Nodup := h.nodup_iff.mpr List.nodup_range
  have := idx_at nd (pm_at h hi)
  rw [e] at this
  rw [this]
  exact ⟨hi, e⟩
theorem idx_pm {τ : List Nat} {n i : Nat} (h : τ.Perm (List.range n)) (hi : i < n) : τ.idxOf (pm τ i) = i := idx_at (h.nodup_iff.mpr List.nodup_range) (pm_at h hi)
theorem renum_of {E : EdgL} {T : Turns} {σ τ : List Nat} (c : Int) (hs : σ.Perm (List.range T.length)) (ht : τ.Perm (List.range E.length)) : Renum E T σ τ (renE σ τ E) (renT σ τ c T) := by
  refine ⟨hs, ht, renE_len _ _ _, renT_len _ _ _ _, fun k hk => ?_, fun p hp => ⟨cutN c p (row T p).length, ?_⟩⟩
  · unfold en renE
    rw [List.getD_eq_getElem?_getD, map_at (pm_lt ht hk), idx_pm ht hk]
    rfl
  · unfold row renT
    rw [List.getD_eq_getElem?_getD, map_at (pm_lt hs hp), idx_pm hs hp]
    rfl

theorem max1 {n : Nat} (h : 0 < n) : (if ((n : Nat) : Int) > 1 then ((n : Nat) : Int) else 1) = (n : Int) := by
  split <;> omega
theorem Renum.gb {E E' : EdgL} {T T' : Turns} {σ τ : List Nat} {R : List (List Nat)} (h : Renum E T σ τ E' T') (g : GB E T R) : GB E' T' (R.map (List.map (dm τ))) := by
  have ok := g.flat.ok
  have hR := g.rings
  refine ⟨h.flat g.flat, ⟨?_, ?_⟩⟩
  · rw [h.le, ← List.map_flatten]
    exact (hR.all.map _).trans (dm_perm h.pt)
  · intro r hr
    obtain ⟨s, hs, rfl⟩ := List.mem_map.mp hr
    obtain ⟨x, l, rfl, p⟩ := hR.ok s hs
    refine ⟨dm τ x, l.map (dm τ), rfl, p.map fun z hz => ?_⟩
    exact h.fol ok (hR.mem.mp (List.mem_flatten.mpr ⟨_, hs, hz⟩))
section
variable {P : Program} {w : World} {K : PySem.W.Frag} {mg : Str → Option Value} {base : Heap} {C_Pull C_Push C_Web : Addr}
def spOrder : Sp := fun vs H Q _ => ∃ (c : Int) (m : Nat), vs = [.int c, .int m] ∧ m ≤ 1000 ∧ ∀ p H' π, Same H H' → New H p → π.Perm (List.range m) → H' p = some (.lst (iv π)) → Q (.ref p) H'
theorem ok_law_order {f : Addr} {fd : FuncData} (F : Fun K "_law_order" "_law_order" s_law_order f fd) (gf : mg "_law_order" = some (.ref f)) (B : Bl mg) {C_Pull C_Push C_Web : Addr} (T : Txt K mg C_Pull C_Push C_Web) : Has P w K mg base CX0 1 "_law_order" ["cell", "many"] spOrder := by
  refine Has.mk' F gf (F.binds (ps := ["cell", "many"]) fun _ _ _ _ _ _ us hl => match us, hl with | [_, _], _ => rfl) sc_law_order (by walk_at "len") (fun cdv A outer s H vs Q E hr h => ?_)
  obtain ⟨c, m, rfl, hm, q⟩ := h
  refine ⟨_, (pss_cons (ps_set (i := 2) sc_law_order.nd rfl (.inl rfl) (pe_lst pa_nil))
 (pss_cons (ps_set (i := 3) sc_law_order.nd rfl (.inl rfl) (pe_op op_mod (pv 0) pe_int))
 (pss_cons (ps_for PassesOwn.never rfl (pi_range1 (by rfl) B.range (pa_cons (pv 1) pa_nil)) (pg_name (i := 4) sc_law_order.nd rfl (.inl rfl)) (pss_cons (ps_set (i := 3) sc_law_order.nd rfl (.inl rfl) (pe_op op_mod (pe_op op_add (pe_op op_mulX (pv 3) pe_int) (pe_op op_mulX pe_int (pv 4))) pe_int))
 (pss_one (ps_expr (pe_bmK K (pe_bm PySem.F.plainAttrs_list PySem.F.slot_list_insert PySem.F.type_list_insert mt_insert (pv 2) (pa_cons (pe_op op_mod (pv 3) (pe_op op_add (pv 4) pe_int)) (pa_cons (pv 4) pa_nil))))))))
 (pss_one (ps_ret (pv 2)))))), ?_⟩
  walk_at "sts"
  refine w_new fun p1 n1 => ?_
  walk_at "sts"
  refine for_r0 (n := m) ?_ (fun i σ H' => ∃ (π : List Nat) (M : Int) (y : Option V), σ = [some (.int c), some (.int (m : Int)), some (.ref p1), some (.int M), y] ∧ 0 ≤ M ∧ M < 2147483647 ∧ π.Perm (List.range i) ∧ Same H H' ∧ H' p1 = some (.lst (iv π))) ?_ ?_ ?_
  · rfl
  · refine ⟨[], c % 1000000007, _, rfl, by omega, by omega, .nil, same_upd n1, upd_same⟩
  · rintro i σ H' hi ⟨π, M, y, rfl, m1, m2, hp, s1, e1⟩
    have hl : π.length = i := by have := hp.length_eq; simpa using this
    have hsl : (iv π).length < sizeLine := szlt (by rw [iv_len]; omega)
    walk_at "sts"
    obtain ⟨k, hk⟩ : ∃ k : Nat, (M * 48271 + 11 * (i : Int)) % 2147483647 % ((i : Int) + 1) = (k : Int) := ⟨((M * 48271 + 11 * (i : Int)) % 2147483647 % ((i : Int) + 1)).toNat, by
      have := Int.emod_nonneg ((M * 48271 + 11 * (i : Int)) % 2147483647) (show (i : Int) + 1 ≠ 0 by omega)
      omega⟩
    have hk2 : k < 2 ^ 63 := by
      have := Int.emod_lt_of_pos ((M * 48271 + 11 * (i : Int)) % 2147483647) (show 0 < (i : Int) + 1 by omega)
      omega
    rw [hk]
    refine w_ins e1 hsl (by omega) (by omega) ?_
    rw [iv_put1 π k _ i rfl]
    walk_at "sts"
    exact ⟨putAt π k i, _, _, rfl, by omega, by omega, perm_put hp, s1.mut n1, upd_same⟩
  · rintro σ H' ⟨π, M, y, rfl, m1, m2, hp, s1, e1⟩
    walk_at "sts"
    exact q p1 H' π s1 n1 hp e1
def spRenumB (K : PySem.W.Frag) : Sp := fun vs H Q _ => ∃ (a : Addr) (c : Int) (E : EdgL) (T : Turns) (R : List (List Nat)), vs = [.ref a, .int c] ∧ GrB K H a E T R ∧ GB E T R ∧ E.length ≤ 200 ∧ T.length ≤ 200 ∧ 2 ≤ T.length ∧
  ∀ p H' E' T' R', Same H H' → New H p → GrB K H' p E' T' R' → GB E' T' R' → E'.length = E.length → T'.length = T.length → Q (.ref p) H'
theorem ok_law_renumbered {f : Addr} {fd : FuncData} (F : Fun K "_law_renumbered" "_law_renumbered" s_law_renumbered f fd) (gf : mg "_law_renumbered" = some (.ref f)) (B : Bl mg) {C_Pull C_Push C_Web : Addr} (T : Txt K mg C_Pull C_Push C_Web) (h_law_order : Has P w K mg base CX0 1 "_law_order" ["cell", "many"] spOrder) : Has P w K mg base CX0 2 "_law_renumbered" ["grown", "cell"] (spRenumB K) := by
  refine Has.mk' F gf (F.binds (ps := ["grown", "cell"]) fun _ _ _ _ _ _ us hl => match us, hl with | [_, _], _ => rfl) sc_law_renumbered (by walk_at "len") (fun cdv A outer s H vs Q E hr h => ?_)
  obtain ⟨a, c, E', Tu, R, rfl, ⟨e, t, r, hA, hE, hTu, hRu⟩, hG, z1, z2, z3, q⟩ := h
  have hF := hG.flat
  have ok := hF.ok
  obtain ⟨es, he, hEs⟩ := dpLstA hE
  obtain ⟨ts, ht, hTs⟩ := dpLstA hTu
  obtain ⟨rs, hrr, hRs⟩ := dpLstA hRu
  have hrl : rs.length = R.length := by have := dpaLen hRs; simpa using this
  have hel : es.length = E'.length := by have := dpaLen hEs; simpa using this
  have htl : ts.length = Tu.length := by have := dpaLen hTs; simpa using this
  refine ⟨_, (pss_cons (ps_set (i := 2) sc_law_renumbered.nd rfl (.inl rfl) (pe_fn h_law_order (hr.mono (by decide)) (by rfl) (pa_cons (pv 1) (pa_cons (pe_callB (call_lenK K) (by rfl) B.len (by decide +kernel) (pa_cons (pe_ix (ix_tupK K) (pv 0) pe_int (fun _ _ => rfl)) pa_nil)) pa_nil))))
 (pss_cons (ps_set (i := 3) sc_law_renumbered.nd rfl (.inr rfl) (pe_fn h_law_order (hr.mono (by decide)) (by rfl) (pa_cons (pe_op op_fdivW (pv 1) pe_int) (pa_cons (pe_callB (call_lenK K) (by rfl) B.len (by decide +kernel) (pa_cons (pe_ix (ix_tupK K) (pv 0) pe_int (fun _ _ => rfl)) pa_nil)) pa_nil))))
 (pss_cons (ps_set (i := 4) sc_law_renumbered.nd rfl (.inl rfl) (pe_callTy (call_listK K) (by rfl) B.list (by decide +kernel) (pa_cons (pe_ix (ix_tupK K) (pv 0) pe_int (fun _ _ => rfl)) pa_nil)))
 (pss_cons (ps_for PassesOwn.never rfl (pi_range1 (by rfl) B.range (pa_cons (pe_callB (call_lenK K) (by rfl) B.len (by decide +kernel) (pa_cons (pv 4) pa_nil)) pa_nil)) (pg_name (i := 5) sc_law_renumbered.nd rfl (.inl rfl)) (pss_one (ps_asg (pe_tup (pa_cons (pe_ix (ix_listK K) (pv 2) (pe_ix (ix_tupK K) (pe_ix (ix_listK K) (pe_ix (ix_tupK K) (pv 0) pe_int (fun _ _ => rfl)) (pv 5) (fun _ _ => rfl)) pe_int (fun _ _ => rfl)) (fun _ _ => rfl)) (pa_cons (pe_ix (ix_listK K) (pv 2) (pe_ix (ix_tupK K) (pe_ix (ix_listK K) (pe_ix (ix_tupK K) (pv 0) pe_int (fun _ _ => rfl)) (pv 5) (fun _ _ => rfl)) pe_int (fun _ _ => rfl)) (fun _ _ => rfl)) pa_nil))) (pg_sub (pv 4) (pe_ix (ix_listK K) (pv 3) (pv 5) (fun _ _ => rfl)) set_list))))
 (pss_cons (ps_set (i := 6) sc_law_renumbered.nd rfl (.inl rfl) (pe_callTy (call_listK K) (by rfl) B.list (by decide +kernel) (pa_cons (pe_ix (ix_tupK K) (pv 0) pe_int (fun _ _ => rfl)) pa_nil)))
 (pss_cons (ps_for PassesOwn.never rfl (pi_range1 (by rfl) B.range (pa_cons (pe_callB (call_lenK K) (by rfl) B.len (by decide +kernel) (pa_cons (pv 6) pa_nil)) pa_nil)) (pg_name (i := 7) sc_law_renumbered.nd rfl (.inl rfl)) (pss_cons (ps_setLc (i := 8) (own := [("k", 5)]) rfl sc_law_renumbered.nd rfl rfl (sw_true rfl rfl rfl (by decide +kernel)) (pi_listK K (pe_ix (ix_listK K) (pe_ix (ix_tupK K) (pv 0) pe_int (fun _ _ => rfl)) (pv 7) (fun _ _ => rfl))) (blkOk_by (own := [("k", 5)]) (N := ["grown", "cell", "places", "ties", "ends", "k", "turns", "p", "row", "cut", "rings", "ring", "dart"]) (sc := defScope s_law_renumbered) (by decide +kernel)) (fun _ _ _ _ _ => pg_name (i := 5) sc_law_renumbered.nd rfl (Or.inl rfl)) (fun _ _ _ _ _ => pts_nil) (fun _ _ _ _ _ => (pe_ix (ix_listK K) (pv 3) (pv 5) (fun _ _ => rfl))))
 (pss_cons (ps_set (i := 9) sc_law_renumbered.nd rfl (.inl rfl) (pe_op op_mod (pe_op op_mulX (pe_op op_mod (pv 1) pe_int) (pe_op op_add (pv 7) pe_int)) (pe_callB (call_max2 rfl) (by rfl) B.max (by decide +kernel) (pa_cons pe_int (pa_cons (pe_callB (call_lenK K) (by rfl) B.len (by decide +kernel) (pa_cons (pv 8) pa_nil)) pa_nil)))))
 (pss_one (ps_asg (pe_op op_cat (pe_slice (sl_listK K) (pv 8) (po_some (pv 9)) po_none) (pe_slice (sl_listK K) (pv 8) po_none (po_some (pv 9)))) (pg_sub (pv 6) (pe_ix (ix_listK K) (pv 2) (pv 7) (fun _ _ => rfl)) set_list))))))
 (pss_cons (ps_set (i := 10) sc_law_renumbered.nd rfl (.inl rfl) (pe_lst pa_nil))
 (pss_cons (ps_for PassesOwn.never rfl (pi_listK K (pe_ix (ix_tupK K) (pv 0) pe_int (fun _ _ => rfl))) (pg_name (i := 11) sc_law_renumbered.nd rfl (.inl rfl)) (pss_one (ps_expr (pe_bmK K (pe_bm PySem.F.plainAttrs_list PySem.F.slot_list_append PySem.F.type_list_append mt_append (pv 10) (pa_cons (pe_lc (own := [("dart", 12)]) rfl sc_law_renumbered.nd (pi_listK K (pv 11)) (blkOk_by (own := [("dart", 12)]) (N := ["grown", "cell", "places", "ties", "ends", "k", "turns", "p", "row", "cut", "rings", "ring", "dart"]) (sc := defScope s_law_renumbered) (by decide +kernel)) (fun _ _ _ _ _ => pg_name (i := 12) sc_law_renumbered.nd rfl (Or.inl rfl)) (fun _ _ _ _ _ => pts_nil) (fun _ _ _ _ _ => (pe_op op_add (pe_op op_mulX pe_int (pe_ix (ix_listK K) (pv 3) (pe_op op_fdivW (pv 12) pe_int) (fun _ _ => rfl))) (pe_op op_mod (pv 12) pe_int)))) pa_nil))))))
 (pss_one (ps_ret (pe_tup (pa_cons (pv 4) (pa_cons (pv 6) (pa_cons (pv 10) pa_nil)))))))))))))), ?_⟩
  walk_at "sts"
  rw [htl]
  refine ⟨c, Tu.length, rfl, by omega, fun pS H1 σ s1 nS pS1 lS => ?_⟩
  have A1 := same_read s1 hA
  have E1 := s1.seq he
  walk_at "sts"
  rw [hel]
  refine ⟨_, E'.length, rfl, by omega, fun pT H2 τ s2 nT pT1 lT => ?_⟩
  have hsl : σ.length = Tu.length := by have := pS1.length_eq; simpa using this
  have htl' : τ.length = E'.length := by have := pT1.length_eq; simpa using this
  have A2 := same_read s2 A1
  have E2 := s2.seq E1
  have L2 := s2 _ _ lS
  walk_at "sts"
  refine w_new fun pE nE => ?_
  walk_at "sts"
  have s12 := s1.trans s2
  have sp : ∀ i, i < Tu.length → (iv σ)[i]? = some (.int ((pm σ i : Nat) : Int)) := fun i hi => iv_at (by omega)
  have tp : ∀ i, i < E'.length → (iv τ)[i]? = some (.int ((pm τ i : Nat) : Int)) := fun i hi => iv_at (by omega)
  refine for_r0 (n := E'.length) ?_ (fun i σ' H' => ∃ (y : Option V) (y2 y3 y4 y5 y6 y7 y8 : Option V) (xs : List V) (G : Hp), σ' = [some (.ref a), some (.int c), some (.ref pS), some (.ref pT), some (.ref pE), y, y2, y3, y4, y5, y6, y7, y8] ∧ Same H2 G ∧ Same G H' ∧ New G pE ∧ H' pE = some (.lst xs) ∧ xs.length = E'.length ∧
    ∀ k, k < i → ∃ v, xs[pm τ k]? = some v ∧ Dp K G v (dEnd (pm σ (en E' k).1, pm σ (en E' k).2))) ?_ ?_ ?_
  · rw [hel]
  · exact ⟨_, _, _, _, _, _, _, _, es, H2, rfl, Same.refl _, same_upd nE, nE, upd_same, hel, fun k hk => absurd hk (by omega)⟩
  · rintro i σ' H' hi ⟨y, y2, y3, y4, y5, y6, y7, y8, xs, G, rfl, g1, g2, g3, x1, x2, x3⟩
    obtain ⟨p0, b1, b2⟩ := dpEndsAt hEs hi
    have g12 := g1.trans g2
    have A3 := same_read g12 A2
    have E3 := g12.seq E2
    have b3 := same_read g12 (same_read s12 b2)
    have P3 := SqL.of (K := K) (g12 _ _ L2)
    have T3 := SqL.of (K := K) (g12 _ _ lT)
    have w1 := (ok.ends i hi).2.1
    have w2 := (ok.ends i hi).2.2
    have sp1 := sp _ w1
    have sp2 := sp _ w2
    have tp1 := tp _ hi
    walk_at "sts"
    refine w_new fun pt nt => ?_
    have hne : pE ≠ pt := ne_new x1 nt
    have hlt : pm τ i < E'.length := pm_lt pT1 hi
    walk_at "sts"
    refine ⟨_, _, _, _, _, _, _, _, xs.set (pm τ i) (.ref pt), upd G pt _, rfl, g1.trans (same_upd (nt.of g2)), ((g2.trans (same_upd nt)).add upd_same).mut (g3.upd hne), g3.upd hne, upd_same, by simp [x2], fun k hk => ?_⟩
    by_cases e : k = i
    · rw [e]
      exact ⟨.ref pt, List.getElem?_set_self (by omega), dEndT (SqT.of upd_same)⟩
    · obtain ⟨v, v1, v2⟩ := x3 k (by omega)
      have : pm τ i ≠ pm τ k := fun z => e (pm_inj pT1 hi (by omega) z).symm
      exact ⟨v, by rw [List.getElem?_set_ne this]; exact v1, v2.same (same_upd (nt.of g2))⟩
  · rintro σ' H4 ⟨y, y2, y3, y4, y5, y6, y7, y8, xs, G, rfl, g1, g2, g3, x1, x2, x3⟩
    have hDE : DpAll K G xs ((renE σ τ E').map dEnd) := by
      refine dpaOf (by rw [x2, List.length_map, renE_len]) fun i v d v1 v2 => ?_
      have hi : i < E'.length := by rw [← x2]; exact (List.getElem?_eq_some_iff.mp v1).1
      obtain ⟨j1, j2⟩ := pm_idx pT1 hi
      rw [List.getElem?_map, renE, map_at hi] at v2
      cases v2
      obtain ⟨v', u1, u2⟩ := x3 _ j1
      rw [j2, v1] at u1
      cases u1
      exact u2
    have g12 := g1.trans g2
    have A4 := same_read g12 A2
    have T4 := g12.seq (s12.seq ht)
    have dE4 : Dp K H4 (.ref pE) (dEnds (renE σ τ E')) := .lst (SqL.of x1) (hDE.same g2)
    have lS4 := g12 _ _ L2
    have lT4 := g12 _ _ lT
    have S4 := s12.trans g12
    have nE4 : New H pE := nE.of s12
    clear x3 hDE E1 E2 A1 A2
    walk_at "sts"
    refine w_new fun pU nU => ?_
    walk_at "sts"
    refine for_r0 (n := Tu.length) ?_ (fun i σ' H' => ∃ (y3 y4 y5 y6 y7 y8 : Option V) (xs : List V) (G : Hp), σ' = [some (.ref a), some (.int c), some (.ref pS), some (.ref pT), some (.ref pE), y, some (.ref pU), y3, y4, y5, y6, y7, y8] ∧ Same H4 G ∧ Same G H' ∧ New G pU ∧ H' pU = some (.lst xs) ∧ xs.length = Tu.length ∧
      ∀ k, k < i → ∃ v, xs[pm σ k]? = some v ∧ Dp K G v (dRow (rot (cutN c k (row Tu k).length) ((row Tu k).map (pm τ))))) ?_ ?_ ?_
    · rw [htl]
    · exact ⟨_, _, _, _, _, _, ts, H4, rfl, Same.refl _, same_upd nU, nU, upd_same, htl, fun k hk => absurd hk (by omega)⟩
    · rintro i σ' H' hi ⟨y3, y4, y5, y6, y7, y8, xs, G, rfl, g1, g2, g3, x1, x2, x3⟩
      obtain ⟨p0, b1, b2⟩ := dpRowsAt hTs hi
      have g12 := g1.trans g2
      have A5 := same_read g12 A4
      have E5 := g12.seq T4
      have b3 := g12.seq (S4.seq b2)
      have l5 := g12 _ _ lT4
      have l6 := g12 _ _ lS4
      walk_at "sts"
      intro D nD
      refine lc_list (xs := iv (row Tu i)) (fun j H'' => H'' D = some (.lst (iv (((row Tu i).take j).map (pm τ)))) ∧ Same H' H'') ?_ ?_ ?_ ?_
      · exact ⟨upd_same, same_upd nD⟩
      · rintro j H'' _ ⟨_, k2⟩
        exact k2.seq b3
      · rintro j x H'' hx ⟨k1, k2⟩
        have hj : j < (row Tu i).length := by rw [← iv_len]; exact (List.getElem?_eq_some_iff.mp hx).1
        rw [iv_at hj] at hx
        cases hx
        have l7 := k2 _ _ l5
        have hjm : (row Tu i).getD j 0 ∈ row Tu i := by
          rw [List.getD_eq_getElem?_getD, List.getElem?_eq_getElem hj]
          exact List.getElem_mem hj
        have tq := tp _ ((ok.mem i hi _).mp hjm).1
        have hrl : (row Tu i).length ≤ E'.length := by
          have := nodup_sub_len (ys := List.range E'.length) (ok.nd i hi) fun z hz => List.mem_range.mpr ((ok.mem i hi z).mp hz).1
          simpa using this
        walk_at "sts"
        refine ⟨_, k1, szlt (by rw [iv_len, List.length_map, List.length_take]; omega), ?_, k2.mut nD⟩
        rw [upd_same, take_snoc hj, List.map_append, iv_app]
        rfl
      · rintro H6 ⟨k1, k2⟩
        rw [iv_len, List.take_length] at k1
        have hpos := hF.row_pos z3 hi
        have hmp : 0 < (((iv ((row Tu i).map (pm τ))).length : Nat) : Int) := by rw [iv_len, List.length_map]; omega
        have hmod0 : 0 ≤ c % 1009 ∧ c % 1009 < 1009 := by omega
        have hcut : c % 1009 * ((i : Int) + 1) % (((iv ((row Tu i).map (pm τ))).length : Nat) : Int) = ((cutN c i (row Tu i).length : Nat) : Int) := by
          rw [iv_len, List.length_map]
          unfold cutN
          have := Int.emod_nonneg (c % 1009 * ((i : Int) + 1)) (show ((row Tu i).length : Int) ≠ 0 by omega)
          omega
        have hcl : cutN c i (row Tu i).length ≤ ((row Tu i).map (pm τ)).length := by
          have := Int.emod_lt_of_pos (c % 1009 * ((i : Int) + 1)) hmp
          rw [hcut, iv_len] at this
          omega
        have A6 := same_read k2 A5
        have x1' := k2 _ _ x1
        walk_at "sts"
        rw [max1 (show 0 < (iv ((row Tu i).map (pm τ))).length by rw [iv_len, List.length_map]; exact hpos), hcut]
        refine w_new fun q1 nq1 => ?_
        walk_at "sts"
        refine w_new fun q2 nq2 => ?_
        walk_at "sts"
        have q12 : q1 ≠ q2 := ne_new upd_same nq2
        refine ⟨q1, q2, _, _, rfl, rfl, by walk_at "hp", upd_same, ?_, w_new fun pr nr => ?_⟩
        · have a1 := cutV_length (iv ((row Tu i).map (pm τ))) (some ((cutN c i (row Tu i).length : Nat) : Int)) none
          have a2 := cutV_length (iv ((row Tu i).map (pm τ))) none (some ((cutN c i (row Tu i).length : Nat) : Int))
          have hrl : (row Tu i).length ≤ E'.length := by
            have := nodup_sub_len (ys := List.range E'.length) (ok.nd i hi) fun z hz => List.mem_range.mpr ((ok.mem i hi z).mp hz).1
            simpa using this
          rw [iv_len, List.length_map] at a1 a2
          exact Nat.le_trans (show _ ≤ 1000 by omega) (by decide)
        rw [cut_rot _ _ hcl]
        have sp3 := sp _ hi
        have s7 : Same H' (upd (upd H6 q1 (.lst (cutV (iv ((row Tu i).map (pm τ))) (some ((cutN c i (row Tu i).length : Nat) : Int)) none))) q2 (.lst (cutV (iv ((row Tu i).map (pm τ))) none (some ((cutN c i (row Tu i).length : Nat) : Int))))) := (k2.new nq1).new nq2
        generalize upd (upd H6 q1 (.lst (cutV (iv ((row Tu i).map (pm τ))) (some ((cutN c i (row Tu i).length : Nat) : Int)) none))) q2 (.lst (cutV (iv ((row Tu i).map (pm τ))) none (some ((cutN c i (row Tu i).length : Nat) : Int)))) = H7 at nr s7 ⊢
        have x7 := s7 _ _ x1
        have l7 := SqL.of (K := K) (s7 _ _ l6)
        have hUr : pU ≠ pr := ne_new x7 nr
        have hlt : pm σ i < Tu.length := pm_lt pS1 hi
        walk_at "sts"
        refine ⟨_, _, _, _, _, _, xs.set (pm σ i) (.ref pr), upd G pr _, rfl, g1.trans (same_upd (nr.of (g2.trans s7))), (((g2.trans s7).trans (same_upd nr)).add upd_same).mut (g3.upd hUr), g3.upd hUr, upd_same, by simp [x2], fun k hk => ?_⟩
        by_cases e : k = i
        · rw [e]
          exact ⟨.ref pr, List.getElem?_set_self (by omega), dpRow (SqL.of upd_same)⟩
        · obtain ⟨v, v1, v2⟩ := x3 k (by omega)
          have : pm σ i ≠ pm σ k := fun z => e (pm_inj pS1 hi (by omega) z).symm
          exact ⟨v, by rw [List.getElem?_set_ne this]; exact v1, v2.same (same_upd (nr.of (g2.trans s7)))⟩
    · rintro σ' H5 ⟨y3, y4, y5, y6, y7, y8, xs, G, rfl, g1, g2, g3, x1, x2, x3⟩
      have hDT : DpAll K G xs ((renT σ τ c Tu).map dRow) := by
        refine dpaOf (by rw [x2, List.length_map, renT_len]) fun i v d v1 v2 => ?_
        have hi : i < Tu.length := by rw [← x2]; exact (List.getElem?_eq_some_iff.mp v1).1
        obtain ⟨j1, j2⟩ := pm_idx pS1 hi
        rw [List.getElem?_map, renT, map_at hi] at v2
        cases v2
        obtain ⟨v', u1, u2⟩ := x3 _ j1
        rw [j2, v1] at u1
        cases u1
        exact u2
      have g12 := g1.trans g2
      have S5 := S4.trans g12
      have A5 := same_read g12 A4
      have R5 := S5.seq hrr
      have T5 := g12 _ _ lT4
      have dE5 := dE4.same g12
      have dU5 : Dp K H5 (.ref pU) (dRows (renT σ τ c Tu)) := .lst (SqL.of x1) (hDT.same g2)
      have ren := renum_of (E := E') (T := Tu) c pS1 pT1
      clear x3 hDT A4 x1 x2 g1 g2 g12 g3
      walk_at "sts"
      refine w_new fun pR nR => ?_
      walk_at "sts"
      refine for_list (xs := rs) (fun i σ' H' => ∃ (y7 y8 : Option V) (xs : List V) (G : Hp), σ' = [some (.ref a), some (.int c), some (.ref pS), some (.ref pT), some (.ref pE), y, some (.ref pU), y3, y4, y5, some (.ref pR), y7, y8] ∧ Same H5 G ∧ Same G H' ∧ New G pR ∧ H' pR = some (.lst xs) ∧ DpAll K G xs (((R.map (List.map (dm τ))).take i).map dRow)) ?_ ?_ ?_ ?_
      · exact ⟨_, _, [], H5, rfl, Same.refl _, same_upd nR, nR, upd_same, .nil⟩
      · rintro i σ' H' _ ⟨y7, y8, xs, G, _, g1, g2, _, _, _⟩
        exact (g1.trans g2).seq R5
      · rintro i x σ' H' hx ⟨y7, y8, xs, G, rfl, g1, g2, g3, x1, x2⟩
        have hi : i < R.length := by rw [← hrl]; exact (List.getElem?_eq_some_iff.mp hx).1
        obtain ⟨p0, b1, b2⟩ := dpRowsAt hRs hi
        rw [hx] at b1
        cases b1
        have g12 := g1.trans g2
        have b3 := g12.seq (S5.seq b2)
        have l5 := g12 _ _ T5
        have hxl : xs.length = i := by have := dpaLen x2; simp at this; omega
        have hRl := hG.rlen
        have hring : R[i]? = some (row R i) := by unfold row; rw [List.getD_eq_getElem?_getD, List.getElem?_eq_getElem hi]; rfl
        have hrle : (row R i).length ≤ 400 := by
          have := nodup_sub_len (ys := List.range (2 * E'.length)) (hG.rings.nd.sublist (List.sublist_flatten_of_mem (List.mem_of_getElem? hring))) fun z hz => List.mem_range.mpr (hG.lt hring hz)
          simp at this
          omega
        walk_at "sts"
        intro D nD
        refine lc_list (xs := iv (row R i)) (fun j H'' => H'' D = some (.lst (iv (((row R i).take j).map (dm τ)))) ∧ Same H' H'') ?_ ?_ ?_ ?_
        · exact ⟨upd_same, same_upd nD⟩
        · rintro j H'' _ ⟨_, k2⟩
          exact k2.seq b3
        · rintro j x H'' hx ⟨k1, k2⟩
          have hj : j < (row R i).length := by rw [← iv_len]; exact (List.getElem?_eq_some_iff.mp hx).1
          rw [iv_at hj] at hx
          cases hx
          have l7 := k2 _ _ l5
          have hjm : (row R i).getD j 0 < 2 * E'.length := hG.lt hring (by rw [List.getD_eq_getElem?_getD, List.getElem?_eq_getElem hj]; exact List.getElem_mem hj)
          have tq := tp ((row R i).getD j 0 / 2) (by omega)
          have hpml := pm_lt pT1 (show (row R i).getD j 0 / 2 < E'.length by omega)
          walk_at "sts"
          refine ⟨_, k1, szlt (by rw [iv_len, List.length_map, List.length_take]; omega), ?_, k2.mut nD⟩
          rw [upd_same, take_snoc hj, List.map_append, iv_app]
          rfl
        · rintro H6 ⟨k1, k2⟩
          rw [iv_len, List.take_length] at k1
          have x1' := k2 _ _ x1
          have hDR : pR ≠ D := ne_new x1 nD
          have hxs : xs.length < sizeLine := szlt (by omega)
          have kR := SqL.of (K := K) x1'
          walk_at "sts"
          refine ⟨_, _, xs ++ [.ref D], upd G D (.lst (iv ((row R i).map (dm τ)))), rfl, g1.trans (same_upd (nD.of g2)), ((g2.trans k2).add k1).mut (g3.upd hDR), g3.upd hDR, upd_same, ?_⟩
          have et : (R.map (List.map (dm τ))).take (i + 1) = (R.map (List.map (dm τ))).take i ++ [(row R i).map (dm τ)] := by
            rw [List.take_add_one, List.getElem?_map, hring]
            rfl
          rw [et, List.map_append]
          exact dpaApp (x2.same (same_upd (nD.of g2))) (.cons (dpRow (SqL.of upd_same)) .nil)
      · rintro σ' H6 ⟨y7, y8, xs, G, rfl, g1, g2, g3, x1, x2⟩
        rw [hrl, List.take_of_length_le (by simp)] at x2
        walk_at "sts"
        refine w_new fun p n => ?_
        have sN := same_upd (o := .tup [.ref pE, .ref pU, .ref pR]) n
        have g5 := g2.trans sN
        exact q p _ (renE σ τ E') (renT σ τ c Tu) (R.map (List.map (dm τ))) (S5.trans (g1.trans g5)) (n.of (S5.trans (g1.trans g2))) ⟨pE, pU, pR, SqT.of upd_same, dE5.same (g1.trans g5), dU5.same (g1.trans g5), .lst (SqL.of (sN _ _ x1)) (x2.same g5)⟩ (ren.gb hG) (renE_len _ _ _) (renT_len _ _ _ _)
end

/-! ### an exception out of a list comprehension -/
section
open PySem PySem.Spec PyProof.Rows L2
/-- the end of a comprehension's block, its environment told -/
def compPostC (M : Model) (A : Around) (E : Value → Shared → Prop) (use : Option (Value → Sem Unit)) (Q : Value → Shared → Prop) (acc : Value) (ce : Env) (r : Result) (s' : Shared) : Prop :=
  match r, use with
  | .ok _, none => ∃ m, s'.heap.Ns ce.locals m ∧ ∀ h', Heap.SameBut ce.locals s'.heap h' → Q acc { s' with heap := h' }
  | .ok _, some u => wpAny M A (u acc) (fun _ s'' => ∃ m, s''.heap.Ns ce.locals m ∧ ∀ h', Heap.SameBut ce.locals s''.heap h' → Q .none { s'' with heap := h' }) E s'
  | .error x, _ => ∃ m, s'.heap.Ns ce.locals m ∧ ∀ h', Heap.SameBut ce.locals s'.heap h' → wpAny M A (passOn "comprehension.variables-let-go" x ce : Sem Value) (fun _ _ => False) E { s' with heap := h' }
theorem comprehension_freeC {M : Model} {A : Around} {E : Value → Shared → Prop} {s : Shared} {env : Env} {e : Expr} {scope : Scope} {pos : Pos} {newAcc first : Sem Value} {g : Comprehension} {gs : List Comprehension} {cl : List (Str × Addr)} {use : Option (Value → Sem Unit)}
    {Q : Value → Shared → Prop}
    (hcl : clausesOf e = g :: gs) (hs : ∀ x, foldedSetIterable g.iter env x = pure x) (hclos : closureFor scope env = pure cl)
    (hkind : scope.kind = .function) (hnames : ∀ x ∈ scope.names, x.2 = .local → scope.names.lookup x.1 = some .local)
    (h : wpAny M A first (fun x s₁ => wpAny M A (pyIter x) (fun it s₂ => wpAny M A newAcc (fun acc s₃ =>
      wpAny M A (newFunctionEnv scope env.globals cl [] env.qual none .none (some env)) (fun cenv s₄ =>
        codeAny M A (.compStart e 0 it acc { cenv with scope := relabel scope env }) (compPostC M A E use Q acc { cenv with scope := relabel scope env }) s₄) E s₃) E s₂) E s₁) E s) :
    wpAny M A (comprehension e scope env pos newAcc false first use) Q E s := by
  unfold comprehension
  rw [hclos, hcl]
  refine wpAny_bind (wpAny_mono h (fun x s₁ h₁ => wpAny_bind (wpAny_standAt (wpAny_bind (wpAny_of_eq (hs x) (wpAny_bind (wpAny_holding (wpAny_mono h₁ (fun it s₂ h₂ =>
    wpAny_standIf (wpAny_bind (wpAny_mono h₂ (fun acc s₃ h₃ => wpAny_bind (wpAny_pure (wpAny_bind (wpAny_mono h₃ (fun cenv s₄ h₄ => ?_) fun _ _ h' => h')))) fun _ _ h' => h')))
      fun _ _ h' => h'))))))) fun _ _ h' => h')
  dsimp only
  have hv : ∀ x ∈ (scope.names.filter fun x => (x.2 == .local || x.2 == .cell) && x.1 != (".0" : Str)).reverse, x.2 = .local →
      Env.kindOf { cenv with scope := relabel scope env } x.1 = some .local := fun x hx hl => lookup_relabel_local (hnames x (List.mem_filter.mp (List.mem_reverse.mp hx)).1 hl)
  have hv' : ∀ x ∈ (scope.names.filter fun x => (x.2 == .local || x.2 == .cell) && x.1 != (".0" : Str)).reverse.drop 1 ++ (scope.names.filter fun x => (x.2 == .local || x.2 == .cell) && x.1 != (".0" : Str)).reverse.take 1,
      x.2 = .local → Env.kindOf { cenv with scope := relabel scope env } x.1 = some .local := fun x hx hl => by
    rcases List.mem_append.mp hx with h1 | h1
    · exact hv x (List.mem_of_mem_drop h1) hl
    · exact hv x (List.mem_of_mem_take h1) hl
  refine wpAny_holding (wpAny_bind (wpAny_attempt (wpAny_holding (wpAny_run (codeAny_mono h₄ fun r s' hr => ?_)))))
  cases r with
  | ok f =>
    cases use with
    | none =>
      obtain ⟨m, hn, hr⟩ := hr
      exact wpAny_bind (wpAny_holding (wpAny_comp_letGo (cenv := { cenv with scope := relabel scope env }) hkind _ s' m hv hn fun h' m' _ hs' => wpAny_pure (hr h' hs')))
    | some u =>
      refine wpAny_bind (wpAny_rule (wpAny_bind (wpAny_holding (wpAny_mono hr (fun _ s'' hr' => ?_) fun _ _ h' => h'))))
      obtain ⟨m, hn, hr'⟩ := hr'
      exact wpAny_bind (wpAny_comp_letGo (cenv := { cenv with scope := relabel scope env }) hkind _ s'' m hv' hn fun h' m' _ hs' => wpAny_pure (hr' h' hs'))
  | error x =>
    have hr' : ∃ m, s'.heap.Ns cenv.locals m ∧ ∀ h', Heap.SameBut cenv.locals s'.heap h' → wpAny M A (passOn "comprehension.variables-let-go" x { cenv with scope := relabel scope env } : Sem Value) (fun _ _ => False) E { s' with heap := h' } := by cases use <;> exact hr
    obtain ⟨m, hn, hr⟩ := hr'
    exact wpAny_bind (wpAny_holding (wpAny_comp_letGo (cenv := { cenv with scope := relabel scope env }) hkind _ s' m hv hn fun h' m' _ hs' => wpAny_mono (hr h' hs') (fun _ _ f => f.elim) fun _ _ y => y))
theorem noteFrame_ce (e : Value) {cenv env : Env} (h : cenv.frame = env.frame) : noteFrame e cenv = noteFrame e env := by
  unfold noteFrame PySem.frameOf
  rw [h]
/-- held by the frame, another object changed that the ground lacks -/
theorem held_but {B : Heap} {l : List Env} {a L C : Addr} {Z : Obj → Prop} {h h' : Heap} {m : Str → Option Value} (hn : h.Ns C m) (hC : B.get? C = none) (hl : C ∉ frs l) (x : HandSPX.HeldZ B l a Z L h) (sb : Heap.SameBut C h h') : HandSPX.HeldZ B l a Z L h' := by
  obtain ⟨x1, x2, x3, oe, vs, T, oT, ts, he, hz, hd, h1, hnT, hTe, hT, hdT, h3⟩ := x
  have hne : ∀ b o vs, h.get? b = some o → o.data = .fields vs → b ≠ C := fun b o vs e d z => by
    subst z
    obtain ⟨oL, es, ep, hoL, hdL, _⟩ := hn
    rw [hoL] at e
    cases e
    rw [hdL] at d
    cases d
  refine ⟨fun b o e => (sb.2 b fun z => by rw [z, hC] at e; cases e).trans (x1 b o e), x2, ?_, oe, vs, T, oT, ts, (sb.2 a (hne a oe vs he hd)).trans he, hz, hd, h1, hnT, hTe, (sb.2 T (hne T oT ts hT hdT)).trans hT, hdT, h3⟩
  clear he hT
  induction l with
  | nil => trivial
  | cons env l ih =>
    obtain ⟨hk, ⟨L', o, hf, hb, ho, hd⟩, hr⟩ := x3
    refine ⟨hk, ⟨L', o, hf, hb, (sb.2 L' fun z => hl (by rw [← z]; exact List.mem_filterMap.mpr ⟨env, List.mem_cons_self, hf⟩)).trans ho, hd⟩, ih (fun z => hl ?_) hr⟩
    obtain ⟨e, he, q⟩ := List.mem_filterMap.mp z
    exact List.mem_filterMap.mpr ⟨e, List.mem_cons_of_mem _ he, q⟩
section
variable {X : Cx} {pins : List (Addr × Obj)} {σ : L2.St} {H H' : Hp} {s s' : Shared} {B : Heap} {W : WX} {E : XK}
/-- XE of an exception that the frame holds -/
theorem xe_held {a : Addr} {cls : Value} {d : Option Addr} (I : Inv X pins σ H s) (hh : HandSPX.HeldZ B X.stack a (Zc cls d) X.env.locals s'.heap) (hok : HOk X.prog X.w H' B) (ub : UB (frs X.stack) H H' s.heap B s'.heap) (na : H' a = none) (os : s'.os = s.os) (ag : AllBare s'.gens) (hW : W cls d σ H') : XE X W (.ref a) s' := by
  obtain ⟨G, g1, g2⟩ := restrict s'.heap fun b => (B.get? b).isSome || decide (b ∈ frs X.stack)
  have st : B.StaysIn s'.heap := hh.1
  have gB : ∀ b o, B.get? b = some o → G.get? b = some o := fun b o e => by
    rw [g1 b (by simp [e])]
    exact st b o e
  have gF : ∀ b, b ∈ frs X.stack → G.get? b = s'.heap.get? b := fun b hb => g1 b (by simp [hb])
  have og : ∀ b o, G.get? b = some o → s'.heap.get? b = some o ∧ ((B.get? b).isSome = true ∨ b ∈ frs X.stack) := fun b o e => by
    cases q : ((B.get? b).isSome || decide (b ∈ frs X.stack)) with
    | false => rw [g2 b q] at e; cases e
    | true =>
      rw [g1 b q] at e
      exact ⟨e, by simpa [Bool.or_eq_true] using q⟩
  refine ⟨a, B, { s with heap := G, gens := s'.gens, drawn := s'.drawn, toks := s'.toks }, pins, σ, H', cls, d, rfl, ?_, fun b o e hb => ?_, Heap.UpToSlots.of_keeps fun b o e => (og b o e).1, .inr (.inr hh), na, os, ag, hW⟩
  · refine I.call (ch := []) ⟨fun b o e n hb _ => gB b o (ub.keep b o e n hb), fun b o e n hb _ => ?_, fun b o e n _ => ub.free b o e n, fun b o e _ => ?_, ub.tups, ub.frzs, ub.tbls⟩ (hok.kept gB) ag (fun _ z => nomatch z)
    · obtain ⟨sl, q⟩ := ub.slot b o e hb
      exact ⟨sl, by rw [gF b hb]; exact q⟩
    · by_cases hb : b ∈ frs X.stack
      · obtain ⟨sl, q⟩ := ub.slot b o e hb
        exact ⟨_, by rw [gF b hb]; exact q⟩
      · obtain ⟨o', q⟩ := ub.there b o e hb
        exact ⟨o', gB b o' q⟩
  · obtain ⟨e', h⟩ := og b o e
    rcases h with h | h
    · obtain ⟨o', q⟩ := Option.isSome_iff_exists.mp h
      have z := st b o' q
      rw [e'] at z; cases z
      exact q
    · exact absurd h hb
end
/-- the block's context with its wish about exceptions -/
abbrev blkX (X : Cx) (s : Shared) (H : Hp) (scope : Scope) (cenv : Env) (fp : List Addr) (xe : Value → Shared → Prop) : Cx := { X.blk s H scope cenv fp with xe := xe }
section
variable {X : Cx}
theorem inv_xe {pins : List (Addr × Obj)} {σ : L2.St} {H : Hp} {s : Shared} {xe : Value → Shared → Prop} (I : Inv X pins σ H s) : Inv { X with xe := xe } pins σ H s :=
  ⟨⟨I.ok.mod, I.ok.kind, I.ok.glob, I.ok.blt, I.ok.above, I.ok.inj, I.ok.has, I.ok.cab, I.ok.hd, I.ok.frames, I.ok.stk, I.ok.exf, I.ok.bs, I.ok.bsz, I.ok.noex, I.ok.exfs, I.ok.funs, I.ok.frf⟩, I.os, I.bare, I.base, I.loc, I.cell, I.free, I.freeC, I.pin, I.hok, I.len⟩
/-- what a callee lets out in the block comes to the def's frame -/
theorem pass_blk {pins : List (Addr × Obj)} {σ : L2.St} {H3 : Hp} {s3 : Shared} {scope : Scope} {ce : Env} {fp : List Addr} {use : Option (Value → Sem Unit)} {Qf : Value → Shared → Prop} {acc : Value} {W : WX}
    (hs : X.stack = X.env :: X.outer) (hf : X.env.frame = some X.env.locals) (tk : Takes X W) (hce : ce.frame = X.env.frame) (hL : ce.locals = s3.heap.objs.size) (I3 : Inv X pins σ H3 s3) (hfp : ∀ b ∈ fp, FpOk X pins H3 b ∧ b < s3.heap.objs.size) :
    ∀ σ', PassesAt (L2.CX X.prog X.w) (blkX X s3 H3 scope ce fp (notedBy (model X.prog X.w) X.A ce fun e s' => compPostC (model X.prog X.w) X.A X.xe use Qf acc ce (.error e) s')) σ' (fun cls d H => W cls d σ H) := by
  intro σ' pinsB HB sB u s' IB c
  obtain ⟨a, B, H', cls, d, rfl, fl, hok, ub, na, os, ag, hE⟩ := c
  have IB0 : Inv (X.blk s3 H3 scope ce fp) pinsB σ' HB sB := inv_xe (xe := fun _ _ => False) IB
  have fl : HandSPX.FlyingZ B X.stack a (Zc cls d) s'.heap := fl
  have ub : UB (frs X.stack) HB H' sB.heap B s'.heap := ub
  obtain ⟨m, hns, _⟩ := IB0.loc
  have hns : sB.heap.Ns ce.locals m := hns
  have hCf : ce.locals ∉ frs X.stack := fun z => by
    obtain ⟨_, o, ho, _⟩ := I3.stack.mem z
    rw [hL] at ho
    exact absurd (Heap.lt_size ho) (Nat.lt_irrefl _)
  have hHC : HB ce.locals = none := IB0.free
  obtain ⟨oL, es, ep, hoL, hdL, hnr⟩ := id hns
  have hBC := ub.keep _ _ hoL hHC hCf
  have hsC : s'.heap.get? ce.locals = some oL := fl.1 _ _ hBC
  have hns' : s'.heap.Ns ce.locals m := ⟨oL, es, ep, hsC, hdL, hnr⟩
  -- the ground without the block's names
  have hB' : ∀ b o, B.get? b = some o → b ≠ ce.locals → (PySem.W.hideAll B [ce.locals]).get? b = some o := fun b o e n => PySem.W.hideAll_get _ e (by simpa using n)
  have hBn : (PySem.W.hideAll B [ce.locals]).get? ce.locals = none := PySem.W.hideAll_none _ (by simp)
  have sub : ∀ b, B.get? b = none → (PySem.W.hideAll B [ce.locals]).get? b = none := fun b e => by
    cases q : (PySem.W.hideAll B [ce.locals]).get? b with
    | none => rfl
    | some o => rw [PySem.W.of_hideAll _ q] at e; cases e
  have fl' : HandSPX.FlyingZ (PySem.W.hideAll B [ce.locals]) (X.env :: X.outer) a (Zc cls d) s'.heap := by
    rw [← hs]
    obtain ⟨x1, x2, x3, oe, vs, T, oT, ts, he, hz, hd, h1, hnT, r⟩ := fl
    exact ⟨fun b o e => x1 b o (PySem.W.of_hideAll _ e), sub _ x2, funFrames_none x3 fun L hLm => sub _ (x3.mem hLm).1, oe, vs, T, oT, ts, he, hz, hd, h1, sub _ hnT, r⟩
  have hfr : X.A.frames = some (X.env :: X.outer) := by rw [← hs]; exact I3.ok.frames
  show wpAny (model X.prog X.w) X.A (noteFrame (.ref a) ce) _ _ s'
  rw [noteFrame_ce _ hce]
  refine HandSPX.looks_onZ Zc.steady hfr hf fl' fun h1 hh up1 => ?_
  have hns1 : h1.Ns ce.locals m := by
    obtain ⟨sl, e⟩ := up1 _ _ hsC fun vs q => by rw [hdL] at q; cases q
    exact ⟨_, es, ep, e, hdL, hnr⟩
  refine ⟨m, hns1, fun h2 sb => ?_⟩
  rw [← hs] at hh
  have hh2 := held_but hns1 hBn hCf hh sb
  obtain ⟨b1, b2, b3, oe, vs, T, oT, ts, he, hz, hd, e1, hnT, r⟩ := id hh2
  unfold PySem.passOn
  refine wpAny_bind (wpAny_field he hd e1 ?_)
  rw [if_neg (show ¬ ((Value.ref T == Value.none) = true) from by simp), hce, hf]
  refine wpAny_bind (HandSPX.setFlight_onZ hh2 fun h3 hh3 up3 => wpAny_throw ?_)
  -- the state without the block's names
  have hsz : ∀ b o, s3.heap.get? b = some o → b ≠ ce.locals := fun b o e => by rw [hL]; exact Nat.ne_of_lt (Heap.lt_size e)
  have hid : ∀ b o, sB.heap.get? b = some o → b ≠ ce.locals → (PySem.W.hideAll sB.heap [ce.locals]).get? b = some o := fun b o e n => PySem.W.hideAll_get _ e (by simpa using n)
  have un : Un (frs X.stack) fp H3 HB s3.heap sB.heap := IB0.base
  have hokB : HOk X.prog X.w HB (PySem.W.hideAll sB.heap [ce.locals]) := fun b u q => (IB0.hok b u q).stay (fun c v hc e => hid c v e fun z => by
    rcases hc with hc | hc
    · rw [hc] at z; rw [z, hHC] at q; cases q
    · rw [z, hHC] at hc; cases hc) (fun _ y => y) fun _ _ y => y
  have J : Inv X pins σ HB { sB with heap := PySem.W.hideAll sB.heap [ce.locals] } := I3.call' (ch := fp) IB0.os
    ⟨fun b o e n h1 h2 => hid b o (un.keep b o e n h1 h2) (hsz b o e), fun b o e n h1 h2 => by
      obtain ⟨sl, q⟩ := un.slot b o e n h1 h2
      exact ⟨sl, hid b _ q (hsz b o e)⟩, un.free, fun b o e h1 => by
      obtain ⟨o', q⟩ := un.there b o e h1
      exact ⟨o', hid b _ q (hsz b o e)⟩, un.tups, un.frzs, un.tbls⟩ hokB IB0.bare fun b hb => ⟨(hfp b hb).1.2.2.2.1, (hfp b hb).1.2.1, (hfp b hb).1.2.2.2.2.1, (hfp b hb).1.2.2.2.2.2⟩
  refine tk _ _ (xe_held (B := PySem.W.hideAll B [ce.locals]) (cls := cls) (d := d) (H' := H') J hh3 (fun b u q => (hok b u q).stay (fun c v hc e => hB' c v e fun z => ?_) (fun _ y => y) fun _ _ y => y) ⟨fun b o e n hb => ?_, fun b o e hb => ?_, fun b o e n => ub.free b o (PySem.W.of_hideAll _ e) n, fun b o e hb => ?_, ub.tups, ub.frzs, ub.tbls⟩ na os ag hE)
  · have hn := ub.free _ _ hoL hHC
    rcases hc with hc | hc
    · rw [hc] at z; rw [z, hn] at q; cases q
    · rw [z, hn] at hc; cases hc
  · have z : b ≠ ce.locals := fun z => by rw [z, PySem.W.hideAll_none _ (by simp)] at e; cases e
    exact hB' b o (ub.keep b o (PySem.W.of_hideAll _ e) n hb) z
  · obtain ⟨sl, q⟩ := ub.slot b o (PySem.W.of_hideAll _ e) hb
    obtain ⟨_, o', q', hd'⟩ := fl'.2.2.1.mem (by rw [← hs]; exact hb)
    rw [q] at q'
    cases q'
    obtain ⟨s1, q1⟩ := up1 b _ q hd'
    have q2 : h2.get? b = _ := (sb.2 b fun z => hCf (z ▸ hb)).trans q1
    obtain ⟨s2, q3⟩ := up3 b _ q2 hd'
    exact ⟨s2, q3⟩
  · have z : b ≠ ce.locals := fun z => by rw [z, PySem.W.hideAll_none _ (by simp)] at e; cases e
    obtain ⟨o', q⟩ := ub.there b o (PySem.W.of_hideAll _ e) hb
    exact ⟨o', hB' b o' q z⟩
end
end

/-! ### texts as lists of signs -/
open TL
def tS (l : List Nat) : Str := ⟨l.toArray⟩
theorem tS_tl (x : Str) : tS (TL.tl x) = x := mk_tl x
theorem tS_app (a b : List Nat) : tS a ++ tS b = tS (a ++ b) := ext_tl (by rw [tl_append]; rfl)
theorem tS_inj {a b : List Nat} (h : tS a = tS b) : a = b := congrArg (fun x : Str => x.cps.toList) h
theorem tS_len (a : List Nat) : (tS a).length = a.length := by rw [len_tl]; rfl
def tL (s : String) : List Nat := s.toList.map Char.toNat
theorem tL_lit (s : String) : Str.ofString s = tS (tL s) := ext_tl (tl_ofString s)
theorem tS_num (n : Nat) : Str.ofString (toString ((n : Nat) : Int)) = tS (numL n) := ext_tl (tl_num n)
theorem dec_tS {a b : List Nat} : decide (V.str (tS a) = V.str (tS b)) = decide (a = b) := by
  by_cases h : a = b
  · rw [h]; simp
  · rw [decide_eq_false h, decide_eq_false (fun z => h (tS_inj (by injection z)))]
def sv (ws : List (List Nat)) : List V := ws.map fun w => V.str (tS w)
theorem sv_len (ws : List (List Nat)) : (sv ws).length = ws.length := List.length_map ..
theorem sv_app (a b : List (List Nat)) : sv (a ++ b) = sv a ++ sv b := List.map_append ..
theorem sv_at {ws : List (List Nat)} {i : Nat} (h : i < ws.length) : (sv ws)[i]? = some (.str (tS (ws.getD i []))) := by
  unfold sv
  rw [List.getElem?_map, List.getElem?_eq_getElem h, List.getD_eq_getElem?_getD, List.getElem?_eq_getElem h]
  rfl
theorem sv_strs (ws : List (List Nat)) : (ws.map tS).map V.str = sv ws := by unfold sv; rw [List.map_map]; rfl
theorem map_tl_tS (ws : List (List Nat)) : (ws.map tS).map TL.tl = ws := by
  rw [List.map_map]
  exact (List.map_congr_left fun w _ => rfl).trans (List.map_id' ws)
theorem split_tS (a b : List Nat) (hb : b ≠ []) (hk : b.all (· < 256) = true) : Txt.split (tS a) (tS b) = (spl b 0 [] a).map tS := by
  refine map_tl_inj ?_
  have h : (Txt.split (tS a) (tS b)).map TL.tl = spl b 0 [] a := split_spl (tS a) (tS b) hb (kind_ok (by
    show b.toArray.all (· < 256) = true
    rw [List.all_toArray]; exact hk))
  rw [h, map_tl_tS]
theorem join_tS (a : List Nat) (ws : List (List Nat)) : Txt.join (tS a) (ws.map tS) = tS (joinL a ws) := by
  rw [join_eq]
  refine ext_tl ?_
  rw [tl_join, map_tl_tS]
  rfl
theorem tl_cps (l : List Nat) : (tS l).cps.toList = l := rfl
section
variable {X : Cx} {o e : Expr} {to te : TE}
def rJoin (K : PySem.W.Frag) : V → List V → Hp → VK → Prop := fun x xs H Q => ∃ a p, ∃ ys : List Str, x = .str a ∧ xs = [.ref p] ∧ (SqL K H p (ys.map V.str) ∨ SqT K H p (ys.map V.str)) ∧
  (ys.map fun y => y.length).sum + ys.length * a.length ≤ 16777216 ∧ Q (.str (Txt.join a ys)) H
theorem pe_joinK (K : PySem.W.Frag) {apos pos : Pos} (ho : PE X o to) (he : PE X e te) (hs : starEach [e] X.env = [(false, eval e X.env)] := by rfl) (hbase : attributeBase o "join" X.env (eval o X.env) = eval o X.env := by rfl) (hline : (apos.endLine == pos.line) = true := by rfl) (hK : X.K = K := by rfl) :
    PE X (.Call (.Attribute o "join" apos) [e] [] pos) (tM1 (rJoin K) to te) := by subst hK; exact pe_join ho he hs hbase hline
end
section
variable {σ : L2.St} {H : Hp} {Q : VK} {D : Ends} {K : PySem.W.Frag} {p : Addr} {to te : TE} {a b : List Nat} {n c : Nat}
theorem w_cS {s : String} (h : Q (.str (tS (tL s))) H) : tC (.str (Str.ofString s)) σ H Q := by rw [tL_lit]; exact h
theorem w_m1 {r : V → List V → Hp → VK → Prop} (h : to σ H fun x H1 => (∃ a, x = .str a) ∧ te σ H1 fun y H2 => r x [y] H2 Q) : tM1 r to te σ H Q := h
theorem w_isS {a : Str} {R : Prop} (h : R) : (∃ b, V.str a = .str b) ∧ R := ⟨⟨a, rfl⟩, h⟩
theorem w_split (hb : b ≠ []) (hk : b.all (· < 256) = true) (ha : a.length + 2 ≤ sizeLine) (h : ∀ p, New H p → Q (.ref p) (upd H p (.lst (sv (spl b 0 [] a))))) :
    ∃ a' b', V.str (tS a) = .str a' ∧ [V.str (tS b)] = [.str b'] ∧ (b'.length == 0) = false ∧ a'.length + 2 ≤ sizeLine ∧ rNewStrs (Txt.split a' b') H Q := by
  refine ⟨tS a, tS b, rfl, rfl, ?_, by rw [tS_len]; exact ha, ?_⟩
  · rw [tS_len]
    cases b with
    | nil => exact absurd rfl hb
    | cons => rfl
  · intro p np
    rw [split_tS a b hb hk, sv_strs]
    exact h p np
theorem w_join {ws : List (List Nat)} (hs : SqL K H p (sv ws)) (hz : (ws.map List.length).sum + ws.length * a.length ≤ 16777216) (h : Q (.str (tS (joinL a ws))) H) : rJoin K (.str (tS a)) [.ref p] H Q := by
  refine ⟨tS a, p, ws.map tS, rfl, rfl, .inl (by rw [sv_strs]; exact hs), ?_, by rw [join_tS]; exact h⟩
  rw [List.map_map, tS_len, List.length_map]
  have e : (ws.map ((fun y : Str => y.length) ∘ tS)) = ws.map List.length := List.map_congr_left fun w _ => tS_len w
  rw [e]
  exact hz
theorem w_addS (hz : a.length + b.length ≤ sizeLine) (h : Q (.str (tS (a ++ b))) H) : ∃ i j, V.str (tS a) = .str i ∧ V.str (tS b) = .str j ∧ i.length + j.length ≤ sizeLine ∧ Q (.str (i ++ j)) H :=
  ⟨tS a, tS b, rfl, rfl, by rw [tS_len, tS_len]; exact hz, by rw [tS_app]; exact h⟩
theorem log2_small {n : Nat} (h : n < 2 ^ 1900) : (n : Int).natAbs.log2 < 1920 := by
  rw [Int.natAbs_natCast]
  by_cases h0 : n = 0
  · subst h0; decide
  · exact (Nat.log2_lt h0).mpr (Nat.lt_of_lt_of_le h (Nat.pow_le_pow_right (by decide) (by decide)))
theorem w_strI (hn : n < 2 ^ 1900) (h : Q (.str (tS (numL n))) H) : ∃ i, [V.int (n : Nat)] = [.int i] ∧ i.natAbs.log2 < 1920 ∧ Q (.str (toString i)) H :=
  ⟨_, rfl, log2_small hn, by rw [tS_num]; exact h⟩
theorem w_strJ (hn : n < 2 ^ 1900) (h : Q (.str (tS (numL n))) H) : (n : Int).natAbs.log2 < 1920 ∧ Q (.str (Str.ofString (toString ((n : Nat) : Int)))) H := ⟨log2_small hn, by rw [tS_num]; exact h⟩
theorem w_eqT (h : Q (.bl (decide (a = b))) H) : rEq (.str (tS a)) (.str (tS b)) H Q := ⟨rfl, by rw [dec_tS]; exact h⟩
theorem w_neT (h : Q (.bl (!decide (a = b))) H) : rNe (.str (tS a)) (.str (tS b)) H Q := ⟨rfl, by rw [dec_tS]; exact h⟩
theorem w_1s {x : Str} {R : Str → Prop} (h : R x) : ∃ z, [V.str x] = [.str z] ∧ R z := ⟨x, rfl, h⟩
theorem w_2s {x y : Str} {R : Str → Str → Prop} (h : R x y) : ∃ i j, V.str x = .str i ∧ V.str y = .str j ∧ R i j := ⟨x, y, rfl, rfl, h⟩
theorem w_inR {R : Nat → Str → Prop} (h : R c (tS b)) : ∃ (c' : Nat) (z : Str), V.str (tS [c]) = .str ⟨#[c']⟩ ∧ V.str (tS b) = .str z ∧ R c' z := ⟨c, tS b, rfl, rfl, h⟩
theorem w_lenS (hz : a.length ≤ sizeLine) (h : Q (.int a.length) H) : ∃ z, [V.str (tS a)] = [.str z] ∧ z.length ≤ sizeLine ∧ Q (.int z.length) H := ⟨tS a, rfl, by rw [tS_len]; exact hz, by rw [tS_len]; exact h⟩
theorem w_ixS {i : Int} (hz : a.length ≤ sizeLine) (hi : atI a i = some c) (h : Q (.str (tS [c])) H) : rIxS (.str (tS a)) (.int i) H Q := ⟨tS a, i, c, rfl, rfl, by rw [tS_len]; exact hz, hi, h⟩
theorem w_inT (h : Q (.bl (decide (c ∈ b))) H) : ∃ (c' : Nat) (z : Str), V.str (tS [c]) = .str ⟨#[c']⟩ ∧ V.str (tS b) = .str z ∧ Q (.bl (decide (c' ∈ z.cps.toList))) H := ⟨c, tS b, rfl, rfl, h⟩
theorem w_ninT (h : Q (.bl (!decide (c ∈ b))) H) : ∃ (c' : Nat) (z : Str), V.str (tS [c]) = .str ⟨#[c']⟩ ∧ V.str (tS b) = .str z ∧ Q (.bl (!decide (c' ∈ z.cps.toList))) H := ⟨c, tS b, rfl, rfl, h⟩
theorem w_iStr {R : It → Hp → Prop} (h : te σ H fun v H1 => ∃ x, v = .str x ∧ R (Its x) H1) : iStr te σ H R := h
theorem w_itS {R : Str → Prop} (h : R (tS a)) : ∃ x, V.str (tS a) = .str x ∧ R x := ⟨tS a, rfl, h⟩
theorem for_str {g : TG} {tb : TS} {D : Ends} {σ : L2.St} {H : Hp} (Pv : Nat → L2.St → Hp → Prop) (h0 : Pv 0 σ H)
    (hs : ∀ i c σ H, a[i]? = some c → Pv i σ H → g (.str (tS [c])) σ H fun σ2 H2 => tb { D with nx := Pv (i + 1), ct := Pv (i + 1), bk := D.nx } σ2 H2) (hd : ∀ σ H, Pv a.length σ H → D.nx σ H) :
    ∃ W : Nat → Nat → L2.St → Hp → Prop, (∃ m, W 0 m σ H) ∧ ∀ i m σ H, W i m σ H →
      ((Its (tS a)).stop i H ∧ D.nx σ H) ∨ ((Its (tS a)).go i H ∧ ∃ N : L2.St → Hp → Prop, (∀ σ' H', N σ' H' → ∃ m', m' < m ∧ W (i + 1) m' σ' H') ∧ ∀ x H', (Its (tS a)).yld i H x H' → g x σ H' fun σ2 H2 => tb { D with nx := N, ct := N, bk := D.nx } σ2 H2) := by
  have sz : (tS a).cps.size = a.length := by simp [tS]
  refine ⟨fun i m σ H => m = a.length - i ∧ i ≤ a.length ∧ Pv i σ H, ⟨a.length, by simp, Nat.zero_le _, h0⟩, ?_⟩
  rintro i m σ H ⟨rfl, hi, p⟩
  by_cases hlt : i < a.length
  · refine .inr ⟨by show i < (tS a).cps.size; rw [sz]; exact hlt, Pv (i + 1), fun σ' H' p' => ⟨a.length - (i + 1), by omega, rfl, hlt, p'⟩, fun x H' y => ?_⟩
    obtain ⟨e, c, hc, ex⟩ := y
    subst e
    subst ex
    exact hs i c σ _ (by rw [← hc]; show _ = a.toArray[i]?; rw [List.getElem?_toArray]) p
  · have e : i = a.length := by omega
    subst e
    exact .inl ⟨by show (tS a).cps.size ≤ a.length; rw [sz]; exact Nat.le_refl _, hd σ H p⟩
end
/-! ### rows of words -/
theorem joinL_cons (s : List Nat) (h : List Nat) (ws : List (List Nat)) : joinL s (h :: ws) = h ++ (ws.map fun w => s ++ w).flatten := by
  induction ws generalizing h with
  | nil => simp [joinL]
  | cons w r ih =>
    show h ++ (s ++ joinL s (w :: r)) = _
    rw [ih]
    simp
theorem joinL_sum (s h : List Nat) (ws : List (List Nat)) : ((h :: ws).map List.length).sum + ws.length * s.length = (joinL s (h :: ws)).length := by
  rw [joinL_cons, List.length_append, List.map_cons, List.sum_cons]
  have : ((ws.map fun w => s ++ w).flatten).length = (ws.map List.length).sum + ws.length * s.length := by
    induction ws with
    | nil => simp
    | cons w r ih =>
      rw [List.map_cons, List.flatten_cons, List.length_append, ih, List.length_append, List.map_cons, List.sum_cons, List.length_cons, Nat.add_mul]
      omega
  omega
theorem joinL_nil (ws : List (List Nat)) : joinL [] ws = ws.flatten := by
  cases ws with
  | nil => rfl
  | cons h r => rw [joinL_cons]; simp
/-- a word and numbers -/
def rowB (h : List Nat) (ns : List Nat) : List Nat := h ++ (ns.map fun n => 32 :: numL n).flatten
theorem rowB_join (h : List Nat) (ns : List Nat) : joinL [32] (h :: ns.map numL) = rowB h ns := by
  rw [joinL_cons, List.map_map]
  rfl
theorem rowB_snoc (h : List Nat) (ns : List Nat) (n : Nat) : rowB h (ns ++ [n]) = rowB h ns ++ 32 :: numL n := by
  unfold rowB
  rw [List.map_append, List.flatten_append]
  simp
theorem rowB_split {h : List Nat} {ns : List Nat} (hh : 32 ∉ h) : spl [32] 0 [] (rowB h ns) = h :: ns.map numL := by
  rw [← rowB_join]
  refine spl_join (by simp) fun p hp => ?_
  rcases List.mem_cons.mp hp with rfl | hp
  · exact hh
  · obtain ⟨n, _, rfl⟩ := List.mem_map.mp hp
    exact numL_free (.inl (by decide))
theorem rowB_free {h : List Nat} {ns : List Nat} (hh : 10 ∉ h) : 10 ∉ rowB h ns := by
  unfold rowB
  intro z
  rcases List.mem_append.mp z with z | z
  · exact hh z
  · obtain ⟨l, hl, z⟩ := List.mem_flatten.mp z
    obtain ⟨n, _, rfl⟩ := List.mem_map.mp hl
    rcases List.mem_cons.mp z with z | z
    · exact absurd z (by decide)
    · exact numL_free (.inl (by decide)) z
theorem rowB_len {h : List Nat} {ns : List Nat} {k : Nat} (hk : 0 < k) (hn : ∀ n ∈ ns, n < 10 ^ k) : (rowB h ns).length ≤ h.length + (k + 1) * ns.length := by
  induction ns with
  | nil => simp [rowB]
  | cons n r ih =>
    have h1 := ih fun m hm => hn m (List.mem_cons_of_mem _ hm)
    have h2 := numL_len hk (hn n List.mem_cons_self)
    unfold rowB at h1 ⊢
    rw [List.map_cons, List.flatten_cons, List.length_append, List.length_append, List.length_cons] at *
    rw [List.length_cons, Nat.mul_add]
    omega
/-- rows, each ended -/
def endL (rs : List (List Nat)) : List Nat := (rs.map fun r => r ++ [10]).flatten
theorem endL_join (rs : List (List Nat)) : endL rs = joinL [10] (rs ++ [[]]) := by
  induction rs with
  | nil => rfl
  | cons r s ih =>
    unfold endL at ih ⊢
    rw [List.map_cons, List.flatten_cons, ih]
    cases hs : s ++ [[]] with
    | nil => simp at hs
    | cons x y =>
      show _ = joinL [10] (r :: (s ++ [[]]))
      rw [hs]
      show r ++ [10] ++ joinL [10] (x :: y) = r ++ ([10] ++ joinL [10] (x :: y))
      rw [List.append_assoc]
theorem endL_split {rs : List (List Nat)} (h : ∀ r ∈ rs, 10 ∉ r) : spl [10] 0 [] (endL rs) = rs ++ [[]] := by
  rw [endL_join]
  refine spl_join (by simp) fun p hp => ?_
  rcases List.mem_append.mp hp with hp | hp
  · exact h p hp
  · rw [List.mem_singleton.mp hp]; simp
theorem endL_snoc (rs : List (List Nat)) (r : List Nat) : endL (rs ++ [r]) = endL rs ++ r ++ [10] := by
  unfold endL
  rw [List.map_append, List.flatten_append]
  simp
theorem endL_len {rs : List (List Nat)} {k : Nat} (h : ∀ r ∈ rs, r.length ≤ k) : (endL rs).length ≤ (k + 1) * rs.length := by
  induction rs with
  | nil => simp [endL]
  | cons r s ih =>
    have h1 := ih fun q hq => h q (List.mem_cons_of_mem _ hq)
    have h2 := h r List.mem_cons_self
    unfold endL at h1 ⊢
    rw [List.map_cons, List.flatten_cons, List.length_append, List.length_append, List.length_cons, List.length_nil, List.length_cons, Nat.mul_add]
    omega
/-- no number but nought begins with nought -/
theorem numL_head : ∀ n : Nat, 0 < n → ∃ c r, numL n = c :: r ∧ c ≠ 48 := by
  intro n
  induction n using Nat.strongRecOn with
  | _ n ih =>
    intro h
    by_cases h2 : n < 10
    · exact ⟨48 + n, [], numL_lt h2, by omega⟩
    · obtain ⟨c, r, e, hc⟩ := ih (n / 10) (by omega) (by omega)
      exact ⟨c, r ++ [48 + n % 10], by rw [numL_step (by omega), e]; rfl, hc⟩
theorem numL_ok {n : Nat} {c : Nat} {r : List Nat} (h : numL n = c :: r) : ¬ (c = 48 ∧ 1 < (numL n).length) := fun ⟨a, b⟩ => by
  by_cases h0 : n = 0
  · subst h0; exact absurd b (by decide)
  · obtain ⟨c', r', e, hc⟩ := numL_head n (by omega)
    rw [e] at h
    injection h with h1 h2
    exact hc (h1.trans a)
theorem numL_fig {n c : Nat} (h : c ∈ numL n) : c ∈ tL "0123456789" := by
  have := numL_digits n c h
  have e : tL "0123456789" = [48, 49, 50, 51, 52, 53, 54, 55, 56, 57] := by decide
  rw [e]
  simp
  omega
theorem w_intS {n : Nat} {R : Int → Prop} (hn : (numL n).length ≤ 640) (h : R (n : Nat)) : ∃ a m, [V.str (tS (numL n))] = [.str a] ∧ PySem.intText? a = some m ∧ a.length ≤ 640 ∧ R m := by
  refine ⟨_, _, rfl, ?_, by rw [tS_len]; exact hn, h⟩
  rw [← tS_num]
  exact int_num (by omega)

theorem dec_lit {a : List Nat} {s : String} : decide (tS a = Str.ofString s) = decide (a = tL s) := by
  rw [tL_lit]
  by_cases h : a = tL s
  · rw [h]; simp
  · rw [decide_eq_false h, decide_eq_false (fun z => h (tS_inj z))]
theorem dec_tt {a b : List Nat} : decide (tS a = tS b) = decide (a = b) := by
  by_cases h : a = b
  · rw [h]; simp
  · rw [decide_eq_false h, decide_eq_false (fun z => h (tS_inj z))]
theorem cutV_init (xs : List V) (v : V) : cutV (xs ++ [v]) none (some (-1)) = xs := by
  have e : HT.sIx (xs ++ [v]).length (xs ++ [v]).length (some (-1)) = xs.length := by
    rw [List.length_append, List.length_singleton]
    unfold HT.sIx
    simp
    omega
  unfold cutV
  rw [e]
  have e0 : HT.sIx (xs ++ [v]).length 0 none = 0 := rfl
  rw [e0, List.drop_zero, Nat.sub_zero]
  simp
def ended (rs : List (List Nat)) : List (List Nat) := rs.map fun r => r ++ [10]
theorem ended_snoc (rs : List (List Nat)) (r : List Nat) : ended (rs ++ [r]) = ended rs ++ [r ++ [10]] := List.map_append ..

open TL
def digs (w : List Nat) : Bool := w.all fun c => decide (c ∈ tL "0123456789")
theorem fig_set : tL "0123456789" = [48, 49, 50, 51, 52, 53, 54, 55, 56, 57] := by decide
theorem digs_all {w : List Nat} (h : digs w = true) : NumText.AllDigits w := fun c hc => by
  have := List.all_eq_true.mp h c hc
  have := of_decide_eq_true this
  rw [fig_set] at this
  simp at this
  omega
/-- the parts of a text are no longer than it -/
theorem spl_len (S : List Nat) (hS : S ≠ []) : ∀ (l acc : List Nat) (k : Nat), (spl S k acc l).length ≤ l.length + 1 ∧ ∀ w ∈ spl S k acc l, w.length ≤ acc.length + l.length := by
  intro l
  induction l with
  | nil =>
    intro acc k
    rw [spl_nil]
    exact ⟨by simp, fun w hw => by rw [List.mem_singleton.mp hw]; omega⟩
  | cons c r ih =>
    intro acc k
    cases k with
    | zero =>
      cases h : pre S (c :: r) with
      | true =>
        rw [spl_hit h]
        obtain ⟨h1, h2⟩ := ih [] (S.length - 1)
        refine ⟨by rw [List.length_cons, List.length_cons]; omega, fun w hw => ?_⟩
        rcases List.mem_cons.mp hw with rfl | hw
        · omega
        · have := h2 w hw
          rw [List.length_nil] at this
          rw [List.length_cons]
          omega
      | false =>
        rw [spl_miss h]
        obtain ⟨h1, h2⟩ := ih (acc ++ [c]) 0
        refine ⟨by rw [List.length_cons]; omega, fun w hw => ?_⟩
        have := h2 w hw
        rw [List.length_append, List.length_singleton] at this
        rw [List.length_cons]
        omega
    | succ k =>
      rw [spl_pass, List.drop_succ_cons, ← spl_pass]
      obtain ⟨h1, h2⟩ := ih acc k
      exact ⟨by rw [List.length_cons]; omega, fun w hw => by have := h2 w hw; rw [List.length_cons]; omega⟩
theorem spl_ne (S : List Nat) : ∀ (l acc : List Nat) (k : Nat), spl S k acc l ≠ [] := by
  intro l
  induction l with
  | nil => intro acc k; rw [spl_nil]; simp
  | cons c r ih =>
    intro acc k
    cases k with
    | zero =>
      cases h : pre S (c :: r) with
      | true => rw [spl_hit h]; simp
      | false => rw [spl_miss h]; exact ih _ _
    | succ k => rw [spl_pass, List.drop_succ_cons, ← spl_pass]; exact ih _ _

open TL
/-! ### what a web's text tells -/
def figN (k : Nat) (w : List Nat) : Option Nat := if w = [] ∨ k < w.length ∨ (w.head? = some 48 ∧ 1 < w.length) then none else if digs w = true then some (NumText.digitsVal w) else none
theorem figN_lt {k : Nat} {w : List Nat} {n : Nat} (h : figN k w = some n) : n < 10 ^ k := by
  unfold figN at h
  split at h
  · cases h
  · rename_i hc
    split at h
    · rename_i hd
      injection h with h
      have hl : w.length ≤ k := Nat.le_of_not_lt fun z => hc (.inr (.inl z))
      have key : ∀ (l : List Nat) (a : Nat), NumText.AllDigits l → l.foldl (fun acc c => acc * 10 + (c - 48)) a < (a + 1) * 10 ^ l.length := by
        intro l
        induction l with
        | nil => intro a _; simp
        | cons c r ih =>
          intro a hr
          have hc := hr.head
          have := ih (a * 10 + (c - 48)) hr.tail
          rw [List.foldl_cons, List.length_cons, Nat.pow_succ]
          refine Nat.lt_of_lt_of_le this ?_
          rw [show (a + 1) * (10 ^ r.length * 10) = ((a + 1) * 10) * 10 ^ r.length by rw [Nat.mul_comm (10 ^ r.length) 10, Nat.mul_assoc]]
          exact Nat.mul_le_mul_right _ (by omega)
      have := key w 0 (digs_all hd)
      rw [← h]
      unfold NumText.digitsVal
      refine Nat.lt_of_lt_of_le this ?_
      rw [Nat.zero_add, Nat.one_mul]
      exact Nat.pow_le_pow_right (by decide) hl
    · cases h
theorem figN_int {k : Nat} {w : List Nat} {n : Nat} (hk : k ≤ 600) (h : figN k w = some n) : PySem.intText? (tS w) = some (n : Int) := by
  unfold figN at h
  split at h
  · cases h
  · rename_i hc
    split at h
    · rename_i hd
      injection h with h
      have hl : w.length ≤ k := Nat.le_of_not_lt fun z => hc (.inr (.inl z))
      have e := intText_digits (x := tS w) (digs_all hd) (fun z => hc (.inl z)) (by rw [tS_len]; omega)
      rw [e, ← h]
      rfl
    · cases h
theorem figN_num {k n : Nat} (hk : 0 < k) (hk2 : k ≤ 600) (h : n < 10 ^ k) : figN k (numL n) = some n := by
  have hl := numL_len hk h
  have hd : digs (numL n) = true := by
    unfold digs
    rw [List.all_eq_true]
    intro c hc
    exact decide_eq_true (numL_fig hc)
  have hno : ¬ (numL n = [] ∨ k < (numL n).length ∨ ((numL n).head? = some 48 ∧ 1 < (numL n).length)) := by
    rintro (z | z | ⟨z1, z2⟩)
    · exact numL_ne n z
    · omega
    · cases e : numL n with
      | nil => exact numL_ne n e
      | cons c r =>
        rw [e] at z1
        injection z1 with z1
        exact numL_ok e ⟨z1, z2⟩
  have e : figN k (numL n) = some (NumText.digitsVal (numL n)) := by unfold figN; rw [if_neg hno, if_pos hd]
  have e2 := figN_int hk2 e
  have e3 : PySem.intText? (tS (numL n)) = some (n : Int) := by
    rw [← tS_num]
    exact int_num (by omega)
  rw [e3] at e2
  injection e2 with e2
  rw [e]
  congr 1
  omega
def numsN (k : Nat) : List (List Nat) → Option (List Nat)
  | [] => some []
  | w :: ws => match figN k w with
    | none => none
    | some n => match numsN k ws with
      | none => none
      | some r => some (n :: r)
theorem numsN_cons (k : Nat) (w : List Nat) (ws : List (List Nat)) : numsN k (w :: ws) = match figN k w with
    | none => none
    | some n => match numsN k ws with
      | none => none
      | some r => some (n :: r) := rfl
theorem numsN_app (k : Nat) : ∀ (a b : List (List Nat)), numsN k (a ++ b) = match numsN k a with
    | none => none
    | some x => match numsN k b with
      | none => none
      | some y => some (x ++ y)
  | [], b => by
    rw [List.nil_append, show numsN k [] = some [] from rfl]
    cases numsN k b <;> rfl
  | w :: r, b => by
    have ih := numsN_app k r b
    rw [List.cons_append, numsN_cons, numsN_cons, ih]
    cases figN k w <;> cases numsN k r <;> cases numsN k b <;> rfl
theorem numsN_lt {k : Nat} : ∀ (ws : List (List Nat)) (ns : List Nat), numsN k ws = some ns → ns.length = ws.length ∧ ∀ n ∈ ns, n < 10 ^ k
  | [], ns, h => by injection h with h; subst h; exact ⟨rfl, fun n hn => absurd hn List.not_mem_nil⟩
  | w :: r, ns, h => by
    unfold numsN at h
    cases e : figN k w with
    | none => rw [e] at h; cases h
    | some n =>
      rw [e] at h
      cases e2 : numsN k r with
      | none => rw [e2] at h; cases h
      | some x =>
        rw [e2] at h
        injection h with h
        subst h
        obtain ⟨h1, h2⟩ := numsN_lt r x e2
        refine ⟨by rw [List.length_cons, List.length_cons, h1], fun m hm => ?_⟩
        rcases List.mem_cons.mp hm with rfl | hm
        · exact figN_lt e
        · exact h2 m hm
theorem numsN_none {k : Nat} {ws : List (List Nat)} {i : Nat} {w : List Nat} (h : ws[i]? = some w) (hw : figN k w = none) : numsN k ws = none := by
  have hi := (List.getElem?_eq_some_iff.mp h).1
  have e : ws = ws.take i ++ (w :: ws.drop (i + 1)) := by
    have : ws.drop i = w :: ws.drop (i + 1) := by
      rw [List.drop_eq_getElem_cons hi, (List.getElem?_eq_some_iff.mp h).2]
    rw [← this, List.take_append_drop]
  rw [e, numsN_app]
  have : numsN k (w :: ws.drop (i + 1)) = none := by unfold numsN; rw [hw]
  rw [this]
  cases numsN k (ws.take i) <;> rfl
theorem numsN_snoc {k : Nat} {a : List (List Nat)} {x : List Nat} {w : List Nat} {n : Nat} (h : numsN k a = some x) (hw : figN k w = some n) : numsN k (a ++ [w]) = some (x ++ [n]) := by
  rw [numsN_app, h]
  have : numsN k [w] = some [n] := by unfold numsN; rw [hw]; rfl
  rw [this]
theorem numsN_nums {k : Nat} (hk : 0 < k) (hk2 : k ≤ 600) : ∀ (ns : List Nat), (∀ n ∈ ns, n < 10 ^ k) → numsN k (ns.map numL) = some ns
  | [], _ => rfl
  | n :: r, h => by
    rw [List.map_cons, numsN_cons, figN_num hk hk2 (h n List.mem_cons_self), numsN_nums hk hk2 r fun m hm => h m (List.mem_cons_of_mem _ hm)]
/-- the first word and the others -/
def hdW (row : List Nat) : List Nat := (spl [32] 0 [] row).headD []
def tlW (row : List Nat) : List (List Nat) := (spl [32] 0 [] row).tail
theorem spl_hd (row : List Nat) : spl [32] 0 [] row = hdW row :: tlW row := by
  unfold hdW tlW
  cases e : spl [32] 0 [] row with
  | nil => exact absurd e (spl_ne _ _ _ _)
  | cons a b => rfl
def placesM (row : List Nat) : Option Nat := if hdW row = tL "places" then (match numsN 31 (tlW row) with
    | some [n] => if n < 2 ∨ 40 < n then none else some n
    | _ => none) else none
abbrev Trow := List Nat × Nat × Nat × Nat
def tieM (row : List Nat) : Option Trow := match numsN 31 (tlW row) with
  | some [a, b, c] => if 10 ^ 30 < c then none else some (hdW row, a, b, c)
  | _ => none
def turnsM (row : List Nat) (p : Nat) : Option (List Nat) := if hdW row = tL "about" then (match numsN 31 (tlW row) with
    | some (n :: r) => if n = p then some r else none
    | _ => none) else none
def isTie (row : List Nat) : Bool := decide (hdW row = tL "pull" ∨ hdW row = tL "push")
def tiesW (ws : List (List Nat)) : Nat → Nat → List Trow → Sum Nat (Nat × List Trow)
  | 0, _, _ => .inl 0
  | f + 1, k, told => if ws.length ≤ k + 1 then .inl ws.length else if isTie (ws.getD k []) = true then
      (if told.length = 80 then .inl (k + 1) else match tieM (ws.getD k []) with
        | none => .inl (k + 1)
        | some t => tiesW ws f (k + 1) (told ++ [t])) else .inr (k, told)
def turnsW (ws : List (List Nat)) : Nat → Nat → Nat → List (List Nat) → Sum Nat (Nat × List (List Nat))
  | 0, _, k, T => .inr (k, T)
  | n + 1, p, k, T => if ws.length ≤ k + 1 then .inl ws.length else match turnsM (ws.getD k []) p with
    | none => .inl (k + 1)
    | some r => turnsW ws n (p + 1) (k + 1) (T ++ [r])
abbrev WebW := Nat × List Trow × List (List Nat)
def readL (ws : List (List Nat)) : Sum Nat WebW := if ws.length ≤ 1 then .inl ws.length else match placesM (ws.getD 0 []) with
  | none => .inl 1
  | some m => match tiesW ws ws.length 1 [] with
    | .inl a => .inl a
    | .inr (k, told) => match turnsW ws m 0 k [] with
      | .inl a => .inl a
      | .inr (k2, T) => if k2 + 1 = ws.length ∧ ws.getD k2 [] = [] then .inr (m, told, T) else .inl (k2 + 1)
def readW (text : List Nat) : Sum Nat WebW := readL (spl [10] 0 [] text)
def tiR (t : Trow) : Ti := ⟨decide (t.1 = tL "push"), t.2.1, t.2.2.1, t.2.2.2⟩
/-! ### the text of a web -/
def kindW (b : Bool) : List Nat := if b = true then tL "push" else tL "pull"
def tieRow (t : Ti) : List Nat := rowB (kindW t.push) [t.one, t.two, t.s]
def aboutRow (T : Turns) (p : Nat) : List Nat := rowB (tL "about") (p :: row T p)
def headRow (n : Nat) : List Nat := rowB (tL "places") [n]
def webRows (ts : List Ti) (T : Turns) : List (List Nat) := headRow T.length :: (ts.map tieRow ++ (List.range T.length).map (aboutRow T))
def webText (ts : List Ti) (T : Turns) : List Nat := endL (webRows ts T)
structure TextOk (ts : List Ti) (T : Turns) : Prop where
  two : 2 ≤ T.length
  most : T.length ≤ 40
  ties : ts.length ≤ 80
  ends : ∀ t ∈ ts, t.one < 40 ∧ t.two < 40
  str : ∀ t ∈ ts, t.s ≤ 10 ^ 30
  turns : ∀ p, ∀ n ∈ row T p, n < 80
theorem rowB_hd {h : List Nat} {ns : List Nat} (hh : 32 ∉ h) : hdW (rowB h ns) = h ∧ tlW (rowB h ns) = ns.map numL := by
  unfold hdW tlW
  rw [rowB_split hh]
  exact ⟨rfl, rfl⟩
theorem placesM_row {n : Nat} (h : 2 ≤ n) (h2 : n ≤ 40) : placesM (headRow n) = some n := by
  obtain ⟨e1, e2⟩ := rowB_hd (h := tL "places") (ns := [n]) (by decide)
  unfold placesM headRow
  rw [e1, e2, if_pos rfl, numsN_nums (by decide) (by decide) [n] fun m hm => by
    rw [List.mem_singleton.mp hm]
    exact Nat.lt_of_le_of_lt h2 (by decide)]
  show (if n < 2 ∨ 40 < n then none else some n) = some n
  rw [if_neg (by omega)]
def tR (t : Ti) : Trow := (kindW t.push, t.one, t.two, t.s)
theorem tiR_tR (t : Ti) : tiR (tR t) = t := by
  cases t with
  | mk p a b c => cases p <;> rfl
theorem tieRow_is (t : Ti) : isTie (tieRow t) = true := by
  cases t with
  | mk p a b c =>
    unfold isTie tieRow
    cases p
    · rw [(rowB_hd (h := kindW false) (by decide)).1]; decide
    · rw [(rowB_hd (h := kindW true) (by decide)).1]; decide
theorem tieM_row {t : Ti} (h1 : t.one < 40) (h2 : t.two < 40) (h3 : t.s ≤ 10 ^ 30) : tieM (tieRow t) = some (tR t) := by
  have hh : 32 ∉ kindW t.push := by cases t.push <;> decide
  obtain ⟨e1, e2⟩ := rowB_hd (ns := [t.one, t.two, t.s]) hh
  unfold tieM tieRow
  rw [e1, e2, numsN_nums (by decide) (by decide) [t.one, t.two, t.s] fun m hm => by
    have hm : m = t.one ∨ m = t.two ∨ m = t.s := by simpa using hm
    rcases hm with rfl | rfl | rfl
    · exact Nat.lt_trans h1 (by decide)
    · exact Nat.lt_trans h2 (by decide)
    · exact Nat.lt_of_le_of_lt h3 (by decide)]
  show (if 10 ^ 30 < t.s then none else some (kindW t.push, t.one, t.two, t.s)) = _
  rw [if_neg (by omega)]
  rfl
theorem aboutRow_not (T : Turns) (p : Nat) : isTie (aboutRow T p) = false := by
  unfold isTie aboutRow
  rw [(rowB_hd (h := tL "about") (by decide)).1]
  decide
theorem turnsM_row {T : Turns} {p : Nat} (hp : p < 40) (h : ∀ n ∈ row T p, n < 80) : turnsM (aboutRow T p) p = some (row T p) := by
  obtain ⟨e1, e2⟩ := rowB_hd (h := tL "about") (ns := p :: row T p) (by decide)
  unfold turnsM aboutRow
  rw [e1, e2, if_pos rfl, numsN_nums (by decide) (by decide) (p :: row T p) fun m hm => by
    rcases List.mem_cons.mp hm with rfl | hm
    · exact Nat.lt_trans hp (by decide)
    · exact Nat.lt_trans (h m hm) (by decide)]
  show (if p = p then some (row T p) else none) = _
  rw [if_pos rfl]
theorem tiesW_rows (ws : List (List Nat)) (u : List (List Nat)) (hn : isTie (u.headD []) = false) (hul : 2 ≤ u.length) : ∀ (ts : List Ti) (k f : Nat) (told : List Trow), ws.drop k = ts.map tieRow ++ u → ts.length < f → told.length + ts.length ≤ 80 → (∀ t ∈ ts, t.one < 40 ∧ t.two < 40 ∧ t.s ≤ 10 ^ 30) → tiesW ws f k told = .inr (k + ts.length, told ++ ts.map tR)
  | [], k, f + 1, told, hd, _, _, _ => by
    have hl : ws.length - k = u.length := by rw [← List.length_drop, hd]; rfl
    have hg : ws.getD k [] = u.headD [] := by
      have e : (ws.drop k).headD [] = ws.getD k [] := by
        rw [List.headD_eq_head?_getD, List.head?_drop, List.getD_eq_getElem?_getD]
      rw [← e, hd]
      rfl
    unfold tiesW
    rw [if_neg (by omega), hg, hn, if_neg (by decide), List.map_nil, List.append_nil]
    rfl
  | t :: r, k, f + 1, told, hd, hf, h80, hok => by
    have hl : ws.length - k = (t :: r).length + u.length := by rw [← List.length_drop, hd]; simp; omega
    have hg : ws.getD k [] = tieRow t := by
      have e : (ws.drop k).headD [] = ws.getD k [] := by
        rw [List.headD_eq_head?_getD, List.head?_drop, List.getD_eq_getElem?_getD]
      rw [← e, hd]
      rfl
    have hd2 : ws.drop (k + 1) = r.map tieRow ++ u := by
      rw [← List.drop_drop, hd]
      rfl
    obtain ⟨h1, h2, h3⟩ := hok t List.mem_cons_self
    rw [List.length_cons] at hl hf h80
    unfold tiesW
    rw [if_neg (by omega), hg, tieRow_is, if_pos rfl, if_neg (by omega), tieM_row h1 h2 h3]
    show tiesW ws f (k + 1) (told ++ [tR t]) = _
    rw [tiesW_rows ws u hn hul r (k + 1) f (told ++ [tR t]) hd2 (by omega) (by rw [List.length_append, List.length_singleton]; omega) fun x hx => hok x (List.mem_cons_of_mem _ hx)]
    rw [List.append_assoc, List.length_cons, List.map_cons, show k + 1 + r.length = k + (r.length + 1) by omega]
    rfl
theorem turnsW_rows (ws : List (List Nat)) (T : Turns) (hb : ∀ p, ∀ n ∈ row T p, n < 80) : ∀ (n p k : Nat) (acc : List (List Nat)), p + n ≤ 40 → (∀ i, i < n → ws.getD (k + i) [] = aboutRow T (p + i)) → k + n < ws.length → turnsW ws n p k acc = .inr (k + n, acc ++ (List.range n).map fun i => row T (p + i))
  | 0, p, k, acc, _, _, _ => by unfold turnsW; simp
  | n + 1, p, k, acc, h40, hrow, hl => by
    have h0 := hrow 0 (by omega)
    rw [Nat.add_zero, Nat.add_zero] at h0
    unfold turnsW
    rw [if_neg (by omega), h0, turnsM_row (by omega) (hb p)]
    show turnsW ws n (p + 1) (k + 1) (acc ++ [row T p]) = _
    rw [turnsW_rows ws T hb n (p + 1) (k + 1) (acc ++ [row T p]) (by omega) (fun i hi => by
      have := hrow (i + 1) (by omega)
      rw [show k + 1 + i = k + (i + 1) by omega, show p + 1 + i = p + (i + 1) by omega]
      exact this) (by omega)]
    rw [List.range_succ_eq_map, List.map_cons, List.map_map, List.append_assoc, show k + 1 + n = k + (n + 1) by omega]
    congr 3
    show [row T p] ++ _ = _
    rw [List.singleton_append]
    congr 1
    refine List.map_congr_left fun i _ => ?_
    show row T (p + 1 + i) = row T (p + (i + 1))
    congr 1
    omega
theorem rows_self (T : Turns) : ((List.range T.length).map fun i => row T (0 + i)) = T := by
  refine List.ext_getElem (by simp) fun i h1 h2 => ?_
  rw [List.getElem_map, List.getElem_range, Nat.zero_add]
  unfold row
  rw [List.getD_eq_getElem?_getD, List.getElem?_eq_getElem h2]
  rfl
theorem webRows_len (ts : List Ti) (T : Turns) : (webRows ts T).length = 1 + ts.length + T.length := by
  unfold webRows
  rw [List.length_cons, List.length_append, List.length_map, List.length_map, List.length_range]
  omega
theorem webRows_free {ts : List Ti} {T : Turns} : ∀ r ∈ webRows ts T, 10 ∉ r := by
  intro r hr
  unfold webRows at hr
  rcases List.mem_cons.mp hr with rfl | hr
  · exact rowB_free (by decide)
  · rcases List.mem_append.mp hr with hr | hr
    · obtain ⟨t, _, rfl⟩ := List.mem_map.mp hr
      exact rowB_free (by cases t.push <;> decide)
    · obtain ⟨p, _, rfl⟩ := List.mem_map.mp hr
      exact rowB_free (by decide)
theorem webRows_about {ts : List Ti} {T : Turns} (x : List (List Nat)) {i : Nat} (hi : i < T.length) : (webRows ts T ++ x).getD (1 + ts.length + i) [] = aboutRow T (0 + i) := by
  rw [List.getD_eq_getElem?_getD, List.getElem?_append_left (by rw [webRows_len]; omega)]
  unfold webRows
  rw [show 1 + ts.length + i = (ts.length + i) + 1 by omega, List.getElem?_cons_succ, List.getElem?_append_right (by rw [List.length_map]; omega), List.length_map, Nat.add_sub_cancel_left, List.getElem?_map, List.getElem?_range hi, Nat.zero_add]
  rfl
theorem webRows_drop (ts : List Ti) (T : Turns) (x : List (List Nat)) : (webRows ts T ++ x).drop 1 = ts.map tieRow ++ ((List.range T.length).map (aboutRow T) ++ x) := by
  unfold webRows
  rw [List.cons_append, List.drop_one, List.tail_cons, List.append_assoc]
/-- the text, read -/
theorem readL_ok {ts : List Ti} {T : Turns} (h : TextOk ts T) : readL (webRows ts T ++ [[]]) = .inr (T.length, ts.map tR, T) := by
  have h2 := h.two
  have hl : (webRows ts T ++ [[]]).length = 2 + ts.length + T.length := by rw [List.length_append, webRows_len]; simp; omega
  have h0 : (webRows ts T ++ [[]]).getD 0 [] = headRow T.length := rfl
  have ht := tiesW_rows (webRows ts T ++ [[]]) ((List.range T.length).map (aboutRow T) ++ [[]]) (by
      obtain ⟨n, hn⟩ : ∃ n, T.length = n + 1 := ⟨T.length - 1, by omega⟩
      rw [hn, List.range_succ_eq_map]; exact aboutRow_not T 0) (by simp; omega) ts 1 (webRows ts T ++ [[]]).length [] (webRows_drop ts T [[]]) (by omega) (by rw [List.length_nil, Nat.zero_add]; exact h.ties) fun t ht => ⟨(h.ends t ht).1, (h.ends t ht).2, h.str t ht⟩
  have hu := turnsW_rows (webRows ts T ++ [[]]) T h.turns T.length 0 (1 + ts.length) [] (by have := h.most; omega) (fun i hi => webRows_about [[]] hi) (by omega)
  unfold readL
  rw [if_neg (by omega), h0, placesM_row h2 h.most]
  show (match tiesW (webRows ts T ++ [[]]) (webRows ts T ++ [[]]).length 1 [] with
    | .inl a => Sum.inl a
    | .inr (k, told) => match turnsW (webRows ts T ++ [[]]) T.length 0 k [] with
      | .inl a => .inl a
      | .inr (k2, T') => if k2 + 1 = (webRows ts T ++ [[]]).length ∧ (webRows ts T ++ [[]]).getD k2 [] = [] then .inr (T.length, told, T') else .inl (k2 + 1)) = _
  rw [ht]
  show (match turnsW (webRows ts T ++ [[]]) T.length 0 (1 + ts.length) [] with
      | .inl a => Sum.inl a
      | .inr (k2, T') => if k2 + 1 = (webRows ts T ++ [[]]).length ∧ (webRows ts T ++ [[]]).getD k2 [] = [] then .inr (T.length, [] ++ ts.map tR, T') else .inl (k2 + 1)) = _
  rw [hu]
  show (if 1 + ts.length + T.length + 1 = (webRows ts T ++ [[]]).length ∧ (webRows ts T ++ [[]]).getD (1 + ts.length + T.length) [] = [] then Sum.inr (T.length, [] ++ ts.map tR, [] ++ (List.range T.length).map fun i => row T (0 + i)) else .inl (1 + ts.length + T.length + 1)) = _
  rw [if_pos ⟨by omega, by rw [List.getD_eq_getElem?_getD, ← webRows_len, List.getElem?_append_right (Nat.le_refl _), Nat.sub_self]; rfl⟩, rows_self]
  rfl
theorem readW_ok {ts : List Ti} {T : Turns} (h : TextOk ts T) : readW (webText ts T) = .inr (T.length, ts.map tR, T) := by
  unfold readW webText
  rw [endL_split webRows_free]
  exact readL_ok h
theorem tiR_all (ts : List Ti) : (ts.map tR).map tiR = ts := by
  rw [List.map_map]
  exact (List.map_congr_left fun t _ => tiR_tR t).trans (List.map_id' ts)
theorem webText_len {ts : List Ti} {T : Turns} (h : TextOk ts T) (hT : ∀ p, (row T p).length ≤ 80) : (webText ts T).length ≤ 70000 := by
  have h1 : ∀ r ∈ webRows ts T, r.length ≤ 400 := by
    intro r hr
    unfold webRows at hr
    rcases List.mem_cons.mp hr with rfl | hr
    · have := rowB_len (h := tL "places") (ns := [T.length]) (k := 31) (by decide) fun m hm => by rw [List.mem_singleton.mp hm]; exact Nat.lt_of_le_of_lt h.most (by decide)
      have e : (tL "places").length = 6 := by decide
      rw [e] at this
      exact Nat.le_trans this (by simp)
    · rcases List.mem_append.mp hr with hr | hr
      · obtain ⟨t, ht, rfl⟩ := List.mem_map.mp hr
        have := rowB_len (h := kindW t.push) (ns := [t.one, t.two, t.s]) (k := 31) (by decide) fun m hm => by
          have hm : m = t.one ∨ m = t.two ∨ m = t.s := by simpa using hm
          rcases hm with rfl | rfl | rfl
          · exact Nat.lt_trans (h.ends t ht).1 (by decide)
          · exact Nat.lt_trans (h.ends t ht).2 (by decide)
          · exact Nat.lt_of_le_of_lt (h.str t ht) (by decide)
        have e : (kindW t.push).length = 4 := by cases t.push <;> decide
        rw [e] at this
        exact Nat.le_trans this (by simp)
      · obtain ⟨p, hp, rfl⟩ := List.mem_map.mp hr
        have hp := List.mem_range.mp hp
        have := rowB_len (h := tL "about") (ns := p :: row T p) (k := 2) (by decide) fun m hm => by
          rcases List.mem_cons.mp hm with rfl | hm
          · have := h.most; show _ < 100; omega
          · have := h.turns p m hm; show _ < 100; omega
        have e : (tL "about").length = 5 := by decide
        rw [e, List.length_cons] at this
        have := hT p
        exact Nat.le_trans ‹_› (by omega)
  have := endL_len h1
  rw [webRows_len] at this
  have := h.most
  have := h.ties
  unfold webText
  omega
theorem figN_len {k : Nat} {w : List Nat} {n : Nat} (h : figN k w = some n) : w.length ≤ k := by
  unfold figN at h
  split at h
  · cases h
  · rename_i hc
    exact Nat.le_of_not_lt fun z => hc (.inr (.inl z))
theorem numsN_at {k : Nat} : ∀ {ws : List (List Nat)} {ns : List Nat} {i : Nat} {w : List Nat}, numsN k ws = some ns → ws[i]? = some w → figN k w = some (ns.getD i 0)
  | [], _, i, w, _, h => by simp at h
  | u :: r, ns, i, w, hn, h => by
    rw [numsN_cons] at hn
    cases e : figN k u with
    | none => rw [e] at hn; cases hn
    | some n =>
      rw [e] at hn
      cases e2 : numsN k r with
      | none => rw [e2] at hn; cases hn
      | some x =>
        rw [e2] at hn
        injection hn with hn
        subst hn
        cases i with
        | zero =>
          injection h with h
          rw [← h, e]
          rfl
        | succ i =>
          have := numsN_at e2 (i := i) (w := w) h
          rw [this]
          rfl

/-! ### a list laid aside while an expression runs -/
theorem wo_obj {P : Program} {w : World} {H : Hp} {h : Heap} {pd : Addr} {xs : List V} (hok : HOk P w H h) (hp : H pd = some (.lst xs)) : HOk P w (wo H pd) h := fun a o e => by
  have e2 : H a = some o := wo_same a o e
  refine (hok a o e2).stay (fun _ _ _ q => q) (fun b q => wo_get q ?_) fun b ys q => wo_get q ?_
  · intro z; subst z; rw [hp] at q; cases q
  · intro z; subst z; rw [hp] at q; cases q
theorem PE.frm {X : Cx} {e : Expr} {t : TE} (h : PE X e t) : PE X e (fun σ H Q => t σ H Q ∨ ∃ (pd : Addr) (xs : List V), H pd = some (.lst xs) ∧ t σ (wo H pd) fun v H' => H' pd = none → Q v (upd H' pd (.lst xs))) := ⟨fun pins s σ H Q I q => by
  rcases q with q | ⟨pd, xs, hp, q⟩
  · exact h.run pins s σ H Q I q
  · obtain ⟨hz, its, n, r, ho⟩ := I.hok pd _ hp
    have hloc : pd ≠ X.env.locals := fun z => by have := I.free; rw [← z, hp] at this; cases this
    have hfs : pd ∉ X.fs := fun z => by
      have : pd ∈ frs X.stack := by
        rcases I.ok.stk with e | ⟨e, ef⟩
        · rw [e]; exact z
        · rw [e]
          unfold frs
          rw [List.filterMap_cons]
          split
          · exact z
          · exact List.mem_cons_of_mem _ z
      have := I.stkFree pd this
      rw [hp] at this; cases this
    have ne : ∀ {b : Addr} {o : HO}, H b = some o → (∀ ys, o ≠ .lst ys) → b ≠ pd := fun {b o} e hn z => by subst z; rw [hp] at e; cases e; exact hn _ rfl
    have I' : Inv X ((pd, { cls := .type "list", data := .seq its.toArray n }) :: pins) σ (wo H pd) s := {
      ok := I.ok
      os := I.os
      bare := I.bare
      base := {
        keep := I.base.keep
        slot := I.base.slot
        free := fun b o q n hx => by
          unfold wo
          split
          · rfl
          · exact I.base.free b o q n hx
        there := I.base.there
        tups := fun b ys q => by have e := I.base.tups b ys q; exact wo_get e (ne e fun _ z => by cases z)
        frzs := fun b o u q => by have e := I.base.frzs b o u q; exact wo_get e (ne e fun _ z => by cases z)
        tbls := fun b ps q => by obtain ⟨m, e⟩ := I.base.tbls b ps q; exact ⟨m, wo_get e (ne e fun _ z => by cases z)⟩ }
      loc := I.loc
      cell := I.cell
      free := by
        unfold wo
        split
        · rfl
        · exact I.free
      freeC := fun x c e => by
        unfold wo
        split
        · rfl
        · exact I.freeC x c e
      pin := fun p hp' => by
        rcases List.mem_append.mp hp' with hm | hm
        · obtain ⟨a1, a2, a3, a4, a5⟩ := I.pin p (List.mem_append_left _ hm)
          exact ⟨a1, by unfold wo; split; rfl; exact a2, a3, a4, a5⟩
        · rcases List.mem_cons.mp hm with rfl | hm
          · exact ⟨ho, wo_new, hloc, hfs, fun v z => by cases z⟩
          · obtain ⟨a1, a2, a3, a4, a5⟩ := I.pin p (List.mem_append_right _ hm)
            exact ⟨a1, by unfold wo; split; rfl; exact a2, a3, a4, a5⟩
      hok := wo_obj I.hok hp
      len := I.len }
    refine thn (h.run _ s σ _ _ I' q) fun u s1 hh => ?_
    obtain ⟨v, H1, I1, rv, q1⟩ := hh
    obtain ⟨p1, p2, p3, p4, p5⟩ := I1.pin (pd, { cls := .type "list", data := .seq its.toArray n }) (List.mem_append_right _ List.mem_cons_self)
    have ne1 : ∀ {b : Addr} {o : HO}, H1 b = some o → b ≠ pd := fun {b o} e z => by subst z; rw [p2] at e; cases e
    refine ⟨v, upd H1 pd (.lst xs), {
      ok := I1.ok
      os := I1.os
      bare := I1.bare
      base := {
        keep := I1.base.keep
        slot := I1.base.slot
        free := fun b o q n hx => by
          have e := I.base.free b o q n hx
          rw [upd_ne (fun z => by subst z; rw [hp] at e; cases e)]
          exact I1.base.free b o q n hx
        there := I1.base.there
        tups := fun b ys q => by have e := I1.base.tups b ys q; rw [upd_ne (ne1 e)]; exact e
        frzs := fun b o u q => by have e := I1.base.frzs b o u q; rw [upd_ne (ne1 e)]; exact e
        tbls := fun b ps q => by obtain ⟨m, e⟩ := I1.base.tbls b ps q; exact ⟨m, by rw [upd_ne (ne1 e)]; exact e⟩ }
      loc := I1.loc
      cell := I1.cell
      free := by rw [upd_ne (Ne.symm p3)]; exact I1.free
      freeC := fun x c e => by
        have := I.freeC x c e
        rw [upd_ne (fun z => by subst z; rw [hp] at this; cases this)]
        exact I1.freeC x c e
      pin := fun p hp' => by
        have hn : p.1 ≠ pd := by
          obtain ⟨_, a2, _⟩ := I.pin p hp'
          intro z
          rw [z, hp] at a2
          cases a2
        have hm : p ∈ X.pn ++ (pd, { cls := .type "list", data := .seq its.toArray n }) :: pins := by
          rcases List.mem_append.mp hp' with hm | hm
          · exact List.mem_append_left _ hm
          · exact List.mem_append_right _ (List.mem_cons_of_mem _ hm)
        obtain ⟨a1, a2, a3, a4, a5⟩ := I1.pin p hm
        exact ⟨a1, by rw [upd_ne hn]; exact a2, a3, a4, a5⟩
      hok := fun a o e => by
        by_cases ea : a = pd
        · subst ea
          rw [upd_same] at e
          cases e
          exact ⟨hz, its, n, r, p1⟩
        · rw [upd_ne ea] at e
          refine (I1.hok a o e).stay (fun _ _ _ q => q) (fun b q => ?_) fun b ys q => ?_
          · rw [upd_ne (ne1 q)]; exact q
          · rw [upd_ne (ne1 q)]; exact q
      len := I1.len }, rv, q1 p2⟩⟩
theorem wo_upd {H : Hp} {pd : Addr} {o : HO} (h : H pd = some o) : upd (wo H pd) pd o = H := by
  funext b
  by_cases e : b = pd
  · subst e; rw [upd_same, h]
  · rw [upd_ne e]; exact if_neg e
/-- the same, for an item of a comprehension -/
def tFrm (t : TE) : TE := fun σ H Q => t σ H Q ∨ ∃ (pd : Addr) (xs : List V), H pd = some (.lst xs) ∧ t σ (wo H pd) fun v H' => H' pd = none → Q v (upd H' pd (.lst xs))
theorem PE.frm2 {X : Cx} {e : Expr} {t : TE} (h : PE X e t) : PE X e (tFrm t) := PE.frm h
theorem w_frm {t : TE} {σ : L2.St} {H : Hp} {Q : VK} {pd : Addr} {xs : List V} (hp : H pd = some (.lst xs)) (h : t σ (wo H pd) fun v H' => H' pd = none → Q v (upd H' pd (.lst xs))) : tFrm t σ H Q := .inr ⟨pd, xs, hp, h⟩

/-! ### lists whose members stand beside them -/
theorem wo_self {H : Hp} {D : Addr} (h : H D = none) : wo H D = H := by
  funext b
  by_cases e : b = D
  · subst e; rw [h]; exact if_pos rfl
  · exact if_neg e
def GrD (K : PySem.W.Frag) (H : Hp) (D : Addr) (ds : List PyData) : Prop := ∃ xs, H D = some (.lst xs) ∧ DpAll K (wo H D) xs ds
theorem GrD.new {K : PySem.W.Frag} {H : Hp} {D : Addr} : GrD K (upd H D (.lst [])) D [] := ⟨[], upd_same, .nil⟩
theorem GrD.same {K : PySem.W.Frag} {H H' : Hp} {D : Addr} {ds : List PyData} (h : GrD K H D ds) (e : Same H H') : GrD K H' D ds := by
  obtain ⟨xs, h1, h2⟩ := h
  exact ⟨xs, e _ _ h1, h2.same (wo_mono e)⟩
theorem GrD.dp {K : PySem.W.Frag} {H : Hp} {D : Addr} {ds : List PyData} (h : GrD K H D ds) : Dp K H (.ref D) (.list ds) := by
  obtain ⟨xs, h1, h2⟩ := h
  exact .lst (SqL.of h1) (h2.same wo_same)
/-- put at the end, the list laid aside while the member was made -/
theorem GrD.put {K : PySem.W.Frag} {H H' : Hp} {D : Addr} {ds : List PyData} {d : PyData} {v : V} {xs : List V} (h : DpAll K (wo H D) xs ds) (e : Same (wo H D) H') (n : H' D = none) (hv : Dp K H' v d) {o : HO} : GrD K (upd (upd H' D o) D (.lst (xs ++ [v]))) D (ds ++ [d]) := by
  refine ⟨xs ++ [v], upd_same, ?_⟩
  rw [wo_eq, wo_eq, wo_self n]
  exact dpaApp (h.same e) (.cons hv .nil)
/-- put at the end -/
theorem GrD.push {K : PySem.W.Frag} {H H' : Hp} {D : Addr} {ds : List PyData} {d : PyData} {v : V} {xs : List V} (h : DpAll K (wo H D) xs ds) (e : Same H H') (hv : Dp K (wo H' D) v d) : GrD K (upd H' D (.lst (xs ++ [v]))) D (ds ++ [d]) :=
  ⟨xs ++ [v], upd_same, dpaPush h e hv⟩
theorem GrD.len {K : PySem.W.Frag} {H : Hp} {D : Addr} {xs : List V} {ds : List PyData} (h : DpAll K (wo H D) xs ds) : xs.length = ds.length := dpaLen h
theorem range_snoc {α : Type} (f : Nat → α) (i : Nat) : (List.range (i + 1)).map f = (List.range i).map f ++ [f i] := by rw [List.range_succ, List.map_append]; rfl
theorem w_islS {K : PySem.W.Frag} {H : Hp} {Q : VK} {p : Addr} {xs : List V} {s : String} {b : Bool} (hp : SqL K H p xs) (hk : kitB "list" s = some b) (h : Q (.bl b) H) : rIsi K [.ref p, .ty s] H Q := by
  rcases hp with (hp | ⟨o, hp⟩) | ⟨o, its, n, h1, h2, _⟩
  · exact ⟨_, _, _, _, b, rfl, .ty _, .base (.lst hp), kit_ty hk, h⟩
  · exact ⟨_, _, _, _, b, rfl, .ty _, .base (.frz hp), kit_ty hk, h⟩
  · exact ⟨_, _, _, _, b, rfl, .ty _, .kList h1 h2, kit_ty hk, h⟩
theorem range_put {α β : Type} (g : α → β) (A : Nat → α) (f : α) (i : Nat) : (List.range (i + 1)).map (fun s => g (if s = i then f else A s)) = (List.range i).map (fun s => g (A s)) ++ [g f] := by
  rw [range_snoc, if_pos rfl, List.map_congr_left fun s hs => by rw [if_neg (by have := List.mem_range.mp hs; omega)]]

/-! ### sorted(xs), xs a list of rows of whole numbers -/
def rI (r : List Nat) : List Int := r.map fun n : Nat => (n : Int)
theorem dRow_rI (r : List Nat) : dRow r = .list ((rI r).map PyData.int) := by unfold dRow rI; rw [List.map_map]; rfl
abbrev Rw := List Nat
section
open PySem.W
theorem rows_le {bs : List (Addr × Rw)} : (bs.mergeSort (dataLe false fun b => dRow b.2)).Pairwise (fun b c => rI b.2 ≤ rI c.2) := by
  have hf : (fun b : Addr × Rw => dRow b.2) = fun b => PyData.list ((rI b.2).map .int) := funext fun b => dRow_rI b.2
  rw [hf, dataLe_rows fun b : Addr × Rw => rI b.2]
  have := List.pairwise_mergeSort (le := fun p q : Addr × Rw => decide (rI p.2 ≤ rI q.2)) (fun a b c h1 h2 => decide_eq_true (List.le_trans (of_decide_eq_true h1) (of_decide_eq_true h2))) (fun a b => by
    rcases List.le_total (rI a.2) (rI b.2) with h | h
    · rw [decide_eq_true h]; rfl
    · rw [decide_eq_true h]; exact Bool.or_true _) bs
  exact this.imp fun h => of_decide_eq_true h
end
theorem head_le {r s : List Nat} (h : rI r ≤ rI s) : r.headD 0 ≤ s.headD 0 := by
  cases r with
  | nil => exact Nat.zero_le _
  | cons x l =>
    cases s with
    | nil => exact absurd h (by unfold rI; simp)
    | cons y m =>
      have h' : ((x : Nat) : Int) :: rI l ≤ ((y : Nat) : Int) :: rI m := h
      rw [List.cons_le_cons_iff] at h'
      show x ≤ y
      rcases h' with h' | ⟨h', _⟩ <;> omega
section
variable {X : Cx}
def rSortR (K : PySem.W.Frag) : List V → Hp → VK → Prop := fun vs H Q => ∃ (a : Addr) (bs : List (Addr × Rw)), vs = [V.ref a] ∧ SqL K H a (bs.map fun b => V.ref b.1) ∧ (∀ b ∈ bs, Dp K H (.ref b.1) (dRow b.2)) ∧ bs.length ≤ 10000 ∧
  ∀ (cs : List (Addr × Rw)) (p : Addr), cs.Perm bs → cs.Pairwise (fun b c => rI b.2 ≤ rI c.2) → New H p → Q (.ref p) (upd H p (.lst (cs.map fun b => V.ref b.1)))
theorem each_refsR {P : Value → Addr × Rw → Prop} : ∀ bs : List (Addr × Rw), (∀ b ∈ bs, P (.ref b.1) b) → PySem.W.EachIs P (bs.map fun b => Value.ref b.1) bs
  | [], _ => .nil
  | b :: bs, h => .cons (h b (by simp)) (each_refsR bs fun c hc => h c (by simp [hc]))
theorem each_backR : ∀ {out : List Value} {bs : List (Addr × Rw)}, PySem.W.EachIs (fun v b => v = .ref b.1) out bs → out = bs.map fun b => Value.ref b.1
  | _, _, .nil => rfl
  | _, _, .cons h t => by rw [List.map_cons, ← h, each_backR t]
theorem vals_refsR : ∀ {bs : List (Addr × Rw)} {us : List Value}, Vals (bs.map fun b => V.ref b.1) us → us = bs.map fun b => Value.ref b.1
  | [], _, .nil => rfl
  | b :: bs, _, .cons r t => by
    cases r
    rw [vals_refsR t]
    rfl
theorem vals_of_refsR : ∀ bs : List (Addr × Rw), Vals (bs.map fun b => V.ref b.1) (bs.map fun b => Value.ref b.1)
  | [] => .nil
  | b :: bs => .cons (show RelV (.ref b.1) (.ref b.1) from rfl) (vals_of_refsR bs)
theorem cr_sortR (K : PySem.W.Frag) (hu : X.A.units + 64 < cLine) (hK : X.K = K := by rfl) : CallR X (.builtin "sorted") (rSortR K) := by
  subst hK
  intro pins s σ H vs us Q I r h
  obtain ⟨a, bs, rfl, hs, hd, hl, q⟩ := h
  obtain ⟨its, rv, hlst, hz⟩ := I.list hs
  rw [Vals.ref1 r]
  obtain rfl := vals_refsR rv
  refine PySem.W.sorted_data (R := fun v b => v = .ref b.1) (enc := fun b : Addr × Rw => dRow b.2) (bs := bs) hlst.isList (each_refsR bs fun _ _ => rfl) (each_refsR bs fun b hb => (hd b hb).reads I _ _ _ (show RelV (.ref b.1) (.ref b.1) from rfl)) (PySem.W.AllAlike.of fun b c => ?_) (PySem.W.Sortable.others fun b => ⟨fun z => ?_, fun xs z => ?_⟩) (by rw [sizeLine_eq]; omega) (fun b _ => ?_) fun out ho eo => ?_
  · show PySem.W.alike (dRow b.2) (dRow c.2) = true
    rw [dRow_rI, dRow_rI, PySem.W.alike]
    exact PySem.W.alike_ints _ _
  · cases z
  · cases z
  · have : (dRow b.2).depth ≤ 2 := by
      rw [dRow_rI, PyData.depth, PySem.W.depth_ints]
      omega
    omega
  · obtain rfl := each_backR eo
    have hp : (bs.mergeSort (PySem.W.dataLe false fun b : Addr × Rw => dRow b.2)).Perm bs := List.mergeSort_perm _ _
    have hpw := rows_le (bs := bs)
    generalize bs.mergeSort (PySem.W.dataLe false fun b : Addr × Rw => dRow b.2) = cs at hp hpw ho ⊢
    obtain ⟨ep, he'⟩ := PyProof.Rows.sortedAll_at s.heap (bs.map fun b => Value.ref b.1) (cs.map fun b => Value.ref b.1).toArray
    refine ⟨.ref _, upd H (s.heap.objs.size + 1) (.lst (cs.map fun b => V.ref b.1)), I.laid (t' := s.toks) (fun _ _ => PyProof.Rows.sortedAll_old) (Nat.le_succ _) ⟨?_, cs.map fun b => Value.ref b.1, ep, vals_of_refsR cs, he'⟩, rfl, q cs _ hp hpw (I.hok.fresh (Nat.le_succ _))⟩
    rw [List.length_map, hp.length_eq, sizeLine_eq]
    omega
end

open TL
section
variable {P : Program} {w : World} {K : PySem.W.Frag} {mg : Str → Option Value} {base : Heap} {C_Pull C_Push C_Web : Addr}
def dTi (t : Ti) : PyData := .tuple ([(if t.push = true then 1 else 0 : Int), (t.s : Int)].map PyData.int)
def dTold (ts : List Ti) : PyData := .list (ts.map dTi)
/-- what a built web is -/
structure Built (ts : List Ti) (T : Turns) (most : Nat) : Prop where
  flat : Flat (endsOf ts) T
  le : ts.length ≤ most
  pos : 1 ≤ ts.length
  tl : T.length ≤ ts.length + 1
  tp : 2 ≤ T.length
  s : ∀ i, (ti ts i).s ≤ 10 ^ 30
theorem toldAt {K : PySem.W.Frag} {H : Hp} {xs : List V} {ts : List Ti} (h : DpAll K H xs (ts.map dTi)) {i : Nat} (hi : i < ts.length) : ∃ p, xs[i]? = some (.ref p) ∧ SqT K H p [.int (if (ti ts i).push = true then 1 else 0 : Int), .int ((ti ts i).s : Nat)] := by
  obtain ⟨v, h1, h2⟩ := dpaGet (i := i) (d := dTi (ti ts i)) h (by rw [List.getElem?_map, ti_at hi]; rfl)
  obtain ⟨p, ys, rfl, h3, h4⟩ := dpTup h2
  have := dpAll_ints h4
  rw [this] at h3
  exact ⟨p, h1, h3⟩
def BuiltAt (K : PySem.W.Frag) (H : Hp) (p : Addr) (ts : List Ti) (T : Turns) : Prop := ∃ e t d, SqT K H p [.ref e, .ref t, .ref d] ∧ Dp K H (.ref e) (dEnds (endsOf ts)) ∧ Dp K H (.ref t) (dRows T) ∧ Dp K H (.ref d) (dTold ts)
theorem BuiltAt.same {K : PySem.W.Frag} {H H' : Hp} {p : Addr} {ts : List Ti} {T : Turns} (h : BuiltAt K H p ts T) (e : Same H H') : BuiltAt K H' p ts T := by
  obtain ⟨a, b, c, h1, h2, h3, h4⟩ := h
  exact ⟨a, b, c, same_read e h1, h2.same e, h3.same e, h4.same e⟩

end
section
variable {P : Program} {w : World} {K : PySem.W.Frag} {mg : Str → Option Value} {base : Heap} {C_Pull C_Push C_Web : Addr}
/-- a tie's kind as the law tells it: its word and its strength -/
def dKx (x : Bool × Nat) : PyData := .tuple [.str (tS (kindW x.1)), .int (x.2 : Nat)]
def dKs (xs : List (Bool × Nat)) : PyData := .list (xs.map dKx)
def kx (t : Ti) : Bool × Nat := (t.push, t.s)
def tiOf (E : EdgL) (xs : List (Bool × Nat)) : List Ti := (List.range E.length).map fun k => ⟨(xs.getD k (false, 0)).1, (en E k).1, (en E k).2, (xs.getD k (false, 0)).2⟩
theorem tiOf_len (E : EdgL) (xs : List (Bool × Nat)) : (tiOf E xs).length = E.length := by simp [tiOf]
theorem tiOf_ends {E : EdgL} {xs : List (Bool × Nat)} : endsOf (tiOf E xs) = E := by
  refine List.ext_getElem (by simp [endsOf, tiOf]) fun i h1 h2 => ?_
  simp [endsOf, tiOf, en, List.getD_eq_getElem?_getD, List.getElem?_eq_getElem h2]
theorem tiOf_kx {E : EdgL} {xs : List (Bool × Nat)} (h : xs.length = E.length) : (tiOf E xs).map kx = xs := by
  refine List.ext_getElem (by simp [tiOf, h]) fun i h1 h2 => ?_
  simp [kx, tiOf, List.getD_eq_getElem?_getD, List.getElem?_eq_getElem h2]
theorem tiOf_s {E : EdgL} {xs : List (Bool × Nat)} (hs : ∀ x ∈ xs, x.2 ≤ 10 ^ 30) (i : Nat) : (ti (tiOf E xs) i).s ≤ 10 ^ 30 := by
  by_cases h : i < E.length
  · have e : ti (tiOf E xs) i = ⟨(xs.getD i (false, 0)).1, (en E i).1, (en E i).2, (xs.getD i (false, 0)).2⟩ := by
      unfold ti tiOf
      rw [List.getD_eq_getElem?_getD, List.getElem?_map, List.getElem?_range h]
      rfl
    rw [e]
    show (xs.getD i (false, 0)).2 ≤ 10 ^ 30
    by_cases h2 : i < xs.length
    · rw [List.getD_eq_getElem?_getD, List.getElem?_eq_getElem h2]
      exact hs _ (List.getElem_mem h2)
    · rw [List.getD_eq_getElem?_getD, List.getElem?_eq_none (by omega)]
      exact Nat.zero_le _
  · have e : ti (tiOf E xs) i = ti [] 0 := by
      unfold ti tiOf
      rw [List.getD_eq_getElem?_getD, List.getElem?_eq_none (by simp; omega)]
      rfl
    rw [e]
    exact Nat.zero_le _
theorem kindAt {K : PySem.W.Frag} {H : Hp} {vs : List V} {xs : List (Bool × Nat)} (h : DpAll K H vs (xs.map dKx)) {i : Nat} (hi : i < xs.length) : ∃ p, vs[i]? = some (.ref p) ∧ SqT K H p [.str (tS (kindW (xs.getD i (false, 0)).1)), .int ((xs.getD i (false, 0)).2 : Nat)] := by
  obtain ⟨v, h1, h2⟩ := dpaGet (i := i) (d := dKx (xs.getD i (false, 0))) h (by rw [List.getElem?_map, List.getElem?_eq_getElem hi, List.getD_eq_getElem?_getD, List.getElem?_eq_getElem hi]; rfl)
  obtain ⟨p, ys, rfl, h3, h4⟩ := dpTup h2
  cases h4 with
  | cons a b =>
    cases b with
    | cons c d =>
      cases d
      cases a
      cases c
      exact ⟨p, h1, h3⟩
theorem kind_ix (c : Int) : atI [V.str (Str.ofString "pull"), V.str (Str.ofString "push")] (c / 5 % 2) = some (.str (tS (kindW (decide (c / 5 % 2 = 1))))) := by
  rw [tL_lit, tL_lit]
  by_cases h : c / 5 % 2 = 1
  · rw [h]; exact atI_nat (j := 1) rfl
  · rw [show c / 5 % 2 = ((0 : Nat) : Int) by omega]; exact atI_nat (j := 0) rfl
def spKinds9 (K : PySem.W.Frag) : Sp := fun vs H Q _ => ∃ (a : Addr) (ns : List Int) (m : Nat), vs = [.ref a, .int (m : Nat)] ∧ SqL K H a (ns.map V.int) ∧ (∀ z ∈ ns, Builtin.Int.intBits z ≤ 1048576) ∧ m ≤ 200 ∧
  ∀ p H' xs, Same H H' → New H p → Dp K H' (.ref p) (dKs xs) → xs.length = m → (∀ x ∈ xs, x.2 ≤ 10 ^ 30) → Q (.ref p) H'
theorem ok_law_kinds {f : Addr} {fd : FuncData} (F : Fun K "_law_kinds" "_law_kinds" s_law_kinds f fd) (gf : mg "_law_kinds" = some (.ref f)) (B : Bl mg) {C_Pull C_Push C_Web : Addr} (T : Txt K mg C_Pull C_Push C_Web) : Has P w K mg base CX0 1 "_law_kinds" ["script", "many"] (spKinds9 K) := by
  refine Has.mk' F gf (F.binds (ps := ["script", "many"]) fun _ _ _ _ _ _ us hl => match us, hl with | [_, _], _ => rfl) sc_law_kinds (by walk_at "len") (fun cdv A outer s H vs Q E hr h => ?_)
  obtain ⟨a, ns, m, rfl, hS, hbits, hm, q⟩ := h
  have p30 : (10 : Int) ^ Int.toNat 30 = 1000000000000000000000000000000 := by decide
  have n30 : (10 : Nat) ^ 30 = 1000000000000000000000000000000 := by decide
  refine ⟨_, (pss_cons (ps_set (i := 2) sc_law_kinds.nd rfl (.inl rfl) (pe_lst pa_nil))
 (pss_cons (ps_for PassesOwn.never rfl (pi_range1 (by rfl) B.range (pa_cons (pv 1) pa_nil)) (pg_name (i := 3) sc_law_kinds.nd rfl (.inl rfl)) (pss_cons (ps_set (i := 4) sc_law_kinds.nd rfl (.inl rfl) (pv 3))
 (pss_cutX (ps_if (pt_cmpR op_lt (pv 3) (pe_callB (call_lenK K) (by rfl) B.len (by decide +kernel) (pa_cons (pv 0) pa_nil)) (nomark _)) (pss_one (ps_set (i := 4) sc_law_kinds.nd rfl (.inl rfl) (pe_ix (ix_listK K) (pv 0) (pv 3) (fun _ _ => rfl)))) pss_nil)
 (pss_cons (ps_set (i := 5) sc_law_kinds.nd rfl (.inl rfl) (pe_op op_mod (pe_op op_fdivW (pe_op op_mulX (pv 4) pe_int) pe_int) (pe_op op_add (pe_op op_pow pe_int pe_int) pe_int)))
 (pss_cutX (ps_if (pt_cmpR op_eq (pe_op op_mod (pv 4) pe_int) pe_int (nomark _)) (pss_one (ps_set (i := 5) sc_law_kinds.nd rfl (.inl rfl) (pe_op op_pow pe_int pe_int))) pss_nil)
 (pss_cutX (ps_if (pt_cmpR op_eq (pe_op op_mod (pv 4) pe_int) pe_int (nomark _)) (pss_one (ps_set (i := 5) sc_law_kinds.nd rfl (.inl rfl) pe_int)) pss_nil)
 (pss_one (ps_expr (pe_bmK K (pe_bm PySem.F.plainAttrs_list PySem.F.slot_list_append PySem.F.type_list_append mt_append (pv 2) (pa_cons (pe_tup (pa_cons (pe_ix (ix_listK K) (pe_lst (pa_cons pe_str (pa_cons pe_str pa_nil))) (pe_op op_mod (pe_op op_fdivW (pv 4) pe_int) pe_int) (fun _ _ => rfl)) (pa_cons (pv 5) pa_nil))) pa_nil)))))))))))
 (pss_one (ps_ret (pv 2))))), ?_⟩
  walk_at "sts"
  refine w_new fun D nD => ?_
  walk_at "sts"
  refine for_r0 (n := m) rfl (fun i σ H' => ∃ (y3 y4 y5 : Option V) (xs : List (Bool × Nat)) (ys : List V) (G : Hp), σ = [some (.ref a), some (.int (m : Nat)), some (.ref D), y3, y4, y5] ∧ Same H G ∧ Same G H' ∧ New G D ∧ H' D = some (.lst ys) ∧ DpAll K G ys (xs.map dKx) ∧ xs.length = i ∧ ∀ x ∈ xs, x.2 ≤ 10 ^ 30) ?_ ?_ ?_
  · exact ⟨_, _, _, [], [], H, rfl, Same.refl _, same_upd nD, nD, upd_same, .nil, rfl, fun x hx => absurd hx List.not_mem_nil⟩
  · rintro i σ H1 hi ⟨y3, y4, y5, xs, ys, G, rfl, g1, g2, g3, lD, hA, hxl, hxs⟩
    have hyl : ys.length = xs.length := by have := dpaLen hA; simpa using this
    have hS1 := (g1.trans g2).seq hS
    walk_at "sts"
    try dsimp only
    refine w_cut (fun σ' H' => ∃ c : Int, σ' = [some (.ref a), some (.int (m : Nat)), some (.ref D), some (.int (i : Nat)), some (.int c), y5] ∧ CMulX c 48271 ∧ H1 = H') ?_ ?_
    · walk_at "sts"
      rw [List.length_map]
      refine ifd (fun hc => ?_) (fun hc => ?_)
      · have hat : (ns.map V.int)[i]? = some (.int (ns.getD i 0)) := by
          rw [List.getElem?_map, List.getD_eq_getElem?_getD, List.getElem?_eq_getElem (by omega)]
          rfl
        have hbi := hbits (ns.getD i 0) (List.mem_of_getElem? (by rw [List.getD_eq_getElem?_getD, List.getElem?_eq_getElem (show i < ns.length by omega)]; rfl))
        have hb2 : Builtin.Int.intBits 48271 ≤ 100 := by decide
        walk_at "sts"
        exact ⟨_, rfl, by unfold CMulX; omega, rfl⟩
      · walk_at "sts"
        exact ⟨_, rfl, cmulx_small (by omega) (by omega) (by omega) (by omega), rfl⟩
    rintro σ' _ ⟨c, rfl, hcm, rfl⟩
    obtain ⟨s, hs1, hs2⟩ : ∃ s : Nat, c * 48271 / 7 % (10 ^ Int.toNat 30 + 1) = (s : Int) ∧ s ≤ 10 ^ 30 := ⟨(c * 48271 / 7 % (10 ^ Int.toNat 30 + 1)).toNat, by rw [p30]; omega, by rw [p30, n30]; omega⟩
    walk_at "sts"
    refine ⟨c, 48271, rfl, rfl, hcm, ?_⟩
    walk_at "sts"
    rw [hs1]
    walk_at "sts"
    try dsimp only
    refine w_cut (fun σ' H' => ∃ s : Nat, s ≤ 10 ^ 30 ∧ σ' = [some (.ref a), some (.int (m : Nat)), some (.ref D), some (.int (i : Nat)), some (.int c), some (.int (s : Nat))] ∧ H1 = H') ?_ ?_
    · walk_at "sts"
      refine ifd (fun hc => ?_) (fun hc => ?_)
      · walk_at "sts"
        exact ⟨10 ^ 30, Nat.le_refl _, rfl, rfl⟩
      · walk_at "sts"
        exact ⟨s, hs2, rfl, rfl⟩
    rintro σ' _ ⟨s, hs2, rfl, rfl⟩
    walk_at "sts"
    try dsimp only
    refine w_cut (fun σ' H' => ∃ s : Nat, s ≤ 10 ^ 30 ∧ σ' = [some (.ref a), some (.int (m : Nat)), some (.ref D), some (.int (i : Nat)), some (.int c), some (.int (s : Nat))] ∧ H1 = H') ?_ ?_
    · walk_at "sts"
      refine ifd (fun hc => ?_) (fun hc => ?_)
      · walk_at "sts"
        exact ⟨0, Nat.zero_le _, rfl, rfl⟩
      · walk_at "sts"
        exact ⟨s, hs2, rfl, rfl⟩
    rintro σ' _ ⟨s, hs2, rfl, rfl⟩
    have hix := kind_ix c
    walk_at "sts"
    refine w_new fun L nL => ?_
    have sL := same_upd (o := .lst [V.str (Str.ofString "pull"), V.str (Str.ofString "push")]) nL
    have lD2 := sL _ _ lD
    have lL : upd H1 L (.lst [V.str (Str.ofString "pull"), V.str (Str.ofString "push")]) L = some (.lst [V.str (Str.ofString "pull"), V.str (Str.ofString "push")]) := upd_same
    generalize upd H1 L (.lst [V.str (Str.ofString "pull"), V.str (Str.ofString "push")]) = H2 at sL lD2 lL ⊢
    have lLs := SqL.of (K := K) lL
    walk_at "sts"
    refine w_new fun T1 nT => ?_
    have hDT : D ≠ T1 := ne_new lD2 nT
    have nT1 : New G T1 := (show New H2 T1 from nT).of (g2.trans sL)
    have hsl : ys.length < sizeLine := szlt (by omega)
    walk_at "sts"
    refine ⟨_, _, _, xs ++ [(decide (c / 5 % 2 = 1), s)], ys ++ [.ref T1], upd G T1 (.tup [.str (tS (kindW (decide (c / 5 % 2 = 1)))), .int (s : Nat)]), rfl, g1.trans (same_upd nT1), ?_, g3.upd hDT, upd_same, ?_, by rw [List.length_append, hxl]; rfl, fun x hx => ?_⟩
    · refine Same.mut ?_ (g3.upd hDT)
      exact ((g2.trans sL).trans (same_upd nT)).add upd_same
    · rw [List.map_append]
      exact dpaApp (hA.same (same_upd nT1)) (.cons (.tup (SqT.of upd_same) (.cons (.str _) (.cons (.int _) .nil))) .nil)
    · rcases List.mem_append.mp hx with hx | hx
      · exact hxs x hx
      · rw [List.mem_singleton.mp hx]; exact hs2
  · rintro σ H1 ⟨y3, y4, y5, xs, ys, G, rfl, g1, g2, g3, lD, hA, hxl, hxs⟩
    walk_at "sts"
    exact q D H1 xs (g1.trans g2) nD (.lst (SqL.of lD) (hA.same g2)) hxl hxs
theorem kindW_push {b : Bool} (h : tS (kindW b) = Str.ofString "push") : b = true := by
  rw [tL_lit] at h
  have := tS_inj h
  cases b with
  | true => rfl
  | false => exact absurd this (by decide)
def spTies9 (K : PySem.W.Frag) (CP CQ : Addr) : Sp := fun vs H Q _ => ∃ (e k : Addr) (ts : List Ti), vs = [.ref e, .ref k] ∧ Dp K H (.ref e) (dEnds (endsOf ts)) ∧ Dp K H (.ref k) (dKs (ts.map kx)) ∧ (∀ i, i < ts.length → (ti ts i).one ≠ (ti ts i).two) ∧ ts.length ≤ 200 ∧
  ∀ p H' ps, Same H H' → New H p → H' p = some (.lst (ps.map V.ref)) → TiesIn CP CQ H' ps ts → Q (.ref p) H'
theorem ti_kx {ts : List Ti} {i : Nat} (hi : i < ts.length) : (ts.map kx).getD i (false, 0) = kx (ti ts i) := by
  rw [List.getD_eq_getElem?_getD, List.getElem?_map, ti_at hi]
  rfl
theorem ok_law_ties {f : Addr} {fd : FuncData} (F : Fun K "_law_ties" "_law_ties" s_law_ties f fd) (gf : mg "_law_ties" = some (.ref f)) (B : Bl mg) {C_Pull C_Push C_Web : Addr} (T : Txt K mg C_Pull C_Push C_Web) (h_mk_Push : HasMk P w K mg base CX0 1 "Push" C_Push ["self", "one", "two", "strength"] (spTInit C_Pull C_Push)) (h_mk_Pull : HasMk P w K mg base CX0 1 "Pull" C_Pull ["self", "one", "two", "strength"] (spTInit C_Pull C_Push)) : Has P w K mg base CX0 3 "_law_ties" ["ends", "kinds"] (spTies9 K C_Pull C_Push) := by
  refine Has.mk' F gf (F.binds (ps := ["ends", "kinds"]) fun _ _ _ _ _ _ us hl => match us, hl with | [_, _], _ => rfl) sc_law_ties (by walk_at "len") (fun cdv A outer s H vs Q E hr h => ?_)
  obtain ⟨e, kd, ts, rfl, hE, hD, hne2, hle, q⟩ := h
  obtain ⟨es, he, hEs⟩ := dpLstA hE
  obtain ⟨ds, hd, hDs⟩ := dpLstA hD
  have hel : es.length = ts.length := by have := dpaLen hEs; rw [List.length_map, endsOf_len] at this; exact this
  refine ⟨_, (pss_cons (ps_set (i := 2) sc_law_ties.nd rfl (.inl rfl) (pe_lst pa_nil))
 (pss_cons (ps_for PassesOwn.never rfl (pi_range1 (by rfl) B.range (pa_cons (pe_callB (call_lenK K) (by rfl) B.len (by decide +kernel) (pa_cons (pv 0) pa_nil)) pa_nil)) (pg_name (i := 3) sc_law_ties.nd rfl (.inl rfl)) (pss_one (ps_if (pt_cmpR op_eq (pe_ix (ix_tupK K) (pe_ix (ix_listK K) (pv 1) (pv 3) (fun _ _ => rfl)) pe_int (fun _ _ => rfl)) pe_str (nomark _)) (pss_one (ps_expr (pe_bmK K (pe_bm PySem.F.plainAttrs_list PySem.F.slot_list_append PySem.F.type_list_append mt_append (pv 2) (pa_cons (pe_mk h_mk_Push (hr.mono (by decide)) (by rfl) (pa_cons (pe_ix (ix_tupK K) (pe_ix (ix_listK K) (pv 0) (pv 3) (fun _ _ => rfl)) pe_int (fun _ _ => rfl)) (pa_cons (pe_ix (ix_tupK K) (pe_ix (ix_listK K) (pv 0) (pv 3) (fun _ _ => rfl)) pe_int (fun _ _ => rfl)) (pa_cons (pe_ix (ix_tupK K) (pe_ix (ix_listK K) (pv 1) (pv 3) (fun _ _ => rfl)) pe_int (fun _ _ => rfl)) pa_nil)))) pa_nil))))) (pss_one (ps_expr (pe_bmK K (pe_bm PySem.F.plainAttrs_list PySem.F.slot_list_append PySem.F.type_list_append mt_append (pv 2) (pa_cons (pe_mk h_mk_Pull (hr.mono (by decide)) (by rfl) (pa_cons (pe_ix (ix_tupK K) (pe_ix (ix_listK K) (pv 0) (pv 3) (fun _ _ => rfl)) pe_int (fun _ _ => rfl)) (pa_cons (pe_ix (ix_tupK K) (pe_ix (ix_listK K) (pv 0) (pv 3) (fun _ _ => rfl)) pe_int (fun _ _ => rfl)) (pa_cons (pe_ix (ix_tupK K) (pe_ix (ix_listK K) (pv 1) (pv 3) (fun _ _ => rfl)) pe_int (fun _ _ => rfl)) pa_nil)))) pa_nil))))))))
 (pss_one (ps_ret (pv 2))))), ?_⟩
  walk_at "sts"
  refine w_new fun pL nL => ?_
  walk_at "sts"
  refine for_r0 (n := ts.length) ?_ (fun i σ' H' => ∃ (y3 : Option V) (ps : List Addr), σ' = [some (.ref e), some (.ref kd), some (.ref pL), y3] ∧ Same H H' ∧ H' pL = some (.lst (ps.map V.ref)) ∧ TiesIn C_Pull C_Push H' ps (ts.take i)) ?_ ?_ ?_
  · rw [hel]
  · exact ⟨_, [], rfl, same_upd nL, upd_same, .nil⟩
  · rintro i σ' H' hi ⟨y3, ps, rfl, s1, l1, t1⟩
    have hpl : ps.length = i := by have := t1.1; rw [List.length_take] at this; omega
    obtain ⟨p0, b1, b2⟩ := dpEndsAt hEs (show i < (endsOf ts).length by rw [endsOf_len]; exact hi)
    obtain ⟨p1, b3, b4⟩ := kindAt hDs (show i < (ts.map kx).length by rw [List.length_map]; exact hi)
    rw [en_ti hi] at b2
    rw [ti_kx hi] at b4
    have b4 : SqT K H p1 [.str (tS (kindW (ti ts i).push)), .int ((ti ts i).s : Nat)] := b4
    have he' := s1.seq he
    have hd' := s1.seq hd
    have b2' := same_read s1 b2
    have b4' := same_read s1 b4
    have hne := hne2 i hi
    have htk : ts.take (i + 1) = ts.take i ++ [ti ts i] := by rw [List.take_add_one, ti_at hi]; rfl
    have hsl : (ps.map V.ref).length < sizeLine := szlt (by rw [List.length_map]; omega)
    have fin : ∀ (x dx : Addr) (push : Bool), push = (ti ts i).push → New H' x → New H' dx → dx ≠ x → ∃ (ps' : List Addr), ps.map V.ref ++ [V.ref x] = ps'.map V.ref ∧ pL ≠ x ∧ Same H (upd (upd (upd H' dx (.own x)) x (.ins (clsOf C_Pull C_Push push) dx (tf (ti ts i).one (ti ts i).two (ti ts i).s))) pL (.lst (ps.map V.ref ++ [.ref x]))) ∧
        upd (upd H' dx (.own x)) x (.ins (clsOf C_Pull C_Push push) dx (tf (ti ts i).one (ti ts i).two (ti ts i).s)) pL = some (.lst (ps.map V.ref)) ∧ TiesIn C_Pull C_Push (upd (upd (upd H' dx (.own x)) x (.ins (clsOf C_Pull C_Push push) dx (tf (ti ts i).one (ti ts i).two (ti ts i).s))) pL (.lst (ps.map V.ref ++ [.ref x]))) ps' (ts.take (i + 1)) := by
      rintro x dx _ rfl nx nd hxd
      have sm : Same H' (upd (upd H' dx (.own x)) x (.ins (clsOf C_Pull C_Push (ti ts i).push) dx (tf (ti ts i).one (ti ts i).two (ti ts i).s))) := made_same nx nd hxd
      have l2 := sm _ _ l1
      refine ⟨ps ++ [x], by simp, ne_new l1 nx, (s1.trans sm).mut nL, l2, ?_⟩
      rw [htk]
      exact ((t1.same sm).push ⟨dx, upd_same⟩).lst l2
    walk_at "sts"
    refine ifd (fun hc => ?_) (fun hc => ?_)
    · have hp : (ti ts i).push = true := kindW_push hc
      walk_at "sts"
      intro x dx nx nd hxd
      refine ⟨x, dx, ti ts i, rfl, ?_, hne, rfl, ?_⟩
      · rw [hp]; exact upd_same
      · rw [upd_upd, hp]
        obtain ⟨ps', f1, f2, f3, f4, f5⟩ := fin x dx true hp.symm nx nd hxd
        walk_at "sts"
        rw [f1] at f3 f5 ⊢
        exact ⟨_, ps', rfl, f3, upd_same, f5⟩
    · have hp : (ti ts i).push = false := by
        cases hb : (ti ts i).push with
        | false => rfl
        | true => rw [hb] at hc; exact absurd (tL_lit "push").symm hc
      walk_at "sts"
      intro x dx nx nd hxd
      refine ⟨x, dx, ti ts i, rfl, ?_, hne, rfl, ?_⟩
      · rw [hp]; exact upd_same
      · rw [upd_upd, hp]
        obtain ⟨ps', f1, f2, f3, f4, f5⟩ := fin x dx false hp.symm nx nd hxd
        walk_at "sts"
        rw [f1] at f3 f5 ⊢
        exact ⟨_, ps', rfl, f3, upd_same, f5⟩
  · rintro σ' H1 ⟨y3, ps, rfl, s1, l1, t1⟩
    rw [List.take_length] at t1
    walk_at "sts"
    exact q pL H1 ps s1 nL l1 t1
end

theorem w_istS {K : PySem.W.Frag} {H : Hp} {Q : VK} {p : Addr} {xs : List V} {s : String} {b : Bool} (hp : SqT K H p xs) (hk : kitB "tuple" s = some b) (h : Q (.bl b) H) : rIsi K [.ref p, .ty s] H Q := by
  rcases hp with (hp | ⟨o, hp⟩) | ⟨o, its, n, h1, h2, _⟩
  · exact ⟨_, _, _, _, b, rfl, .ty _, .base (.tup hp), kit_ty hk, h⟩
  · exact ⟨_, _, _, _, b, rfl, .ty _, .fTuple hp, kit_ty hk, h⟩
  · exact ⟨_, _, _, _, b, rfl, .ty _, .kTuple h1 h2, kit_ty hk, h⟩

open TL
section
variable {P : Program} {w : World} {K : PySem.W.Frag} {mg : Str → Option Value} {base : Heap} {C_Pull C_Push C_Web : Addr}
def spNum9 : Sp := fun vs H Q _ => ∃ i : Int, vs = [.int i] ∧ Q (.bl true) H
theorem ok_law_number {f : Addr} {fd : FuncData} (F : Fun K "_law_number" "_law_number" s_law_number f fd) (gf : mg "_law_number" = some (.ref f)) (B : Bl mg) {C_Pull C_Push C_Web : Addr} (T : Txt K mg C_Pull C_Push C_Web) : Has P w K mg base CX0 1 "_law_number" ["found"] spNum9 := by
  refine Has.mk' F gf (F.binds (ps := ["found"]) fun _ _ _ _ _ _ us hl => match us, hl with | [_], _ => rfl) sc_law_number (by walk_at "len") (fun cdv A outer s H vs Q E hr h => ?_)
  obtain ⟨i, rfl, q⟩ := h
  refine ⟨_, (pss_one (ps_ret (pe_and (pe_callB (call_isiK' K) (by rfl) B.isinstance (by decide +kernel) (pa_cons (pv 0) (pa_cons (pe_bltn (v := .ty "int") (by rfl) B.int (by decide +kernel) rfl) pa_nil))) (pe_one (pe_not (pe_callB (call_isiK' K) (by rfl) B.isinstance (by decide +kernel) (pa_cons (pv 0) (pa_cons (pe_bltn (v := .ty "bool") (by rfl) B.bool (by decide +kernel) rfl) pa_nil)))))))), ?_⟩
  walk_at "sts"
  exact q
def spRows9 (K : PySem.W.Frag) : Sp := fun vs H Q _ => ∃ (a b : Addr) (R : List (List Nat)), vs = [.ref a, .ref b] ∧ Dp K H (.ref a) (dRows R) ∧ Dp K H (.ref b) (dRows R) ∧ R.length ≤ 1000 ∧ (∀ i, i < R.length → (row R i).length ≤ 1000) ∧ ∀ H', Same H H' → Q (.bl true) H'
theorem ok_law_rows {f : Addr} {fd : FuncData} (F : Fun K "_law_rows" "_law_rows" s_law_rows f fd) (gf : mg "_law_rows" = some (.ref f)) (B : Bl mg) {C_Pull C_Push C_Web : Addr} (T : Txt K mg C_Pull C_Push C_Web) (h_law_number : Has P w K mg base CX0 1 "_law_number" ["found"] spNum9) : Has P w K mg base CX0 2 "_law_rows" ["found", "due"] (spRows9 K) := by
  refine Has.mk' F gf (F.binds (ps := ["found", "due"]) fun _ _ _ _ _ _ us hl => match us, hl with | [_, _], _ => rfl) sc_law_rows (by walk_at "len") (fun cdv A outer s H vs Q E hr h => ?_)
  obtain ⟨a, b, R, rfl, hA, hB, hl, hrows, q⟩ := h
  obtain ⟨xs, hx, hX⟩ := dpLstA hA
  obtain ⟨ys, hy, hY⟩ := dpLstA hB
  have hxl : xs.length = R.length := by have := dpaLen hX; simpa using this
  have hyl : ys.length = R.length := by have := dpaLen hY; simpa using this
  refine ⟨_, (pss_cons (ps_if (PW.pt (pw_or (pt_not (pt_val (pe_callB (call_isiK' K) (by rfl) B.isinstance (by decide +kernel) (pa_cons (pv 0) (pa_cons (pe_bltn (v := .ty "list") (by rfl) B.list (by decide +kernel) rfl) pa_nil))))) (pw_or1 (pt_cmpR op_ne (pe_callB (call_lenK K) (by rfl) B.len (by decide +kernel) (pa_cons (pv 0) pa_nil)) (pe_callB (call_lenK K) (by rfl) B.len (by decide +kernel) (pa_cons (pv 1) pa_nil)) (nomark _))))) (pss_one (ps_ret pe_bl)) pss_nil)
 (pss_cons (ps_for PassesOwn.never rfl (pi_range1 (by rfl) B.range (pa_cons (pe_callB (call_lenK K) (by rfl) B.len (by decide +kernel) (pa_cons (pv 1) pa_nil)) pa_nil)) (pg_name (i := 2) sc_law_rows.nd rfl (.inl rfl)) (pss_cons (ps_set (i := 3) sc_law_rows.nd rfl (.inl rfl) (pe_ix (ix_listK K) (pv 0) (pv 2) (fun _ _ => rfl)))
 (pss_cons (ps_if (PW.pt (pw_or (pt_not (pt_val (pe_callB (call_isiK' K) (by rfl) B.isinstance (by decide +kernel) (pa_cons (pv 3) (pa_cons (pe_bltn (v := .ty "list") (by rfl) B.list (by decide +kernel) rfl) pa_nil))))) (pw_or1 (pt_cmpR op_ne (pe_callB (call_lenK K) (by rfl) B.len (by decide +kernel) (pa_cons (pv 3) pa_nil)) (pe_callB (call_lenK K) (by rfl) B.len (by decide +kernel) (pa_cons (pe_ix (ix_listK K) (pv 1) (pv 2) (fun _ _ => rfl)) pa_nil)) (nomark _))))) (pss_one (ps_ret pe_bl)) pss_nil)
 (pss_one (ps_for PassesOwn.never rfl (pi_range1 (by rfl) B.range (pa_cons (pe_callB (call_lenK K) (by rfl) B.len (by decide +kernel) (pa_cons (pv 3) pa_nil)) pa_nil)) (pg_name (i := 4) sc_law_rows.nd rfl (.inl rfl)) (pss_one (ps_if (PW.pt (pw_or (pt_not (pt_val (pe_fn h_law_number (hr.mono (by decide)) (by rfl) (pa_cons (pe_ix (ix_listK K) (pv 3) (pv 4) (fun _ _ => rfl)) pa_nil)))) (pw_or1 (pt_cmpR op_ne (pe_ix (ix_listK K) (pv 3) (pv 4) (fun _ _ => rfl)) (pe_ix (ix_listK K) (pe_ix (ix_listK K) (pv 1) (pv 2) (fun _ _ => rfl)) (pv 4) (fun _ _ => rfl)) (nomark _))))) (pss_one (ps_ret pe_bl)) pss_nil)))))))
 (pss_one (ps_ret pe_bl)))), ?_⟩
  walk_at "sts"
  refine w_islS hx kb_ll ?_
  walk_at "sts"
  refine for_r0 (n := R.length) ?_ (fun i σ H' => ∃ (y2 y3 y4 : Option V), σ = [some (.ref a), some (.ref b), y2, y3, y4] ∧ Same H H') ?_ ?_ ?_
  · rw [hyl]
  · exact ⟨_, _, _, rfl, Same.refl _⟩
  · rintro i σ H1 hi ⟨y2, y3, y4, rfl, s1⟩
    obtain ⟨p0, b1, b2⟩ := dpRowsAt hX hi
    obtain ⟨p1, b3, b4⟩ := dpRowsAt hY hi
    have hx1 := s1.seq hx
    have hy1 := s1.seq hy
    have r1 := s1.seq b2
    have r2 := s1.seq b4
    walk_at "sts"
    refine w_islS r1 kb_ll ?_
    have hri := hrows i hi
    walk_at "sts"
    refine ⟨by rw [iv_len]; omega, by rw [iv_len]; omega, ?_⟩
    refine for_r0 (n := (row R i).length) ?_ (fun j σ H' => ∃ (y4 : Option V), σ = [some (.ref a), some (.ref b), some (.int (i : Nat)), some (.ref p0), y4] ∧ Same H1 H') ?_ ?_ ?_
    · rw [iv_len]
    · exact ⟨_, rfl, Same.refl _⟩
    · rintro j σ H2 hj ⟨y4, rfl, s2⟩
      have r3 := s2.seq r1
      have r4 := s2.seq r2
      have hy2 := s2.seq hy1
      have e1 := iv_at hj
      walk_at "sts"
      refine ⟨_, rfl, ?_⟩
      walk_at "sts"
      exact ⟨_, rfl, s2⟩
    · rintro σ H2 ⟨y4, rfl, s2⟩
      walk_at "sts"
      exact ⟨_, _, _, rfl, s1.trans s2⟩
  · rintro σ H1 ⟨y2, y3, y4, rfl, s1⟩
    walk_at "sts"
    exact q H1 s1
theorem cut_turn (r : List Nat) (k : Nat) : cutV (iv r) (some ((k : Nat) : Int)) none ++ cutV (iv r) none (some ((k : Nat) : Int)) = iv (r.drop k ++ r.take k) := by
  rw [cutV_from, cutV_to]
  unfold iv
  rw [← List.map_drop, ← List.map_take, List.map_append]
def spTurned9 (K : PySem.W.Frag) : Sp := fun vs H Q _ => ∃ (p : Addr) (r : List Nat), vs = [.ref p] ∧ SqL K H p (iv r) ∧ r ≠ [] ∧ r.length ≤ 1000 ∧ ∀ p' H', Same H H' → New H p' → H' p' = some (.lst (iv (turnF r))) → Q (.ref p') H'
theorem ok_law_turned {f : Addr} {fd : FuncData} (F : Fun K "_law_turned" "_law_turned" s_law_turned f fd) (gf : mg "_law_turned" = some (.ref f)) (B : Bl mg) {C_Pull C_Push C_Web : Addr} (T : Txt K mg C_Pull C_Push C_Web) : Has P w K mg base CX0 1 "_law_turned" ["ring"] (spTurned9 K) := by
  refine Has.mk' F gf (F.binds (ps := ["ring"]) fun _ _ _ _ _ _ us hl => match us, hl with | [_], _ => rfl) sc_law_turned (by walk_at "len") (fun cdv A outer s H vs Q E hr h => ?_)
  obtain ⟨p, r, rfl, hp, hne, hl, q⟩ := h
  have hpos : 0 < r.length := List.length_pos_iff.mpr hne
  have hm := lmin_mem hne
  refine ⟨_, (pss_cons (ps_set (i := 1) sc_law_turned.nd rfl (.inl rfl) (pe_bmK K (pe_bm PySem.F.plainAttrs_list PySem.F.slot_list_index PySem.F.type_list_index (mt_indexK K) (pv 0) (pa_cons (pe_callB (cr_minK K rfl) (by rfl) B.min (by decide +kernel) (pa_cons (pv 0) pa_nil)) pa_nil))))
 (pss_one (ps_ret (pe_op op_cat (pe_slice (sl_listK K) (pv 0) (po_some (pv 1)) po_none) (pe_slice (sl_listK K) (pv 0) po_none (po_some (pv 1))))))), ?_⟩
  have eiv : iv r = (rI r).map V.int := by unfold iv rI; rw [List.map_map]; rfl
  walk_at "sts"
  refine ⟨p, rI r, rfl, by rw [← eiv]; exact hp, by unfold rI; rw [List.length_map]; exact hpos, fun m hmm hle => ?_⟩
  have hmin : m = ((lmin r : Nat) : Int) := by
    unfold rI at hmm hle
    obtain ⟨x, hx, rfl⟩ := List.mem_map.mp hmm
    have h1 := hle _ (List.mem_map.mpr ⟨_, hm, rfl⟩)
    have h2 := lmin_le hx
    omega
  subst hmin
  walk_at "sts"
  refine w_idx hp hm ?_
  walk_at "sts"
  refine w_new fun q1 n1 => ?_
  walk_at "sts"
  refine w_new fun q2 n2 => ?_
  have q12 : q1 ≠ q2 := ne_new upd_same n2
  have s12 := (same_upd (o := .lst (cutV (iv r) (some ((r.idxOf (lmin r) : Nat) : Int)) none)) n1).trans (same_upd (o := .lst (cutV (iv r) none (some ((r.idxOf (lmin r) : Nat) : Int)))) n2)
  walk_at "sts"
  refine ⟨q1, q2, _, _, rfl, rfl, by walk_at "hp", upd_same, ?_, w_new fun pr nr => ?_⟩
  · have a1 := cutV_length (iv r) (some ((r.idxOf (lmin r) : Nat) : Int)) none
    have a2 := cutV_length (iv r) none (some ((r.idxOf (lmin r) : Nat) : Int))
    rw [iv_len] at a1 a2
    exact Nat.le_trans (show _ ≤ 2000 by omega) (by decide)
  rw [cut_turn]
  exact q pr _ (s12.trans (same_upd nr)) (nr.of s12) upd_same
theorem flat_subS (R : List (List Nat)) (i : Nat) : (R.take i).flatten.Sublist R.flatten := by
  have e : R.flatten = (R.take i).flatten ++ (R.drop i).flatten := by rw [← List.flatten_append, List.take_append_drop]
  rw [e]
  exact List.sublist_append_left _ _
theorem putK_newS {kvs : List (Key × V)} {k : Key} {v : V} (h : valV kvs k = none) : (putK kvs k v).length = kvs.length + 1 := by
  unfold valV at h
  have h2 := Option.map_eq_none_iff.mp h
  have h3 : (kvs.any fun kv => decide (kv.1 = k)) = false := by
    rw [List.any_eq_false]
    intro z hz
    exact List.find?_eq_none.mp h2 z hz
  unfold putK
  rw [if_neg (by rw [h3]; decide)]
  simp
def spSides9 (K : PySem.W.Frag) : Sp := fun vs H Q _ => ∃ (a b : Addr) (xs : List V) (R : List (List Nat)) (n : Nat), vs = [.ref a, .ref b] ∧ SqL K H a xs ∧ DpAll K H xs (sidesD R n) ∧ Dp K H (.ref b) (dRows R) ∧ R.flatten.Perm (List.range (2 * n)) ∧ (∀ r ∈ R, r ≠ []) ∧ n ≤ 1000 ∧ ∀ H', Same H H' → Q (.bl true) H'
theorem ok_law_sides {f : Addr} {fd : FuncData} (F : Fun K "_law_sides" "_law_sides" s_law_sides f fd) (gf : mg "_law_sides" = some (.ref f)) (B : Bl mg) {C_Pull C_Push C_Web : Addr} (T : Txt K mg C_Pull C_Push C_Web) (h_law_number : Has P w K mg base CX0 1 "_law_number" ["found"] spNum9) : Has P w K mg base CX0 2 "_law_sides" ["found", "rings"] (spSides9 K) := by
  refine Has.mk' F gf (F.binds (ps := ["found", "rings"]) fun _ _ _ _ _ _ us hl => match us, hl with | [_, _], _ => rfl) sc_law_sides (by walk_at "len") (fun cdv A outer s H vs Q E hr h => ?_)
  obtain ⟨a, b, xs, R, n, rfl, ha, hX, hB, hperm, hne, hn, q⟩ := h
  obtain ⟨us, hu, hU⟩ := dpLstA hB
  have hul : us.length = R.length := by have := dpaLen hU; simpa using this
  have hxl : xs.length = n := by have := dpaLen hX; simpa [sidesD] using this
  have hnd : R.flatten.Nodup := hperm.nodup_iff.mpr List.nodup_range
  have hfl : R.flatten.length = 2 * n := by have := hperm.length_eq; simpa using this
  have hlt : ∀ z ∈ R.flatten, z < 2 * n := fun z hz => List.mem_range.mp (hperm.mem_iff.mp hz)
  have hRat : ∀ j, j < R.length → R[j]? = some (row R j) := fun j hj => by
    unfold row
    rw [List.getD_eq_getElem?_getD, List.getElem?_eq_getElem hj]
    rfl
  have hRl : R.length ≤ 2 * n := by
    have a1 := flatten_ge (R := R) fun r hr => List.length_pos_iff.mpr (hne r hr)
    omega
  refine ⟨_, (pss_cons (ps_set (i := 2) sc_law_sides.nd rfl (.inl rfl) pe_dnewK)
 (pss_cons (ps_for PassesOwn.never rfl (pi_range1 (by rfl) B.range (pa_cons (pe_callB (call_lenK K) (by rfl) B.len (by decide +kernel) (pa_cons (pv 1) pa_nil)) pa_nil)) (pg_name (i := 3) sc_law_sides.nd rfl (.inl rfl)) (pss_one (ps_for PassesOwn.never rfl (pi_listK K (pe_ix (ix_listK K) (pv 1) (pv 3) (fun _ _ => rfl))) (pg_name (i := 4) sc_law_sides.nd rfl (.inl rfl)) (pss_one (ps_dput (hu_of hr) (pv 2) (pv 4) (pv 3) rfl)))))
 (pss_cons (ps_if (PW.pt (pw_or (pt_not (pt_val (pe_callB (call_isiK' K) (by rfl) B.isinstance (by decide +kernel) (pa_cons (pv 0) (pa_cons (pe_bltn (v := .ty "list") (by rfl) B.list (by decide +kernel) rfl) pa_nil))))) (pw_or1 (pt_cmpR op_ne (pe_op op_mulX pe_int (pe_callB (call_lenK K) (by rfl) B.len (by decide +kernel) (pa_cons (pv 0) pa_nil))) (pe_callB call_lenD (by rfl) B.len (by decide +kernel) (pa_cons (pv 2) pa_nil)) (nomark _))))) (pss_one (ps_ret pe_bl)) pss_nil)
 (pss_cons (ps_for PassesOwn.never rfl (pi_range1 (by rfl) B.range (pa_cons (pe_callB (call_lenK K) (by rfl) B.len (by decide +kernel) (pa_cons (pv 0) pa_nil)) pa_nil)) (pg_name (i := 5) sc_law_sides.nd rfl (.inl rfl)) (pss_cons (ps_set (i := 6) sc_law_sides.nd rfl (.inl rfl) (pe_ix (ix_listK K) (pv 0) (pv 5) (fun _ _ => rfl)))
 (pss_cons (ps_if (PW.pt (pw_or (pt_not (pt_val (pe_callB (call_isiK' K) (by rfl) B.isinstance (by decide +kernel) (pa_cons (pv 6) (pa_cons (pe_bltn (v := .ty "tuple") (by rfl) B.tuple (by decide +kernel) rfl) pa_nil))))) (pw_or1 (pt_cmpR op_ne (pe_callB (call_lenK K) (by rfl) B.len (by decide +kernel) (pa_cons (pv 6) pa_nil)) pe_int (nomark _))))) (pss_one (ps_ret pe_bl)) pss_nil)
 (pss_cons (ps_if (PW.pt (pw_or (pt_not (pt_val (pe_fn h_law_number (hr.mono (by decide)) (by rfl) (pa_cons (pe_ix (ix_tupK K) (pv 6) pe_int (fun _ _ => rfl)) pa_nil)))) (pw_or1 (pt_not (pt_val (pe_fn h_law_number (hr.mono (by decide)) (by rfl) (pa_cons (pe_ix (ix_tupK K) (pv 6) pe_int (fun _ _ => rfl)) pa_nil))))))) (pss_one (ps_ret pe_bl)) pss_nil)
 (pss_one (ps_if (PW.pt (pw_or (pt_cmpR op_ne (pe_ix (ix_tupK K) (pv 6) pe_int (fun _ _ => rfl)) (pe_dget (hu_of hr) (pv 2) (pe_op op_mulX pe_int (pv 5)) (fun _ _ => rfl)) (nomark _)) (pw_or1 (pt_cmpR op_ne (pe_ix (ix_tupK K) (pv 6) pe_int (fun _ _ => rfl)) (pe_dget (hu_of hr) (pv 2) (pe_op op_add (pe_op op_mulX pe_int (pv 5)) pe_int) (fun _ _ => rfl)) (nomark _))))) (pss_one (ps_ret pe_bl)) pss_nil))))))
 (pss_one (ps_ret pe_bl)))))), ?_⟩
  walk_at "sts"
  intro pw npw
  have s1 := same_upd (o := .dK []) npw
  have k1 : upd H pw (.dK []) pw = some (.dK []) := upd_same
  generalize upd H pw (.dK []) = H1 at s1 k1 ⊢
  have hu1 := s1.seq hu
  have s1w : Same H (wo H1 pw) := same_wo s1 npw
  walk_at "sts"
  rw [hul]
  refine for_r0 (n := R.length) rfl (fun i σ H' => ∃ (kvs : List (Key × V)) (y3 y4 y5 y6 : Option V), σ = [some (.ref a), some (.ref b), some (.ref pw), y3, y4, y5, y6] ∧ Same (wo H1 pw) H' ∧ H' pw = some (.dK kvs) ∧ Holds kvs (R.take i).flatten (fun x => .int (sideOf R x : Nat)) ∧ kvs.length = (R.take i).flatten.length) ?_ ?_ ?_
  · exact ⟨[], _, _, _, _, rfl, wo_same, k1, Holds.nil, rfl⟩
  · rintro i σ H' hi ⟨kvs, y3, y4, y5, y6, rfl, g, kd, hK, hKl⟩
    have gH := s1w.trans g
    obtain ⟨q0, e1, e2⟩ := dpRowsAt hU hi
    have hu2 := gH.seq hu
    have hft := flat_take R i _ (hRat i hi)
    have hndr : ((R.take i).flatten ++ row R i).Nodup := by
      rw [← hft]
      exact hnd.sublist (flat_subS _ _)
    obtain ⟨nd1, nd2, nd3⟩ := List.nodup_append.mp hndr
    have hside : ∀ z ∈ row R i, sideOf R z = i := fun z hz => sideOf_at hnd (hRat i hi) hz
    have hsub : ((R.take i).flatten ++ row R i).length ≤ 2 * n := by
      rw [← hft, ← hfl]
      exact (flat_subS R (i + 1)).length_le
    rw [List.length_append] at hsub
    walk_at "sts"
    refine for_list (xs := iv (row R i)) (fun j σ H3 => ∃ (kvs : List (Key × V)) (y4 y5 y6 : Option V), σ = [some (.ref a), some (.ref b), some (.ref pw), some (.int (i : Nat)), y4, y5, y6] ∧ Same (wo H' pw) H3 ∧ H3 pw = some (.dK kvs) ∧ Holds kvs ((R.take i).flatten ++ (row R i).take j) (fun x => .int (sideOf R x : Nat)) ∧ kvs.length = ((R.take i).flatten ++ (row R i).take j).length) ?_ ?_ ?_ ?_
    · exact ⟨kvs, _, _, _, rfl, wo_same, kd, by simpa using hK, by simpa using hKl⟩
    · rintro j σ H3 _ ⟨_, _, _, _, _, g3, _⟩
      exact ((same_wo gH npw).trans g3).seq e2
    · rintro j v σ H3 hv ⟨kvs, y4, y5, y6, rfl, g3, kd3, hK3, hKl3⟩
      have hj : j < (row R i).length := by rw [← iv_len]; exact (List.getElem?_eq_some_iff.mp hv).1
      rw [iv_at hj] at hv
      cases hv
      have hmem : (row R i).getD j 0 ∈ row R i := by rw [List.getD_eq_getElem?_getD, List.getElem?_eq_getElem hj]; exact List.getElem_mem hj
      have hnot : (row R i).getD j 0 ∉ (R.take i).flatten ++ (row R i).take j := fun z => by
        rcases List.mem_append.mp z with z | z
        · exact nd3 _ z _ hmem rfl
        · obtain ⟨j', hj', e'⟩ := List.getElem_of_mem z
          rw [List.getElem_take, List.getD_eq_getElem?_getD, List.getElem?_eq_getElem hj] at e'
          rw [List.length_take] at hj'
          have := (List.getElem_inj nd2).mp e'
          omega
      have hsd := hside _ hmem
      rw [take_snoc hj, ← List.append_assoc]
      generalize (row R i).getD j 0 = dd at hmem hnot hsd ⊢
      have hkl : kvs.length < sizeLine := szlt (by rw [hKl3, List.length_append, List.length_take]; omega)
      walk_at "sts"
      have hval : valV kvs (.inl ((dd : Nat) : Int)) = none := by rw [hK3.2, if_neg hnot]
      refine ⟨_, _, _, _, rfl, g3.mut wo_new, upd_same, ?_, ?_⟩
      · have ee : V.int ((sideOf R dd : Nat) : Int) = V.int ((i : Nat) : Int) := by rw [hsd]
        rw [← ee]
        exact hK3.put dd
      · rw [putK_newS hval, hKl3, List.length_append, List.length_append (bs := [dd])]
        simp
    · rintro σ H3 ⟨kvs, y4, y5, y6, rfl, g3, kd3, hK3, hKl3⟩
      rw [iv_len, List.take_length, ← hft] at hK3 hKl3
      walk_at "sts"
      refine ⟨kvs, _, _, _, _, rfl, ?_, kd3, hK3, hKl3⟩
      refine Same.trans ?_ g3
      exact fun b o hb => by
        have h1 := g b o hb
        refine wo_get h1 fun z => ?_
        subst z
        rw [wo_new] at hb
        cases hb
  · rintro σ H2 ⟨kvs, y3, y4, y5, y6, rfl, g, kd, hK, hKl⟩
    rw [List.take_length] at hK hKl
    rw [hfl] at hKl
    have gH := s1w.trans g
    have ha2 := gH.seq ha
    walk_at "sts"
    refine w_islS ha2 kb_ll ?_
    walk_at "sts"
    refine ⟨pw, kvs, rfl, kd, ?_⟩
    walk_at "sts"
    refine for_r0 (n := n) ?_ (fun i σ H' => ∃ (y3 y4 y5 y6 : Option V), σ = [some (.ref a), some (.ref b), some (.ref pw), y3, y4, y5, y6] ∧ H' = H2) ?_ ?_ ?_
    · rw [hxl]
    · exact ⟨_, _, _, _, rfl, rfl⟩
    · rintro i σ H' hi ⟨y3, y4, y5, y6, rfl, rfl⟩
      obtain ⟨v, h1, h2⟩ := dpaGet (i := i) (d := sideD R i) (hX.same gH) (by unfold sidesD; rw [List.getElem?_map, List.getElem?_range hi]; rfl)
      obtain ⟨pq, ys5, rfl, h3, h4⟩ := dpTup h2
      have e5 := dpAll_ints h4
      rw [e5] at h3
      have h3' : SqT K H' pq [.int ((sideOf R (2 * i) : Nat) : Int), .int ((sideOf R (2 * i + 1) : Nat) : Int)] := h3
      have hin : ∀ x, x < 2 * n → valV kvs (.inl ((x : Nat) : Int)) = some (.int ((sideOf R x : Nat) : Int)) := fun x hx => by
        rw [hK.2, if_pos (hperm.mem_iff.mpr (List.mem_range.mpr hx))]
      have hv0 := hin (2 * i) (by omega)
      have hv1 := hin (2 * i + 1) (by omega)
      have ev0 : 2 * (i : Int) = ((2 * i : Nat) : Int) := by omega
      have ev1 : ((2 * i : Nat) : Int) + 1 = ((2 * i + 1 : Nat) : Int) := by omega
      clear h3 e5 h4 h2
      walk_at "sts"
      refine w_istS h3' kb_tt ?_
      walk_at "sts"
      refine ⟨_, rfl, ?_⟩
      walk_at "sts"
      refine ⟨_, rfl, ?_⟩
      walk_at "sts"
      refine ⟨_, rfl, ?_⟩
      walk_at "sts"
      rw [ev0]
      refine w_getI kd hv0 ?_
      walk_at "sts"
      rw [ev0, ev1]
      refine w_getI kd hv1 ?_
      walk_at "sts"
      exact ⟨_, _, _, _, rfl, rfl⟩
    · rintro σ H' ⟨y3, y4, y5, y6, rfl, rfl⟩
      walk_at "sts"
      exact q _ gH
theorem Txt.isoT9 {K : PySem.W.Frag} {mg : Str → Option Value} {C_Pull C_Push C_Web : Addr} (T : Txt K mg C_Pull C_Push C_Web) (push : Bool) : IsoK K (clsOf C_Pull C_Push push) := by
  cases push
  · exact ⟨T.cl_Pull, T.oc_Pull, T.og, T.ot, T.om_Pull⟩
  · exact ⟨T.cl_Push, T.oc_Push, T.og, T.ot, T.om_Push⟩
theorem Txt.isPush9 {K : PySem.W.Frag} {mg : Str → Option Value} {C_Pull C_Push C_Web : Addr} (T : Txt K mg C_Pull C_Push C_Web) (push : Bool) : PySem.W.kitOne K (.ref (clsOf C_Pull C_Push push)) (.ref C_Push) = some push := by
  cases push
  · exact T.ki_Pull_Push
  · exact T.ki_Push_Push
theorem Txt.isPull9 {K : PySem.W.Frag} {mg : Str → Option Value} {C_Pull C_Push C_Web : Addr} (T : Txt K mg C_Pull C_Push C_Web) (push : Bool) : PySem.W.kitOne K (.ref (clsOf C_Pull C_Push push)) (.ref C_Pull) = some (!push) := by
  cases push
  · exact T.ki_Pull_Pull
  · exact T.ki_Push_Pull
theorem good_end9 (e : Nat × Nat) : Good 1 (dEnd e) := goodTup (by intro d hd; simp at hd; rcases hd with rfl | rfl <;> exact goodInt)
theorem kind_push (b : Bool) : decide (tS (kindW b) = Str.ofString "push") = b := by
  cases b with
  | true => exact decide_eq_true (tL_lit "push").symm
  | false => exact decide_eq_false fun h => by have := kindW_push h; cases this
theorem kind_pull (b : Bool) : decide (tS (kindW b) = Str.ofString "pull") = !b := by
  cases b with
  | false => exact decide_eq_true (tL_lit "pull").symm
  | true =>
    refine decide_eq_false fun h => ?_
    rw [tL_lit] at h
    exact absurd (tS_inj h) (by decide)
def spSame9 (K : PySem.W.Frag) (CP CQ : Addr) : Sp := fun vs H Q _ => ∃ (a e k : Addr) (ts : List Ti), vs = [.ref a, .ref e, .ref k] ∧ TiesAt K CP CQ H a ts ∧ Dp K H (.ref e) (dEnds (endsOf ts)) ∧ Dp K H (.ref k) (dKs (ts.map kx)) ∧ ts.length ≤ 1000 ∧ ∀ H', Same H H' → Q (.bl true) H'
theorem ok_law_same_ties {f : Addr} {fd : FuncData} (F : Fun K "_law_same_ties" "_law_same_ties" s_law_same_ties f fd) (gf : mg "_law_same_ties" = some (.ref f)) (B : Bl mg) {C_Pull C_Push C_Web : Addr} (T : Txt K mg C_Pull C_Push C_Web) (h_law_number : Has P w K mg base CX0 1 "_law_number" ["found"] spNum9) : Has P w K mg base CX0 2 "_law_same_ties" ["found", "ends", "kinds"] (spSame9 K C_Pull C_Push) := by
  refine Has.mk' F gf (F.binds (ps := ["found", "ends", "kinds"]) fun _ _ _ _ _ _ us hl => match us, hl with | [_, _, _], _ => rfl) sc_law_same_ties (by walk_at "len") (fun cdv A outer s H vs Q E hr h => ?_)
  obtain ⟨a, e, kd, ts, rfl, hT, hE, hD, hle, q⟩ := h
  obtain ⟨ps, hps, hin⟩ := id hT
  obtain ⟨es, he, hEs⟩ := dpLstA hE
  obtain ⟨ds, hd, hDs⟩ := dpLstA hD
  have hel : es.length = ts.length := by have := dpaLen hEs; rw [List.length_map, endsOf_len] at this; exact this
  have hpl : (ps.map V.ref).length = ts.length := by rw [List.length_map]; exact hin.1
  refine ⟨_, (pss_cons (ps_if (PW.pt (pw_or (pt_not (pt_val (pe_callB (call_isiK' K) (by rfl) B.isinstance (by decide +kernel) (pa_cons (pv 0) (pa_cons (pe_bltn (v := .ty "list") (by rfl) B.list (by decide +kernel) rfl) pa_nil))))) (pw_or1 (pt_cmpR op_ne (pe_callB (call_lenK K) (by rfl) B.len (by decide +kernel) (pa_cons (pv 0) pa_nil)) (pe_callB (call_lenK K) (by rfl) B.len (by decide +kernel) (pa_cons (pv 1) pa_nil)) (nomark _))))) (pss_one (ps_ret pe_bl)) pss_nil)
 (pss_cons (ps_for PassesOwn.never rfl (pi_range1 (by rfl) B.range (pa_cons (pe_callB (call_lenK K) (by rfl) B.len (by decide +kernel) (pa_cons (pv 1) pa_nil)) pa_nil)) (pg_name (i := 3) sc_law_same_ties.nd rfl (.inl rfl)) (pss_cons (ps_set (i := 4) sc_law_same_ties.nd rfl (.inl rfl) (pe_ix (ix_listK K) (pv 0) (pv 3) (fun _ _ => rfl)))
 (pss_cons (ps_if (PW.pt (pw_or (pt_cmpR op_ne (pe_callB (call_isiK' K) (by rfl) B.isinstance (by decide +kernel) (pa_cons (pv 4) (pa_cons (pe_glob (v := .ref C_Push) (by rfl) T.g_Push rfl) pa_nil))) (pe_cmpR op_eq (pe_ix (ix_tupK K) (pe_ix (ix_listK K) (pv 2) (pv 3) (fun _ _ => rfl)) pe_int (fun _ _ => rfl)) pe_str (nomark _)) (nomark _)) (pw_or1 (pt_cmpR op_ne (pe_callB (call_isiK' K) (by rfl) B.isinstance (by decide +kernel) (pa_cons (pv 4) (pa_cons (pe_glob (v := .ref C_Pull) (by rfl) T.g_Pull rfl) pa_nil))) (pe_cmpR op_eq (pe_ix (ix_tupK K) (pe_ix (ix_listK K) (pv 2) (pv 3) (fun _ _ => rfl)) pe_int (fun _ _ => rfl)) pe_str (nomark _)) (nomark _))))) (pss_one (ps_ret pe_bl)) pss_nil)
 (pss_cons (ps_if (PW.pt (pw_or (pt_not (pt_val (pe_fn h_law_number (hr.mono (by decide)) (by rfl) (pa_cons (pe_fldK K (pv 4) rfl) pa_nil)))) (pw_or (pt_not (pt_val (pe_fn h_law_number (hr.mono (by decide)) (by rfl) (pa_cons (pe_fldK K (pv 4) rfl) pa_nil)))) (pw_or1 (pt_not (pt_val (pe_fn h_law_number (hr.mono (by decide)) (by rfl) (pa_cons (pe_fldK K (pv 4) rfl) pa_nil)))))))) (pss_one (ps_ret pe_bl)) pss_nil)
 (pss_one (ps_if (PW.pt (pw_or (pt_cmpR (op_neDK K hr.units) (pe_tup (pa_cons (pe_fldK K (pv 4) rfl) (pa_cons (pe_fldK K (pv 4) rfl) pa_nil))) (pe_ix (ix_listK K) (pv 1) (pv 3) (fun _ _ => rfl)) (nomark _)) (pw_or1 (pt_cmpR op_ne (pe_fldK K (pv 4) rfl) (pe_ix (ix_tupK K) (pe_ix (ix_listK K) (pv 2) (pv 3) (fun _ _ => rfl)) pe_int (fun _ _ => rfl)) (nomark _))))) (pss_one (ps_ret pe_bl)) pss_nil))))))
 (pss_one (ps_ret pe_bl)))), ?_⟩
  walk_at "sts"
  refine w_islS hps kb_ll ?_
  walk_at "sts"
  refine for_r0 (n := ts.length) ?_ (fun i σ H' => ∃ (y3 y4 : Option V), σ = [some (.ref a), some (.ref e), some (.ref kd), y3, y4] ∧ Same H H') ?_ ?_ ?_
  · rw [hel]
  · exact ⟨_, _, rfl, Same.refl _⟩
  · rintro i σ H1 hi ⟨y3, y4, rfl, s1⟩
    obtain ⟨pt, h1, h2⟩ := hin.get (ti_at hi)
    obtain ⟨p0, b1, b2⟩ := dpEndsAt hEs (show i < (endsOf ts).length by rw [endsOf_len]; exact hi)
    obtain ⟨p1, b3, b4⟩ := kindAt hDs (show i < (ts.map kx).length by rw [List.length_map]; exact hi)
    rw [en_ti hi] at b2
    rw [ti_kx hi] at b4
    have b4 : SqT K H p1 [.str (tS (kindW (ti ts i).push)), .int ((ti ts i).s : Nat)] := b4
    have hps1 := s1.seq hps
    have he1 := s1.seq he
    have hd1 := s1.seq hd
    have r2 := same_read s1 b2
    have r4 := same_read s1 b4
    have h3 := h2.same s1
    obtain ⟨dx4, h5⟩ := id h3
    walk_at "sts"
    refine w_iso h5 (T.isoT9 _) (T.isPush9 _) ?_
    walk_at "sts"
    rw [kind_push, decide_eq_true rfl]
    walk_at "sts"
    refine w_iso h5 (T.isoT9 _) (T.isPull9 _) ?_
    walk_at "sts"
    rw [kind_pull, decide_eq_true rfl]
    walk_at "sts"
    refine w_t1 T.tie h3 ?_
    walk_at "sts"
    refine ⟨_, rfl, ?_⟩
    walk_at "sts"
    refine w_t2 T.tie h3 ?_
    walk_at "sts"
    refine ⟨_, rfl, ?_⟩
    walk_at "sts"
    refine w_t3 T.tie h3 ?_
    walk_at "sts"
    refine ⟨_, rfl, ?_⟩
    walk_at "sts"
    refine w_t1 T.tie h3 ?_
    walk_at "sts"
    refine w_t2 T.tie h3 ?_
    walk_at "sts"
    refine w_new fun t1 nt1 => ?_
    have sn := same_upd (o := .tup [.int ((ti ts i).one : Nat), .int ((ti ts i).two : Nat)]) nt1
    have he2 := sn.seq he1
    have hd2 := sn.seq hd1
    have r24 := same_read sn r2
    have r44 := same_read sn r4
    have h4 := h3.same sn
    have d1 : Dp K (upd H1 t1 (.tup [.int ((ti ts i).one : Nat), .int ((ti ts i).two : Nat)])) (.ref t1) (dEnd ((ti ts i).one, (ti ts i).two)) := dEndT (SqT.of upd_same)
    have d2 : Dp K (upd H1 t1 (.tup [.int ((ti ts i).one : Nat), .int ((ti ts i).two : Nat)])) (.ref p0) (dEnd ((ti ts i).one, (ti ts i).two)) := dEndT r24
    generalize upd H1 t1 (.tup [.int ((ti ts i).one : Nat), .int ((ti ts i).two : Nat)]) = H2 at sn he2 hd2 r24 r44 h4 d1 d2 ⊢
    walk_at "sts"
    refine w_neD d1 d2 (good_end9 _) (by decide) ?_
    walk_at "sts"
    refine w_t3 T.tie h4 ?_
    walk_at "sts"
    exact ⟨_, _, rfl, s1.trans sn⟩
  · rintro σ H1 ⟨y3, y4, rfl, s1⟩
    walk_at "sts"
    exact q H1 s1
end

section
variable {P : Program} {w : World} {K : PySem.W.Frag} {mg : Str → Option Value} {base : Heap} {C_Pull C_Push C_Web : Addr}
theorem dpaRefs {K : PySem.W.Frag} {H : Hp} : ∀ {cs : List (Addr × Rw)}, (∀ b ∈ cs, Dp K H (.ref b.1) (dRow b.2)) → DpAll K H (cs.map fun b => V.ref b.1) ((cs.map fun b => b.2).map dRow)
  | [], _ => .nil
  | c :: cs, h => .cons (h c List.mem_cons_self) (dpaRefs fun b hb => h b (List.mem_cons_of_mem _ hb))
def spFields9 (K : PySem.W.Frag) (CP CQ CW : Addr) : Sp := fun vs H Q _ => ∃ (p g k : Addr) (ts : List Ti) (T : Turns) (R R0 : List (List Nat)), vs = [.ref p, .ref g, .ref k] ∧ WebAt K CP CQ CW H p ⟨ts, T, R⟩ ∧ WebOk ⟨ts, T, R⟩ ∧ GrB K H g (endsOf ts) T R0 ∧ GB (endsOf ts) T R0 ∧ Dp K H (.ref k) (dKs (ts.map kx)) ∧ ts.length ≤ 200 ∧ T.length ≤ 200 ∧ ∀ H', Same H H' → Q (.bl true) H'
theorem ok_law_fields {f : Addr} {fd : FuncData} (F : Fun K "_law_fields" "_law_fields" s_law_fields f fd) (gf : mg "_law_fields" = some (.ref f)) (B : Bl mg) {C_Pull C_Push C_Web : Addr} (T : Txt K mg C_Pull C_Push C_Web) (h_law_rows : Has P w K mg base CX0 2 "_law_rows" ["found", "due"] (spRows9 K)) (h_law_sides : Has P w K mg base CX0 2 "_law_sides" ["found", "rings"] (spSides9 K)) (h_law_turned : Has P w K mg base CX0 1 "_law_turned" ["ring"] (spTurned9 K)) (h_law_number : Has P w K mg base CX0 1 "_law_number" ["found"] spNum9) (h_law_same_ties : Has P w K mg base CX0 2 "_law_same_ties" ["found", "ends", "kinds"] (spSame9 K C_Pull C_Push)) : Has P w K mg base CX0 3 "_law_fields" ["web", "grown", "kinds"] (spFields9 K C_Pull C_Push C_Web) := by
  refine Has.mk' F gf (F.binds (ps := ["web", "grown", "kinds"]) fun _ _ _ _ _ _ us hl => match us, hl with | [_, _, _], _ => rfl) sc_law_fields (by walk_at "len") (fun cdv A outer s H vs Q E hr h => ?_)
  obtain ⟨p, g, kd, ts, Tu, R, R0, rfl, hW, hOk, hG, hGB, hK, hl1, hl2, q⟩ := h
  obtain ⟨e, t, r, hg, hE, hTu, hR⟩ := id hG
  obtain ⟨dx, wa, wb, wc, wd, wxs, hp, hT, hT2, hR2, hS1, hS2⟩ := id hW.at_
  obtain ⟨rs, hr1, hRs⟩ := dpLstA hR
  obtain ⟨us, hu, hus⟩ := dpLstA hTu
  have hul : us.length = Tu.length := by have := dpaLen hus; simpa using this
  have hrl : rs.length = R0.length := by have := dpaLen hRs; simpa using this
  have hGl : Tu.length + R0.length = (endsOf ts).length + 2 := hGB.rlen
  rw [endsOf_len] at hGl
  have hne0 : ∀ i, i < R0.length → row R0 i ≠ [] := fun i hi => by
    have hm : row R0 i ∈ R0 := by
      unfold row
      rw [List.getD_eq_getElem?_getD, List.getElem?_eq_getElem hi]
      exact List.getElem_mem hi
    obtain ⟨x, l, e2, _⟩ := hGB.rings.ok _ hm
    rw [e2]; simp
  have hfl0 : R0.flatten.length = 2 * ts.length := by have := hGB.rings.all.length_eq; rw [List.length_range, endsOf_len] at this; exact this
  have hrow1 : ∀ i, i < R0.length → (row R0 i).length ≤ 1000 := fun i hi => by
    have hm : row R0 i ∈ R0 := by
      unfold row
      rw [List.getD_eq_getElem?_getD, List.getElem?_eq_getElem hi]
      exact List.getElem_mem hi
    have := (List.sublist_flatten_of_mem hm).length_le
    omega
  refine ⟨_, (pss_cons (ps_set (i := 3) sc_law_fields.nd rfl (.inl rfl) (pe_callB (cr_sortR K hr.units) (by rfl) B.sorted (by decide +kernel) (pa_cons (pe_lc (own := [("ring", 4)]) rfl sc_law_fields.nd (pi_listK K (pe_ix (ix_tupK K) (pv 1) pe_int (fun _ _ => rfl))) (blkOk_by (own := [("ring", 4)]) (N := ["web", "grown", "kinds", "due", "ring"]) (sc := defScope s_law_fields) (by decide +kernel)) (fun _ _ _ _ _ => pg_name (i := 4) sc_law_fields.nd rfl (Or.inl rfl)) (fun _ _ _ _ _ => pts_nil) (fun _ _ _ _ _ => (pe_fn h_law_turned (hr.mono (by decide)) (by rfl) (pa_cons (pv 4) pa_nil)))) pa_nil)))
 (pss_cons (ps_if (PW.pt (pw_or (pt_not (pt_val (pe_fn h_law_number (hr.mono (by decide)) (by rfl) (pa_cons (pe_fldK K (pv 0) rfl) pa_nil)))) (pw_or1 (pt_cmpR op_ne (pe_fldK K (pv 0) rfl) (pe_callB (call_lenK K) (by rfl) B.len (by decide +kernel) (pa_cons (pe_ix (ix_tupK K) (pv 1) pe_int (fun _ _ => rfl)) pa_nil)) (nomark _))))) (pss_one (ps_ret pe_bl)) pss_nil)
 (pss_cons (ps_if (PW.pt (pw_or (pt_not (pt_val (pe_fn h_law_same_ties (hr.mono (by decide)) (by rfl) (pa_cons (pe_fldK K (pv 0) rfl) (pa_cons (pe_ix (ix_tupK K) (pv 1) pe_int (fun _ _ => rfl)) (pa_cons (pv 2) pa_nil)))))) (pw_or1 (pt_not (pt_val (pe_fn h_law_rows (hr.mono (by decide)) (by rfl) (pa_cons (pe_fldK K (pv 0) rfl) (pa_cons (pe_ix (ix_tupK K) (pv 1) pe_int (fun _ _ => rfl)) pa_nil)))))))) (pss_one (ps_ret pe_bl)) pss_nil)
 (pss_one (ps_ret (pe_and (pe_fn h_law_rows (hr.mono (by decide)) (by rfl) (pa_cons (pe_fldK K (pv 0) rfl) (pa_cons (pv 3) pa_nil))) (pe_one (pe_fn h_law_sides (hr.mono (by decide)) (by rfl) (pa_cons (pe_fldK K (pv 0) rfl) (pa_cons (pv 3) pa_nil)))))))))), ?_⟩
  walk_at "sts"
  intro D nD
  refine lc_list (xs := rs) (fun i H' => ∃ (bs : List (Addr × Rw)) (G : Hp), H' D = some (.lst (bs.map fun b : Addr × Rw => V.ref b.1)) ∧ Same H G ∧ Same G H' ∧ New G D ∧ (∀ b ∈ bs, Dp K G (.ref b.1) (dRow b.2)) ∧ (bs.map fun b => b.2) = (R0.take i).map turnF) ?_ ?_ ?_ ?_
  · exact ⟨[], H, upd_same, Same.refl _, same_upd nD, nD, fun b hb => absurd hb List.not_mem_nil, by simp⟩
  · rintro i H' _ ⟨bs, G, _, g1, g2, _, _⟩
    exact (g1.trans g2).seq hr1
  · rintro i x H' hx ⟨bs, G, y1, g1, g2, g3, hD, hm⟩
    have hi : i < R0.length := by rw [← hrl]; exact (List.getElem?_eq_some_iff.mp hx).1
    obtain ⟨q1, e1, e2⟩ := dpRowsAt hRs hi
    rw [hx] at e1
    cases e1
    have hbl : bs.length = i := by have := congrArg List.length hm; rw [List.length_map, List.length_map, List.length_take] at this; omega
    walk_at "sts"
    refine ⟨q1, row R0 i, rfl, (g1.trans g2).seq e2, hne0 i hi, hrow1 i hi, fun p' H2 s2 n2 l2 => ?_⟩
    have y2 := s2 _ _ y1
    have hDp : D ≠ p' := ne_new y1 n2
    have nG : New G p' := n2.of g2
    have hsl : (bs.map fun b : Addr × Rw => V.ref b.1).length < sizeLine := szlt (by rw [List.length_map]; omega)
    walk_at "sts"
    refine ⟨_, y2, hsl, bs ++ [(p', turnF (row R0 i))], upd G p' (.lst (iv (turnF (row R0 i)))), by rw [upd_same, List.map_append]; rfl, g1.trans (same_upd nG), ?_, g3.upd hDp, fun b hb => ?_, ?_⟩
    · exact Same.mut ((g2.trans s2).add l2) (g3.upd hDp)
    · rcases List.mem_append.mp hb with hb | hb
      · exact (hD b hb).same (same_upd nG)
      · rw [List.mem_singleton.mp hb]
        exact dpRow (SqL.of upd_same)
    · have et : R0.take (i + 1) = R0.take i ++ [row R0 i] := by
        rw [List.take_add_one, List.getElem?_eq_getElem hi]
        unfold row
        rw [List.getD_eq_getElem?_getD, List.getElem?_eq_getElem hi]
        rfl
      rw [et, List.map_append, List.map_append, hm]
      rfl
  rintro H2 ⟨bs, G, y1, g1, g2, g3, hD, hm⟩
  rw [hrl, List.take_length] at hm
  have hbl : bs.length = R0.length := by have := congrArg List.length hm; simpa using this
  walk_at "sts"
  refine ⟨D, bs, rfl, SqL.of y1, fun b hb => (hD b hb).same g2, by omega, fun cs pd hpm hpw npd => ?_⟩
  have g12 := g1.trans g2
  have sd := same_upd (o := .lst (cs.map fun b : Addr × Rw => V.ref b.1)) npd
  have hS : (cs.map fun b => b.2) = R := by
    have hc : Canon (fol (endsOf ts) Tu) (2 * (endsOf ts).length) (cs.map fun b => b.2) := canon_rows hGB.rings (by rw [← hm]; exact hpm.map _) (List.pairwise_map.mpr (hpw.imp fun h => head_le h))
    have hc2 := hOk.canon
    have hc2 : Canon (fol (endsOf ts) Tu) (2 * ts.length) R := hc2
    rw [endsOf_len] at hc
    exact Canon.eq hc hc2
  have hDue : Dp K (upd H2 pd (.lst (cs.map fun b : Addr × Rw => V.ref b.1))) (.ref pd) (dRows R) := by
    rw [← hS]
    exact .lst (SqL.of upd_same) (dpaRefs fun b hb => (hD b (hpm.mem_iff.mp hb)).same (g2.trans sd))
  generalize upd H2 pd (.lst (cs.map fun b : Addr × Rw => V.ref b.1)) = H3 at sd hDue ⊢
  have g13 := g12.trans sd
  have hp3 := g13 _ _ hp
  have hg3 := same_read g13 hg
  have hu3 := g13.seq hu
  have hc2 : Canon (fol (endsOf ts) Tu) (2 * ts.length) R := hOk.canon
  have hRl : R.length ≤ 2 * ts.length := by
    have a1 := flatten_ge (R := R) fun r hr => by obtain ⟨x, l, rfl, _⟩ := hc2.rings.ok r hr; simp
    have a2 := hc2.rings.all.length_eq
    rw [List.length_range] at a2
    omega
  have hrowT : ∀ i, i < Tu.length → (row Tu i).length ≤ 1000 := fun i hi => by
    have := nodup_sub_len (ys := List.range ts.length) (hGB.flat.ok.nd i hi) fun x hx => List.mem_range.mpr (by have := (hGB.flat.ok.mem i hi x).mp hx; rw [endsOf_len] at this; exact this.1)
    rw [List.length_range] at this
    omega
  have hrowR : ∀ i, i < R.length → (row R i).length ≤ 1000 := fun i hi => by
    have hm : row R i ∈ R := by
      unfold row
      rw [List.getD_eq_getElem?_getD, List.getElem?_eq_getElem hi]
      exact List.getElem_mem hi
    have h1 := (List.sublist_flatten_of_mem hm).length_le
    have h2 := hc2.rings.all.length_eq
    rw [List.length_range] at h2
    omega
  walk_at "sts"
  refine w_fld hp3 T.cl_Web T.n_Web_many (wf_many _ _ _ _ _) ?_
  walk_at "sts"
  refine ⟨_, rfl, ?_⟩
  walk_at "sts"
  refine w_fld hp3 T.cl_Web T.n_Web_many (wf_many _ _ _ _ _) ?_
  walk_at "sts"
  rw [hul]
  refine ifnd (fun z => absurd rfl z) (fun _ => ?_)
  walk_at "sts"
  refine w_fld hp3 T.cl_Web T.n_Web_ties (wf_ties _ _ _ _ _) ?_
  walk_at "sts"
  refine ⟨wa, e, kd, ts, rfl, hT.same g13, hE.same g13, hK.same g13, by omega, fun H4 s4 => ?_⟩
  have g14 := g13.trans s4
  have hp4 := g14 _ _ hp
  have hg4 := same_read g14 hg
  walk_at "sts"
  refine w_fld hp4 T.cl_Web T.n_Web_turns (wf_turns _ _ _ _ _) ?_
  walk_at "sts"
  refine ⟨wb, t, Tu, rfl, hT2.same g14, hTu.same g14, by omega, fun i hi => hrowT i hi, fun H5 s5 => ?_⟩
  have g15 := g14.trans s5
  have hp5 := g15 _ _ hp
  walk_at "sts"
  refine w_fld hp5 T.cl_Web T.n_Web_rounds (wf_rounds _ _ _ _ _) ?_
  walk_at "sts"
  refine ⟨wc, pd, R, rfl, hR2.same g15, hDue.same (s4.trans s5), by omega, fun i hi => hrowR i hi, fun H6 s6 => ?_⟩
  have g16 := g15.trans s6
  have hp6 := g16 _ _ hp
  walk_at "sts"
  refine w_fld hp6 T.cl_Web T.n_Web_sides (wf_sides _ _ _ _ _) ?_
  walk_at "sts"
  refine ⟨wd, pd, wxs, R, ts.length, rfl, g16.seq hS1, hS2.same g16, hDue.same (s4.trans (s5.trans s6)), hc2.rings.all, fun r hr => ?_, by omega, fun H7 s7 => ?_⟩
  · obtain ⟨x, l, e2, _⟩ := hc2.rings.ok r hr
    rw [e2]; simp
  exact q H7 (g16.trans s7)
end

/-! ### list(reversed(xs)) -/
section
open PySem PySem.Spec PyProof.Rows RT
variable {prog : Program} {w : World} {A : Around} {s : Shared}
theorem list_init_rev {it l S : Addr} {items : Array Value} {R : Result → Shared → Prop} (hh : A.handled = none) (hit : s.heap.IsRevIter it l ((items.size : Int) - 1)) (hl : s.heap.IsList l items) (hne : l ≠ it) (hSi : S ≠ it) (hSl : S ≠ l)
    (hn : items.size ≤ sizeLine) (hS : s.heap.get? S = some { cls := .type "list", data := .seq #[] })
    (hR : ∀ h' tk acc c', (∀ b o, b ≠ S → b ≠ it → s.heap.get? b = some o → h'.get? b = some o) → h'.get? S = some { cls := .type "list", dict := none, data := .seq acc c', slots := #[] } → ItemsOf (fun i v => items[items.size - 1 - i]? = some v) acc items.size →
      R (.ok (.ret .none)) { s with heap := h', toks := tk }) :
    wpAny (model prog w) A.in1 (Builtin.«list.__init__» ⟨[.ref S, .ref it], []⟩)
      (fun fin s' => match fin with | .done f => R (.ok f) s' | .again c' => c'.quiet = true ∧ codeAny (model prog w) A c' R s') (fun e s' => R (.error e) s') s := by
  show wpAny _ _ (do let old ← Builtin.List.listItems (.ref S); Builtin.List.listUpdate (.ref S) (fun _ => #[]); letGo old.toList.reverse; Builtin.List.listExtendWith (.ref S) (.ref it) .none) _ _ s
  refine wpAny_bind ?_
  unfold Builtin.List.listItems
  refine wpAny_bind (wpAny_seqItems hS rfl (wpAny_pure ?_))
  show wpAny _ _ (updateSeq S (fun _ => #[]) >>= fun _ => letGo (#[] : Array Value).toList.reverse >>= fun _ => Builtin.List.listExtendWith (.ref S) (.ref it) .none) _ _ s
  refine wpAny_bind (wpAny_updateSeq hS rfl ?_)
  have hS2 := Heap.get?_update_self (Obj.mapSeq (fun _ => (#[] : Array Value))) hS rfl
  have oth : ∀ b o, b ≠ S → s.heap.get? b = some o → (s.heap.update S (Obj.mapSeq (fun _ => (#[] : Array Value)))).get? b = some o := fun b o hb e => (Heap.get?_update_other _ _ (Ne.symm hb)).trans e
  refine wpAny_bind (wpAny_letGo ?_)
  have hit2 : (s.heap.update S (Obj.mapSeq (fun _ => (#[] : Array Value)))).IsRevIter it l ((items.size : Int) - 1) := hit.at fun o e => oth it o (Ne.symm hSi) e
  have hl2 : (s.heap.update S (Obj.mapSeq (fun _ => (#[] : Array Value)))).IsList l items := by
    obtain ⟨o, e, r⟩ := hl
    exact ⟨o, oth l o (Ne.symm hSl) e, r⟩
  generalize s.heap.update S (Obj.mapSeq (fun _ => (#[] : Array Value))) = h2 at hS2 oth hit2 hl2 ⊢
  have W := (Walks.listRev (prog := prog) (w := w) (A := A.in1) hh it l hne items).toS
  have hSf : S ∉ [it, l] := by simp only [List.mem_cons, List.not_mem_nil, or_false, not_or]; exact ⟨hSi, hSl⟩
  have hT : ({ s with heap := h2 } : Shared).TypeIs (.ref it) "list_reverseiterator" := Heap.IsRevIter.typeIs (s := { s with heap := h2 }) hit2
  have h1 : Builtin.List.listSameRef (.ref S) (.ref it) = false := by simp [Builtin.List.listSameRef, hSi]
  unfold Builtin.List.listExtendWith
  refine wpAny_bind (wpAny_typeOf hT ?_)
  rw [if_neg (by rw [h1]; decide)]
  refine wpAny_bind (wpAny_pyIter_revIter (s := { s with heap := h2 }) hit2 ?_)
  refine wpAny_bind (wpAny_holding ?_)
  unfold Builtin.List.listLengthHint
  refine wpAny_bind (wpAny_specialOf hT nolen_lri ?_)
  show wpAny _ A.in1 (specialOf (Value.ref it) (Str.ofString "__length_hint__") >>= _) _ _ _
  refine wpAny_bind (wpAny_specialOf hT hint_lri ?_)
  generalize hid : ("list_reverseiterator.__length_hint__" : String) = id0
  wp_delta
  rw [show splitId id0 = some ("list_reverseiterator", "__length_hint__") from by subst hid; decide +kernel]
  subst hid
  refine wpAny_bind (wpAny_isInstance (b := true) hT (by rw [isSubtype_type]; kernel_rfl) ?_)
  refine wpAny_pure ?_
  rw [if_neg (by decide)]
  have e0 : ((items.size : Nat) : Int) - 1 - ((0 : Nat) : Int) = (items.size : Int) - 1 := by omega
  refine wpAny_pure ⟨plainId_quiet F.plain_extend_loop _, codeAny_extend_loopS W hn _ hSf _ items.size 0 _ _ _ rfl (Nat.zero_le _) ⟨Nat.zero_le _, by rw [e0]; exact hit2, hl2⟩ hS2 (ItemsOf.nil _) fun s' acc' c' hm hS' hacc => ?_⟩
  rw [Moved.eq_with hm]
  refine hR s'.heap s'.toks acc' c' (fun b o hb hb2 e => ?_) hS' hacc
  refine hm.heap b o (fun hmem => ?_) (oth b o hb e)
  rcases List.mem_cons.mp hmem with e' | hmem
  · exact hb e'
  · exact hb2 (List.mem_singleton.mp hmem)
theorem call_list_rev {it l : Addr} {items : Array Value} {Q : Value → Shared → Prop} {E : Value → Shared → Prop} (hh : A.handled = none) (hit : s.heap.IsRevIter it l ((items.size : Int) - 1)) (hl : s.heap.IsList l items) (hne : l ≠ it) (hn : items.size ≤ sizeLine)
    (hQ : ∀ h' tk acc c', (∀ b o, b ≠ it → s.heap.get? b = some o → h'.get? b = some o) → h'.get? s.heap.objs.size = some { cls := .type "list", dict := none, data := .seq acc c', slots := #[] } → ItemsOf (fun i v => items[items.size - 1 - i]? = some v) acc items.size →
      Q (.ref s.heap.objs.size) { s with heap := h', toks := tk }) : wpAny (model prog w) A (call (.type "list") [.ref it]) Q E s := by
  obtain ⟨oi, hoi, _⟩ := id hit
  obtain ⟨ol, hol, _⟩ := id hl
  have hSi : s.heap.objs.size ≠ it := Nat.ne_of_gt (Heap.lt_size hoi)
  have hSl : s.heap.objs.size ≠ l := Nat.ne_of_gt (Heap.lt_size hol)
  refine callType_codes (Q₁ := fun obj s₁ => obj = .ref s.heap.objs.size ∧ s₁ = { s with heap := s.heap.push { cls := .type "list", data := .seq #[] } }) PySem.F.called_list (PySem.F.typeCall_list_1 _) PySem.F.entry_list_init
    (code_list_new _ ⟨rfl, rfl⟩) fun obj s₁ h₁ => ?_
  obtain ⟨rfl, rfl⟩ := h₁
  have hS : (s.heap.push { cls := .type "list", data := .seq #[] }).get? s.heap.objs.size = some { cls := .type "list", data := .seq #[] } := Heap.get?_push_size _ rfl
  refine ⟨⟨_, hS, rfl⟩, PySem.F.args_list_init_2 _ _, list_init_rev (A := A.in1) (s := { s with heap := s.heap.push { cls := .type "list", data := .seq #[] } }) hh (hit.at fun o e => Heap.get?_push_of_some _ e) (hl.push _) hne hSi hSl hn hS fun h' tk acc c' hk hS' hacc => ?_⟩
  exact ⟨rfl, hQ h' tk acc c' (fun b o hb e => hk b o (Nat.ne_of_lt (Heap.lt_size e)) hb (Heap.get?_push_of_some _ e)) hS' hacc⟩
end
section
open PySem PySem.Spec PyProof.Rows RT
variable {X : Cx}
def tListRev (K : PySem.W.Frag) (te : TE) : TE := fun σ H Q => te σ H fun v H1 => ∃ (a : Addr) (xs : List V), v = .ref a ∧ SqL K H1 a xs ∧ ∀ q, H1 q = none → Q (.ref q) (upd H1 q (.lst xs.reverse))
theorem pe_listRev {e : Expr} {te : TE} {p p2 pos pos2 : Pos} (K : PySem.W.Frag) (hc : X.calm = true) (hg : Gl X "list") (hm : X.mg "list" = none) (hg2 : Gl X "reversed") (hm2 : X.mg "reversed" = none) (he : PE X e te)
    (hK : X.K = K := by rfl)
    (hs : starEach [e] X.env = (false, eval e X.env) :: starEach [] X.env := by rfl)
    (hs2 : starEach [.Call (.Name "reversed" p2) [e] [] pos2] X.env = (false, eval (.Call (.Name "reversed" p2) [e] [] pos2) X.env) :: starEach [] X.env := by rfl) :
    PE X (.Call (.Name "list" p) [.Call (.Name "reversed" p2) [e] [] pos2] [] pos) (tListRev K te) := by
  subst hK
  refine ⟨fun pins s σ H Q I h => ?_⟩
  refine Call_ (ld_blt I hg hm PyProof.Rows.boot_list (PyProof.Rows.callWith_type1 (args_cons (Call_ (ld_blt I hg2 hm2 PyProof.Rows.boot_reversed (PyProof.Rows.callWith_type1 (args_cons (thn (he.run pins s σ H _ I h) fun u s1 ⟨v, H1, I1, r1, q1⟩ => args_nil ?_) hs) hs rfl))) hs2) hs2 rfl))
  obtain ⟨a, xs, ev, hq, q⟩ := q1
  subst ev
  obtain rfl : u = Value.ref a := r1
  obtain ⟨its, rv, p', hz⟩ := I1.list hq
  refine call_reversed_list p'.isList (args_nil ?_)
  have hl := p'.isList
  obtain ⟨ol, hol, _⟩ := id hl
  have hne : a ≠ s1.heap.objs.size := Nat.ne_of_lt (Heap.lt_size hol)
  have hn : its.toArray.size ≤ sizeLine := by rw [List.size_toArray, ← rv.length]; exact hz
  have hsz : (s1.heap.push (revObj a ((its.toArray.size : Int) - 1))).objs.size = s1.heap.objs.size + 1 := size_push' _ _
  refine call_list_rev (s := { s1 with heap := s1.heap.push (revObj a ((its.toArray.size : Int) - 1)) }) (I1.ok.hd hc) ⟨_, Heap.get?_push_size _ rfl, rfl, rfl⟩ (hl.push _) hne hn fun h' tk acc c' hk hS' hi => ?_
  have hS2 : h'.get? (s1.heap.objs.size + 1) = some { cls := .type "list", dict := none, data := .seq acc c', slots := #[] } := by rw [← hsz]; exact hS'
  have keep : ∀ b u, s1.heap.get? b = some u → h'.get? b = some u := fun b u e => hk b u (Nat.ne_of_lt (Heap.lt_size e)) (Heap.get?_push_of_some _ e)
  refine ⟨.ref (s1.heap.objs.size + 1), upd H1 (s1.heap.objs.size + 1) (.lst xs.reverse), I1.laid (t' := tk) keep (Nat.le_succ _) (show ObjOk X.prog X.w _ _ _ (.lst xs.reverse) from ⟨by rw [List.length_reverse]; exact hz, acc.toList, c', vals_rev rv hi, by rw [Array.toArray_toList]; exact hS2⟩), ?_, q _ (I1.hok.fresh (Nat.le_succ _))⟩
  show Value.ref _ = Value.ref _
  exact congrArg Value.ref hsz
theorem w_lrev {K : PySem.W.Frag} {te : TE} {σ : L2.St} {H : Hp} {Q : VK} (h : te σ H fun v H1 => ∃ (a : Addr) (xs : List V), v = .ref a ∧ SqL K H1 a xs ∧ ∀ q, H1 q = none → Q (.ref q) (upd H1 q (.lst xs.reverse))) : tListRev K te σ H Q := h
end

section
variable {P : Program} {w : World} {K : PySem.W.Frag} {mg : Str → Option Value} {base : Heap} {C_Pull C_Push C_Web : Addr}
def spLaw (K : PySem.W.Frag) : Sp := fun vs H Q _ => ∃ (a : Addr) (ns : List Int), vs = [.ref a] ∧ LsE K H a (ns.map V.int) ∧ ns.length ≤ 63 ∧ (∀ z ∈ ns, Builtin.Int.intBits z ≤ 1048576) ∧ ∀ H', Q (.bl true) H'
end
theorem modN (z : Int) {n : Nat} (h : 0 < n) : ∃ k : Nat, z % (n : Int) = (k : Int) ∧ k < n := by
  have h1 := Int.emod_nonneg z (show (n : Int) ≠ 0 by omega)
  have h2 := Int.emod_lt_of_pos z (show (0 : Int) < n by omega)
  exact ⟨(z % (n : Int)).toNat, by omega, by omega⟩

theorem Built.mono {ts : List Ti} {T : Turns} {m n : Nat} (h : Built ts T m) (e : m ≤ n) : Built ts T n := ⟨h.flat, Nat.le_trans h.le e, h.pos, h.tl, h.tp, h.s⟩

open TL
section
variable {P : Program} {w : World} {K : PySem.W.Frag} {mg : Str → Option Value} {base : Heap} {C_Pull C_Push C_Web : Addr}
/-- the heap without some objects -/
def woL (H : Hp) (Z : List Addr) : Hp := fun q => if q ∈ Z then none else H q
theorem woL_same {H : Hp} {Z : List Addr} : Same (woL H Z) H := fun q o e => by
  unfold woL at e
  split at e
  · cases e
  · exact e
theorem woL_new {H : Hp} {Z : List Addr} {q : Addr} (h : q ∈ Z) : New (woL H Z) q := if_pos h
theorem woL_at {H : Hp} {Z : List Addr} {q : Addr} (h : q ∉ Z) : woL H Z q = H q := if_neg h
theorem woL_sub {G H : Hp} {Z : List Addr} (s : Same G H) (n : ∀ q ∈ Z, New G q) : Same G (woL H Z) := fun q o e => by
  rw [woL_at (fun z => by rw [show G q = none from n q z] at e; cases e)]
  exact s q o e
theorem mutL {W H : Hp} {q : Addr} {o : HO} (s : Same W H) (n : New W q) : Same W (upd H q o) := s.mut n
theorem ok_law {f : Addr} {fd : FuncData} (F : Fun K "law" "law" s_law f fd) (B : Bl mg) {C_Pull C_Push C_Web : Addr} (T : Txt K mg C_Pull C_Push C_Web) (h_law_renumbered : Has P w K mg base CX0 2 "_law_renumbered" ["grown", "cell"] (spRenumB K)) (h_law_kinds : Has P w K mg base CX0 1 "_law_kinds" ["script", "many"] (spKinds9 K)) (h_law_ties : Has P w K mg base CX0 3 "_law_ties" ["ends", "kinds"] (spTies9 K C_Pull C_Push)) (h_law_grown : Has P w K mg base CX0 3 "_law_grown" ["cells", "places"] (spGrownB K)) (h_law_cell : Has P w K mg base CX0 1 "_law_cell" ["script", "k"] (spCell K)) (h_law_fields : Has P w K mg base CX0 3 "_law_fields" ["web", "grown", "kinds"] (spFields9 K C_Pull C_Push C_Web)) (h_mk_Web : HasMk P w K mg base CX0 5 "Web" C_Web ["self", "many", "ties", "turns"] (spWebW K C_Pull C_Push C_Web)) : FnOk P w K mg base CX0 7 f fd ["script"] (spLaw K) := by
  refine F.ok sc_law (by walk_at "len") (fun cdv A outer s H vs Q E hr h => ?_)
  obtain ⟨a, ns, rfl, hS, hlen, hbits, q⟩ := h
  have hS0 := hS.sq
  have hcut : cutV (ns.map V.int) (some 1) (some 80) = ((ns.drop 1).take 79).map V.int := by
    rw [List.map_take, List.map_drop]
    exact cutV_nat _ 1 80
  have hcl : ((ns.drop 1).take 79).length ≤ 79 := by rw [List.length_take]; omega
  refine ⟨_, (pss_cons (ps_set (i := 1) sc_law.nd rfl (.inl rfl) (pe_slice (sl_listK K) (pv 0) (po_some pe_int) (po_some pe_int)))
 (pss_cons (ps_set (i := 2) sc_law.nd rfl (.inl rfl) (pe_fn h_law_renumbered (hr.mono (by decide)) (by rfl) (pa_cons (pe_fn h_law_grown (hr.mono (by decide)) (by rfl) (pa_cons (pv 1) (pa_cons pe_int pa_nil))) (pa_cons (pe_fn h_law_cell (hr.mono (by decide)) (by rfl) (pa_cons (pv 0) (pa_cons pe_int pa_nil))) pa_nil))))
 (pss_cons (ps_set (i := 3) sc_law.nd rfl (.inl rfl) (pe_fn h_law_kinds (hr.mono (by decide)) (by rfl) (pa_cons (pv 0) (pa_cons (pe_callB (call_lenK K) (by rfl) B.len (by decide +kernel) (pa_cons (pe_ix (ix_tupK K) (pv 2) pe_int (fun _ _ => rfl)) pa_nil)) pa_nil))))
 (pss_cons (ps_set (i := 4) sc_law.nd rfl (.inl rfl) (pe_fn h_law_ties (hr.mono (by decide)) (by rfl) (pa_cons (pe_ix (ix_tupK K) (pv 2) pe_int (fun _ _ => rfl)) (pa_cons (pv 3) pa_nil))))
 (pss_cons (ps_setLc (i := 5) (own := [("row", 11)]) rfl sc_law.nd rfl rfl (sw_true rfl rfl rfl (by decide +kernel)) (pi_listK K (pe_ix (ix_tupK K) (pv 2) pe_int (fun _ _ => rfl))) (blkOk_by (own := [("row", 11)]) (N := ["script", "cells", "grown", "kinds", "ties", "turns", "web", "k", "other", "others", "second", "row"]) (sc := defScope s_law) (by decide +kernel)) (fun _ _ _ _ _ => pg_name (i := 11) sc_law.nd rfl (Or.inl rfl)) (fun _ _ _ _ _ => pts_nil) (fun _ _ _ _ _ => (pe_callTy (call_listK K) (by rfl) B.list (by decide +kernel) (pa_cons (pv 11) pa_nil))))
 (pss_cons (ps_set (i := 6) sc_law.nd rfl (.inl rfl) (pe_mk h_mk_Web (hr.mono (by decide)) (by rfl) (pa_cons (pe_callB (call_lenK K) (by rfl) B.len (by decide +kernel) (pa_cons (pe_ix (ix_tupK K) (pv 2) pe_int (fun _ _ => rfl)) pa_nil)) (pa_cons (pv 4) (pa_cons (pv 5) pa_nil)))))
 (pss_cons (ps_if (PW.pt (pw_or (pt_cmpR (op_neDK K hr.units) (pv 5) (pe_ix (ix_tupK K) (pv 2) pe_int (fun _ _ => rfl)) (nomark _)) (pw_or (pt_cmpR op_ne (pe_callB (call_lenK K) (by rfl) B.len (by decide +kernel) (pa_cons (pv 4) pa_nil)) (pe_callB (call_lenK K) (by rfl) B.len (by decide +kernel) (pa_cons (pe_ix (ix_tupK K) (pv 2) pe_int (fun _ _ => rfl)) pa_nil)) (nomark _)) (pw_or1 (pt_not (pt_val (pe_fn h_law_fields (hr.mono (by decide)) (by rfl) (pa_cons (pv 6) (pa_cons (pv 2) (pa_cons (pv 3) pa_nil)))))))))) (pss_one (ps_ret pe_bl)) pss_nil)
 (pss_cons (ps_for PassesOwn.never rfl (pi_range1 (by rfl) B.range (pa_cons (pe_callB (call_lenK K) (by rfl) B.len (by decide +kernel) (pa_cons (pv 5) pa_nil)) pa_nil)) (pg_name (i := 7) sc_law.nd rfl (.inl rfl)) (pss_one (ps_expr (pe_bmK K (pe_bm PySem.F.plainAttrs_list PySem.F.slot_list_insert PySem.F.type_list_insert mt_insert (pe_ix (ix_listK K) (pv 5) (pv 7) (fun _ _ => rfl)) (pa_cons pe_int (pa_cons (pv 7) pa_nil)))))))
 (pss_cons (ps_expr (pe_bm0K K (pe_bm0 PySem.F.plainAttrs_list PySem.F.slot_list_pop PySem.F.type_list_pop mt_pop (pv 5))))
 (pss_cons (ps_expr (pe_bm0K K (pe_bm0 PySem.F.plainAttrs_list PySem.F.slot_list_clear PySem.F.type_list_clear mt_clear (pv 4))))
 (pss_cons (ps_set (i := 8) sc_law.nd rfl (.inl rfl) (pe_fn h_law_renumbered (hr.mono (by decide)) (by rfl) (pa_cons (pe_fn h_law_grown (hr.mono (by decide)) (by rfl) (pa_cons (pe_listRev K rfl (by rfl) B.list (by rfl) B.reversed (pv 1)) (pa_cons pe_int pa_nil))) (pa_cons (pe_fn h_law_cell (hr.mono (by decide)) (by rfl) (pa_cons (pv 0) (pa_cons pe_int pa_nil))) pa_nil))))
 (pss_cons (ps_set (i := 9) sc_law.nd rfl (.inl rfl) (pe_fn h_law_kinds (hr.mono (by decide)) (by rfl) (pa_cons (pe_slice (sl_listK K) (pv 0) (po_some pe_int) po_none) (pa_cons (pe_callB (call_lenK K) (by rfl) B.len (by decide +kernel) (pa_cons (pe_ix (ix_tupK K) (pv 8) pe_int (fun _ _ => rfl)) pa_nil)) pa_nil))))
 (pss_cons (ps_set (i := 10) sc_law.nd rfl (.inl rfl) (pe_mk h_mk_Web (hr.mono (by decide)) (by rfl) (pa_cons (pe_callB (call_lenK K) (by rfl) B.len (by decide +kernel) (pa_cons (pe_ix (ix_tupK K) (pv 8) pe_int (fun _ _ => rfl)) pa_nil)) (pa_cons (pe_fn h_law_ties (hr.mono (by decide)) (by rfl) (pa_cons (pe_ix (ix_tupK K) (pv 8) pe_int (fun _ _ => rfl)) (pa_cons (pv 9) pa_nil))) (pa_cons (pe_lc (own := [("row", 11)]) rfl sc_law.nd (pi_listK K (pe_ix (ix_tupK K) (pv 8) pe_int (fun _ _ => rfl))) (blkOk_by (own := [("row", 11)]) (N := ["script", "cells", "grown", "kinds", "ties", "turns", "web", "k", "other", "others", "second", "row"]) (sc := defScope s_law) (by decide +kernel)) (fun _ _ _ _ _ => pg_name (i := 11) sc_law.nd rfl (Or.inl rfl)) (fun _ _ _ _ _ => pts_nil) (fun _ _ _ _ _ => (pe_callTy (call_listK K) (by rfl) B.list (by decide +kernel) (pa_cons (pv 11) pa_nil)))) pa_nil)))))
 (pss_one (ps_ret (pe_and (pe_fn h_law_fields (hr.mono (by decide)) (by rfl) (pa_cons (pv 10) (pa_cons (pv 8) (pa_cons (pv 9) pa_nil)))) (pe_one (pe_fn h_law_fields (hr.mono (by decide)) (by rfl) (pa_cons (pv 6) (pa_cons (pv 2) (pa_cons (pv 3) pa_nil))))))))))))))))))))), ?_⟩
  walk_at "sts"
  refine w_new fun pc nc => ?_
  rw [hcut]
  have s0 := same_upd (o := .lst (((ns.drop 1).take 79).map V.int)) nc
  have lc : upd H pc (.lst (((ns.drop 1).take 79).map V.int)) pc = some (.lst (((ns.drop 1).take 79).map V.int)) := upd_same
  generalize upd H pc (.lst (((ns.drop 1).take 79).map V.int)) = H0 at s0 lc ⊢
  walk_at "sts"
  refine ⟨pc, _, 40, rfl, SqL.of lc, by omega, by decide, by decide, fun p1 H1 E1 T1 R1 s1 n1 hg1 hG1 z1 z2 z3 z4 => ?_⟩
  have hS1 := (s0.trans s1).seq hS0
  have lc1 := s1 _ _ lc
  walk_at "sts"
  refine ⟨a, ns, 0, rfl, hS1, ?_⟩
  walk_at "sts"
  refine ⟨p1, _, E1, T1, R1, rfl, hg1, hG1, by omega, by omega, z3, fun p2 H2 E2 T2 R2 s2 n2 hg2 hG2 w1 w2 => ?_⟩
  have hS2 := s2.seq hS1
  have lc2 := s2 _ _ lc1
  obtain ⟨e, t, r, hA, hE, hT, hR⟩ := id hg2
  obtain ⟨es, he, hEs⟩ := dpLstA hE
  have hel : es.length = E2.length := by have := dpaLen hEs; simpa using this
  walk_at "sts"
  rw [hel]
  refine ⟨a, ns, E2.length, rfl, hS2, hbits, by omega, fun pk H3 ks s3 n3 hk3 hkl hks => ?_⟩
  have hF : Flat (endsOf (tiOf E2 ks)) T2 := by rw [tiOf_ends]; exact hG2.flat
  have htl : (tiOf E2 ks).length = E2.length := tiOf_len _ _
  have hkx : (tiOf E2 ks).map kx = ks := tiOf_kx hkl
  have hends : endsOf (tiOf E2 ks) = E2 := tiOf_ends
  rw [← hends] at hE hg2 hG2
  rw [← hkx] at hk3
  generalize tiOf E2 ks = ts at hF htl hkx hends hE hg2 hG2 hk3
  have ok := hF.ok
  have hrl : ∀ p, (row T2 p).length ≤ 100 := fun p => by
    by_cases hp : p < T2.length
    · have := nodup_sub_len (ys := List.range E2.length) (ok.nd p hp) fun z hz => List.mem_range.mpr (by have := ((ok.mem p hp z).mp hz).1; rwa [endsOf_len, htl] at this)
      rw [List.length_range] at this
      omega
    · unfold row
      rw [List.getD_eq_getElem?_getD, List.getElem?_eq_none (by omega)]
      exact Nat.zero_le _
  have hg3 := hg2.same s3
  have hS3 := s3.seq hS2
  have lc3 := s3 _ _ lc2
  obtain ⟨us, hu, hTs⟩ := dpLstA hT
  have hul : us.length = T2.length := by have := dpaLen hTs; simpa using this
  have hA3 := same_read s3 hA
  walk_at "sts"
  refine ⟨e, pk, ts, rfl, hE.same s3, hk3, fun i hi => ?_, by omega, fun pT H4 ps s4 n4 l4 t4 => ?_⟩
  · have := (ok.ends i (by rw [endsOf_len]; exact hi)).1
    rw [en_ti hi] at this
    exact this
  have hpsl : ps.length = ts.length := t4.1
  have hA4 := same_read s4 hA3
  have hu4 := (s3.trans s4).seq hu
  have hT4 := (hT.same (s3.trans s4))
  walk_at "sts"
  intro D nD
  refine lc_list (K := K) (xs := us) (fun i H' => ∃ qs, LL H' D qs (T2.take i) ∧ Same H4 H' ∧ ∀ q ∈ qs, New H4 q) ?_ ?_ ?_ ?_
  · exact ⟨[], ⟨upd_same, rfl, List.nodup_nil, fun i q h => by simp at h, by simp⟩, same_upd nD, fun q h => by simp at h⟩
  · rintro i H' _ ⟨_, _, s5, _⟩
    exact s5.seq hu4
  · rintro i x H' hx ⟨qs, hL, s5, hN⟩
    have hi : i < T2.length := by rw [← hul]; exact (List.getElem?_eq_some_iff.mp hx).1
    obtain ⟨q1, e1, e2⟩ := dpRowsAt hTs hi
    rw [hx] at e1
    cases e1
    have e3 := (s3.trans (s4.trans s5)).seq e2
    have hql : qs.length = i := by rw [hL.len, List.length_take]; omega
    walk_at "sts"
    refine w_new fun t nt => ?_
    have s6 := same_upd (o := .lst (iv (row T2 i))) nt
    have nq1 : t ∉ qs := fun z => by
      obtain ⟨j, hj, e⟩ := List.mem_iff_getElem.mp z
      have := hL.row j t (by rw [List.getElem?_eq_getElem hj, e])
      exact ne_new this nt rfl
    have nq2 : t ≠ D := Ne.symm (ne_new hL.top nt)
    refine ⟨qs.map V.ref, by rw [upd_ne (Ne.symm nq2)]; exact hL.top, szlt (by rw [List.length_map]; omega), qs ++ [t], ?_, (s5.trans s6).mut nD, ?_⟩
    · have := (hL.same s6).push (r := row T2 i) (q := t) upd_same nq1 nq2
      rw [List.map_append] at this
      have et : T2.take (i + 1) = T2.take i ++ [row T2 i] := by
        rw [List.take_add_one, List.getElem?_eq_getElem hi]
        unfold row
        rw [List.getD_eq_getElem?_getD, List.getElem?_eq_getElem hi]
        rfl
      rw [et]
      exact this
    · intro z hz
      rcases List.mem_append.mp hz with hz | hz
      · exact hN z hz
      · rw [List.mem_singleton.mp hz]; exact nt.of s5
  rintro H5 ⟨qs, hL5, s5, hN5⟩
  rw [hul, List.take_length] at hL5
  have hA5 := same_read s5 hA4
  have hu5 := s5.seq hu4
  have l5 := s5 _ _ l4
  have t5 := t4.same s5
  walk_at "sts"
  rw [hul]
  intro x dx nx nd hxd
  have sm : Same H5 (upd (upd H5 dx (.own x)) x (.ins C_Web dx [])) := made_same nx nd hxd
  have sw : Same H5 (wo (upd (upd H5 dx (.own x)) x (.ins C_Web dx [])) x) := same_wo sm nx
  refine ⟨x, dx, pT, D, ps, ts, T2, rfl, upd_same, SqL.of (sw _ _ l5), t5.same sw, (hL5.same sw).dp, hF, by omega, by omega, by omega, fun H6 R s6 wok hat => ?_⟩
  refine ⟨rfl, ?_⟩
  have s56 := sw.trans s6
  have hW6 := hat H6 (Same.refl _) (fun _ _ => rfl) ((t5.same sw).same s6)
  have hL6 := hL5.same s56
  have l6 := s56 _ _ l5
  have nxH : New H5 x := nx
  obtain ⟨Z, hZ⟩ : ∃ Z, Z = pT :: D :: qs := ⟨_, rfl⟩
  have hZt : ∀ z ∈ Z, ∃ o, H5 z = some (.lst o) := fun z hz => by
    rw [hZ] at hz
    rcases List.mem_cons.mp hz with e | hz
    · rw [e]; exact ⟨_, l5⟩
    rcases List.mem_cons.mp hz with e | hz
    · rw [e]; exact ⟨_, hL5.top⟩
    · obtain ⟨j, hj, e⟩ := List.mem_iff_getElem.mp hz
      have := hL5.row j z (by rw [List.getElem?_eq_getElem hj, e])
      exact ⟨_, this⟩
  have hWZ : WebAt K C_Pull C_Push C_Web (woL H6 Z) x ⟨ts, T2, R⟩ := by
    refine hat (woL H6 Z) woL_same (fun q hq => ?_) ⟨hpsl, fun i q t e1 e2 => ?_⟩
    · refine woL_at fun z => ?_
      obtain ⟨o, ho⟩ := hZt q z
      have := sw _ _ ho
      rw [hq] at this
      cases this
    · obtain ⟨dxt, h1⟩ := t5.2 i q t e1 e2
      refine ⟨dxt, ?_⟩
      rw [woL_at fun z => ?_]
      · exact s56 _ _ h1
      · obtain ⟨o, ho⟩ := hZt q z
        rw [h1] at ho
        cases ho
  have nZ3 : ∀ z ∈ Z, New H3 z := fun z hz => by
    rw [hZ] at hz
    rcases List.mem_cons.mp hz with e | hz
    · rw [e]; exact n4
    rcases List.mem_cons.mp hz with e | hz
    · rw [e]; exact (show New H4 D from nD).of s4
    · exact (hN5 z hz).of s4
  have s36 : Same H3 H6 := s4.trans (s5.trans s56)
  have s3W : Same H3 (woL H6 Z) := woL_sub s36 nZ3
  have hgW := hg3.same s3W
  have hkW := hk3.same s3W
  have hSW := s3W.seq hS3
  have lcW := s3W _ _ lc3
  have hA6 := same_read s56 hA5
  have hgood : Good 2 (dRows T2) := goodLst (goodMap fun r => goodRow r)
  walk_at "sts"
  refine w_neD hL6.dp (hT4.same (s5.trans s56)) hgood (by decide) ?_
  have l6s := SqL.of (K := K) l6
  have he6 := s36.seq (s3.seq he)
  walk_at "sts"
  rw [List.length_map, hel]
  refine ifnd (fun h => absurd (by rw [hpsl, htl]) h) (fun _ => ?_)
  walk_at "sts"
  refine ⟨x, p2, pk, ts, T2, R, R2, rfl, hW6, wok, hg3.same s36, hG2, hk3.same s36, by omega, by omega, fun H7 s7 => ?_⟩
  walk_at "sts"
  have sW7 : Same (woL H6 Z) H7 := woL_same.trans s7
  have hL7 := hL6.same s7
  have nD7 : New (woL H6 Z) D := woL_new (by rw [hZ]; simp)
  have nq7 : ∀ q ∈ qs, New (woL H6 Z) q := fun q hq => woL_new (by rw [hZ]; simp [hq])
  refine w_len (SqL.of hL7.top) ?_
  walk_at "sts"
  rw [List.length_map, hL7.len]
  refine ⟨by omega, by omega, ?_⟩
  have l7 := s7 _ _ l6
  have npD : pT ≠ D := ne_new l4 nD
  have npq : ∀ q ∈ qs, pT ≠ q := fun q hq => ne_new l4 (hN5 q hq)
  have nT7 : New (woL H6 Z) pT := woL_new (by rw [hZ]; simp)
  refine for_r0 (n := T2.length) rfl (fun i σ H' => ∃ (T' : List (List Nat)) (y7 y8 y9 y10 y11 : Option V), σ = [some (.ref a), some (.ref pc), some (.ref p2), some (.ref pk), some (.ref pT), some (.ref D), some (.ref x), y7, y8, y9, y10, y11] ∧ LL H' D qs T' ∧ T'.length = T2.length ∧ (∀ p, i ≤ p → row T' p = row T2 p) ∧ H' pT = some (.lst (ps.map V.ref)) ∧ Same (woL H6 Z) H') ?_ ?_ ?_
  · exact ⟨T2, _, _, _, _, _, rfl, hL7, rfl, fun p _ => rfl, l7, sW7⟩
  · rintro i σ H' hi ⟨T', y7, y8, y9, y10, y11, rfl, hL', hl', hr', lT', s'⟩
    obtain ⟨q1, e1, e2, e3⟩ := hL'.get (i := i) (by omega)
    have hsz : (iv (row T' i)).length < sizeLine := szlt (by have := hrl i; rw [iv_len, hr' i (Nat.le_refl _)]; omega)
    walk_at "sts"
    refine w_ixL (SqL.of hL'.top) (atI_nat e2) ?_
    walk_at "sts"
    have ep : List.take (Int.toNat 0) (iv (row T' i)) ++ [V.int (i : Int)] ++ List.drop (Int.toNat 0) (iv (row T' i)) = iv (putAt (row T' i) 0 i) := iv_put _ _ _
    rw [ep]
    have hm1 : q1 ∈ qs := List.mem_of_getElem? e1
    refine ⟨_, _, _, _, _, _, rfl, hL'.set (by omega) e1 _, by rw [List.length_set]; exact hl', fun p hp => ?_, ?_, s'.mut (nq7 _ hm1)⟩
    · rw [row_set T' _ (by omega), if_neg (by omega)]
      exact hr' p (by omega)
    · rw [upd_ne (npq _ hm1)]; exact lT'
  · rintro σ H8 ⟨T', y7, y8, y9, y10, y11, rfl, hL8, hl8, hr8, lT8, s8⟩
    have hql : qs.length = T2.length := by rw [hL8.len, hl8]
    have hlast : (qs.map V.ref)[(qs.map V.ref).length - 1]? = some (V.ref qs[qs.length - 1]) := by
      rw [List.length_map, List.getElem?_map, List.getElem?_eq_getElem (by omega)]
      rfl
    walk_at "sts"
    refine ⟨.inl ⟨rfl, _, SqL.of hL8.top⟩, D, _, _, rfl, rfl, hL8.top, hlast, ?_⟩
    have s9 := s8.mut (o := .lst (qs.map V.ref).dropLast) nD7
    have l9 : upd H8 D (.lst (qs.map V.ref).dropLast) pT = some (.lst (ps.map V.ref)) := by rw [upd_ne npD]; exact lT8
    generalize upd H8 D (.lst (qs.map V.ref).dropLast) = H9 at s9 l9 ⊢
    clear hL8
    walk_at "sts"
    refine ⟨pT, _, rfl, rfl, l9, ?_⟩
    have sX := s9.mut (o := .lst []) nT7
    generalize upd H9 pT (.lst []) = HX at sX ⊢
    clear l9 s9
    walk_at "sts"
    refine w_lrev ?_
    walk_at "sts"
    refine ⟨pc, _, rfl, SqL.of (sX _ _ lcW), fun pr nr => ?_⟩
    rw [← List.map_reverse]
    have sr := same_upd (o := .lst (((ns.drop 1).take 79).reverse.map V.int)) nr
    have lr : upd HX pr (.lst (((ns.drop 1).take 79).reverse.map V.int)) pr = some (.lst (((ns.drop 1).take 79).reverse.map V.int)) := upd_same
    generalize upd HX pr (.lst (((ns.drop 1).take 79).reverse.map V.int)) = HY at sr lr ⊢
    have srl : ((ns.drop 1).take 79).reverse.length ≤ 79 := by rw [List.length_reverse]; omega
    walk_at "sts"
    refine ⟨pr, _, 40, rfl, SqL.of lr, by omega, by decide, by decide, fun b1 Ha E3 T3 R3 sa na hga hGa v1 v2 v3 v4 => ?_⟩
    have sWa := sX.trans (sr.trans sa)
    have hSa := sWa.seq hSW
    walk_at "sts"
    refine ⟨a, ns, 1, rfl, hSa, ?_⟩
    walk_at "sts"
    refine ⟨b1, _, E3, T3, R3, rfl, hga, hGa, by omega, by omega, v3, fun b2 Hb E4 T4 R4 sb nb hgb hGb u1 u2 => ?_⟩
    have sWb := sWa.trans sb
    have hSb := sWb.seq hSW
    obtain ⟨eb, tb, rb, hAb, hEb, hTb, hRb⟩ := id hgb
    obtain ⟨es2, he2, hEs2⟩ := dpLstA hEb
    have hel2 : es2.length = E4.length := by have := dpaLen hEs2; simpa using this
    walk_at "sts"
    refine w_new fun pn nn => ?_
    rw [show cutV (ns.map V.int) (some 1) none = (ns.drop 1).map V.int from (cutV_from _ 1).trans List.map_drop.symm]
    have sn := same_upd (o := .lst ((ns.drop 1).map V.int)) nn
    have ln : upd Hb pn (.lst ((ns.drop 1).map V.int)) pn = some (.lst ((ns.drop 1).map V.int)) := upd_same
    generalize upd Hb pn (.lst ((ns.drop 1).map V.int)) = Hn at sn ln ⊢
    have hAn := same_read sn hAb
    have hen := sn.seq he2
    walk_at "sts"
    rw [hel2]
    refine ⟨pn, ns.drop 1, E4.length, rfl, SqL.of ln, fun z hz => hbits z (List.mem_of_mem_drop hz), by omega, fun pk2 Hk ks2 sk nk hkk hkl2 hks2 => ?_⟩
    have hF2 : Flat (endsOf (tiOf E4 ks2)) T4 := by rw [tiOf_ends]; exact hGb.flat
    have htl2 : (tiOf E4 ks2).length = E4.length := tiOf_len _ _
    have hkx2 : (tiOf E4 ks2).map kx = ks2 := tiOf_kx hkl2
    have hends2 : endsOf (tiOf E4 ks2) = E4 := tiOf_ends
    rw [← hends2] at hEb hgb hGb
    rw [← hkx2] at hkk
    generalize tiOf E4 ks2 = ts2 at hF2 htl2 hkx2 hends2 hEb hgb hGb hkk
    have ok2 := hF2.ok
    have hrl2 : ∀ p, (row T4 p).length ≤ 100 := fun p => by
      by_cases hp : p < T4.length
      · have := nodup_sub_len (ys := List.range E4.length) (ok2.nd p hp) fun z hz => List.mem_range.mpr (by have := ((ok2.mem p hp z).mp hz).1; rwa [endsOf_len, htl2] at this)
        rw [List.length_range] at this
        omega
      · unfold row
        rw [List.getD_eq_getElem?_getD, List.getElem?_eq_none (by omega)]
        exact Nat.zero_le _
    have snk := sn.trans sk
    have hgk := hgb.same snk
    obtain ⟨us2, hu2, hTs2⟩ := dpLstA hTb
    have hul2 : us2.length = T4.length := by have := dpaLen hTs2; simpa using this
    have hAk := same_read snk hAb
    have huk := snk.seq hu2
    have hWk := sWb.trans snk
    walk_at "sts"
    rw [hul2]
    refine ⟨eb, pk2, ts2, rfl, hEb.same snk, hkk, fun i hi => ?_, by omega, fun pT2 Hm ps2 sm nm lm tm => ?_⟩
    · have := (ok2.ends i (by rw [endsOf_len]; exact hi)).1
      rw [en_ti hi] at this
      exact this
    have hpsl2 : ps2.length = ts2.length := tm.1
    have hAm := same_read sm hAk
    have hum := sm.seq huk
    have snm := snk.trans sm
    have hTm := hTb.same snm
    have hWm := hWk.trans sm
    walk_at "sts"
    intro D2 nD2
    refine lc_list (K := K) (xs := us2) (fun i H' => ∃ qs, LL H' D2 qs (T4.take i) ∧ Same Hm H') ?_ ?_ ?_ ?_
    · exact ⟨[], ⟨upd_same, rfl, List.nodup_nil, fun i q h => by simp at h, by simp⟩, same_upd nD2⟩
    · rintro i H' _ ⟨_, _, s5'⟩
      exact s5'.seq hum
    · rintro i x2 H' hx ⟨qs2, hL, s5'⟩
      have hi : i < T4.length := by rw [← hul2]; exact (List.getElem?_eq_some_iff.mp hx).1
      obtain ⟨q1, e1, e2⟩ := dpRowsAt hTs2 hi
      rw [hx] at e1
      cases e1
      have e3 := (snm.trans s5').seq e2
      have hql : qs2.length = i := by rw [hL.len, List.length_take]; omega
      walk_at "sts"
      refine w_new fun t nt => ?_
      have s6' := same_upd (o := .lst (iv (row T4 i))) nt
      have nq1 : t ∉ qs2 := fun z => by
        obtain ⟨j, hj, e⟩ := List.mem_iff_getElem.mp z
        have := hL.row j t (by rw [List.getElem?_eq_getElem hj, e])
        exact ne_new this nt rfl
      have nq2 : t ≠ D2 := Ne.symm (ne_new hL.top nt)
      refine ⟨qs2.map V.ref, by rw [upd_ne (Ne.symm nq2)]; exact hL.top, szlt (by rw [List.length_map]; omega), qs2 ++ [t], ?_, (s5'.trans s6').mut nD2⟩
      have := (hL.same s6').push (r := row T4 i) (q := t) upd_same nq1 nq2
      rw [List.map_append] at this
      have et : T4.take (i + 1) = T4.take i ++ [row T4 i] := by
        rw [List.take_add_one, List.getElem?_eq_getElem hi]
        unfold row
        rw [List.getD_eq_getElem?_getD, List.getElem?_eq_getElem hi]
        rfl
      rw [et]
      exact this
    rintro Hr ⟨qs2, hLr, sr5⟩
    rw [hul2, List.take_length] at hLr
    have lr5 := sr5 _ _ lm
    have tr5 := tm.same sr5
    have hWr := hWm.trans sr5
    walk_at "sts"
    intro x2 dx2 nx2 nd2 hxd2
    have sm2 : Same Hr (upd (upd Hr dx2 (.own x2)) x2 (.ins C_Web dx2 [])) := made_same nx2 nd2 hxd2
    have sw2 : Same Hr (wo (upd (upd Hr dx2 (.own x2)) x2 (.ins C_Web dx2 [])) x2) := same_wo sm2 nx2
    refine ⟨x2, dx2, pT2, D2, ps2, ts2, T4, rfl, upd_same, SqL.of (sw2 _ _ lr5), tr5.same sw2, (hLr.same sw2).dp, hF2, by omega, by omega, by omega, fun Hs R4' ss wok2 hat2 => ?_⟩
    refine ⟨rfl, ?_⟩
    have srs := sw2.trans ss
    have hWs := hat2 Hs (Same.refl _) (fun _ _ => rfl) ((tr5.same sw2).same ss)
    have sbs : Same Hb Hs := snm.trans (sr5.trans srs)
    have hWz := hWr.trans srs
    walk_at "sts"
    refine ⟨x2, b2, pk2, ts2, T4, R4', R4, rfl, hWs, wok2, hgb.same sbs, hGb, hkk.same (sm.trans (sr5.trans srs)), by omega, by omega, fun Ht st => ?_⟩
    have hWt := hWz.trans st
    walk_at "sts"
    refine ⟨x, p2, pk, ts, T2, R, R2, rfl, hWZ.same hWt, wok, hgW.same hWt, hG2, hkW.same hWt, by omega, by omega, fun Hu su => ?_⟩
    exact q _
end

theorem all_mk {l : PySem.W.OpenLaw} {w : World} {K : PySem.W.Frag} {h : Heap} {mg : Str → Option Value} {fa f0 f1 f2 f3 f4 f5 f6 f7 f8 f9 f10 f11 f12 f13 f14 f15 f16 f17 f18 f19 f20 f21 f22 f23 f24 f25 C_Pull C_Push C_Web : Addr} (X : K.In h) (G : h.Ns mainGlobals mg) (hfa : mg "law" = some (.ref fa))
    {od0 an0 od1 an1 od2 an2 od3 an3 od4 an4 od5 an5 od6 an6 od7 an7 od8 an8 od9 an9 od10 an10 od11 an11 od12 an12 od13 an13 od14 an14 od15 an15 od16 an16 od17 an17 od18 an18 od19 an19 od20 an20 od21 an21 od22 an22 od23 an23 od24 an24 od25 an25 : Option Addr} {sl0 sl1 sl2 sl3 sl4 sl5 sl6 sl7 sl8 sl9 sl10 sl11 sl12 sl13 sl14 sl15 sl16 sl17 sl18 sl19 sl20 sl21 sl22 sl23 sl24 sl25 : Array (Option Value)} {oc0 kV0 dc0 pm0 ct0 cd0 oc1 kV1 dc1 pm1 ct1 cd1 oc2 kV2 dc2 pm2 ct2 cd2 oc3 kV3 dc3 pm3 ct3 cd3 oc4 kV4 dc4 pm4 ct4 cd4 oc5 kV5 dc5 pm5 ct5 cd5 oc6 kV6 dc6 pm6 ct6 cd6 oc7 kV7 dc7 pm7 ct7 cd7 oc8 kV8 dc8 pm8 ct8 cd8 oc9 kV9 dc9 pm9 ct9 cd9 oc10 kV10 dc10 pm10 ct10 cd10 oc11 kV11 dc11 pm11 ct11 cd11 oc12 kV12 dc12 pm12 ct12 cd12 oc13 kV13 dc13 pm13 ct13 cd13 oc14 kV14 dc14 pm14 ct14 cd14 oc15 kV15 dc15 pm15 ct15 cd15 oc16 kV16 dc16 pm16 ct16 cd16 oc17 kV17 dc17 pm17 ct17 cd17 oc18 kV18 dc18 pm18 ct18 cd18 oc19 kV19 dc19 pm19 ct19 cd19 oc20 kV20 dc20 pm20 ct20 cd20 oc21 kV21 dc21 pm21 ct21 cd21 oc22 kV22 dc22 pm22 ct22 cd22 oc23 kV23 dc23 pm23 ct23 cd23 oc24 kV24 dc24 pm24 ct24 cd24 oc25 kV25 dc25 pm25 ct25 cd25 : Value}
    (g_Pull : PySem.W.nsIn K mainGlobals "Pull" = some (some (.ref C_Pull)))
    (g_Push : PySem.W.nsIn K mainGlobals "Push" = some (some (.ref C_Push)))
    (g_Web : PySem.W.nsIn K mainGlobals "Web" = some (some (.ref C_Web)))
    (a0 : PySem.W.nsIn K mainGlobals "head" = some (some (.ref f0)))
    (l0 : K.lookup f0 = some ⟨oc0, od0, .func (PySem.W.fnOf "head" "head" (defArgs s_head) (defBody s_head) (defScope s_head) .none kV0 dc0 pm0 an0 cd0 ct0), sl0⟩)
    (c0 : PySem.W.codeIn K cd0 "head" = true)
    (k0 : PySem.W.keepIn K (.ref f0) = true)
    (a1 : PySem.W.nsIn K mainGlobals "follower" = some (some (.ref f1)))
    (l1 : K.lookup f1 = some ⟨oc1, od1, .func (PySem.W.fnOf "follower" "follower" (defArgs s_follower) (defBody s_follower) (defScope s_follower) .none kV1 dc1 pm1 an1 cd1 ct1), sl1⟩)
    (c1 : PySem.W.codeIn K cd1 "follower" = true)
    (k1 : PySem.W.keepIn K (.ref f1) = true)
    (a2 : PySem.W.nsIn K mainGlobals "round_from" = some (some (.ref f2)))
    (l2 : K.lookup f2 = some ⟨oc2, od2, .func (PySem.W.fnOf "round_from" "round_from" (defArgs s_round_from) (defBody s_round_from) (defScope s_round_from) .none kV2 dc2 pm2 an2 cd2 ct2), sl2⟩)
    (c2 : PySem.W.codeIn K cd2 "round_from" = true)
    (k2 : PySem.W.keepIn K (.ref f2) = true)
    (a3 : PySem.W.nsIn K mainGlobals "rounds_of" = some (some (.ref f3)))
    (l3 : K.lookup f3 = some ⟨oc3, od3, .func (PySem.W.fnOf "rounds_of" "rounds_of" (defArgs s_rounds_of) (defBody s_rounds_of) (defScope s_rounds_of) .none kV3 dc3 pm3 an3 cd3 ct3), sl3⟩)
    (c3 : PySem.W.codeIn K cd3 "rounds_of" = true)
    (k3 : PySem.W.keepIn K (.ref f3) = true)
    (a4 : PySem.W.nsIn K mainGlobals "sides_of" = some (some (.ref f4)))
    (l4 : K.lookup f4 = some ⟨oc4, od4, .func (PySem.W.fnOf "sides_of" "sides_of" (defArgs s_sides_of) (defBody s_sides_of) (defScope s_sides_of) .none kV4 dc4 pm4 an4 cd4 ct4), sl4⟩)
    (c4 : PySem.W.codeIn K cd4 "sides_of" = true)
    (k4 : PySem.W.keepIn K (.ref f4) = true)
    (a5 : PySem.W.nsIn K mainGlobals "ends_are_places" = some (some (.ref f5)))
    (l5 : K.lookup f5 = some ⟨oc5, od5, .func (PySem.W.fnOf "ends_are_places" "ends_are_places" (defArgs s_ends_are_places) (defBody s_ends_are_places) (defScope s_ends_are_places) .none kV5 dc5 pm5 an5 cd5 ct5), sl5⟩)
    (c5 : PySem.W.codeIn K cd5 "ends_are_places" = true)
    (k5 : PySem.W.keepIn K (.ref f5) = true)
    (a6 : PySem.W.nsIn K mainGlobals "turns_are_right" = some (some (.ref f6)))
    (l6 : K.lookup f6 = some ⟨oc6, od6, .func (PySem.W.fnOf "turns_are_right" "turns_are_right" (defArgs s_turns_are_right) (defBody s_turns_are_right) (defScope s_turns_are_right) .none kV6 dc6 pm6 an6 cd6 ct6), sl6⟩)
    (c6 : PySem.W.codeIn K cd6 "turns_are_right" = true)
    (k6 : PySem.W.keepIn K (.ref f6) = true)
    (a7 : PySem.W.nsIn K mainGlobals "hangs_together" = some (some (.ref f7)))
    (l7 : K.lookup f7 = some ⟨oc7, od7, .func (PySem.W.fnOf "hangs_together" "hangs_together" (defArgs s_hangs_together) (defBody s_hangs_together) (defScope s_hangs_together) .none kV7 dc7 pm7 an7 cd7 ct7), sl7⟩)
    (c7 : PySem.W.codeIn K cd7 "hangs_together" = true)
    (k7 : PySem.W.keepIn K (.ref f7) = true)
    (r8_Web : PySem.W.findIn K (.ref C_Web) "__init__" = some (some (.ref f8)))
    (i8 : PySem.W.isFn K (.ref f8) = true)
    (l8 : K.lookup f8 = some ⟨oc8, od8, .func (PySem.W.fnOf "__init__" "Web.__init__" (defArgs s_Web___init__) (defBody s_Web___init__) (defScope s_Web___init__) .none kV8 dc8 pm8 an8 cd8 ct8), sl8⟩)
    (c8 : PySem.W.codeIn K cd8 "Web.__init__" = true)
    (k8 : PySem.W.keepIn K (.ref f8) = true)
    (r9_Pull : PySem.W.findIn K (.ref C_Pull) "__init__" = some (some (.ref f9)))
    (r9_Push : PySem.W.findIn K (.ref C_Push) "__init__" = some (some (.ref f9)))
    (i9 : PySem.W.isFn K (.ref f9) = true)
    (l9 : K.lookup f9 = some ⟨oc9, od9, .func (PySem.W.fnOf "__init__" "Tie.__init__" (defArgs s_Tie___init__) (defBody s_Tie___init__) (defScope s_Tie___init__) .none kV9 dc9 pm9 an9 cd9 ct9), sl9⟩)
    (c9 : PySem.W.codeIn K cd9 "Tie.__init__" = true)
    (k9 : PySem.W.keepIn K (.ref f9) = true)
    (a10 : PySem.W.nsIn K mainGlobals "_law_cell" = some (some (.ref f10)))
    (l10 : K.lookup f10 = some ⟨oc10, od10, .func (PySem.W.fnOf "_law_cell" "_law_cell" (defArgs s_law_cell) (defBody s_law_cell) (defScope s_law_cell) .none kV10 dc10 pm10 an10 cd10 ct10), sl10⟩)
    (c10 : PySem.W.codeIn K cd10 "_law_cell" = true)
    (k10 : PySem.W.keepIn K (.ref f10) = true)
    (a11 : PySem.W.nsIn K mainGlobals "_law_head" = some (some (.ref f11)))
    (l11 : K.lookup f11 = some ⟨oc11, od11, .func (PySem.W.fnOf "_law_head" "_law_head" (defArgs s_law_head) (defBody s_law_head) (defScope s_law_head) .none kV11 dc11 pm11 an11 cd11 ct11), sl11⟩)
    (c11 : PySem.W.codeIn K cd11 "_law_head" = true)
    (k11 : PySem.W.keepIn K (.ref f11) = true)
    (a12 : PySem.W.nsIn K mainGlobals "_law_put" = some (some (.ref f12)))
    (l12 : K.lookup f12 = some ⟨oc12, od12, .func (PySem.W.fnOf "_law_put" "_law_put" (defArgs s_law_put) (defBody s_law_put) (defScope s_law_put) .none kV12 dc12 pm12 an12 cd12 ct12), sl12⟩)
    (c12 : PySem.W.codeIn K cd12 "_law_put" = true)
    (k12 : PySem.W.keepIn K (.ref f12) = true)
    (a13 : PySem.W.nsIn K mainGlobals "_law_step" = some (some (.ref f13)))
    (l13 : K.lookup f13 = some ⟨oc13, od13, .func (PySem.W.fnOf "_law_step" "_law_step" (defArgs s_law_step) (defBody s_law_step) (defScope s_law_step) .none kV13 dc13 pm13 an13 cd13 ct13), sl13⟩)
    (c13 : PySem.W.codeIn K cd13 "_law_step" = true)
    (k13 : PySem.W.keepIn K (.ref f13) = true)
    (a14 : PySem.W.nsIn K mainGlobals "_law_grown" = some (some (.ref f14)))
    (l14 : K.lookup f14 = some ⟨oc14, od14, .func (PySem.W.fnOf "_law_grown" "_law_grown" (defArgs s_law_grown) (defBody s_law_grown) (defScope s_law_grown) .none kV14 dc14 pm14 an14 cd14 ct14), sl14⟩)
    (c14 : PySem.W.codeIn K cd14 "_law_grown" = true)
    (k14 : PySem.W.keepIn K (.ref f14) = true)
    (a15 : PySem.W.nsIn K mainGlobals "_law_order" = some (some (.ref f15)))
    (l15 : K.lookup f15 = some ⟨oc15, od15, .func (PySem.W.fnOf "_law_order" "_law_order" (defArgs s_law_order) (defBody s_law_order) (defScope s_law_order) .none kV15 dc15 pm15 an15 cd15 ct15), sl15⟩)
    (c15 : PySem.W.codeIn K cd15 "_law_order" = true)
    (k15 : PySem.W.keepIn K (.ref f15) = true)
    (a16 : PySem.W.nsIn K mainGlobals "_law_renumbered" = some (some (.ref f16)))
    (l16 : K.lookup f16 = some ⟨oc16, od16, .func (PySem.W.fnOf "_law_renumbered" "_law_renumbered" (defArgs s_law_renumbered) (defBody s_law_renumbered) (defScope s_law_renumbered) .none kV16 dc16 pm16 an16 cd16 ct16), sl16⟩)
    (c16 : PySem.W.codeIn K cd16 "_law_renumbered" = true)
    (k16 : PySem.W.keepIn K (.ref f16) = true)
    (a17 : PySem.W.nsIn K mainGlobals "_law_kinds" = some (some (.ref f17)))
    (l17 : K.lookup f17 = some ⟨oc17, od17, .func (PySem.W.fnOf "_law_kinds" "_law_kinds" (defArgs s_law_kinds) (defBody s_law_kinds) (defScope s_law_kinds) .none kV17 dc17 pm17 an17 cd17 ct17), sl17⟩)
    (c17 : PySem.W.codeIn K cd17 "_law_kinds" = true)
    (k17 : PySem.W.keepIn K (.ref f17) = true)
    (a18 : PySem.W.nsIn K mainGlobals "_law_ties" = some (some (.ref f18)))
    (l18 : K.lookup f18 = some ⟨oc18, od18, .func (PySem.W.fnOf "_law_ties" "_law_ties" (defArgs s_law_ties) (defBody s_law_ties) (defScope s_law_ties) .none kV18 dc18 pm18 an18 cd18 ct18), sl18⟩)
    (c18 : PySem.W.codeIn K cd18 "_law_ties" = true)
    (k18 : PySem.W.keepIn K (.ref f18) = true)
    (a19 : PySem.W.nsIn K mainGlobals "_law_number" = some (some (.ref f19)))
    (l19 : K.lookup f19 = some ⟨oc19, od19, .func (PySem.W.fnOf "_law_number" "_law_number" (defArgs s_law_number) (defBody s_law_number) (defScope s_law_number) .none kV19 dc19 pm19 an19 cd19 ct19), sl19⟩)
    (c19 : PySem.W.codeIn K cd19 "_law_number" = true)
    (k19 : PySem.W.keepIn K (.ref f19) = true)
    (a20 : PySem.W.nsIn K mainGlobals "_law_rows" = some (some (.ref f20)))
    (l20 : K.lookup f20 = some ⟨oc20, od20, .func (PySem.W.fnOf "_law_rows" "_law_rows" (defArgs s_law_rows) (defBody s_law_rows) (defScope s_law_rows) .none kV20 dc20 pm20 an20 cd20 ct20), sl20⟩)
    (c20 : PySem.W.codeIn K cd20 "_law_rows" = true)
    (k20 : PySem.W.keepIn K (.ref f20) = true)
    (a21 : PySem.W.nsIn K mainGlobals "_law_turned" = some (some (.ref f21)))
    (l21 : K.lookup f21 = some ⟨oc21, od21, .func (PySem.W.fnOf "_law_turned" "_law_turned" (defArgs s_law_turned) (defBody s_law_turned) (defScope s_law_turned) .none kV21 dc21 pm21 an21 cd21 ct21), sl21⟩)
    (c21 : PySem.W.codeIn K cd21 "_law_turned" = true)
    (k21 : PySem.W.keepIn K (.ref f21) = true)
    (a22 : PySem.W.nsIn K mainGlobals "_law_sides" = some (some (.ref f22)))
    (l22 : K.lookup f22 = some ⟨oc22, od22, .func (PySem.W.fnOf "_law_sides" "_law_sides" (defArgs s_law_sides) (defBody s_law_sides) (defScope s_law_sides) .none kV22 dc22 pm22 an22 cd22 ct22), sl22⟩)
    (c22 : PySem.W.codeIn K cd22 "_law_sides" = true)
    (k22 : PySem.W.keepIn K (.ref f22) = true)
    (a23 : PySem.W.nsIn K mainGlobals "_law_same_ties" = some (some (.ref f23)))
    (l23 : K.lookup f23 = some ⟨oc23, od23, .func (PySem.W.fnOf "_law_same_ties" "_law_same_ties" (defArgs s_law_same_ties) (defBody s_law_same_ties) (defScope s_law_same_ties) .none kV23 dc23 pm23 an23 cd23 ct23), sl23⟩)
    (c23 : PySem.W.codeIn K cd23 "_law_same_ties" = true)
    (k23 : PySem.W.keepIn K (.ref f23) = true)
    (a24 : PySem.W.nsIn K mainGlobals "_law_fields" = some (some (.ref f24)))
    (l24 : K.lookup f24 = some ⟨oc24, od24, .func (PySem.W.fnOf "_law_fields" "_law_fields" (defArgs s_law_fields) (defBody s_law_fields) (defScope s_law_fields) .none kV24 dc24 pm24 an24 cd24 ct24), sl24⟩)
    (c24 : PySem.W.codeIn K cd24 "_law_fields" = true)
    (k24 : PySem.W.keepIn K (.ref f24) = true)
    (a25 : PySem.W.nsIn K mainGlobals "law" = some (some (.ref f25)))
    (l25 : K.lookup f25 = some ⟨oc25, od25, .func (PySem.W.fnOf "law" "law" (defArgs s_law) (defBody s_law) (defScope s_law) .none kV25 dc25 pm25 an25 cd25 ct25), sl25⟩)
    (c25 : PySem.W.codeIn K cd25 "law" = true)
    (k25 : PySem.W.keepIn K (.ref f25) = true)
    (z_len : PySem.W.nsIn K mainGlobals "len" = some none)
    (z_range : PySem.W.nsIn K mainGlobals "range" = some none)
    (z_enumerate : PySem.W.nsIn K mainGlobals "enumerate" = some none)
    (z_sorted : PySem.W.nsIn K mainGlobals "sorted" = some none)
    (z_all : PySem.W.nsIn K mainGlobals "all" = some none)
    (z_list : PySem.W.nsIn K mainGlobals "list" = some none)
    (z_max : PySem.W.nsIn K mainGlobals "max" = some none)
    (z_isinstance : PySem.W.nsIn K mainGlobals "isinstance" = some none)
    (z_int : PySem.W.nsIn K mainGlobals "int" = some none)
    (z_bool : PySem.W.nsIn K mainGlobals "bool" = some none)
    (z_min : PySem.W.nsIn K mainGlobals "min" = some none)
    (z_tuple : PySem.W.nsIn K mainGlobals "tuple" = some none)
    (z_reversed : PySem.W.nsIn K mainGlobals "reversed" = some none)
    (pg_Pull : PySem.W.plainGet K C_Pull Str.empty = true)
    (hd_Pull : PySem.W.hasDictIn K C_Pull = true)
    (po_Pull : PySem.W.plainOver K C_Pull = true)
    (sa_Pull : PySem.W.findIn K (.ref C_Pull) "__setattr__" = some (some (.builtin "object.__setattr__")))
    (mk_Pull : PySem.W.makesIn K C_Pull = true)
    (kp_Pull : PySem.W.keepIn K (.ref C_Pull) = true)
    (n_Pull_one : PySem.W.findIn K (.ref C_Pull) "one" = some none)
    (n_Pull_two : PySem.W.findIn K (.ref C_Pull) "two" = some none)
    (n_Pull_strength : PySem.W.findIn K (.ref C_Pull) "strength" = some none)
    (pg_Push : PySem.W.plainGet K C_Push Str.empty = true)
    (hd_Push : PySem.W.hasDictIn K C_Push = true)
    (po_Push : PySem.W.plainOver K C_Push = true)
    (sa_Push : PySem.W.findIn K (.ref C_Push) "__setattr__" = some (some (.builtin "object.__setattr__")))
    (mk_Push : PySem.W.makesIn K C_Push = true)
    (kp_Push : PySem.W.keepIn K (.ref C_Push) = true)
    (n_Push_one : PySem.W.findIn K (.ref C_Push) "one" = some none)
    (n_Push_two : PySem.W.findIn K (.ref C_Push) "two" = some none)
    (n_Push_strength : PySem.W.findIn K (.ref C_Push) "strength" = some none)
    (pg_Web : PySem.W.plainGet K C_Web Str.empty = true)
    (hd_Web : PySem.W.hasDictIn K C_Web = true)
    (po_Web : PySem.W.plainOver K C_Web = true)
    (sa_Web : PySem.W.findIn K (.ref C_Web) "__setattr__" = some (some (.builtin "object.__setattr__")))
    (mk_Web : PySem.W.makesIn K C_Web = true)
    (kp_Web : PySem.W.keepIn K (.ref C_Web) = true)
    (n_Web_many : PySem.W.findIn K (.ref C_Web) "many" = some none)
    (n_Web_ties : PySem.W.findIn K (.ref C_Web) "ties" = some none)
    (n_Web_turns : PySem.W.findIn K (.ref C_Web) "turns" = some none)
    (n_Web_rounds : PySem.W.findIn K (.ref C_Web) "rounds" = some none)
    (n_Web_sides : PySem.W.findIn K (.ref C_Web) "sides" = some none)
    (x_og : PySem.W.specialIn K (.builtin "object.__class__") "__get__" = some (some (.builtin "getset_descriptor.__get__")))
    (x_ot : PySem.W.takesIn K (.builtin "object.__class__") = some true)
    (x_oc_Pull : PySem.W.findIn K (.ref C_Pull) "__class__" = some (some (.builtin "object.__class__")))
    (x_om_Pull : PySem.W.mroIn K C_Pull (.type "object") = some true)
    (x_oc_Push : PySem.W.findIn K (.ref C_Push) "__class__" = some (some (.builtin "object.__class__")))
    (x_om_Push : PySem.W.mroIn K C_Push (.type "object") = some true)
    (x_oc_Web : PySem.W.findIn K (.ref C_Web) "__class__" = some (some (.builtin "object.__class__")))
    (x_om_Web : PySem.W.mroIn K C_Web (.type "object") = some true)
    (x_ci_Push : PySem.W.isClsIn K C_Push = true)
    (x_ty_Push : PySem.W.typeIn K (.ref C_Push) = some (.type "type"))
    (x_sb_Pull_Push : PySem.W.subIn K (.ref C_Pull) (.ref C_Push) = some false)
    (x_sb_Pull_Pull : PySem.W.subIn K (.ref C_Pull) (.ref C_Pull) = some true)
    (x_sb_Push_Push : PySem.W.subIn K (.ref C_Push) (.ref C_Push) = some true)
    (x_ci_Pull : PySem.W.isClsIn K C_Pull = true)
    (x_ty_Pull : PySem.W.typeIn K (.ref C_Pull) = some (.type "type"))
    (x_sb_Push_Pull : PySem.W.subIn K (.ref C_Push) (.ref C_Pull) = some false)
    : ∃ fd : FuncData, (∀ (s : Shared) (v : Value), BindsTo s fd ⟨[v], []⟩ [("script", v)]) ∧ ∀ base : Heap, K.In base → base.Ns mainGlobals mg → FnOk l.prog w K mg base CX0 7 fa fd ["script"] (spLaw K) := by
  have e := hfa.symm.trans (PySem.W.mg_of X G a25)
  cases e
  have B : Bl mg := ⟨PySem.W.mg_none_of X G z_len, PySem.W.mg_none_of X G z_range, PySem.W.mg_none_of X G z_enumerate, PySem.W.mg_none_of X G z_sorted, PySem.W.mg_none_of X G z_all, PySem.W.mg_none_of X G z_list, PySem.W.mg_none_of X G z_max, PySem.W.mg_none_of X G z_isinstance, PySem.W.mg_none_of X G z_int, PySem.W.mg_none_of X G z_bool, PySem.W.mg_none_of X G z_min, PySem.W.mg_none_of X G z_tuple, PySem.W.mg_none_of X G z_reversed⟩
  have T : Txt K mg C_Pull C_Push C_Web := ⟨PySem.W.mg_of X G g_Pull, PySem.W.mg_of X G g_Push, PySem.W.mg_of X G g_Web, ⟨pg_Pull, hd_Pull, po_Pull, sa_Pull⟩, mk_Pull, kp_Pull, n_Pull_one, n_Pull_two, n_Pull_strength, ⟨pg_Push, hd_Push, po_Push, sa_Push⟩, mk_Push, kp_Push, n_Push_one, n_Push_two, n_Push_strength, ⟨pg_Web, hd_Web, po_Web, sa_Web⟩, mk_Web, kp_Web, n_Web_many, n_Web_ties, n_Web_turns, n_Web_rounds, n_Web_sides, x_og, x_ot, x_oc_Pull, x_om_Pull, x_oc_Push, x_om_Push, x_oc_Web, x_om_Web, x_ci_Push, x_ty_Push, x_sb_Pull_Push, x_sb_Pull_Pull, x_sb_Push_Push, x_ci_Pull, x_ty_Pull, x_sb_Push_Pull⟩
  refine ⟨PySem.W.fnOf "law" "law" (defArgs s_law) (defBody s_law) (defScope s_law) .none kV25 dc25 pm25 an25 cd25 ct25, fun s v => .of_eq rfl, fun base _ _ => ?_⟩
  have h_head := ok_head (P := l.prog) (w := w) (base := base) (fun_mk (st := s_head) l0 c0 k0) (PySem.W.mg_of X G a0) B T 
  have h_follower := ok_follower (P := l.prog) (w := w) (base := base) (fun_mk (st := s_follower) l1 c1 k1) (PySem.W.mg_of X G a1) B T h_head
  have h_round_from := ok_round_from (P := l.prog) (w := w) (base := base) (fun_mk (st := s_round_from) l2 c2 k2) (PySem.W.mg_of X G a2) B T h_follower
  have h_rounds_of := ok_rounds_of (P := l.prog) (w := w) (base := base) (fun_mk (st := s_rounds_of) l3 c3 k3) (PySem.W.mg_of X G a3) B T h_round_from
  have h_sides_of := ok_sides_of (P := l.prog) (w := w) (base := base) (fun_mk (st := s_sides_of) l4 c4 k4) (PySem.W.mg_of X G a4) B T 
  have h_ends_are_places := ok_ends_are_places (P := l.prog) (w := w) (base := base) (fun_mk (st := s_ends_are_places) l5 c5 k5) (PySem.W.mg_of X G a5) B T 
  have h_turns_are_right := ok_turns_are_right (P := l.prog) (w := w) (base := base) (fun_mk (st := s_turns_are_right) l6 c6 k6) (PySem.W.mg_of X G a6) B T 
  have h_hangs_together := ok_hangs_together (P := l.prog) (w := w) (base := base) (fun_mk (st := s_hangs_together) l7 c7 k7) (PySem.W.mg_of X G a7) B T 
  have hf_Web___init__ := ok_Web___init__ (P := l.prog) (w := w) (base := base) (fun_mk (st := s_Web___init__) l8 c8 k8) B T h_rounds_of h_sides_of h_ends_are_places h_turns_are_right h_hangs_together
  have h_mk_Web := hf_Web___init__.mkOf ⟨mk_Web, r8_Web, i8, kp_Web⟩ (PySem.W.mg_of X G g_Web)
  have hf_Tie___init__ := ok_Tie___init__ (P := l.prog) (w := w) (base := base) (fun_mk (st := s_Tie___init__) l9 c9 k9) B T 
  have h_mk_Pull := hf_Tie___init__.mkOf ⟨mk_Pull, r9_Pull, i9, kp_Pull⟩ (PySem.W.mg_of X G g_Pull)
  have h_mk_Push := hf_Tie___init__.mkOf ⟨mk_Push, r9_Push, i9, kp_Push⟩ (PySem.W.mg_of X G g_Push)
  have h_law_cell := ok_law_cell (P := l.prog) (w := w) (base := base) (fun_mk (st := s_law_cell) l10 c10 k10) (PySem.W.mg_of X G a10) B T 
  have h_law_head := ok_law_head (P := l.prog) (w := w) (base := base) (fun_mk (st := s_law_head) l11 c11 k11) (PySem.W.mg_of X G a11) B T 
  have h_law_put := ok_law_put (P := l.prog) (w := w) (base := base) (fun_mk (st := s_law_put) l12 c12 k12) (PySem.W.mg_of X G a12) B T 
  have h_law_step := ok_law_step (P := l.prog) (w := w) (base := base) (fun_mk (st := s_law_step) l13 c13 k13) (PySem.W.mg_of X G a13) B T h_law_head h_law_put
  have h_law_grown := ok_law_grown (P := l.prog) (w := w) (base := base) (fun_mk (st := s_law_grown) l14 c14 k14) (PySem.W.mg_of X G a14) B T h_law_step
  have h_law_order := ok_law_order (P := l.prog) (w := w) (base := base) (fun_mk (st := s_law_order) l15 c15 k15) (PySem.W.mg_of X G a15) B T 
  have h_law_renumbered := ok_law_renumbered (P := l.prog) (w := w) (base := base) (fun_mk (st := s_law_renumbered) l16 c16 k16) (PySem.W.mg_of X G a16) B T h_law_order
  have h_law_kinds := ok_law_kinds (P := l.prog) (w := w) (base := base) (fun_mk (st := s_law_kinds) l17 c17 k17) (PySem.W.mg_of X G a17) B T 
  have h_law_ties := ok_law_ties (P := l.prog) (w := w) (base := base) (fun_mk (st := s_law_ties) l18 c18 k18) (PySem.W.mg_of X G a18) B T h_mk_Push h_mk_Pull
  have h_law_number := ok_law_number (P := l.prog) (w := w) (base := base) (fun_mk (st := s_law_number) l19 c19 k19) (PySem.W.mg_of X G a19) B T 
  have h_law_rows := ok_law_rows (P := l.prog) (w := w) (base := base) (fun_mk (st := s_law_rows) l20 c20 k20) (PySem.W.mg_of X G a20) B T h_law_number
  have h_law_turned := ok_law_turned (P := l.prog) (w := w) (base := base) (fun_mk (st := s_law_turned) l21 c21 k21) (PySem.W.mg_of X G a21) B T 
  have h_law_sides := ok_law_sides (P := l.prog) (w := w) (base := base) (fun_mk (st := s_law_sides) l22 c22 k22) (PySem.W.mg_of X G a22) B T h_law_number
  have h_law_same_ties := ok_law_same_ties (P := l.prog) (w := w) (base := base) (fun_mk (st := s_law_same_ties) l23 c23 k23) (PySem.W.mg_of X G a23) B T h_law_number
  have h_law_fields := ok_law_fields (P := l.prog) (w := w) (base := base) (fun_mk (st := s_law_fields) l24 c24 k24) (PySem.W.mg_of X G a24) B T h_law_rows h_law_sides h_law_turned h_law_number h_law_same_ties
  exact ok_law (P := l.prog) (w := w) (base := base) (fun_mk (st := s_law) l25 c25 k25) B T h_law_renumbered h_law_kinds h_law_ties h_law_grown h_law_cell h_law_fields h_mk_Web
theorem factsQ {l : PySem.W.OpenLaw} {w : World} {K : PySem.W.Frag} {h : Heap} {mg : Str → Option Value} {fa : Addr} (X : K.In h) (G : h.Ns mainGlobals mg) (hfa : mg "law" = some (.ref fa)) (c : SaysK fsQ fnQ K) : ∃ fd : FuncData, (∀ (s : Shared) (v : Value), BindsTo s fd ⟨[v], []⟩ [("script", v)]) ∧ ∀ base : Heap, K.In base → base.Ns mainGlobals mg → FnOk l.prog w K mg base CX0 7 fa fd ["script"] (spLaw K) := by
  obtain ⟨fd0, D0⟩ : ∃ fd, FunD K "head" "head" (defArgs s_head) (defBody s_head) (defScope s_head) [] [] (He.fAd K ("head", none)) fd := c.def_ 0 rfl
  obtain ⟨oc0, od0, kV0, dc0, pm0, an0, cd0, ct0, sl0, l0, c0, k0⟩ := fnl_of D0
  obtain ⟨fd1, D1⟩ : ∃ fd, FunD K "follower" "follower" (defArgs s_follower) (defBody s_follower) (defScope s_follower) [] [] (He.fAd K ("follower", none)) fd := c.def_ 1 rfl
  obtain ⟨oc1, od1, kV1, dc1, pm1, an1, cd1, ct1, sl1, l1, c1, k1⟩ := fnl_of D1
  obtain ⟨fd2, D2⟩ : ∃ fd, FunD K "round_from" "round_from" (defArgs s_round_from) (defBody s_round_from) (defScope s_round_from) [] [] (He.fAd K ("round_from", none)) fd := c.def_ 2 rfl
  obtain ⟨oc2, od2, kV2, dc2, pm2, an2, cd2, ct2, sl2, l2, c2, k2⟩ := fnl_of D2
  obtain ⟨fd3, D3⟩ : ∃ fd, FunD K "rounds_of" "rounds_of" (defArgs s_rounds_of) (defBody s_rounds_of) (defScope s_rounds_of) [] [] (He.fAd K ("rounds_of", none)) fd := c.def_ 3 rfl
  obtain ⟨oc3, od3, kV3, dc3, pm3, an3, cd3, ct3, sl3, l3, c3, k3⟩ := fnl_of D3
  obtain ⟨fd4, D4⟩ : ∃ fd, FunD K "sides_of" "sides_of" (defArgs s_sides_of) (defBody s_sides_of) (defScope s_sides_of) [] [] (He.fAd K ("sides_of", none)) fd := c.def_ 4 rfl
  obtain ⟨oc4, od4, kV4, dc4, pm4, an4, cd4, ct4, sl4, l4, c4, k4⟩ := fnl_of D4
  obtain ⟨fd5, D5⟩ : ∃ fd, FunD K "ends_are_places" "ends_are_places" (defArgs s_ends_are_places) (defBody s_ends_are_places) (defScope s_ends_are_places) [] [] (He.fAd K ("ends_are_places", none)) fd := c.def_ 5 rfl
  obtain ⟨oc5, od5, kV5, dc5, pm5, an5, cd5, ct5, sl5, l5, c5, k5⟩ := fnl_of D5
  obtain ⟨fd6, D6⟩ : ∃ fd, FunD K "turns_are_right" "turns_are_right" (defArgs s_turns_are_right) (defBody s_turns_are_right) (defScope s_turns_are_right) [] [] (He.fAd K ("turns_are_right", none)) fd := c.def_ 6 rfl
  obtain ⟨oc6, od6, kV6, dc6, pm6, an6, cd6, ct6, sl6, l6, c6, k6⟩ := fnl_of D6
  obtain ⟨fd7, D7⟩ : ∃ fd, FunD K "hangs_together" "hangs_together" (defArgs s_hangs_together) (defBody s_hangs_together) (defScope s_hangs_together) [] [] (He.fAd K ("hangs_together", none)) fd := c.def_ 7 rfl
  obtain ⟨oc7, od7, kV7, dc7, pm7, an7, cd7, ct7, sl7, l7, c7, k7⟩ := fnl_of D7
  obtain ⟨fd8, D8⟩ : ∃ fd, FunD K "__init__" "Web.__init__" (defArgs s_Web___init__) (defBody s_Web___init__) (defScope s_Web___init__) [] [] (He.fAd K ("Web", some "__init__")) fd := c.def_ 8 rfl
  obtain ⟨oc8, od8, kV8, dc8, pm8, an8, cd8, ct8, sl8, l8, c8, k8⟩ := fnl_of D8
  obtain ⟨fd9, D9⟩ : ∃ fd, FunD K "__init__" "Tie.__init__" (defArgs s_Tie___init__) (defBody s_Tie___init__) (defScope s_Tie___init__) [] [] (He.fAd K ("Tie", some "__init__")) fd := c.def_ 9 rfl
  obtain ⟨oc9, od9, kV9, dc9, pm9, an9, cd9, ct9, sl9, l9, c9, k9⟩ := fnl_of D9
  obtain ⟨fd10, D10⟩ : ∃ fd, FunD K "_law_cell" "_law_cell" (defArgs s_law_cell) (defBody s_law_cell) (defScope s_law_cell) [] [] (He.fAd K ("_law_cell", none)) fd := c.def_ 10 rfl
  obtain ⟨oc10, od10, kV10, dc10, pm10, an10, cd10, ct10, sl10, l10, c10, k10⟩ := fnl_of D10
  obtain ⟨fd11, D11⟩ : ∃ fd, FunD K "_law_head" "_law_head" (defArgs s_law_head) (defBody s_law_head) (defScope s_law_head) [] [] (He.fAd K ("_law_head", none)) fd := c.def_ 11 rfl
  obtain ⟨oc11, od11, kV11, dc11, pm11, an11, cd11, ct11, sl11, l11, c11, k11⟩ := fnl_of D11
  obtain ⟨fd12, D12⟩ : ∃ fd, FunD K "_law_put" "_law_put" (defArgs s_law_put) (defBody s_law_put) (defScope s_law_put) [] [] (He.fAd K ("_law_put", none)) fd := c.def_ 12 rfl
  obtain ⟨oc12, od12, kV12, dc12, pm12, an12, cd12, ct12, sl12, l12, c12, k12⟩ := fnl_of D12
  obtain ⟨fd13, D13⟩ : ∃ fd, FunD K "_law_step" "_law_step" (defArgs s_law_step) (defBody s_law_step) (defScope s_law_step) [] [] (He.fAd K ("_law_step", none)) fd := c.def_ 13 rfl
  obtain ⟨oc13, od13, kV13, dc13, pm13, an13, cd13, ct13, sl13, l13, c13, k13⟩ := fnl_of D13
  obtain ⟨fd14, D14⟩ : ∃ fd, FunD K "_law_grown" "_law_grown" (defArgs s_law_grown) (defBody s_law_grown) (defScope s_law_grown) [] [] (He.fAd K ("_law_grown", none)) fd := c.def_ 14 rfl
  obtain ⟨oc14, od14, kV14, dc14, pm14, an14, cd14, ct14, sl14, l14, c14, k14⟩ := fnl_of D14
  obtain ⟨fd15, D15⟩ : ∃ fd, FunD K "_law_order" "_law_order" (defArgs s_law_order) (defBody s_law_order) (defScope s_law_order) [] [] (He.fAd K ("_law_order", none)) fd := c.def_ 15 rfl
  obtain ⟨oc15, od15, kV15, dc15, pm15, an15, cd15, ct15, sl15, l15, c15, k15⟩ := fnl_of D15
  obtain ⟨fd16, D16⟩ : ∃ fd, FunD K "_law_renumbered" "_law_renumbered" (defArgs s_law_renumbered) (defBody s_law_renumbered) (defScope s_law_renumbered) [] [] (He.fAd K ("_law_renumbered", none)) fd := c.def_ 16 rfl
  obtain ⟨oc16, od16, kV16, dc16, pm16, an16, cd16, ct16, sl16, l16, c16, k16⟩ := fnl_of D16
  obtain ⟨fd17, D17⟩ : ∃ fd, FunD K "_law_kinds" "_law_kinds" (defArgs s_law_kinds) (defBody s_law_kinds) (defScope s_law_kinds) [] [] (He.fAd K ("_law_kinds", none)) fd := c.def_ 17 rfl
  obtain ⟨oc17, od17, kV17, dc17, pm17, an17, cd17, ct17, sl17, l17, c17, k17⟩ := fnl_of D17
  obtain ⟨fd18, D18⟩ : ∃ fd, FunD K "_law_ties" "_law_ties" (defArgs s_law_ties) (defBody s_law_ties) (defScope s_law_ties) [] [] (He.fAd K ("_law_ties", none)) fd := c.def_ 18 rfl
  obtain ⟨oc18, od18, kV18, dc18, pm18, an18, cd18, ct18, sl18, l18, c18, k18⟩ := fnl_of D18
  obtain ⟨fd19, D19⟩ : ∃ fd, FunD K "_law_number" "_law_number" (defArgs s_law_number) (defBody s_law_number) (defScope s_law_number) [] [] (He.fAd K ("_law_number", none)) fd := c.def_ 19 rfl
  obtain ⟨oc19, od19, kV19, dc19, pm19, an19, cd19, ct19, sl19, l19, c19, k19⟩ := fnl_of D19
  obtain ⟨fd20, D20⟩ : ∃ fd, FunD K "_law_rows" "_law_rows" (defArgs s_law_rows) (defBody s_law_rows) (defScope s_law_rows) [] [] (He.fAd K ("_law_rows", none)) fd := c.def_ 20 rfl
  obtain ⟨oc20, od20, kV20, dc20, pm20, an20, cd20, ct20, sl20, l20, c20, k20⟩ := fnl_of D20
  obtain ⟨fd21, D21⟩ : ∃ fd, FunD K "_law_turned" "_law_turned" (defArgs s_law_turned) (defBody s_law_turned) (defScope s_law_turned) [] [] (He.fAd K ("_law_turned", none)) fd := c.def_ 21 rfl
  obtain ⟨oc21, od21, kV21, dc21, pm21, an21, cd21, ct21, sl21, l21, c21, k21⟩ := fnl_of D21
  obtain ⟨fd22, D22⟩ : ∃ fd, FunD K "_law_sides" "_law_sides" (defArgs s_law_sides) (defBody s_law_sides) (defScope s_law_sides) [] [] (He.fAd K ("_law_sides", none)) fd := c.def_ 22 rfl
  obtain ⟨oc22, od22, kV22, dc22, pm22, an22, cd22, ct22, sl22, l22, c22, k22⟩ := fnl_of D22
  obtain ⟨fd23, D23⟩ : ∃ fd, FunD K "_law_same_ties" "_law_same_ties" (defArgs s_law_same_ties) (defBody s_law_same_ties) (defScope s_law_same_ties) [] [] (He.fAd K ("_law_same_ties", none)) fd := c.def_ 23 rfl
  obtain ⟨oc23, od23, kV23, dc23, pm23, an23, cd23, ct23, sl23, l23, c23, k23⟩ := fnl_of D23
  obtain ⟨fd24, D24⟩ : ∃ fd, FunD K "_law_fields" "_law_fields" (defArgs s_law_fields) (defBody s_law_fields) (defScope s_law_fields) [] [] (He.fAd K ("_law_fields", none)) fd := c.def_ 24 rfl
  obtain ⟨oc24, od24, kV24, dc24, pm24, an24, cd24, ct24, sl24, l24, c24, k24⟩ := fnl_of D24
  obtain ⟨fd25, D25⟩ : ∃ fd, FunD K "law" "law" (defArgs s_law) (defBody s_law) (defScope s_law) [] [] (He.fAd K ("law", none)) fd := c.def_ 25 rfl
  obtain ⟨oc25, od25, kV25, dc25, pm25, an25, cd25, ct25, sl25, l25, c25, k25⟩ := fnl_of D25
  have g_Pull : PySem.W.nsIn K mainGlobals "Pull" = some (some (.ref (He.ga K "Pull"))) := c.is 0 rfl
  have g_Push : PySem.W.nsIn K mainGlobals "Push" = some (some (.ref (He.ga K "Push"))) := c.is 1 rfl
  have g_Web : PySem.W.nsIn K mainGlobals "Web" = some (some (.ref (He.ga K "Web"))) := c.is 2 rfl
  have a0 : PySem.W.nsIn K mainGlobals "head" = some (some (.ref (He.fAd K ("head", none)))) := c.is 3 rfl
  have a1 : PySem.W.nsIn K mainGlobals "follower" = some (some (.ref (He.fAd K ("follower", none)))) := c.is 4 rfl
  have a2 : PySem.W.nsIn K mainGlobals "round_from" = some (some (.ref (He.fAd K ("round_from", none)))) := c.is 5 rfl
  have a3 : PySem.W.nsIn K mainGlobals "rounds_of" = some (some (.ref (He.fAd K ("rounds_of", none)))) := c.is 6 rfl
  have a4 : PySem.W.nsIn K mainGlobals "sides_of" = some (some (.ref (He.fAd K ("sides_of", none)))) := c.is 7 rfl
  have a5 : PySem.W.nsIn K mainGlobals "ends_are_places" = some (some (.ref (He.fAd K ("ends_are_places", none)))) := c.is 8 rfl
  have a6 : PySem.W.nsIn K mainGlobals "turns_are_right" = some (some (.ref (He.fAd K ("turns_are_right", none)))) := c.is 9 rfl
  have a7 : PySem.W.nsIn K mainGlobals "hangs_together" = some (some (.ref (He.fAd K ("hangs_together", none)))) := c.is 10 rfl
  have r8_Web : PySem.W.findIn K (.ref (He.ga K "Web")) "__init__" = some (some (.ref (He.fAd K ("Web", some "__init__")))) := c.is 11 rfl
  have i8 : PySem.W.isFn K (.ref (He.fAd K ("Web", some "__init__"))) = true := c.is 12 rfl
  have r9_Pull : PySem.W.findIn K (.ref (He.ga K "Pull")) "__init__" = some (some (.ref (He.fAd K ("Tie", some "__init__")))) := c.is 13 rfl
  have r9_Push : PySem.W.findIn K (.ref (He.ga K "Push")) "__init__" = some (some (.ref (He.fAd K ("Tie", some "__init__")))) := c.is 14 rfl
  have i9 : PySem.W.isFn K (.ref (He.fAd K ("Tie", some "__init__"))) = true := c.is 15 rfl
  have a10 : PySem.W.nsIn K mainGlobals "_law_cell" = some (some (.ref (He.fAd K ("_law_cell", none)))) := c.is 16 rfl
  have a11 : PySem.W.nsIn K mainGlobals "_law_head" = some (some (.ref (He.fAd K ("_law_head", none)))) := c.is 17 rfl
  have a12 : PySem.W.nsIn K mainGlobals "_law_put" = some (some (.ref (He.fAd K ("_law_put", none)))) := c.is 18 rfl
  have a13 : PySem.W.nsIn K mainGlobals "_law_step" = some (some (.ref (He.fAd K ("_law_step", none)))) := c.is 19 rfl
  have a14 : PySem.W.nsIn K mainGlobals "_law_grown" = some (some (.ref (He.fAd K ("_law_grown", none)))) := c.is 20 rfl
  have a15 : PySem.W.nsIn K mainGlobals "_law_order" = some (some (.ref (He.fAd K ("_law_order", none)))) := c.is 21 rfl
  have a16 : PySem.W.nsIn K mainGlobals "_law_renumbered" = some (some (.ref (He.fAd K ("_law_renumbered", none)))) := c.is 22 rfl
  have a17 : PySem.W.nsIn K mainGlobals "_law_kinds" = some (some (.ref (He.fAd K ("_law_kinds", none)))) := c.is 23 rfl
  have a18 : PySem.W.nsIn K mainGlobals "_law_ties" = some (some (.ref (He.fAd K ("_law_ties", none)))) := c.is 24 rfl
  have a19 : PySem.W.nsIn K mainGlobals "_law_number" = some (some (.ref (He.fAd K ("_law_number", none)))) := c.is 25 rfl
  have a20 : PySem.W.nsIn K mainGlobals "_law_rows" = some (some (.ref (He.fAd K ("_law_rows", none)))) := c.is 26 rfl
  have a21 : PySem.W.nsIn K mainGlobals "_law_turned" = some (some (.ref (He.fAd K ("_law_turned", none)))) := c.is 27 rfl
  have a22 : PySem.W.nsIn K mainGlobals "_law_sides" = some (some (.ref (He.fAd K ("_law_sides", none)))) := c.is 28 rfl
  have a23 : PySem.W.nsIn K mainGlobals "_law_same_ties" = some (some (.ref (He.fAd K ("_law_same_ties", none)))) := c.is 29 rfl
  have a24 : PySem.W.nsIn K mainGlobals "_law_fields" = some (some (.ref (He.fAd K ("_law_fields", none)))) := c.is 30 rfl
  have a25 : PySem.W.nsIn K mainGlobals "law" = some (some (.ref (He.fAd K ("law", none)))) := c.is 31 rfl
  have z_len : PySem.W.nsIn K mainGlobals "len" = some none := c.is 32 rfl
  have z_range : PySem.W.nsIn K mainGlobals "range" = some none := c.is 33 rfl
  have z_enumerate : PySem.W.nsIn K mainGlobals "enumerate" = some none := c.is 34 rfl
  have z_sorted : PySem.W.nsIn K mainGlobals "sorted" = some none := c.is 35 rfl
  have z_all : PySem.W.nsIn K mainGlobals "all" = some none := c.is 36 rfl
  have z_list : PySem.W.nsIn K mainGlobals "list" = some none := c.is 37 rfl
  have z_max : PySem.W.nsIn K mainGlobals "max" = some none := c.is 38 rfl
  have z_isinstance : PySem.W.nsIn K mainGlobals "isinstance" = some none := c.is 39 rfl
  have z_int : PySem.W.nsIn K mainGlobals "int" = some none := c.is 40 rfl
  have z_bool : PySem.W.nsIn K mainGlobals "bool" = some none := c.is 41 rfl
  have z_min : PySem.W.nsIn K mainGlobals "min" = some none := c.is 42 rfl
  have z_tuple : PySem.W.nsIn K mainGlobals "tuple" = some none := c.is 43 rfl
  have z_reversed : PySem.W.nsIn K mainGlobals "reversed" = some none := c.is 44 rfl
  have pg_Pull : PySem.W.plainGet K (He.ga K "Pull") Str.empty = true := c.is 45 rfl
  have hd_Pull : PySem.W.hasDictIn K (He.ga K "Pull") = true := c.is 46 rfl
  have po_Pull : PySem.W.plainOver K (He.ga K "Pull") = true := c.is 47 rfl
  have sa_Pull : PySem.W.findIn K (.ref (He.ga K "Pull")) "__setattr__" = some (some (.builtin "object.__setattr__")) := c.is 48 rfl
  have mk_Pull : PySem.W.makesIn K (He.ga K "Pull") = true := c.is 49 rfl
  have kp_Pull : PySem.W.keepIn K (.ref (He.ga K "Pull")) = true := c.is 50 rfl
  have n_Pull_one : PySem.W.findIn K (.ref (He.ga K "Pull")) "one" = some none := c.is 51 rfl
  have n_Pull_two : PySem.W.findIn K (.ref (He.ga K "Pull")) "two" = some none := c.is 52 rfl
  have n_Pull_strength : PySem.W.findIn K (.ref (He.ga K "Pull")) "strength" = some none := c.is 53 rfl
  have pg_Push : PySem.W.plainGet K (He.ga K "Push") Str.empty = true := c.is 54 rfl
  have hd_Push : PySem.W.hasDictIn K (He.ga K "Push") = true := c.is 55 rfl
  have po_Push : PySem.W.plainOver K (He.ga K "Push") = true := c.is 56 rfl
  have sa_Push : PySem.W.findIn K (.ref (He.ga K "Push")) "__setattr__" = some (some (.builtin "object.__setattr__")) := c.is 57 rfl
  have mk_Push : PySem.W.makesIn K (He.ga K "Push") = true := c.is 58 rfl
  have kp_Push : PySem.W.keepIn K (.ref (He.ga K "Push")) = true := c.is 59 rfl
  have n_Push_one : PySem.W.findIn K (.ref (He.ga K "Push")) "one" = some none := c.is 60 rfl
  have n_Push_two : PySem.W.findIn K (.ref (He.ga K "Push")) "two" = some none := c.is 61 rfl
  have n_Push_strength : PySem.W.findIn K (.ref (He.ga K "Push")) "strength" = some none := c.is 62 rfl
  have pg_Web : PySem.W.plainGet K (He.ga K "Web") Str.empty = true := c.is 63 rfl
  have hd_Web : PySem.W.hasDictIn K (He.ga K "Web") = true := c.is 64 rfl
  have po_Web : PySem.W.plainOver K (He.ga K "Web") = true := c.is 65 rfl
  have sa_Web : PySem.W.findIn K (.ref (He.ga K "Web")) "__setattr__" = some (some (.builtin "object.__setattr__")) := c.is 66 rfl
  have mk_Web : PySem.W.makesIn K (He.ga K "Web") = true := c.is 67 rfl
  have kp_Web : PySem.W.keepIn K (.ref (He.ga K "Web")) = true := c.is 68 rfl
  have n_Web_many : PySem.W.findIn K (.ref (He.ga K "Web")) "many" = some none := c.is 69 rfl
  have n_Web_ties : PySem.W.findIn K (.ref (He.ga K "Web")) "ties" = some none := c.is 70 rfl
  have n_Web_turns : PySem.W.findIn K (.ref (He.ga K "Web")) "turns" = some none := c.is 71 rfl
  have n_Web_rounds : PySem.W.findIn K (.ref (He.ga K "Web")) "rounds" = some none := c.is 72 rfl
  have n_Web_sides : PySem.W.findIn K (.ref (He.ga K "Web")) "sides" = some none := c.is 73 rfl
  have x_og : PySem.W.specialIn K (.builtin "object.__class__") "__get__" = some (some (.builtin "getset_descriptor.__get__")) := c.is 74 rfl
  have x_ot : PySem.W.takesIn K (.builtin "object.__class__") = some true := c.is 75 rfl
  have x_oc_Pull : PySem.W.findIn K (.ref (He.ga K "Pull")) "__class__" = some (some (.builtin "object.__class__")) := c.is 76 rfl
  have x_om_Pull : PySem.W.mroIn K (He.ga K "Pull") (.type "object") = some true := c.is 77 rfl
  have x_oc_Push : PySem.W.findIn K (.ref (He.ga K "Push")) "__class__" = some (some (.builtin "object.__class__")) := c.is 78 rfl
  have x_om_Push : PySem.W.mroIn K (He.ga K "Push") (.type "object") = some true := c.is 79 rfl
  have x_oc_Web : PySem.W.findIn K (.ref (He.ga K "Web")) "__class__" = some (some (.builtin "object.__class__")) := c.is 80 rfl
  have x_om_Web : PySem.W.mroIn K (He.ga K "Web") (.type "object") = some true := c.is 81 rfl
  have x_ci_Push : PySem.W.isClsIn K (He.ga K "Push") = true := c.is 82 rfl
  have x_ty_Push : PySem.W.typeIn K (.ref (He.ga K "Push")) = some (.type "type") := c.is 83 rfl
  have x_sb_Pull_Push : PySem.W.subIn K (.ref (He.ga K "Pull")) (.ref (He.ga K "Push")) = some false := c.is 84 rfl
  have x_sb_Pull_Pull : PySem.W.subIn K (.ref (He.ga K "Pull")) (.ref (He.ga K "Pull")) = some true := c.is 85 rfl
  have x_sb_Push_Push : PySem.W.subIn K (.ref (He.ga K "Push")) (.ref (He.ga K "Push")) = some true := c.is 86 rfl
  have x_ci_Pull : PySem.W.isClsIn K (He.ga K "Pull") = true := c.is 87 rfl
  have x_ty_Pull : PySem.W.typeIn K (.ref (He.ga K "Pull")) = some (.type "type") := c.is 88 rfl
  have x_sb_Push_Pull : PySem.W.subIn K (.ref (He.ga K "Push")) (.ref (He.ga K "Pull")) = some false := c.is 89 rfl
  exact all_mk X G hfa g_Pull g_Push g_Web a0 l0 c0 k0 a1 l1 c1 k1 a2 l2 c2 k2 a3 l3 c3 k3 a4 l4 c4 k4 a5 l5 c5 k5 a6 l6 c6 k6 a7 l7 c7 k7 r8_Web i8 l8 c8 k8 r9_Pull r9_Push i9 l9 c9 k9 a10 l10 c10 k10 a11 l11 c11 k11 a12 l12 c12 k12 a13 l13 c13 k13 a14 l14 c14 k14 a15 l15 c15 k15 a16 l16 c16 k16 a17 l17 c17 k17 a18 l18 c18 k18 a19 l19 c19 k19 a20 l20 c20 k20 a21 l21 c21 k21 a22 l22 c22 k22 a23 l23 c23 k23 a24 l24 c24 k24 a25 l25 c25 k25 z_len z_range z_enumerate z_sorted z_all z_list z_max z_isinstance z_int z_bool z_min z_tuple z_reversed pg_Pull hd_Pull po_Pull sa_Pull mk_Pull kp_Pull n_Pull_one n_Pull_two n_Pull_strength pg_Push hd_Push po_Push sa_Push mk_Push kp_Push n_Push_one n_Push_two n_Push_strength pg_Web hd_Web po_Web sa_Web mk_Web kp_Web n_Web_many n_Web_ties n_Web_turns n_Web_rounds n_Web_sides x_og x_ot x_oc_Pull x_om_Pull x_oc_Push x_om_Push x_oc_Web x_om_Web x_ci_Push x_ty_Push x_sb_Pull_Push x_sb_Pull_Pull x_sb_Push_Push x_ci_Pull x_ty_Pull x_sb_Push_Pull
end Sf
open PySem PySem.W PySem.Calls PyProof.Rows
set_option maxRecDepth 100000 in
set_option maxHeartbeats 0 in
theorem PySem.Challenge.cw_spinfloor_k09_whole_flat_webs_holds : PySem.Challenge.rw_spinfloor_k09_whole_flat_webs.Holds := by
  refine Sf.headQ ?_
  refine Sf.walk_ofK (l := PySem.Challenge.rw_spinfloor_k09_whole_flat_webs) (n := 63) (k := 7) (sp := Sf.spLaw) rfl (by decide) (by kernel_rfl) ⟨rfl, by decide, by decide⟩ ?F (fun _ _ a ns hl hb hS => ⟨a, ns, rfl, hS, hl, hb, fun _ => rfl⟩)
  intro w mg fa h Y G hmg0
  obtain ⟨K, KX, c⟩ := Y
  have hmg : mg ("law" : PySem.Str) = some (.ref fa) := by
    have e : (HandSHeadRun.topDef (PySem.W.OpenLaw.row PySem.Challenge.rw_spinfloor_k09_whole_flat_webs).prog 38).name = ("law" : PySem.Str) := by kernel_rfl
    rw [← e]
    exact hmg0
  exact ⟨K, KX, Sf.factsQ (l := PySem.Challenge.rw_spinfloor_k09_whole_flat_webs) KX G hmg c⟩

