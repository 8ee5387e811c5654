
import PyProof.Rows.All
import Wide.All
import OpenK.AllK
import Wide.FinOn
import HandS.ForMost
import HandS.Wide
import HandS.WideBits
import HandS.IsInst
import HandS.More
import HandS.EndBits
import HandS.SortInts
import KE.SortData
import HandS.TupLe
import PySem.Challenge.RW_spinfloor_k48_powers_joined
set_option Elab.async false
set_option linter.all false
set_option pp.deepTerms false
set_option pp.deepTerms.threshold 6
set_option maxRecDepth 100000
set_option maxHeartbeats 8000000
namespace Sf
open PySem PySem.Spec PyProof.Rows L2

/-! ### least sums with their numbers -/
abbrev CN := Int × Nat
def cad (x y : CN) : CN := if x.1 < y.1 then x else if y.1 < x.1 then y else (x.1, x.2 + y.2)
def cmu (x y : CN) : CN := (x.1 + y.1, x.2 * y.2)
theorem cad_lt {x y : CN} (h : x.1 < y.1) : cad x y = x := by unfold cad; rw [if_pos h]
theorem cad_gt {x y : CN} (h : y.1 < x.1) : cad x y = y := by unfold cad; rw [if_neg (by omega), if_pos h]
theorem cad_eq {x y : CN} (h : x.1 = y.1) : cad x y = (x.1, x.2 + y.2) := by unfold cad; rw [if_neg (by omega), if_neg (by omega)]
theorem cad_comm (x y : CN) : cad x y = cad y x := by
  rcases Int.lt_trichotomy x.1 y.1 with h | h | h
  · rw [cad_lt h, cad_gt h]
  · rw [cad_eq h, cad_eq h.symm, h, Nat.add_comm]
  · rw [cad_gt h, cad_lt h]
theorem cad_assoc (x y z : CN) : cad (cad x y) z = cad x (cad y z) := by
  rcases Int.lt_trichotomy x.1 y.1 with h | h | h
  · rw [cad_lt h]
    rcases Int.lt_trichotomy y.1 z.1 with g | g | g
    · rw [cad_lt g, cad_lt h, cad_lt (by omega)]
    · rw [cad_eq g, cad_lt (y := (y.1, y.2 + z.2)) h, cad_lt (by omega)]
    · rw [cad_gt g]
  · rw [cad_eq h]
    rcases Int.lt_trichotomy y.1 z.1 with g | g | g
    · rw [cad_lt g, cad_lt (x := (x.1, x.2 + y.2)) (by show x.1 < z.1; omega), cad_eq h]
    · rw [cad_eq g, cad_eq (x := (x.1, x.2 + y.2)) (by show x.1 = z.1; omega), cad_eq (y := (y.1, y.2 + z.2)) h, Nat.add_assoc]
    · rw [cad_gt g, cad_gt (x := (x.1, x.2 + y.2)) (by show z.1 < x.1; omega), cad_gt (by omega)]
  · rw [cad_gt h]
    rcases Int.lt_trichotomy y.1 z.1 with g | g | g
    · rw [cad_lt g, cad_gt h]
    · rw [cad_eq g, cad_gt (y := (y.1, y.2 + z.2)) h]
    · rw [cad_gt g, cad_gt (by omega)]
theorem cmu_comm (x y : CN) : cmu x y = cmu y x := by unfold cmu; rw [Int.add_comm, Nat.mul_comm]
theorem cmu_assoc (x y z : CN) : cmu (cmu x y) z = cmu x (cmu y z) := by unfold cmu; rw [Int.add_assoc, Nat.mul_assoc]
theorem cmu_cad (x y z : CN) : cmu x (cad y z) = cad (cmu x y) (cmu x z) := by
  rcases Int.lt_trichotomy y.1 z.1 with h | h | h
  · rw [cad_lt h, cad_lt (by show x.1 + y.1 < x.1 + z.1; omega)]
  · rw [cad_eq h, cad_eq (by show x.1 + y.1 = x.1 + z.1; omega)]; unfold cmu; rw [Nat.mul_add]
  · rw [cad_gt h, cad_gt (by show x.1 + z.1 < x.1 + y.1; omega)]
theorem cad_cmu (x y z : CN) : cmu (cad y z) x = cad (cmu y x) (cmu z x) := by rw [cmu_comm, cmu_cad, cmu_comm x y, cmu_comm x z]
/-- the sum of f 0 .. f n -/
def csm (f : Nat → CN) : Nat → CN
  | 0 => f 0
  | n + 1 => cad (csm f n) (f (n + 1))
theorem csm_congr {f g : Nat → CN} : ∀ {n : Nat}, (∀ i, i ≤ n → f i = g i) → csm f n = csm g n
  | 0, h => h 0 (Nat.le_refl _)
  | n + 1, h => by show cad _ _ = cad _ _; rw [csm_congr fun i hi => h i (by omega), h (n + 1) (Nat.le_refl _)]
theorem csm_cad (f g : Nat → CN) : ∀ n, csm (fun i => cad (f i) (g i)) n = cad (csm f n) (csm g n)
  | 0 => rfl
  | n + 1 => by
    show cad _ _ = cad (cad _ _) (cad _ _)
    rw [csm_cad f g n, cad_assoc, cad_assoc, ← cad_assoc (csm g n), cad_comm (csm g n) (f (n + 1)), cad_assoc]
theorem csm_mul (x : CN) (f : Nat → CN) : ∀ n, csm (fun i => cmu x (f i)) n = cmu x (csm f n)
  | 0 => rfl
  | n + 1 => by show cad _ _ = cmu x (cad _ _); rw [csm_mul x f n, cmu_cad]
theorem csm_mulr (x : CN) (f : Nat → CN) (n : Nat) : csm (fun i => cmu (f i) x) n = cmu (csm f n) x := by
  rw [cmu_comm, ← csm_mul]; exact csm_congr fun i _ => cmu_comm _ _
theorem csm_swap (f : Nat → Nat → CN) (m : Nat) : ∀ n, csm (fun i => csm (fun j => f i j) m) n = csm (fun j => csm (fun i => f i j) n) m
  | 0 => rfl
  | n + 1 => by
    show cad _ _ = _
    rw [csm_swap f m n, ← csm_cad]
    rfl
/-- joined tables of size n + 1 -/
def cjn (n : Nat) (A B : Nat → Nat → CN) (s t : Nat) : CN := csm (fun u => cmu (A s u) (B u t)) n
theorem cjn_assoc (n : Nat) (A B D : Nat → Nat → CN) (s t : Nat) : cjn n (cjn n A B) D s t = cjn n A (cjn n B D) s t := by
  unfold cjn
  have h1 : ∀ u, cmu (csm (fun v => cmu (A s v) (B v u)) n) (D u t) = csm (fun v => cmu (A s v) (cmu (B v u) (D u t))) n := fun u => by
    rw [← csm_mulr]; exact csm_congr fun i _ => cmu_assoc _ _ _
  have h2 : ∀ v, cmu (A s v) (csm (fun u => cmu (B v u) (D u t)) n) = csm (fun u => cmu (A s v) (cmu (B v u) (D u t))) n := fun v => (csm_mul _ _ _).symm
  rw [csm_congr fun i _ => h1 i, csm_congr fun i _ => h2 i, csm_swap]
/-! by a modulus -/
def CEq (m : Nat) (x y : CN) : Prop := x.1 = y.1 ∧ x.2 % m = y.2 % m
theorem CEq.refl (m : Nat) (x : CN) : CEq m x x := ⟨rfl, rfl⟩
theorem CEq.symm {m : Nat} {x y : CN} (h : CEq m x y) : CEq m y x := ⟨h.1.symm, h.2.symm⟩
theorem CEq.trans {m : Nat} {x y z : CN} (h : CEq m x y) (g : CEq m y z) : CEq m x z := ⟨h.1.trans g.1, h.2.trans g.2⟩
theorem CEq.cad {m : Nat} {x y x' y' : CN} (h : CEq m x x') (g : CEq m y y') : CEq m (cad x y) (cad x' y') := by
  obtain ⟨h1, h2⟩ := h
  obtain ⟨g1, g2⟩ := g
  rcases Int.lt_trichotomy x.1 y.1 with l | l | l
  · rw [cad_lt l, cad_lt (by omega)]; exact ⟨h1, h2⟩
  · rw [cad_eq l, cad_eq (by omega)]; exact ⟨h1, by show (x.2 + y.2) % m = (x'.2 + y'.2) % m; rw [Nat.add_mod, h2, g2, ← Nat.add_mod]⟩
  · rw [cad_gt l, cad_gt (by omega)]; exact ⟨g1, g2⟩
theorem CEq.cmu {m : Nat} {x y x' y' : CN} (h : CEq m x x') (g : CEq m y y') : CEq m (cmu x y) (cmu x' y') :=
  ⟨by show x.1 + y.1 = x'.1 + y'.1; rw [h.1, g.1], by show (x.2 * y.2) % m = (x'.2 * y'.2) % m; rw [Nat.mul_mod, h.2, g.2, ← Nat.mul_mod]⟩
theorem CEq.csm {m : Nat} {f g : Nat → CN} : ∀ {n : Nat}, (∀ i, i ≤ n → CEq m (f i) (g i)) → CEq m (csm f n) (csm g n)
  | 0, h => h 0 (Nat.le_refl _)
  | n + 1, h => CEq.cad (CEq.csm fun i hi => h i (by omega)) (h (n + 1) (Nat.le_refl _))
def cmd (m : Nat) (x : CN) : CN := (x.1, x.2 % m)
theorem cmd_eq (m : Nat) (x : CN) : CEq m (cmd m x) x := ⟨rfl, Nat.mod_mod _ _⟩
theorem CEq.red {m : Nat} {x y : CN} (h : CEq m x y) : cmd m x = cmd m y := by unfold cmd; rw [h.1, h.2]
/-- the least of all, and where it is met -/
theorem csm_le (f : Nat → CN) : ∀ n i, i ≤ n → (csm f n).1 ≤ (f i).1
  | 0, i, h => by rw [Nat.le_zero.mp h]; exact Int.le_refl _
  | n + 1, i, h => by
    show (cad _ _).1 ≤ _
    have ih := csm_le f n
    by_cases e : i = n + 1
    · subst e
      rcases Int.lt_trichotomy (csm f n).1 (f (n + 1)).1 with l | l | l
      · rw [cad_lt l]; omega
      · rw [cad_eq l]; show (csm f n).1 ≤ _; omega
      · rw [cad_gt l]; omega
    · have := ih i (by omega)
      rcases Int.lt_trichotomy (csm f n).1 (f (n + 1)).1 with l | l | l
      · rw [cad_lt l]; omega
      · rw [cad_eq l]; show (csm f n).1 ≤ _; omega
      · rw [cad_gt l]; omega
theorem csm_at (f : Nat → CN) : ∀ n, ∃ i, i ≤ n ∧ (f i).1 = (csm f n).1
  | 0 => ⟨0, Nat.le_refl _, rfl⟩
  | n + 1 => by
    obtain ⟨i, hi, e⟩ := csm_at f n
    show ∃ i, i ≤ n + 1 ∧ (f i).1 = (cad _ _).1
    rcases Int.lt_trichotomy (csm f n).1 (f (n + 1)).1 with l | l | l
    · rw [cad_lt l]; exact ⟨i, by omega, e⟩
    · rw [cad_eq l]; exact ⟨i, by omega, e⟩
    · rw [cad_gt l]; exact ⟨n + 1, Nat.le_refl _, rfl⟩
/-- the numbers of those with the sum c, in sum -/
def cnum (f : Nat → CN) (c : Int) : Nat → Nat
  | 0 => 0
  | n + 1 => cnum f c n + if (f n).1 = c then (f n).2 else 0
theorem cnum_none {f : Nat → CN} {c : Int} : ∀ {n : Nat}, (∀ i, i < n → (f i).1 ≠ c) → cnum f c n = 0
  | 0, _ => rfl
  | n + 1, h => by show cnum f c n + _ = 0; rw [cnum_none fun i hi => h i (by omega), if_neg (h n (by omega))]
theorem csm_num (f : Nat → CN) : ∀ n, (csm f n).2 = cnum f (csm f n).1 (n + 1)
  | 0 => by show (f 0).2 = 0 + if (f 0).1 = (f 0).1 then (f 0).2 else 0; rw [if_pos rfl, Nat.zero_add]
  | n + 1 => by
    have ih := csm_num f n
    have hl := csm_le f n
    show (cad (csm f n) (f (n + 1))).2 = cnum f (cad (csm f n) (f (n + 1))).1 (n + 1) + if (f (n + 1)).1 = (cad (csm f n) (f (n + 1))).1 then (f (n + 1)).2 else 0
    rcases Int.lt_trichotomy (csm f n).1 (f (n + 1)).1 with l | l | l
    · rw [cad_lt l, if_neg (by omega), ih]; rfl
    · rw [cad_eq l]
      show (csm f n).2 + (f (n + 1)).2 = cnum f (csm f n).1 (n + 1) + if (f (n + 1)).1 = (csm f n).1 then (f (n + 1)).2 else 0
      rw [if_pos l.symm, ih]
    · rw [cad_gt l, if_pos rfl, cnum_none fun i hi => by have := hl i (by omega); omega, Nat.zero_add]
/-! powers of a table -/
/-- a table to the power k + 1 -/
def cpw (n : Nat) (A : Nat → Nat → CN) : Nat → Nat → Nat → CN
  | 0 => A
  | k + 1 => cjn n (cpw n A k) A
theorem cjn_congr {n : Nat} {A B A' B' : Nat → Nat → CN} {s t : Nat} (h1 : ∀ u, u ≤ n → A s u = A' s u) (h2 : ∀ u, u ≤ n → B u t = B' u t) : cjn n A B s t = cjn n A' B' s t :=
  csm_congr fun i hi => by rw [h1 i hi, h2 i hi]
theorem CEq.cjn {m n : Nat} {A B A' B' : Nat → Nat → CN} {s t : Nat} (h1 : ∀ u, u ≤ n → CEq m (A s u) (A' s u)) (h2 : ∀ u, u ≤ n → CEq m (B u t) (B' u t)) : CEq m (cjn n A B s t) (cjn n A' B' s t) :=
  CEq.csm fun i hi => (h1 i hi).cmu (h2 i hi)
theorem cpw_add (n : Nat) (A : Nat → Nat → CN) (j : Nat) : ∀ k s t, cjn n (cpw n A j) (cpw n A k) s t = cpw n A (j + k + 1) s t
  | 0, s, t => rfl
  | k + 1, s, t => by
    show cjn n (cpw n A j) (cjn n (cpw n A k) A) s t = cjn n (cpw n A (j + k + 1)) A s t
    rw [← cjn_assoc]
    exact cjn_congr (fun u _ => cpw_add n A j k s u) fun u _ => rfl

/-! ### defs by name -/
structure Has (P : Program) (w : World) (K : PySem.W.Frag) (mg : Str → Option Value) (base : Heap) (CX : CXT) (k : Nat) (x : Str) (ps : List Str) (sp : Sp) : Prop where
  ex : ∃ f fd, FnOk P w K mg base CX k f fd ps sp ∧ mg x = some (.ref f) ∧ PySem.W.keepIn K (.ref f) = true ∧ Binds K fd ps []
section
variable {P : Program} {w : World} {K : PySem.W.Frag} {mg : Str → Option Value} {base : Heap} {x qual : Str} {ps N : List Str} {sp : Sp} {k : Nat}
theorem Has.mk' {st : Stmt} {f : Addr} {fd : FuncData} (F : Fun K x qual st f fd) (gf : mg x = some (.ref f)) (b : Binds K fd ps []) (S : FnScope N ps (defScope st)) (len : ∀ vs H Q E, sp vs H Q E → vs.length = ps.length)
    (hbody : ∀ (cdv : Value) (A : Around) (outer : List Env) (s : Shared) (H : Hp) (vs : List V) (Q : VK) (E : XK), Room k (A.deeper (envOfC qual (defScope st) s.heap.objs.size f cdv)) → sp vs H Q E →
      ∃ t, PSs (cxOf CX0 P w K mg base N qual (defScope st) f cdv A outer s H E).nox (defBody st) t ∧ t { nx := fun _ H' => Q .non H', rt := Q } (start N vs) H) : Has P w K mg base CX0 (k + 1) x ps sp :=
  ⟨f, fd, F.ok S len hbody, gf, F.kp, b⟩
end
section
variable {X : Cx} {k : Nat} {ps : List Str} {sp : Sp} {x : Str} {p pos : Pos} {e : Expr} {es : List Expr} {t : TA}
theorem pe_fn (h : Has X.prog X.w X.K X.mg X.base CX0 k x ps sp) (hr : Room k X.A) (hg : Gl X x) (ha : PA X (e :: es) t) (hdb : (x == ("__debug__" : Str)) = false := by decide) (he : starEach (e :: es) X.env = (false, eval e X.env) :: starEach es X.env := by rfl) (hpl : (backTo pos (starEach es X.env)).any (·.1) = false := by rfl) :
    PE X (.Call (.Name x p) (e :: es) [] pos) (tCall sp [] E0 t) := by
  obtain ⟨f, fd, F, gf, kp, b⟩ := h.ex
  exact pe_call F hr hg gf kp b .nil pass0 ha hdb he hpl
theorem pe_fn0 (h : Has X.prog X.w X.K X.mg X.base CX0 k x ps sp) (hr : Room k X.A) (hg : Gl X x) (hdb : (x == ("__debug__" : Str)) = false := by decide) :
    PE X (.Call (.Name x p) [] [] pos) (tCall sp [] E0 tNil) := by
  obtain ⟨f, fd, F, gf, kp, b⟩ := h.ex
  exact pe_call0 F hr hg gf kp b .nil pass0 hdb
end
/-! ### lists whose object is known to the sign; the sum of two -/
def LsE (K : PySem.W.Frag) (H : Hp) (a : Addr) (xs : List V) : Prop :=
  Rd H a (.lst xs) ∨ ∃ (its : List Value) (n : Nat), K.lookup a = some { cls := .type "list", data := .seq its.toArray n } ∧ Vals xs its ∧ xs.length ≤ sizeLine
theorem LsE.sq {K : PySem.W.Frag} {H : Hp} {a : Addr} {xs : List V} (h : LsE K H a xs) : SqL K H a xs := by
  rcases h with h | ⟨its, n, h1, h2, h3⟩
  · exact .inl h
  · exact .inr ⟨_, its.toArray, n, h1, rfl, rfl, rfl, by rw [List.size_toArray, ← h2.length]; exact h3, by simpa using h2⟩
theorem LsE.of {K : PySem.W.Frag} {H : Hp} {a : Addr} {xs : List V} (h : H a = some (.lst xs)) : LsE K H a xs := .inl (.inl h)
theorem LsE.same {K : PySem.W.Frag} {H H' : Hp} {a : Addr} {xs : List V} (e : Same H H') (h : LsE K H a xs) : LsE K H' a xs := by
  rcases h with (h | ⟨o, h⟩) | h
  · exact .inl (.inl (e _ _ h))
  · exact .inl (.inr ⟨o, e _ _ h⟩)
  · exact .inr h
section
variable {X : Cx}
theorem LsE.obj {pins : List (Addr × Obj)} {σ : L2.St} {H : Hp} {s : Shared} {a : Addr} {xs : List V} (I : Inv X pins σ H s) (h : LsE X.K H a xs) :
    ∃ (its : List Value) (n : Nat), Vals xs its ∧ s.heap.get? a = some { cls := .type "list", data := .seq its.toArray n } := by
  rcases h with h | ⟨its, n, h1, h2, _⟩
  · obtain ⟨_, its, n, r, e⟩ := h.ok I.hok
    exact ⟨its, n, r, e⟩
  · exact ⟨its, n, h2, I.kIn a _ h1⟩
def rCatE (K : PySem.W.Frag) : R2 := fun x y H Q => ∃ l b xs zs, x = .ref l ∧ y = .ref b ∧ LsE K H l xs ∧ LsE K H b zs ∧ xs.length + zs.length ≤ sizeLine ∧ ∀ p, H p = none → Q (.ref p) (upd H p (.lst (xs ++ zs)))
theorem op_catE : OpR X (binaryOp .Add) (rCatE X.K) := by
  intro pins s σ H x y v u Q I rx ry h
  obtain ⟨l, b, xs, zs, rfl, rfl, hl, hb, hz, q⟩ := h
  cases rx
  cases ry
  obtain ⟨ix, n, rl, el⟩ := hl.obj I
  obtain ⟨iz, m, rb, eb⟩ := hb.obj I
  refine PySem.P.add_list el eb ?_ (by simp only [List.size_toArray, ← rl.length, ← rb.length]; exact hz)
  have join : ix.toArray ++ iz.toArray = (ix ++ iz).toArray := by simp
  rw [join]
  exact ⟨.ref s.heap.objs.size, _, I.lnew (t' := s.toks) (rl.append rb) (by simpa using hz), rfl, q _ I.fresh⟩
end
/-! ### tests -/
theorem ifd {c A B : Prop} [Decidable c] (h1 : c → A) (h2 : ¬ c → B) : if decide c = true then A else B := by
  by_cases h : c
  · simp only [h, decide_true, if_true]; exact h1 h
  · simp only [h, decide_false, Bool.false_eq_true, if_false]; exact h2 h
theorem ifnd {c A B : Prop} [Decidable c] (h1 : ¬ c → A) (h2 : c → B) : if (!decide c) = true then A else B := by
  by_cases h : c
  · simp only [h, decide_true, Bool.not_true, Bool.false_eq_true, if_false]; exact h2 h
  · simp only [h, decide_false, Bool.not_false, if_true]; exact h1 h
theorem ifb {b : Bool} {A B : Prop} (h1 : b = true → A) (h2 : b = false → B) : if b = true then A else B := by
  cases b with
  | true => exact h1 rfl
  | false => exact h2 rfl
theorem ifT {b : Bool} {A B : Prop} (hb : b = true) (h : A) : if b = true then A else B := by rw [if_pos hb]; exact h
theorem ifF {b : Bool} {A B : Prop} (hb : b = false) (h : B) : if b = true then A else B := by rw [hb]; exact h
theorem int_eq {i j : Int} : (V.int i = V.int j) = (i = j) := by simp
theorem same_upd {H : Hp} {p : Addr} {o : HO} (h : H p = none) : Same H (upd H p o) := fun b x e => by
  rw [upd_ne (ne_of_none e h)]
  exact e
/-- a place that is free -/
def New (H : Hp) (p : Addr) : Prop := H p = none
theorem w_new {H : Hp} {R : Addr → Prop} (h : ∀ p, New H p → R p) : ∀ p, H p = none → R p := h
theorem ne_new {H : Hp} {a b : Addr} {o : HO} (h : H a = some o) (n : New H b) : a ≠ b := ne_of_none h n
/-- one more object over what was tracked at H -/
theorem _root_.L2.Same.new {H H' : Hp} {p : Addr} {o : HO} (e : Same H H') (h : New H' p) : Same H (upd H' p o) := e.trans (same_upd h)
theorem _root_.L2.Same.get {H H' : Hp} {p : Addr} {o : HO} (e : Same H H') (h : H p = some o) : H' p = some o := e p o h
theorem New.of {H H' : Hp} {p : Addr} (n : New H' p) (e : Same H H') : New H p := e.free n
/-- an object that H does not track is changed -/
theorem _root_.L2.Same.mut {H H' : Hp} {p : Addr} {o : HO} (e : Same H H') (h : New H p) : Same H (upd H' p o) := fun b x hb => by
  rw [upd_ne (ne_of_none hb h)]
  exact e b x hb
/-! ### isinstance of ints and bools -/
theorem kb_ii : kitB "int" "int" = some true := by decide +kernel
theorem kb_ib : kitB "int" "bool" = some false := by decide +kernel
theorem kb_bb : kitB "bool" "bool" = some true := by decide +kernel
theorem kb_bi : kitB "bool" "int" = some true := by decide +kernel
theorem kb_ll : kitB "list" "list" = some true := by decide +kernel
theorem kb_tt : kitB "tuple" "tuple" = some true := by decide +kernel
theorem kb_ni : kitB "NoneType" "int" = some false := by decide +kernel
theorem kb_nb : kitB "NoneType" "bool" = some false := by decide +kernel
theorem kb_tl : kitB "tuple" "list" = some false := by decide +kernel
theorem kb_lt : kitB "list" "tuple" = some false := by decide +kernel
/-! ### the law's end, the script's list known to the sign, its bits told -/
theorem walk_ofE {l : PySem.W.OpenLaw} {n k : Nat} {q : Program} {loose : List Str} {XP : (Str → Option Value) → Heap → Prop} {YP : World → Heap → Prop} {d : DefRec} {K : Params → PySem.W.Frag} {sp : PySem.W.Frag → Sp}
    (hn : l.most = some n) (hn2 : n ≤ sizeLine) (hdf : d.params.defaults = []) (hr : Room k callerA) (hY : ∀ (w : World) (h : Heap), YP w h → (K w.params).In h)
    (F : ∀ (w : World) (mg : Str → Option Value) (fa : Addr) (h : Heap), (K w.params).In h → h.Ns mainGlobals mg → mg d.name = some (.ref fa) →
      ∃ fd : FuncData, (∀ (s : Shared) (u : Value), BindsTo s fd ⟨[u], []⟩ [("script", u)]) ∧ ∀ base : Heap, (K w.params).In base → base.Ns mainGlobals mg → FnOk l.prog w (K w.params) mg base CX0 k fa fd ["script"] (sp (K w.params)))
    (hsp : ∀ (K : PySem.W.Frag) (H : Hp) (a : Addr) (ns : List Int), ns.length ≤ n → (∀ z ∈ ns, Builtin.Int.intBits z ≤ 1048576) → LsE K H a (ns.map V.int) → sp K [.ref a] H (fun v _ => v = .bl true) fun _ _ _ => False) :
    PySem.W.WalkO q loose XP YP l.row.toRowW d [] (fun f vs => PySem.call f vs) := by
  refine Att.attach_callB hn hdf fun w s₀ s₁ mg mb fa o pm cd doc a vs ns G Y ho hd hcd hmg hobj hints hlen hbits hg => ?_
  obtain ⟨fd, hb, hF⟩ := F w mg fa _ (hY w _ Y) G.T.g hmg
  refine law_call (hY w _ Y) G.T.g G.T.b G.T.builtins G.T.nolimit hg hobj hints (Nat.le_trans hlen hn2) hr hF hb (fun H _ hS => hsp _ H a ns hlen hbits ?_) fun _ _ _ h => h
  rcases hS with h | ⟨ob, its, m, hk, h1, h2, h3, h4, h5⟩
  · exact .inl h
  · have e := (hY w _ Y) a ob hk
    rw [hobj] at e
    cases e
    cases h3
    exact .inr ⟨vs, _, hk, by simpa using h5, by rw [List.length_map]; exact Nat.le_trans hlen hn2⟩
/-! ### bounds of operators -/
theorem cdivw_small {i j : Int} (h : 0 < j) (h2 : j < 2 ^ 200) : CDivW i j := wide_div (b := 200) h (by omega) (by decide) (by decide)
theorem nab_lt {i : Int} {a : Nat} (h1 : -(2 ^ a) < i) (h2 : i < 2 ^ a) : i.natAbs < 2 ^ a := by
  have e : ((2 ^ a : Nat) : Int) = (2 : Int) ^ a := by simp
  omega
theorem cmulx_small {i j : Int} (h1 : -(2 ^ 200) < i) (h2 : i < 2 ^ 200) (h3 : -(2 ^ 200) < j) (h4 : j < 2 ^ 200) : CMulX i j := mulx_ok (nab_lt h1 h2) (nab_lt h3 h4) (by decide)
theorem cshl_one {j : Int} (h : 0 ≤ j) (h2 : j ≤ 100000) : CShl 1 j := by
  have e : ((j.toNat : Nat) : Int) = j := Int.toNat_of_nonneg h
  rw [← e]
  exact shl_ok (n := 1) (by decide) (by omega)
theorem cshl_small {i j : Int} (h0 : -(2 ^ 200) < i) (h1 : i < 2 ^ 200) (h : 0 ≤ j) (h2 : j ≤ 100000) : CShl i j := by
  have e : ((j.toNat : Nat) : Int) = j := Int.toNat_of_nonneg h
  rw [← e]
  exact shl_ok (n := 200) (nab_lt h0 h1) (by omega)
theorem szle {α : Type} {xs : List α} (h : Nat.ble xs.length 1000 = true) : xs.length ≤ sizeLine := Nat.le_trans (Nat.le_of_ble_eq_true h) (by decide)
theorem szlt {α : Type} {xs : List α} (h : xs.length < 1000000) : xs.length < sizeLine := Nat.lt_of_lt_of_le h (by decide)
theorem atI_get {α : Type} {xs : List α} {i : Int} {j : Nat} (e : i = j) (h : j < xs.length) : atI xs i = some xs[j] := by
  subst e
  exact atI_nat (List.getElem?_eq_getElem h)
theorem atI_map {α β : Type} {f : α → β} {xs : List α} {i : Int} {j : Nat} (e : i = j) (h : j < xs.length) : atI (xs.map f) i = some (f xs[j]) := by
  subst e
  exact atI_nat (by rw [List.getElem?_map, List.getElem?_eq_getElem h]; rfl)
/-! ### the readings, one at a time -/
section
variable {σ : L2.St} {H : Hp} {Q : VK} {QT : Bool → Hp → Prop} {QA : List V → Hp → Prop} {D : Ends} {v x y z : V} {ta tb tc te tv : TE} {t u c : TT} {ts us : TS} {tl tr : TA} {r : R2} {g : TG} {gs : TGs} {i j : Nat} {m n : Int} {K : PySem.W.Frag} {a p q C dx : Addr} {f : Str} {xs ys : List V} {fs : List (Str × V)}
theorem w_seq (h : ts { D with nx := us D } σ H) : tSeq ts us D σ H := h
theorem w_next (h : D.nx σ H) : tNext D σ H := h
theorem w_var (h : ∃ v, σ[i]? = some (some v) ∧ Q v H) : tVar i σ H Q := h
theorem w_c (h : Q v H) : tC v σ H Q := h
theorem w_op (h : ta σ H fun x H1 => tb σ H1 fun y H2 => r x y H2 Q) : tOp r ta tb σ H Q := h
theorem w_un {r : V → Hp → VK → Prop} (h : ta σ H fun x H1 => r x H1 Q) : tUn r ta σ H Q := h
theorem w_rI0 {g : Int → Int → V} (h : Q (g m n) H) : rI0 g (.int m) (.int n) H Q := ⟨m, n, rfl, rfl, h⟩
theorem w_mod (h0 : 0 < n) (h : Q (.int (m % n)) H) : rI (fun _ j => 0 < j) (fun i j => .int (i % j)) (.int m) (.int n) H Q := ⟨m, n, rfl, rfl, h0, h⟩
theorem w_div (h0 : 0 < n) (h1 : n < 2 ^ 200) (h : Q (.int (m / n)) H) : rI CDivW (fun i j => .int (i / j)) (.int m) (.int n) H Q := ⟨m, n, rfl, rfl, cdivw_small h0 h1, h⟩
theorem w_shr (h0 : 0 ≤ n) (h : Q (.int (m / 2 ^ n.toNat)) H) : rI (fun _ j => 0 ≤ j) (fun i j => .int (i / 2 ^ j.toNat)) (.int m) (.int n) H Q := ⟨m, n, rfl, rfl, h0, h⟩
theorem w_mul (h1 : -(2 ^ 200) < m) (h2 : m < 2 ^ 200) (h3 : -(2 ^ 200) < n) (h4 : n < 2 ^ 200) (h : Q (.int (m * n)) H) : rI CMulX (fun i j => .int (i * j)) (.int m) (.int n) H Q := ⟨m, n, rfl, rfl, cmulx_small h1 h2 h3 h4, h⟩
theorem w_shl1 (h1 : 0 ≤ n) (h2 : n ≤ 100000) (h : Q (.int (1 * 2 ^ n.toNat)) H) : rI CShl (fun i j => .int (i * 2 ^ j.toNat)) (.int 1) (.int n) H Q := ⟨1, n, rfl, rfl, cshl_one h1 h2, h⟩
theorem w_shl (h1 : -(2 ^ 200) < m) (h2 : m < 2 ^ 200) (h3 : 0 ≤ n) (h4 : n ≤ 100000) (h : Q (.int (m * 2 ^ n.toNat)) H) : rI CShl (fun i j => .int (i * 2 ^ j.toNat)) (.int m) (.int n) H Q := ⟨m, n, rfl, rfl, cshl_small h1 h2 h3 h4, h⟩
theorem w_pow (h0 : CPow m n) (h : Q (.int (m ^ n.toNat)) H) : rI CPow (fun i j => .int (i ^ j.toNat)) (.int m) (.int n) H Q := ⟨m, n, rfl, rfl, h0, h⟩
theorem w_rU {g : Int → V} (h : Q (g m) H) : rU g (.int m) H Q := ⟨m, rfl, h⟩
theorem dec_ii : decide (V.int m = V.int n) = decide (m = n) := by
  by_cases h : m = n
  · rw [h]; simp
  · simp [h]
theorem dec_bb {a b : Bool} : decide (V.bl a = V.bl b) = decide (a = b) := by cases a <;> cases b <;> decide
theorem dec_ss {a b : Str} : decide (V.str a = V.str b) = decide (a = b) := by
  by_cases h : a = b
  · rw [h]; simp
  · simp [h]
theorem w_eqI (h : Q (.bl (decide (m = n))) H) : rEq (.int m) (.int n) H Q := ⟨rfl, by rw [dec_ii]; exact h⟩
theorem w_eqB {a b : Bool} (h : Q (.bl (decide (a = b))) H) : rEq (.bl a) (.bl b) H Q := ⟨rfl, by rw [dec_bb]; exact h⟩
theorem w_eqS {a b : Str} (h : Q (.bl (decide (a = b))) H) : rEq (.str a) (.str b) H Q := ⟨rfl, by rw [dec_ss]; exact h⟩
theorem w_eqNI (h : Q (.bl false) H) : rEq .non (.int n) H Q := ⟨rfl, by rw [decide_eq_false (by simp)]; exact h⟩
theorem w_eqIN (h : Q (.bl false) H) : rEq (.int n) .non H Q := ⟨rfl, by rw [decide_eq_false (by simp)]; exact h⟩
theorem w_neI (h : Q (.bl (!decide (m = n))) H) : rNe (.int m) (.int n) H Q := ⟨rfl, by rw [dec_ii]; exact h⟩
theorem w_neB {a b : Bool} (h : Q (.bl (!decide (a = b))) H) : rNe (.bl a) (.bl b) H Q := ⟨rfl, by rw [dec_bb]; exact h⟩
theorem w_neS {a b : Str} (h : Q (.bl (!decide (a = b))) H) : rNe (.str a) (.str b) H Q := ⟨rfl, by rw [dec_ss]; exact h⟩
theorem w_ixL (hs : SqL K H p xs) (ha : atI xs m = some v) (h : Q v H) : rIxL K (.ref p) (.int m) H Q := ⟨p, xs, m, v, rfl, rfl, hs, ha, h⟩
theorem w_ixT (hs : SqT K H p xs) (ha : atI xs m = some v) (h : Q v H) : rIxT K (.ref p) (.int m) H Q := ⟨p, xs, m, v, rfl, rfl, hs, ha, h⟩
theorem w_ixl (hs : SqL K H p xs) (ha : atI xs m = some v) (h : Q v H) : rIx K (.ref p) (.int m) H Q := .inl ⟨p, xs, m, v, rfl, rfl, hs, ha, h⟩
theorem w_ixt (hs : SqT K H p xs) (ha : atI xs m = some v) (h : Q v H) : rIx K (.ref p) (.int m) H Q := .inr (.inl ⟨p, xs, m, v, rfl, rfl, hs, ha, h⟩)
theorem w_catE (h1 : LsE K H p xs) (h2 : LsE K H q ys) (hz : xs.length + ys.length ≤ sizeLine) (h : ∀ p, H p = none → Q (.ref p) (upd H p (.lst (xs ++ ys)))) : rCatE K (.ref p) (.ref q) H Q := ⟨p, q, xs, ys, rfl, rfl, h1, h2, hz, h⟩
theorem w_rep (h1 : H p = some (.lst xs)) (h2 : -(2 ^ 63) ≤ n) (h3 : n < 2 ^ 63) (h4 : xs.length * n.toNat ≤ sizeLine) (h : ∀ p, H p = none → Q (.ref p) (upd H p (.lst (List.replicate n.toNat xs).flatten))) : rRep (.ref p) (.int n) H Q := ⟨p, n, xs, rfl, rfl, h1, h2, h3, h4, h⟩
theorem w_test (h : te σ H fun x H' => ∃ k, x = .bl k ∧ QT k H') : tTest te σ H QT := h
theorem w_tB (h : te σ H fun x H' => ∃ k, x = .bl k ∧ QT k H') : tB te σ H QT := h
theorem w_bl {b : Bool} {R : Bool → Prop} (h : R b) : ∃ k, V.bl b = .bl k ∧ R k := ⟨b, rfl, h⟩
theorem w_and (h : t σ H fun c H1 => if c = true then u σ H1 QT else QT false H1) : tAnd t u σ H QT := h
theorem w_or (h : t σ H fun c H1 => if c = true then QT true H1 else u σ H1 QT) : tOr t u σ H QT := h
theorem w_not (h : t σ H fun c H1 => QT (!c) H1) : tNot t σ H QT := h
theorem w_andV (h : ta σ H fun x H1 => ∃ c, x = .bl c ∧ if c = true then tb σ H1 Q else Q (.bl false) H1) : tAndV ta tb σ H Q := h
theorem w_orV (h : ta σ H fun x H1 => ∃ c, x = .bl c ∧ if c = true then Q (.bl true) H1 else tb σ H1 Q) : tOrV ta tb σ H Q := h
theorem w_notV (h : ta σ H fun x H1 => ∃ c, x = .bl c ∧ Q (.bl (!c)) H1) : tNotV ta σ H Q := h
theorem w_ifE (h : t σ H fun c H1 => if c = true then ta σ H1 Q else tb σ H1 Q) : tIf t ta tb σ H Q := h
theorem w_asg (h : te σ H fun x H1 => g x σ H1 D.nx) : tAsg te g D σ H := h
theorem w_gn {R : L2.St → Hp → Prop} (h : R (σ.set i (some v)) H) : gName i v σ H R := h
theorem w_gt {R : L2.St → Hp → Prop} {k : Nat} (hs : SqT K H p xs) (hl : xs.length = k) (h : gs xs σ H R) : gTup K k gs (.ref p) σ H R := ⟨p, xs, rfl, hs, hl, h⟩
theorem w_gc {R : L2.St → Hp → Prop} (h : g v σ H fun σ' H' => gs xs σ' H' R) : gCons g gs (v :: xs) σ H R := ⟨v, xs, rfl, h⟩
theorem w_g0 {R : L2.St → Hp → Prop} (h : R σ H) : gNil [] σ H R := ⟨rfl, h⟩
theorem w_gs {R : L2.St → Hp → Prop} {tt : TSet} (h : ta σ H fun o H1 => tb σ H1 fun i H2 => tt o i v H2 fun H3 => R σ H3) : gSub ta tb tt v σ H R := h
theorem w_setL {R : Hp → Prop} (hp : H p = some (.lst xs)) (hj : ixN xs.length m = some j) (h : R (upd H p (.lst (xs.set j v)))) : rSetL (.ref p) (.int m) v H R := ⟨p, xs, m, j, rfl, rfl, hp, hj, h⟩
theorem w_drop (h : te σ H fun _ H1 => D.nx σ H1) : tDrop te D σ H := h
theorem w_ret (h : te σ H D.rt) : tRet te D σ H := h
theorem w_retN (h : D.rt .non H) : tRetN D σ H := h
theorem w_if (h : t σ H fun b H1 => if b = true then ts D σ H1 else us D σ H1) : tIfS t ts us D σ H := h
theorem w_break (h : D.bk σ H) : tBreak D σ H := h
theorem w_cont (h : D.ct σ H) : tCont D σ H := h
theorem w_aug {ti : TIp} (h : ∃ x, σ[i]? = some (some x) ∧ te σ H fun y H1 => ti x y H1 fun z H2 => D.nx (σ.set i (some z)) H2) : tAug i te ti D σ H := h
theorem w_ip {f : Int → Int → Int} (h : Q (.int (f m n)) H) : ipI f (.int m) (.int n) H Q := ⟨m, n, rfl, rfl, h⟩
theorem w_par (h : tl σ H fun vs H1 => ∃ v w, vs = [v, w] ∧ D.nx ((σ.set i (some v)).set j (some w)) H1) : tPar i j tl D σ H := h
theorem w_par2 {R : V → V → Prop} (h : R v x) : ∃ a b, [v, x] = [a, b] ∧ R a b := ⟨v, x, rfl, h⟩
theorem w_nil (h : QA [] H) : tNil σ H QA := h
theorem w_cons (h : ta σ H fun x H1 => tl σ H1 fun xs H2 => QA (x :: xs) H2) : tCons ta tl σ H QA := h
theorem w_call {sp : Sp} {E : XK} (h : tl σ H fun vs H1 => sp vs H1 Q E) : tCall sp [] E tl σ H Q := by
  unfold tCall
  simp only [List.append_nil]
  exact h
theorem w_cb {r : List V → Hp → VK → Prop} (h : tl σ H fun vs H1 => r vs H1 Q) : tCB r tl σ H Q := h
theorem w_tup (h : tl σ H fun xs H1 => xs.length ≤ sizeLine ∧ ∀ p, H1 p = none → Q (.ref p) (upd H1 p (.tup xs))) : tTup tl σ H Q := h
theorem w_lst (h : tl σ H fun xs H1 => xs.length ≤ sizeLine ∧ ∀ p, H1 p = none → Q (.ref p) (upd H1 p (.lst xs))) : tLst tl σ H Q := h
theorem w_sl {r : V → Option Int → Option Int → Hp → VK → Prop} {to tu : TO} (h : te σ H fun x H1 => to σ H1 fun l H2 => tu σ H2 fun u H3 => r x l u H3 Q) : tSl r te to tu σ H Q := h
theorem w_np {R : Option Int → Hp → Prop} (h : R none H) : tNoPart σ H R := h
theorem w_part {R : Option Int → Hp → Prop} (h : te σ H fun x H1 => ∃ i, x = .int i ∧ R (some i) H1) : tPart te σ H R := h
theorem w_partI {R : Int → Prop} (h : R m) : ∃ i, V.int m = .int i ∧ R i := ⟨m, rfl, h⟩
theorem w_slL {lo hi : Option Int} (hs : SqL K H p xs) (h : ∀ q, H q = none → Q (.ref q) (upd H q (.lst (cutV xs lo hi)))) : rSlL K (.ref p) lo hi H Q := ⟨p, xs, rfl, hs, h⟩
theorem w_bm {T : String} {r : V → List V → Hp → VK → Prop} (h : ta σ H fun x H1 => tyV K T x H1 ∧ tl σ H1 fun xs H2 => r x xs H2 Q) : tBM K T r ta tl σ H Q := h
theorem w_bm0 {T : String} {r : V → List V → Hp → VK → Prop} (h : ta σ H fun x H1 => tyV K T x H1 ∧ r x [] H1 Q) : tBM0 K T r ta σ H Q := h
theorem w_tyl {R : Prop} (hs : SqL K H p xs) (h : R) : tyV K "list" (.ref p) H ∧ R := ⟨.inl ⟨rfl, xs, hs⟩, h⟩
theorem w_app (hp : H p = some (.lst xs)) (hl : xs.length < sizeLine) (h : Q .non (upd H p (.lst (xs ++ [v])))) : rAppend (.ref p) [v] H Q := ⟨p, xs, v, rfl, rfl, hp, hl, h⟩
theorem w_rev (hp : H p = some (.lst xs)) (h : Q .non (upd H p (.lst xs.reverse))) : rReverse (.ref p) [] H Q := ⟨p, xs, rfl, rfl, hp, h⟩
theorem w_len {R : List V → Prop} (hs : SqL K H p xs) (h : R xs) : ∃ p' ys, [V.ref p] = [.ref p'] ∧ (SqL K H p' ys ∨ SqT K H p' ys) ∧ R ys := ⟨p, xs, rfl, .inl hs, h⟩
theorem w_lenT {R : List V → Prop} (hs : SqT K H p xs) (h : R xs) : ∃ p' ys, [V.ref p] = [.ref p'] ∧ (SqL K H p' ys ∨ SqT K H p' ys) ∧ R ys := ⟨p, xs, rfl, .inr hs, h⟩
theorem w_isi {s : String} {b : Bool} (hk : kitB "int" s = some b) (h : Q (.bl b) H) : rIsi K [.int m, .ty s] H Q := ⟨_, _, _, _, b, rfl, .ty _, .base (.int _), kit_ty hk, h⟩
theorem w_isb {k : Bool} {s : String} {b : Bool} (hk : kitB "bool" s = some b) (h : Q (.bl b) H) : rIsi K [.bl k, .ty s] H Q := ⟨_, _, _, _, b, rfl, .ty _, .base (.bl _), kit_ty hk, h⟩
theorem w_isn {s : String} {b : Bool} (hk : kitB "NoneType" s = some b) (h : Q (.bl b) H) : rIsi K [.non, .ty s] H Q := ⟨_, _, _, _, b, rfl, .ty _, .base .non, kit_ty hk, h⟩
theorem w_isl {s : String} {b : Bool} (hp : H p = some (.lst xs)) (hk : kitB "list" s = some b) (h : Q (.bl b) H) : rIsi K [.ref p, .ty s] H Q := ⟨_, _, _, _, b, rfl, .ty _, .base (.lst hp), kit_ty hk, h⟩
theorem w_ist {s : String} {b : Bool} (hp : H p = some (.tup xs)) (hk : kitB "tuple" s = some b) (h : Q (.bl b) H) : rIsi K [.ref p, .ty s] H Q := ⟨_, _, _, _, b, rfl, .ty _, .base (.tup hp), kit_ty hk, h⟩
theorem w_2i {R : Int → Int → Prop} (h : R m n) : ∃ i j, [V.int m, V.int n] = [.int i, .int j] ∧ R i j := ⟨m, n, rfl, h⟩
theorem w_1i {R : Int → Prop} (h : R m) : ∃ i, [V.int m] = [.int i] ∧ R i := ⟨m, rfl, h⟩
theorem w_int1 {R : Int → Prop} {S : Prop} (h : R m) : (∃ i, [V.int m] = [.int i] ∧ R i) ∨ S := .inl ⟨m, rfl, h⟩
theorem w_intb {b : Bool} {R : Bool → Prop} {S : Prop} (h : R b) : S ∨ ∃ k, [V.bl b] = [.bl k] ∧ R k := .inr ⟨b, rfl, h⟩
theorem w_isN {R : Prop} (h : R) : V.non = .non ∧ R := ⟨rfl, h⟩
theorem w_fld {v : V} {R : V → Prop} (hp : H p = some (.ins C dx fs)) (hc : Cls K C) (hn : NoAttr K C f) (hl : fs.lookup f = some v) (h : R v) : ∃ a C' dx' fs' v', V.ref p = .ref a ∧ H a = some (.ins C' dx' fs') ∧ Cls K C' ∧ NoAttr K C' f ∧ fs'.lookup f = some v' ∧ R v' := ⟨p, C, dx, fs, v, rfl, hp, hc, hn, hl, h⟩
theorem w_fl (h : ta σ H fun x H1 => ∃ a C dx fs v, x = .ref a ∧ H1 a = some (.ins C dx fs) ∧ Cls K C ∧ NoAttr K C f ∧ fs.lookup f = some v ∧ Q v H1) : tFld K ta f σ H Q := h
theorem w_for {wi : TI} {tu : TS} (h : wi σ H fun J H1 => ∃ W : Nat → Nat → L2.St → Hp → Prop, (∃ m, W 0 m σ H1) ∧ ∀ i m σ H, W i m σ H →
  (J.stop i H ∧ D.nx σ H) ∨ (J.go i H ∧ ∃ N : L2.St → Hp → Prop, (∀ σ' H', N σ' H' → ∃ m', m' < m ∧ W (i + 1) m' σ' H') ∧ ∀ x H', J.yld i H x H' → g x σ H' fun σ2 H2 => tu { D with nx := N, ct := N, bk := D.nx } σ2 H2)) : tFor wi g tu D σ H := h
theorem w_iL {R : It → Hp → Prop} (h : te σ H fun x H1 => ∃ a, x = .ref a ∧ (∃ xs, SqL K H1 a xs) ∧ R (Itl K a) H1) : iList K te σ H R := h
theorem w_iLq {R : Addr → Prop} (hs : SqL K H p xs) (h : R p) : ∃ a, V.ref p = .ref a ∧ (∃ xs, SqL K H a xs) ∧ R a := ⟨p, rfl, ⟨xs, hs⟩, h⟩
theorem w_iTu {R : It → Hp → Prop} (h : te σ H fun x H1 => ∃ a, x = .ref a ∧ (∃ xs, SqT K H1 a xs) ∧ R (Itt K a) H1) : iTup K te σ H R := h
theorem w_iTq {R : Addr → Prop} (hs : SqT K H p xs) (h : R p) : ∃ a, V.ref p = .ref a ∧ (∃ xs, SqT K H a xs) ∧ R a := ⟨p, rfl, ⟨xs, hs⟩, h⟩
theorem w_r1 {R : It → Hp → Prop} (h : tl σ H fun vs H1 => ∃ j : Int, vs = [.int j] ∧ -(2 ^ 62) ≤ j ∧ j < 2 ^ 62 ∧ R (Itr 0 j.toNat) H1) : iRng1 tl σ H R := h
theorem w_r1q {R : Int → Prop} (h1 : -(2 ^ 62) ≤ m) (h2 : m < 2 ^ 62) (h : R m) : ∃ j : Int, [V.int m] = [.int j] ∧ -(2 ^ 62) ≤ j ∧ j < 2 ^ 62 ∧ R j := ⟨m, rfl, h1, h2, h⟩
theorem w_r2 {R : It → Hp → Prop} (h : tl σ H fun vs H1 => ∃ i j : Int, vs = [.int i, .int j] ∧ (-(2 ^ 62) ≤ i ∧ i < 2 ^ 62 ∧ -(2 ^ 62) ≤ j ∧ j < 2 ^ 62) ∧ R (Itr i (j - i).toNat) H1) : iRng2 tl σ H R := h
theorem w_r2q {R : Int → Int → Prop} (h1 : -(2 ^ 62) ≤ m) (h2 : m < 2 ^ 62) (h3 : -(2 ^ 62) ≤ n) (h4 : n < 2 ^ 62) (h : R m n) : ∃ i j : Int, [V.int m, V.int n] = [.int i, .int j] ∧ (-(2 ^ 62) ≤ i ∧ i < 2 ^ 62 ∧ -(2 ^ 62) ≤ j ∧ j < 2 ^ 62) ∧ R i j := ⟨m, n, rfl, ⟨h1, h2, h3, h4⟩, h⟩
theorem w_len1 {R : Prop} (hl : Nat.ble xs.length 1000 = true) (h : R) : xs.length ≤ sizeLine ∧ R := ⟨szle hl, h⟩
end
theorem same_read {K : PySem.W.Frag} {H H' : Hp} {a : Addr} {xs : List V} (e : Same H H') (h : SqT K H a xs) : SqT K H' a xs := by
  rcases h with (h | ⟨o, h⟩) | h
  · exact .inl (.inl (e _ _ h))
  · exact .inl (.inr ⟨o, e _ _ h⟩)
  · exact .inr h
theorem w_iT {A B : Prop} (h : A) : if true = true then A else B := by rw [if_pos rfl]; exact h
theorem w_iF {A B : Prop} (h : B) : if false = true then A else B := by rw [if_neg Bool.false_ne_true]; exact h
theorem w_iNT {A B : Prop} (h : B) : if (!true) = true then A else B := by rw [Bool.not_true, if_neg Bool.false_ne_true]; exact h
theorem w_iNF {A B : Prop} (h : A) : if (!false) = true then A else B := by rw [Bool.not_false, if_pos rfl]; exact h
theorem w_iNN {A B : Prop} {b : Bool} (h : if b = true then A else B) : if (!!b) = true then A else B := by rw [Bool.not_not]; exact h

/-! ### data -/
mutual
theorem dpSame {K : PySem.W.Frag} {H H' : Hp} (e : Same H H') : ∀ (d : PyData) (v : V), Dp K H v d → Dp K H' v d
  | .none, _, h => by cases h; exact .non
  | .bool _, _, h => by cases h; exact .bl _
  | .int _, _, h => by cases h; exact .int _
  | .str _, _, h => by cases h; exact .str _
  | .list ds, _, h => by
    cases h with
    | lst hs ha => exact .lst (e.seq hs) (dpSameAll e ds _ ha)
  | .tuple ds, _, h => by
    cases h with
    | tup hs ha => exact .tup (same_read e hs) (dpSameAll e ds _ ha)
  | .dict _, _, h => by cases h
theorem dpSameAll {K : PySem.W.Frag} {H H' : Hp} (e : Same H H') : ∀ (ds : List PyData) (xs : List V), DpAll K H xs ds → DpAll K H' xs ds
  | [], _, h => by cases h; exact .nil
  | d :: ds, _, h => by
    cases h with
    | cons h1 h2 => exact .cons (dpSame e d _ h1) (dpSameAll e ds _ h2)
end
section
variable {K : PySem.W.Frag} {H H' : Hp} {xs ys : List V} {ds es : List PyData} {v : V} {d : PyData} {a : Addr}
theorem _root_.L2.Dp.same (e : Same H H') (h : Dp K H v d) : Dp K H' v d := dpSame e d v h
theorem _root_.L2.DpAll.same (e : Same H H') (h : DpAll K H xs ds) : DpAll K H' xs ds := dpSameAll e ds xs h
theorem dpaLen : ∀ {xs : List V} {ds : List PyData}, DpAll K H xs ds → xs.length = ds.length
  | _, _, .nil => rfl
  | _, _, .cons _ t => by rw [List.length_cons, List.length_cons, dpaLen t]
theorem dpaGet : ∀ {xs : List V} {ds : List PyData} {i : Nat} {d : PyData}, DpAll K H xs ds → ds[i]? = some d → ∃ v, xs[i]? = some v ∧ Dp K H v d
  | _, _, _, _, .nil, e => by simp at e
  | _, _, 0, _, .cons h _, e => by simp at e; subst e; exact ⟨_, rfl, h⟩
  | _, _, i + 1, _, .cons _ t, e => by
    obtain ⟨v, h1, h2⟩ := dpaGet (i := i) t (by simpa using e)
    exact ⟨v, by simpa using h1, h2⟩
theorem dpaApp : ∀ {xs ys : List V} {ds es : List PyData}, DpAll K H xs ds → DpAll K H ys es → DpAll K H (xs ++ ys) (ds ++ es)
  | _, _, _, _, .nil, h => h
  | _, _, _, _, .cons h t, s => .cons h (dpaApp t s)
theorem dpInts : ∀ ns : List Int, DpAll K H (ns.map V.int) (ns.map PyData.int)
  | [] => .nil
  | n :: r => .cons (.int n) (dpInts r)
theorem dpAll_ints : ∀ {ns : List Int} {xs : List V}, DpAll K H xs (ns.map PyData.int) → xs = ns.map V.int
  | [], _, h => by cases h; rfl
  | n :: r, _, h => by
    cases h with
    | cons h t => cases h; rw [dpAll_ints t]; rfl
theorem dpInt {i : Int} (h : Dp K H v (.int i)) : v = .int i := by cases h; rfl
theorem dpTup (h : Dp K H v (.tuple ds)) : ∃ a xs, v = .ref a ∧ SqT K H a xs ∧ DpAll K H xs ds := by cases h with | tup h1 h2 => exact ⟨_, _, rfl, h1, h2⟩
theorem dpLst (h : Dp K H v (.list ds)) : ∃ a xs, v = .ref a ∧ SqL K H a xs ∧ DpAll K H xs ds := by cases h with | lst h1 h2 => exact ⟨_, _, rfl, h1, h2⟩
theorem dpLstA (h : Dp K H (.ref a) (.list ds)) : ∃ xs, SqL K H a xs ∧ DpAll K H xs ds := by cases h with | lst h1 h2 => exact ⟨_, h1, h2⟩
theorem dpTupA (h : Dp K H (.ref a) (.tuple ds)) : ∃ xs, SqT K H a xs ∧ DpAll K H xs ds := by cases h with | tup h1 h2 => exact ⟨_, h1, h2⟩
end
/-- data that == serves: no dicts, no deeper than n -/
def Good (n : Nat) (d : PyData) : Prop := d.canLay0 = true ∧ d.depth ≤ n
theorem goodInt {n : Nat} {i : Int} : Good n (.int i) := ⟨rfl, Nat.zero_le _⟩
theorem goodBool {n : Nat} {b : Bool} : Good n (.bool b) := ⟨rfl, Nat.zero_le _⟩
theorem goodNone {n : Nat} : Good n .none := ⟨rfl, Nat.zero_le _⟩
theorem goodAll {n : Nat} : ∀ {ds : List PyData}, (∀ d ∈ ds, Good n d) → PyData.canLayAll0 ds = true ∧ PyData.depthAll ds ≤ n
  | [], _ => ⟨rfl, Nat.zero_le _⟩
  | d :: ds, h => by
    obtain ⟨h1, h2⟩ := h d List.mem_cons_self
    obtain ⟨h3, h4⟩ := goodAll fun e he => h e (List.mem_cons_of_mem _ he)
    exact ⟨by simp [PyData.canLayAll0, h1, h3], by simp only [PyData.depthAll]; omega⟩
theorem goodLst {n : Nat} {ds : List PyData} (h : ∀ d ∈ ds, Good n d) : Good (n + 1) (.list ds) := ⟨(goodAll h).1, Nat.succ_le_succ (goodAll h).2⟩
theorem goodTup {n : Nat} {ds : List PyData} (h : ∀ d ∈ ds, Good n d) : Good (n + 1) (.tuple ds) := ⟨(goodAll h).1, Nat.succ_le_succ (goodAll h).2⟩
theorem goodMap {α : Type} {n : Nat} {f : α → PyData} {xs : List α} (h : ∀ x, Good n (f x)) : ∀ d ∈ xs.map f, Good n d := by
  intro d hd
  obtain ⟨x, _, rfl⟩ := List.mem_map.mp hd
  exact h x
theorem Good.mono {n m : Nat} {d : PyData} (h : Good n d) (e : n ≤ m) : Good m d := ⟨h.1, Nat.le_trans h.2 e⟩
theorem Good.shaped {n : Nat} {d : PyData} (h : Good n d) (e : n ≤ 64) : SeqAt.shaped d = true := by
  unfold SeqAt.shaped
  rw [h.1, decide_eq_true (Nat.le_trans h.2 e)]
  rfl
theorem Good.eqv {n : Nat} {d : PyData} (h : Good n d) : PyData.eqv d d = true := SeqAt.eqv_refl d h.1
section
variable {K : PySem.W.Frag} {H : Hp} {x y : V} {d : PyData} {Q : VK} {n : Nat}
/-- two things of the same data are equal -/
theorem w_eqD (h1 : Dp K H x d) (h2 : Dp K H y d) (g : Good n d) (hn : n ≤ 64) (h : Q (.bl true) H) : rEqD K x y H Q := ⟨d, d, h1, h2, g.shaped hn, g.shaped hn, by rw [g.eqv]; exact h⟩
theorem w_neD (h1 : Dp K H x d) (h2 : Dp K H y d) (g : Good n d) (hn : n ≤ 64) (h : Q (.bl false) H) : rNeD K x y H Q := ⟨d, d, h1, h2, g.shaped hn, g.shaped hn, by rw [g.eqv]; exact h⟩
end
/-! ### xs[i] op= e -/
def rGetL (K : PySem.W.Frag) : V → V → Hp → VK → Prop := fun x y H Q => ∃ (p : Addr) (xs : List V) (j : Nat) (v : V), x = .ref p ∧ y = .int j ∧ SqL K H p xs ∧ xs[j]? = some v ∧ Q v H
theorem get_list {X : Cx} : PGet X (rGetL X.K) := by
  intro pins s σ H o i ov iv Q I ro ri h
  obtain ⟨p, xs, j, v, rfl, rfl, hq, he, q⟩ := h
  cases ro
  obtain ⟨t, rfl⟩ := ri
  obtain ⟨its, r, pl, hz⟩ := I.list hq
  obtain ⟨u, eu, ru⟩ := r.get he
  have hj : j < xs.length := (List.getElem?_eq_some_iff.mp he).1
  have hn := line63
  exact wpAny_getItem_list pl.isList (Int.natCast_nonneg j) (by omega) (by simpa using eu) ⟨v, H, I, ru, q⟩
theorem ps_augL {X : Cx} {o i e : Expr} {to ti te : TE} {tip : TIp} {op : Operator} {tpos pos : Pos} (ho : PE X o to) (hi : PE X i ti) (he : PE X e te) (hp : PIp X op tip)
    (ha : ∀ ov iv new, augStore i ov iv new = (do holding [new, ov, iv] (setItem ov iv new); release [new, ov, iv] []; pure .next) := by intros; rfl) : PS X (.AugAssign (.Subscript o i tpos) op e pos) (tAugS to ti te (rGetL X.K) tip rSetL) :=
  ps_augS ho hi get_list he hp set_list ha
section
variable {σ : L2.St} {H : Hp} {Q : VK} {D : Ends} {K : PySem.W.Frag} {p : Addr} {xs : List V} {v : V} {j : Nat}
theorem w_augS {to ti te : TE} {tget : V → V → Hp → VK → Prop} {tip : TIp} {tset : TSet} (h : to σ H fun o H1 => ti σ H1 fun i H2 => tget o i H2 fun x H3 => te σ H3 fun y H4 => tip x y H4 fun z H5 => tset o i z H5 fun H6 => D.nx σ H6) : tAugS to ti te tget tip tset D σ H := h
theorem w_getL (hs : SqL K H p xs) (he : xs[j]? = some v) (h : Q v H) : rGetL K (.ref p) (.int (j : Int)) H Q := ⟨p, xs, j, v, rfl, rfl, hs, he, h⟩
theorem ixN_nat {n j : Nat} (h : j < n) : ixN n (j : Int) = some j := by
  unfold ixN
  rw [if_pos (Int.natCast_nonneg j), if_pos (by omega)]
  simp
end
/-! ### range from nought -/
theorem for_r0 {m : Int} {n : Nat} {g : TG} {tb : TS} {D : Ends} {σ : L2.St} {H : Hp} (hm : m = n) (Pv : Nat → L2.St → Hp → Prop) (h0 : Pv 0 σ H)
    (hs : ∀ i σ H, i < n → Pv i σ H → g (.int (i : Nat)) σ H fun σ2 H2 => tb { D with nx := Pv (i + 1), ct := Pv (i + 1), bk := D.nx } σ2 H2) (hd : ∀ σ H, Pv n σ H → D.nx σ H) :
    ∃ W : Nat → Nat → L2.St → Hp → Prop, (∃ m, W 0 m σ H) ∧ ∀ i k σ H, W i k σ H →
      ((Itr 0 m.toNat).stop i H ∧ D.nx σ H) ∨ ((Itr 0 m.toNat).go i H ∧ ∃ N : L2.St → Hp → Prop, (∀ σ' H', N σ' H' → ∃ m', m' < k ∧ W (i + 1) m' σ' H') ∧ ∀ x H', (Itr 0 m.toNat).yld i H x H' → g x σ H' fun σ2 H2 => tb { D with nx := N, ct := N, bk := D.nx } σ2 H2) := by
  subst hm
  rw [Int.toNat_natCast]
  exact for_range (lo := 0) Pv h0 (fun i σ H hi hp => by rw [Int.zero_add]; exact hs i σ H hi hp) hd
/-! ### bits of numbers from nought on -/
theorem shr_nat (m k : Nat) : (m : Int) / 2 ^ (Int.toNat (k : Int)) = ((m >>> k : Nat) : Int) := by
  rw [Int.toNat_natCast, Nat.shiftRight_eq_div_pow]
  simp
theorem shl_nat (m k : Nat) : (m : Int) * 2 ^ (Int.toNat (k : Int)) = ((m <<< k : Nat) : Int) := by
  rw [Int.toNat_natCast, Nat.shiftLeft_eq]
  simp
theorem shl_one (k : Nat) : (1 : Int) * 2 ^ (Int.toNat (k : Int)) = ((2 ^ k : Nat) : Int) := by
  rw [Int.toNat_natCast, Int.one_mul]
  simp
theorem xor_nat (m n : Nat) : Builtin.bitXor (m : Int) (n : Int) = ((m ^^^ n : Nat) : Int) := by
  have h := Bits.bitXor_pp (x := (m : Int)) (y := (n : Int)) (Int.natCast_nonneg m) (Int.natCast_nonneg n)
  rw [Int.toNat_natCast, Int.toNat_natCast] at h
  exact h
theorem or_nat (m n : Nat) : Builtin.bitOr (m : Int) (n : Int) = ((m ||| n : Nat) : Int) := by
  have h := Bits.bitOr_pp (x := (m : Int)) (y := (n : Int)) (Int.natCast_nonneg m) (Int.natCast_nonneg n)
  rw [Int.toNat_natCast, Int.toNat_natCast] at h
  exact h
theorem and_one (m : Int) (h : 0 ≤ m) : Builtin.bitAnd m 1 = m % 2 := by
  have e := Bits.bitAnd_mask (x := m) 1 h
  simpa using e
theorem bit_nat (m k : Nat) : Builtin.bitAnd ((m : Int) / 2 ^ (Int.toNat (k : Int))) 1 = (((m.testBit k).toNat : Nat) : Int) := by
  rw [shr_nat, and_one _ (Int.natCast_nonneg _), Nat.testBit_eq_decide_div_mod_eq, Nat.shiftRight_eq_div_pow]
  have h : m / 2 ^ k % 2 < 2 := Nat.mod_lt _ (by decide)
  generalize m / 2 ^ k = z at h
  have e : z % 2 = 0 ∨ z % 2 = 1 := by omega
  rcases e with e | e
  · rw [e]; simp; omega
  · rw [e]; simp; omega
theorem bit_dec (m k : Nat) : decide (Builtin.bitAnd ((m : Int) / 2 ^ (Int.toNat (k : Int))) 1 = 1) = m.testBit k := by
  rw [bit_nat]
  cases m.testBit k <;> simp
/-! ### tables by number -/
theorem map_set {α : Type} {f : Nat → α} {m j : Nat} {y : α} : ((List.range m).map f).set j y = (List.range m).map fun r => if r = j then y else f r := by
  apply List.ext_getElem
  · simp
  · intro i h1 h2
    simp only [List.length_set, List.length_map, List.length_range] at h1
    simp only [List.getElem_set, List.getElem_map, List.getElem_range]
    by_cases e : j = i
    · subst e; simp
    · rw [if_neg e, if_neg (Ne.symm e)]
theorem map_at {α : Type} {f : Nat → α} {m j : Nat} (h : j < m) : ((List.range m).map f)[j]? = some (f j) := by
  rw [List.getElem?_map, List.getElem?_range h]
  rfl
theorem map_len {α : Type} {f : Nat → α} {m : Nat} : ((List.range m).map f).length = m := by simp
theorem map_setI {f : Nat → Int} {m j : Nat} {y : Int} : ((List.range m).map fun r => V.int (f r)).set j (V.int y) = (List.range m).map fun r => V.int (if r = j then y else f r) := by
  rw [map_set]
  congr 1
  funext r
  split <;> rfl
/-! ### comprehensions, slices -/
section
variable {σ σ' : L2.St} {H : Hp} {Q : VK} {QT : Bool → Hp → Prop}
theorem w_lc {wi : TI} {g : TG} {tt : TT} {te : TE} {vs : List Nat} (h : wi σ H fun J H1 => ∀ D, New H1 D → ∃ W : Nat → Nat → Hp → Prop, (∃ m, W 0 m (upd H1 D (.lst []))) ∧ ∀ i m H, W i m H →
  (J.stop i H ∧ Q (.ref D) H) ∨ (J.go i H ∧ ∃ Nx : Hp → Prop, (∀ H', Nx H' → ∃ m', m' < m ∧ W (i + 1) m' H') ∧ ∀ x H', J.yld i H x H' → g x (wipe σ vs) H' fun σ2 H2 => wipe σ2 vs = wipe σ vs ∧ tt σ2 H2 fun b H3 =>
    if b = true then te σ2 H3 fun y H4 => ∃ acc, H4 D = some (.lst acc) ∧ acc.length < sizeLine ∧ Nx (upd H4 D (.lst (acc ++ [y]))) else Nx H3)) : tLc wi g tt te vs σ H Q := h
theorem w_wipe {vs : List Nat} {R : Prop} (e : wipe σ vs = wipe σ' vs) (h : R) : wipe σ vs = wipe σ' vs ∧ R := ⟨e, h⟩
theorem w_yes (h : QT true H) : tYes σ H QT := h
theorem cutV_nat (xs : List V) (a b : Nat) : cutV xs (some (a : Int)) (some (b : Int)) = (xs.drop a).take (b - a) := by
  unfold cutV
  rw [HT.sIx_nat, HT.sIx_nat]
  apply List.ext_getElem?
  intro i
  simp only [List.getElem?_take, List.getElem?_drop]
  by_cases ha : a ≤ xs.length
  · rw [Nat.min_eq_left ha]
    by_cases h : i < b - a
    · by_cases h2 : i < min b xs.length - a
      · rw [if_pos h, if_pos h2]
      · rw [if_pos h, if_neg h2, List.getElem?_eq_none (by omega)]
    · rw [if_neg h, if_neg (by omega)]
  · rw [if_neg (by omega)]
    split
    · rw [List.getElem?_eq_none (by omega)]
    · rfl
theorem cutV_from (xs : List V) (a : Nat) : cutV xs (some (a : Int)) none = xs.drop a := by
  unfold cutV
  rw [HT.sIx_nat, HT.sIx_none]
  by_cases h : a ≤ xs.length
  · rw [Nat.min_eq_left h]
    exact List.take_of_length_le (by simp)
  · rw [Nat.min_eq_right (by omega), List.drop_of_length_le (Nat.le_refl _), List.drop_of_length_le (by omega), List.take_nil]
theorem cutV_to (xs : List V) (b : Nat) : cutV xs none (some (b : Int)) = xs.take b := by
  unfold cutV
  rw [HT.sIx_nat, HT.sIx_none, List.drop_zero, Nat.sub_zero]
  by_cases h : b ≤ xs.length
  · rw [Nat.min_eq_left h]
  · rw [Nat.min_eq_right (by omega), List.take_of_length_le (Nat.le_refl _), List.take_of_length_le (by omega)]
end
theorem w_list {K : PySem.W.Frag} {H : Hp} {p : Addr} {xs : List V} {R : List V → Prop} (hs : SqL K H p xs) (h : R xs) : ∃ p' ys, [V.ref p] = [.ref p'] ∧ (SqL K H p' ys ∨ SqT K H p' ys) ∧ R ys := ⟨p, xs, rfl, .inl hs, h⟩
/-! ### a heap without one place -/
def wo (H : Hp) (D : Addr) : Hp := fun b => if b = D then none else H b
section
variable {K : PySem.W.Frag} {H H' H2 : Hp} {D p : Addr} {o : HO} {xs : List V} {ds : List PyData} {v : V} {d : PyData}
theorem wo_same : Same (wo H D) H := fun b o h => by
  unfold wo at h
  split at h
  · cases h
  · exact h
theorem wo_new : New (wo H D) D := if_pos rfl
theorem wo_get (h : H p = some o) (n : p ≠ D) : wo H D p = some o := (if_neg n).trans h
theorem wo_eq : wo (upd H D o) D = wo H D := by
  funext b
  unfold wo
  split
  · rfl
  · rw [upd_ne (by assumption)]
theorem wo_mono (e : Same H H') : Same (wo H D) (wo H' D) := fun b o h => by
  unfold wo at h ⊢
  split at h
  · cases h
  · rw [if_neg (by assumption)]; exact e b o h
theorem same_wo (e : Same H H') (n : New H D) : Same H (wo H' D) := fun b o h => wo_get (e b o h) (ne_new h n)
theorem dpaPush (h : DpAll K (wo H D) xs ds) (e : Same H H2) (hv : Dp K (wo H2 D) v d) : DpAll K (wo (upd H2 D o) D) (xs ++ [v]) (ds ++ [d]) := by
  rw [wo_eq]
  exact dpaApp (h.same (wo_mono e)) (.cons hv .nil)
theorem dpaPushI (h : DpAll K (wo H D) xs ds) {i : Int} : DpAll K (wo (upd H D o) D) (xs ++ [.int i]) (ds ++ [.int i]) := dpaPush h (Same.refl _) (.int i)
end
/-! ### while -/
theorem w_wt {W : Nat → L2.St → Hp → Prop} {tb : TS} {D : Ends} {σ : L2.St} {H : Hp} {m : Nat} (h : tb { D with nx := fun σ' H' => ∃ m', m' < m ∧ W m' σ' H', ct := fun σ' H' => ∃ m', m' < m ∧ W m' σ' H', bk := D.nx } σ H) :
    ∃ N : L2.St → Hp → Prop, (∀ σ' H', N σ' H' → ∃ m', m' < m ∧ W m' σ' H') ∧ tb { D with nx := N, ct := N, bk := D.nx } σ H := ⟨_, fun _ _ h => h, h⟩
theorem and_nat (m n : Nat) : Builtin.bitAnd (m : Int) (n : Int) = ((m &&& n : Nat) : Int) := rfl
/-! ### two ways to read -/
theorem _root_.L2.PE.or {X : Cx} {e : Expr} {t t' : TE} (h : PE X e t) (h' : PE X e t') : PE X e (fun σ H Q => t σ H Q ∨ t' σ H Q) := ⟨fun pins s σ H Q I q => by
  rcases q with q | q
  · exact h.run pins s σ H Q I q
  · exact h'.run pins s σ H Q I q⟩
/-! ### classes by name -/
structure HasMk (P : Program) (w : World) (K : PySem.W.Frag) (mg : Str → Option Value) (base : Heap) (CX : CXT) (k : Nat) (x : Str) (C : Addr) (ps : List Str) (sp : Sp) : Prop where
  ex : ∃ f fd, FnOk P w K mg base CX k f fd ps sp ∧ Mk K C f ∧ mg x = some (.ref C) ∧ Binds K fd ps []
structure HasMeth (P : Program) (w : World) (K : PySem.W.Frag) (mg : Str → Option Value) (base : Heap) (CX : CXT) (k : Nat) (C : Addr) (m : Str) (ps : List Str) (sp : Sp) : Prop where
  ex : ∃ f fd, FnOk P w K mg base CX k f fd ps sp ∧ Cls K C ∧ Meth K C m f ∧ Binds K fd ps []
/-- a method's body, proved once for whatever class holds it -/
structure HasFn (P : Program) (w : World) (K : PySem.W.Frag) (mg : Str → Option Value) (base : Heap) (CX : CXT) (k : Nat) (f : Addr) (ps : List Str) (sp : Sp) : Prop where
  ex : ∃ fd, FnOk P w K mg base CX k f fd ps sp ∧ Binds K fd ps []
section
variable {P : Program} {w : World} {K : PySem.W.Frag} {mg : Str → Option Value} {base : Heap} {x qual : Str} {ps N : List Str} {sp : Sp} {k : Nat}
theorem HasFn.mk' {st : Stmt} {f : Addr} {fd : FuncData} (F : Fun K x qual st f fd) (b : Binds K fd ps []) (S : FnScope N ps (defScope st)) (len : ∀ vs H Q E, sp vs H Q E → vs.length = ps.length)
    (hbody : ∀ (cdv : Value) (A : Around) (outer : List Env) (s : Shared) (H : Hp) (vs : List V) (Q : VK) (E : XK), Room k (A.deeper (envOfC qual (defScope st) s.heap.objs.size f cdv)) → sp vs H Q E →
      ∃ t, PSs (cxOf CX0 P w K mg base N qual (defScope st) f cdv A outer s H E).nox (defBody st) t ∧ t { nx := fun _ H' => Q .non H', rt := Q } (start N vs) H) : HasFn P w K mg base CX0 (k + 1) f ps sp :=
  ⟨fd, F.ok S len hbody, b⟩
theorem HasFn.mkOf {CX : CXT} {f C : Addr} (h : HasFn P w K mg base CX k f ps sp) (M : Mk K C f) (g : mg x = some (.ref C)) : HasMk P w K mg base CX k x C ps sp := by
  obtain ⟨fd, F, b⟩ := h.ex
  exact ⟨f, fd, F, M, g, b⟩
theorem HasFn.meth {CX : CXT} {f C : Addr} {m : Str} (h : HasFn P w K mg base CX k f ps sp) (c : Cls K C) (M : Meth K C m f) : HasMeth P w K mg base CX k C m ps sp := by
  obtain ⟨fd, F, b⟩ := h.ex
  exact ⟨f, fd, F, c, M, b⟩
end
section
variable {X : Cx} {k : Nat} {ps : List Str} {sp : Sp} {x m : Str} {p pos apos : Pos} {e o : Expr} {es : List Expr} {t : TA} {ta : TE} {C : Addr}
theorem pe_mk (h : HasMk X.prog X.w X.K X.mg X.base CX0 k x C ps sp) (hr : Room (k + 1) X.A) (hg : Gl X x) (ha : PA X (e :: es) t) (hdb : (x == ("__debug__" : Str)) = false := by decide) (he : starEach (e :: es) X.env = (false, eval e X.env) :: starEach es X.env := by rfl) (hpl : (backTo pos (starEach es X.env)).any (·.1) = false := by rfl) :
    PE X (.Call (.Name x p) (e :: es) [] pos) (tMake C sp [] E0 t) := by
  obtain ⟨f, fd, F, M, g, b⟩ := h.ex
  exact pe_make M F hr hg g b .nil pass0 ha hdb he hpl
theorem pe_mt {pl : Sem Bool} (h : HasMeth X.prog X.w X.K X.mg X.base CX0 k C m ps sp) (he : PE X o ta) (hr : Room k X.A) (ha : PA X (e :: es) t)
    (hst : starEach (e :: es) X.env = (false, eval e X.env) :: starEach es X.env := by rfl) (hpl : (backTo pos (starEach es X.env)).any (·.1) = false := by rfl)
    (ht : eval (.Call (.Attribute o m apos) (e :: es) [] pos) X.env = (do
      let v ← eval o X.env
      standAt apos.atName
      let (f, first) ← holding [v] (getMethod v m pl)
      callWith pos f first (backTo pos (starEach (e :: es) X.env)) (backToKw pos (keywordEach [] X.env))) := by rfl) :
    PE X (.Call (.Attribute o m apos) (e :: es) [] pos) (tMeth C m sp [] E0 ta t) := by
  obtain ⟨f, fd, F, c, M, b⟩ := h.ex
  exact pe_meth he c M F hr b .nil pass0 ha hst hpl ht
theorem pe_mt0 {pl : Sem Bool} (h : HasMeth X.prog X.w X.K X.mg X.base CX0 k C m ps sp) (he : PE X o ta) (hr : Room k X.A)
    (ht : eval (.Call (.Attribute o m apos) [] [] pos) X.env = (do
      let v ← eval o X.env
      standAt apos.atName
      let (f, first) ← holding [v] (getMethod v m pl)
      callWith pos f first (backTo pos (starEach [] X.env)) (backToKw pos (keywordEach [] X.env))) := by rfl) :
    PE X (.Call (.Attribute o m apos) [] [] pos) (tMeth C m sp [] E0 ta tNil) := by
  obtain ⟨f, fd, F, c, M, b⟩ := h.ex
  exact pe_meth0 he c M F hr b .nil pass0 ht
end
section
variable {σ : L2.St} {H : Hp} {Q : VK} {D : Ends} {K : PySem.W.Frag} {ta tv : TE} {tl : TA} {sp : Sp} {E : XK} {C p dx : Addr} {fs : List (Str × V)} {f m : Str} {v : V}
theorem w_make (h : tl σ H fun vs H1 => ∀ x dx, New H1 x → New H1 dx → dx ≠ x → sp (.ref x :: vs) (upd (upd H1 dx (.own x)) x (.ins C dx [])) (fun v H2 => v = .non ∧ Q (.ref x) H2) E) : tMake C sp [] E tl σ H Q := by
  unfold tMake
  simp only [List.append_nil]
  exact h
theorem w_meth (h : ta σ H fun x H1 => ∃ a dx fs, x = .ref a ∧ H1 a = some (.ins C dx fs) ∧ fs.lookup m = none ∧ tl σ H1 fun vs H2 => sp (x :: vs) H2 Q E) : tMeth C m sp [] E ta tl σ H Q := by
  unfold tMeth
  simp only [List.append_nil]
  exact h
theorem w_methq {R : Prop} (hp : H p = some (.ins C dx fs)) (hl : fs.lookup m = none) (h : R) : ∃ a dx fs, V.ref p = .ref a ∧ H a = some (.ins C dx fs) ∧ fs.lookup m = none ∧ R := ⟨p, dx, fs, rfl, hp, hl, h⟩
theorem w_sf (h : tv σ H fun y H1 => ta σ H1 fun x H2 => ∃ a C dx fs, x = .ref a ∧ H2 a = some (.ins C dx fs) ∧ Cls K C ∧ NoAttr K C f ∧ fs.length < 1000 ∧ D.nx σ (upd H2 a (.ins C dx (putF f y fs)))) : sFld K ta tv f D σ H := h
theorem w_sfq {R : Addr → Addr → Addr → List (Str × V) → Prop} (hp : H p = some (.ins C dx fs)) (hc : Cls K C) (hn : NoAttr K C f) (hl : fs.length < 1000) (h : R p C dx fs) : ∃ a C' dx' fs', V.ref p = .ref a ∧ H a = some (.ins C' dx' fs') ∧ Cls K C' ∧ NoAttr K C' f ∧ fs'.length < 1000 ∧ R a C' dx' fs' := ⟨p, C, dx, fs, rfl, hp, hc, hn, hl, h⟩
end
/-! ### isinstance of an object -/
structure IsoK (K : PySem.W.Frag) (C : Addr) : Prop where
  cl : Cls K C
  oc : PySem.W.findIn K (.ref C) "__class__" = some (some (.builtin "object.__class__"))
  og : PySem.W.specialIn K (.builtin "object.__class__") "__get__" = some (some (.builtin "getset_descriptor.__get__"))
  ot : PySem.W.takesIn K (.builtin "object.__class__") = some true
  om : PySem.W.mroIn K C (.type "object") = some true
theorem w_iso {K : PySem.W.Frag} {H : Hp} {Q : VK} {p C D dx : Addr} {fs : List (Str × V)} {b : Bool} (hp : H p = some (.ins C dx fs)) (I : IsoK K C) (hk : PySem.W.kitOne K (.ref C) (.ref D) = some b) (h : Q (.bl b) H) : rIsi K [.ref p, .ref D] H Q :=
  ⟨_, _, _, _, b, rfl, .own D, .base (.ins hp I.cl I.oc I.og I.ot I.om), hk, h⟩
theorem w_isoN {K : PySem.W.Frag} {H : Hp} {Q : VK} {D : Addr} {b : Bool} (hk : PySem.W.kitOne K (.type "NoneType") (.ref D) = some b) (h : Q (.bl b) H) : rIsi K [.non, .ref D] H Q :=
  ⟨_, _, _, _, b, rfl, .own D, .base .non, hk, h⟩
theorem kit_own {K : PySem.W.Frag} {C D : Addr} {b : Bool} (h1 : PySem.W.isClsIn K D = true) (h2 : PySem.W.typeIn K (.ref D) = some (.type "type")) (h3 : PySem.W.subIn K (.ref C) (.ref D) = some b) (h4 : PySem.W.subIn K (.ref C) (.ref C) = some true) : PySem.W.kitOne K (.ref C) (.ref D) = some b := by
  unfold PySem.W.kitOne
  by_cases e : C = D
  · subst e
    rw [h4] at h3
    cases h3
    rw [if_pos (by simp)]
  · have hn : ¬ ((Value.ref C == Value.ref D) = true) := by
      intro z
      rw [beq_iff_eq] at z
      cases z
      exact e rfl
    rw [if_neg hn]
    unfold PySem.W.kitCls
    have h5 : (PySem.W.clsIn K D).isSome = true := h1
    show (if ((PySem.W.clsIn K D).isSome && PySem.W.typeIn K (.ref D) == some (.type "type")) = true then PySem.W.subIn K (.ref C) (.ref D) else none) = some b
    rw [h5, h2, if_pos (by simp)]
    exact h3
/-! ### range by steps -/
theorem w_r3 {σ : L2.St} {H : Hp} {ta : TA} {R : It → Hp → Prop} (h : ta σ H fun vs H1 => ∃ (i j c : Int) (n : Nat), vs = [.int i, .int j, .int c] ∧ RgC i j c n ∧ R (Itc i c n) H1) : iRng3 ta σ H R := h
theorem w_r3q {i j c : Int} {n : Nat} {R : Int → Int → Nat → Prop} (hc : RgC i j c n) (h : R i c n) : ∃ (i' j' c' : Int) (n' : Nat), [V.int i, V.int j, V.int c] = [.int i', .int j', .int c'] ∧ RgC i' j' c' n' ∧ R i' c' n' := ⟨i, j, c, n, rfl, hc, h⟩
/-! ### ways joined behind a statement -/
def tCutX (t u : TS) : TS := fun D σ H => ∃ M : L2.St → Hp → Prop, t { D with nx := M } σ H ∧ ∀ σ' H', M σ' H' → u D σ' H'
theorem pss_cutX {X : Cx} {st : Stmt} {more : List Stmt} {t u : TS} (h1 : PS X st t) (h2 : PSs X more u) : PSs X (st :: more) (tCutX t u) := ⟨fun pins s σ H D I h => by
  obtain ⟨M, hm, hu⟩ := h
  refine wpAny_execs_cons (thn (h1.run pins s σ H { D with nx := M } I hm) fun f s1 q => ?_)
  cases f with
  | next => obtain ⟨σ1, H1, I1, q1⟩ := q; exact h2.run pins s1 σ1 H1 D I1 (hu σ1 H1 q1)
  | ret v => exact q
  | brk => exact q
  | cont => exact q⟩
theorem w_cut {t u : TS} {D : Ends} {σ : L2.St} {H : Hp} (M : L2.St → Hp → Prop) (h : t { D with nx := M } σ H) (k : ∀ σ' H', M σ' H' → u D σ' H') : tCutX t u D σ H := ⟨M, h, k⟩
/-! ### dicts with number keys; heaps that grow -/
theorem _root_.L2.Same.add {G H : Hp} {q : Addr} {o : HO} (e : Same G H) (h : H q = some o) : Same (upd G q o) H := fun b u hb => by
  by_cases e2 : b = q
  · subst e2
    rw [upd_same] at hb
    rw [h]
    exact hb
  · rw [upd_ne e2] at hb
    exact e b u hb
theorem New.upd {G : Hp} {p q : Addr} {o : HO} (n : New G p) (h : p ≠ q) : New (upd G q o) p := (upd_ne h).trans n
theorem putK_len {kvs : List (Key × V)} {k : Key} {v : V} : (putK kvs k v).length ≤ kvs.length + 1 := by
  unfold putK
  split <;> simp
theorem w_put {σ : L2.St} {H : Hp} {D : Ends} {td ty tv : TE} (h : tv σ H fun v H1 => td σ H1 fun x H2 => ty σ H2 fun y H3 => ∃ a H4, x = .ref a ∧ DPut H3 a y v H4 ∧ D.nx σ H4) : sDPut td ty tv D σ H := h
theorem w_putI {H : Hp} {a : Addr} {kvs : List (Key × V)} {i : Int} {v : V} {R : Hp → Prop} (e : H a = some (.dK kvs)) (hl : kvs.length < sizeLine) (h : R (upd H a (.dK (putK kvs (.inl i) v)))) : ∃ a' H4, V.ref a = .ref a' ∧ DPut H a' (.int i) v H4 ∧ R H4 := ⟨a, _, rfl, DPut.k (k := .inl i) e hl, h⟩
theorem w_getI {H : Hp} {a : Addr} {kvs : List (Key × V)} {i : Int} {v : V} {R : V → Prop} (e : H a = some (.dK kvs)) (hv : valV kvs (.inl i) = some v) (h : R v) : ∃ a' v', V.ref a = .ref a' ∧ DGet H a' (.int i) (some v') ∧ R v' := ⟨a, v, rfl, by rw [← hv]; exact DGet.k (k := .inl i) e, h⟩
theorem w_inI {H : Hp} {a : Addr} {kvs : List (Key × V)} {i : Int} {R : Option V → Prop} (e : H a = some (.dK kvs)) (h : R (valV kvs (.inl i))) : ∃ a' o, V.ref a = .ref a' ∧ DGet H a' (.int i) o ∧ R o := ⟨a, _, rfl, DGet.k (k := .inl i) e, h⟩
theorem w_din {σ : L2.St} {H : Hp} {Q : VK} {td ty : TE} (h : ty σ H fun y H1 => td σ H1 fun x H2 => ∃ a o, x = .ref a ∧ DGet H2 a y o ∧ Q (.bl o.isSome) H2) : tDIn ty td σ H Q := h
theorem w_dni {σ : L2.St} {H : Hp} {Q : VK} {td ty : TE} (h : ty σ H fun y H1 => td σ H1 fun x H2 => ∃ a o, x = .ref a ∧ DGet H2 a y o ∧ Q (.bl (!o.isSome)) H2) : tDNotIn ty td σ H Q := h
theorem w_dg {σ : L2.St} {H : Hp} {Q : VK} {td ty : TE} (h : td σ H fun x H1 => ty σ H1 fun y H2 => ∃ a v, x = .ref a ∧ DGet H2 a y (some v) ∧ Q v H2) : tDGet td ty σ H Q := h
theorem w_dn {σ : L2.St} {H : Hp} {Q : VK} (h : ∀ p, New H p → Q (.ref p) (upd H p (.dK []))) : tDNewK σ H Q := h
/-- a dict with number keys: what it holds -/
def Holds (kvs : List (Key × V)) (S : List Nat) (g : Nat → V) : Prop := kvs.length ≤ S.length ∧ ∀ d : Nat, valV kvs (.inl (d : Int)) = if d ∈ S then some (g d) else none
theorem Holds.nil {g : Nat → V} : Holds [] [] g := ⟨Nat.le_refl _, fun d => by simp [valV]⟩
theorem Holds.put {kvs : List (Key × V)} {S : List Nat} {g : Nat → V} (h : Holds kvs S g) (x : Nat) : Holds (putK kvs (.inl (x : Int)) (g x)) (S ++ [x]) g := by
  refine ⟨by have := putK_len (kvs := kvs) (k := .inl (x : Int)) (v := g x); have := h.1; simp; omega, fun d => ?_⟩
  rw [valV_put, h.2]
  by_cases e : d = x
  · subst e; simp
  · have : ¬ ((.inl (d : Int) : Key) = .inl (x : Int)) := fun z => e (by have := Sum.inl.inj z; omega)
    rw [if_neg this]
    simp [e]
theorem lc_r0 {m : Int} {n : Nat} {g : TG} {tt : TT} {te : TE} {vs : List Nat} {σ : L2.St} {H1 : Hp} {D : Addr} {Qd : Hp → Prop} (hm : m = n) (Pv : Nat → Hp → Prop) (h0 : Pv 0 (upd H1 D (.lst [])))
    (hs : ∀ i H, i < n → Pv i H → g (.int (i : Nat)) (wipe σ vs) H fun σ2 H2 => wipe σ2 vs = wipe σ vs ∧ tt σ2 H2 fun b H3 =>
      if b = true then te σ2 H3 fun y H4 => ∃ acc, H4 D = some (.lst acc) ∧ acc.length < sizeLine ∧ Pv (i + 1) (upd H4 D (.lst (acc ++ [y]))) else Pv (i + 1) H3) (hd : ∀ H, Pv n H → Qd H) :
    ∃ W : Nat → Nat → Hp → Prop, (∃ m, W 0 m (upd H1 D (.lst []))) ∧ ∀ i k H, W i k H →
      ((Itr 0 m.toNat).stop i H ∧ Qd H) ∨ ((Itr 0 m.toNat).go i H ∧ ∃ Nx : Hp → Prop, (∀ H', Nx H' → ∃ m', m' < k ∧ W (i + 1) m' H') ∧ ∀ x H', (Itr 0 m.toNat).yld i H x H' → g x (wipe σ vs) H' fun σ2 H2 => wipe σ2 vs = wipe σ vs ∧ tt σ2 H2 fun b H3 =>
        if b = true then te σ2 H3 fun y H4 => ∃ acc, H4 D = some (.lst acc) ∧ acc.length < sizeLine ∧ Nx (upd H4 D (.lst (acc ++ [y]))) else Nx H3) := by
  subst hm
  rw [Int.toNat_natCast]
  exact lc_range (lo := 0) Pv h0 (fun i H hi hp => by rw [Int.zero_add]; exact hs i H hi hp) hd
theorem w_acc {H : Hp} {D : Addr} {acc : List V} {R : List V → Prop} (h1 : H D = some (.lst acc)) (h2 : acc.length < sizeLine) (h : R acc) : ∃ acc', H D = some (.lst acc') ∧ acc'.length < sizeLine ∧ R acc' := ⟨acc, h1, h2, h⟩
/-! ### enumerate -/
theorem for_enumX {K : PySem.W.Frag} {a : Addr} {xs : List V} {g : TG} {tb : TS} {D : Ends} {σ : L2.St} {H : Hp} (Pv : Nat → L2.St → Hp → Prop) (h0 : Pv 0 σ H) (hl : ∀ i σ H, i ≤ xs.length → Pv i σ H → SqL K H a xs)
    (hs : ∀ i x σ H p, xs[i]? = some x → Pv i σ H → New H p → g (.ref p) σ (upd H p (.tup [.int (i : Nat), x])) fun σ2 H2 => tb { D with nx := Pv (i + 1), ct := Pv (i + 1), bk := D.nx } σ2 H2) (hd : ∀ σ H, Pv xs.length σ H → D.nx σ H) :
    ∃ W : Nat → Nat → L2.St → Hp → Prop, (∃ m, W 0 m σ H) ∧ ∀ i m σ H, W i m σ H →
      ((Ite K a).stop i H ∧ D.nx σ H) ∨ ((Ite K a).go i H ∧ ∃ N : L2.St → Hp → Prop, (∀ σ' H', N σ' H' → ∃ m', m' < m ∧ W (i + 1) m' σ' H') ∧ ∀ x H', (Ite K a).yld i H x H' → g x σ H' fun σ2 H2 => tb { D with nx := N, ct := N, bk := D.nx } σ2 H2) := by
  refine ⟨fun i m σ H => i + m = xs.length ∧ Pv i σ H, ⟨xs.length, by omega, h0⟩, fun i m σ H hW => ?_⟩
  obtain ⟨e, p⟩ := hW
  have q := hl i σ H (by omega) p
  cases m with
  | zero =>
    have e2 : i = xs.length := by omega
    subst e2
    exact .inl ⟨⟨xs, q, Nat.le_refl _⟩, hd σ H p⟩
  | succ m =>
    have hi : i < xs.length := by omega
    refine .inr ⟨⟨xs, xs[i], q, List.getElem?_eq_getElem hi⟩, Pv (i + 1), fun σ' H' h => ⟨m, by omega, by omega, h⟩, fun x H' hy => ?_⟩
    obtain ⟨T, y, rfl, nT, rfl, hx⟩ := hy
    exact hs i y σ H T (hx xs q) p nT
theorem w_enum {σ : L2.St} {H : Hp} {K : PySem.W.Frag} {ta : TA} {R : It → Hp → Prop} (h : ta σ H fun vs H1 => ∃ a xs, vs = [.ref a] ∧ SqL K H1 a xs ∧ R (Ite K a) H1) : iEnum K ta σ H R := h
theorem w_enq {H : Hp} {K : PySem.W.Frag} {p : Addr} {xs : List V} {R : Addr → Prop} (hs : SqL K H p xs) (h : R p) : ∃ a xs, [V.ref p] = [.ref a] ∧ SqL K H a xs ∧ R a := ⟨p, xs, rfl, hs, h⟩

/-! ### rules that name the written part -/
section
variable {X : Cx}
theorem ix_listK (K : PySem.W.Frag) (hK : X.K = K := by rfl) : IxR X (rIxL K) := by subst hK; exact ix_list
theorem ix_tupK (K : PySem.W.Frag) (hK : X.K = K := by rfl) : IxR X (rIxT K) := by subst hK; exact ix_tup
theorem ix_seqK (K : PySem.W.Frag) (hK : X.K = K := by rfl) : IxR X (rIx K) := by subst hK; exact ix_seq
theorem sl_listK (K : PySem.W.Frag) (hK : X.K = K := by rfl) : SlR X (rSlL K) := by subst hK; exact sl_list
def rLenK (K : PySem.W.Frag) : List V → Hp → VK → Prop := fun xs H Q => ∃ p ys, xs = [.ref p] ∧ (SqL K H p ys ∨ SqT K H p ys) ∧ Q (.int ys.length) H
theorem call_lenK (K : PySem.W.Frag) (hK : X.K = K := by rfl) : CallR X (.builtin "len") (rLenK K) := by subst hK; exact call_len_seq
def rListK (K : PySem.W.Frag) : List V → Hp → VK → Prop := fun xs H Q => ∃ p ys, xs = [.ref p] ∧ (SqL K H p ys ∨ SqT K H p ys) ∧ ∀ l, H l = none → Q (.ref l) (upd H l (.lst ys))
theorem call_listK (K : PySem.W.Frag) (hK : X.K = K := by rfl) : CallR X (.type "list") (rListK K) := by subst hK; exact call_list_of
theorem call_isiK' (K : PySem.W.Frag) (hK : X.K = K := by rfl) : CallR X (.builtin "isinstance") (rIsi K) := by subst hK; exact call_isi
theorem cr_sumK (K : PySem.W.Frag) (hc : X.calm = true) (hK : X.K = K := by rfl) : CallR X (.builtin "sum") (rSum K) := by subst hK; exact cr_sum hc
theorem cr_maxK (K : PySem.W.Frag) (hc : X.calm = true) (hK : X.K = K := by rfl) : CallR X (.builtin "max") (rMax K) := by subst hK; exact cr_max hc
theorem cr_minK (K : PySem.W.Frag) (hc : X.calm = true) (hK : X.K = K := by rfl) : CallR X (.builtin "min") (rMin K) := by subst hK; exact cr_min hc
theorem cr_allK (K : PySem.W.Frag) (hc : X.calm = true) (hK : X.K = K := by rfl) : CallR X (.builtin "all") (rAll K) := by subst hK; exact cr_all hc
theorem cr_anyK (K : PySem.W.Frag) (hc : X.calm = true) (hK : X.K = K := by rfl) : CallR X (.builtin "any") (rAny K) := by subst hK; exact cr_any hc
theorem cr_sortedIK (K : PySem.W.Frag) (hK : X.K = K := by rfl) : CallR X (.builtin "sorted") (rSortedI K) := by subst hK; exact cr_sortedI
theorem op_eqDK (K : PySem.W.Frag) (hu : X.A.units + 64 < cLine) (hK : X.K = K := by rfl) : OpR X (compareOp .Eq) (rEqD K) := by subst hK; exact op_eqD hu
theorem op_neDK (K : PySem.W.Frag) (hu : X.A.units + 64 < cLine) (hK : X.K = K := by rfl) : OpR X (compareOp .NotEq) (rNeD K) := by subst hK; exact op_neD hu
theorem op_inK (K : PySem.W.Frag) (hK : X.K = K := by rfl) : OpR X (compareOp .In) (rIn K false) := by subst hK; exact op_in_seq
theorem op_notInK (K : PySem.W.Frag) (hK : X.K = K := by rfl) : OpR X (compareOp .NotIn) (rIn K true) := by subst hK; exact op_notIn_seq
theorem mt_indexK (K : PySem.W.Frag) (hK : X.K = K := by rfl) : MtR X "list.index" (rIndex K) := by subst hK; exact mt_index
theorem w_lenK {K : PySem.W.Frag} {H : Hp} {Q : VK} {p : Addr} {xs : List V} (hs : SqL K H p xs) (h : Q (.int xs.length) H) : rLenK K [.ref p] H Q := ⟨p, xs, rfl, .inl hs, h⟩
theorem w_lenTK {K : PySem.W.Frag} {H : Hp} {Q : VK} {p : Addr} {xs : List V} (hs : SqT K H p xs) (h : Q (.int xs.length) H) : rLenK K [.ref p] H Q := ⟨p, xs, rfl, .inr hs, h⟩
theorem w_listK {K : PySem.W.Frag} {H : Hp} {Q : VK} {p : Addr} {xs : List V} (hs : SqL K H p xs) (h : ∀ l, New H l → Q (.ref l) (upd H l (.lst xs))) : rListK K [.ref p] H Q := ⟨p, xs, rfl, .inl hs, h⟩
end
section
variable {X : Cx} {e o : Expr} {f name : Str} {pos apos cpos : Pos} {ta to : TE} {t : TA} {es : List Expr}
theorem pe_fldK (K : PySem.W.Frag) (he : PE X e ta) (hb : attributeBase e f X.env (eval e X.env) = eval e X.env) (hK : X.K = K := by rfl) : PE X (.Attribute e f pos) (tFld K ta f) := by subst hK; exact pe_fld he hb
theorem pe_bmK (K : PySem.W.Frag) {T : String} {r : V → List V → Hp → VK → Prop} (h : PE X (.Call (.Attribute o name apos) es [] cpos) (tBM X.K T r to t)) (hK : X.K = K := by rfl) : PE X (.Call (.Attribute o name apos) es [] cpos) (tBM K T r to t) := by subst hK; exact h
theorem pe_bm0K (K : PySem.W.Frag) {T : String} {r : V → List V → Hp → VK → Prop} (h : PE X (.Call (.Attribute o name apos) es [] cpos) (tBM0 X.K T r to)) (hK : X.K = K := by rfl) : PE X (.Call (.Attribute o name apos) es [] cpos) (tBM0 K T r to) := by subst hK; exact h
theorem pi_listK (K : PySem.W.Frag) {tg l : Expr} {tl : TE} (hl : PE X l tl) (hK : X.K = K := by rfl) : PI X tg l (iList K tl) := by subst hK; exact pi_list hl
theorem pi_tupK (K : PySem.W.Frag) {tg l : Expr} {tl : TE} (hl : PE X l tl) (hK : X.K = K := by rfl) : PI X tg l (iTup K tl) := by subst hK; exact pi_tup hl
theorem pg_tupK (K : PySem.W.Frag) {es : List Expr} {k n : Nat} {t : TGs} (hc : X.calm = true) (h : PGs X es t) (hn : (assignEach es X.env).length = n := by rfl) (hst : (assignEach es X.env).findIdx? (·.1) = none := by rfl) (hK : X.K = K := by rfl) : PG X (.Tuple es k pos) (gTup K n t) := by subst hK; exact pg_tup hc h hn hst
end
/-! ### list.insert -/
theorem w_ins {H : Hp} {p : Addr} {xs : List V} {m : Int} {v : V} {R : Addr → List V → Int → V → Prop} (hp : H p = some (.lst xs)) (hl : xs.length < sizeLine) (h0 : 0 ≤ m) (h1 : m < 2 ^ 63) (h : R p xs m v) :
    ∃ (l : Addr) (ys : List V) (i : Int) (y : V), V.ref p = .ref l ∧ [V.int m, v] = [.int i, y] ∧ H l = some (.lst ys) ∧ ys.length < sizeLine ∧ 0 ≤ i ∧ i < 2 ^ 63 ∧ R l ys i y := ⟨p, xs, m, v, rfl, rfl, hp, hl, h0, h1, h⟩

/-! ### a list laid aside while an expression runs -/
theorem wo_obj {P : Program} {w : World} {H : Hp} {h : Heap} {pd : Addr} {xs : List V} (hok : HOk P w H h) (hp : H pd = some (.lst xs)) : HOk P w (wo H pd) h := fun a o e => by
  have e2 : H a = some o := wo_same a o e
  refine (hok a o e2).stay (fun _ _ _ q => q) (fun b q => wo_get q ?_) fun b ys q => wo_get q ?_
  · intro z; subst z; rw [hp] at q; cases q
  · intro z; subst z; rw [hp] at q; cases q
theorem PE.frm {X : Cx} {e : Expr} {t : TE} (h : PE X e t) : PE X e (fun σ H Q => t σ H Q ∨ ∃ (pd : Addr) (xs : List V), H pd = some (.lst xs) ∧ t σ (wo H pd) fun v H' => H' pd = none → Q v (upd H' pd (.lst xs))) := ⟨fun pins s σ H Q I q => by
  rcases q with q | ⟨pd, xs, hp, q⟩
  · exact h.run pins s σ H Q I q
  · obtain ⟨hz, its, n, r, ho⟩ := I.hok pd _ hp
    have hloc : pd ≠ X.env.locals := fun z => by have := I.free; rw [← z, hp] at this; cases this
    have hfs : pd ∉ X.fs := fun z => by
      have : pd ∈ frs X.stack := by
        rcases I.ok.stk with e | ⟨e, ef⟩
        · rw [e]; exact z
        · rw [e]
          unfold frs
          rw [List.filterMap_cons]
          split
          · exact z
          · exact List.mem_cons_of_mem _ z
      have := I.stkFree pd this
      rw [hp] at this; cases this
    have ne : ∀ {b : Addr} {o : HO}, H b = some o → (∀ ys, o ≠ .lst ys) → b ≠ pd := fun {b o} e hn z => by subst z; rw [hp] at e; cases e; exact hn _ rfl
    have I' : Inv X ((pd, { cls := .type "list", data := .seq its.toArray n }) :: pins) σ (wo H pd) s := {
      ok := I.ok
      os := I.os
      bare := I.bare
      base := {
        keep := I.base.keep
        slot := I.base.slot
        free := fun b o q n hx => by
          unfold wo
          split
          · rfl
          · exact I.base.free b o q n hx
        there := I.base.there
        tups := fun b ys q => by have e := I.base.tups b ys q; exact wo_get e (ne e fun _ z => by cases z)
        frzs := fun b o u q => by have e := I.base.frzs b o u q; exact wo_get e (ne e fun _ z => by cases z)
        tbls := fun b ps q => by obtain ⟨m, e⟩ := I.base.tbls b ps q; exact ⟨m, wo_get e (ne e fun _ z => by cases z)⟩ }
      loc := I.loc
      cell := I.cell
      free := by
        unfold wo
        split
        · rfl
        · exact I.free
      freeC := fun x c e => by
        unfold wo
        split
        · rfl
        · exact I.freeC x c e
      pin := fun p hp' => by
        rcases List.mem_append.mp hp' with hm | hm
        · obtain ⟨a1, a2, a3, a4, a5⟩ := I.pin p (List.mem_append_left _ hm)
          exact ⟨a1, by unfold wo; split; rfl; exact a2, a3, a4, a5⟩
        · rcases List.mem_cons.mp hm with rfl | hm
          · exact ⟨ho, wo_new, hloc, hfs, fun v z => by cases z⟩
          · obtain ⟨a1, a2, a3, a4, a5⟩ := I.pin p (List.mem_append_right _ hm)
            exact ⟨a1, by unfold wo; split; rfl; exact a2, a3, a4, a5⟩
      hok := wo_obj I.hok hp
      len := I.len }
    refine thn (h.run _ s σ _ _ I' q) fun u s1 hh => ?_
    obtain ⟨v, H1, I1, rv, q1⟩ := hh
    obtain ⟨p1, p2, p3, p4, p5⟩ := I1.pin (pd, { cls := .type "list", data := .seq its.toArray n }) (List.mem_append_right _ List.mem_cons_self)
    have ne1 : ∀ {b : Addr} {o : HO}, H1 b = some o → b ≠ pd := fun {b o} e z => by subst z; rw [p2] at e; cases e
    refine ⟨v, upd H1 pd (.lst xs), {
      ok := I1.ok
      os := I1.os
      bare := I1.bare
      base := {
        keep := I1.base.keep
        slot := I1.base.slot
        free := fun b o q n hx => by
          have e := I.base.free b o q n hx
          rw [upd_ne (fun z => by subst z; rw [hp] at e; cases e)]
          exact I1.base.free b o q n hx
        there := I1.base.there
        tups := fun b ys q => by have e := I1.base.tups b ys q; rw [upd_ne (ne1 e)]; exact e
        frzs := fun b o u q => by have e := I1.base.frzs b o u q; rw [upd_ne (ne1 e)]; exact e
        tbls := fun b ps q => by obtain ⟨m, e⟩ := I1.base.tbls b ps q; exact ⟨m, by rw [upd_ne (ne1 e)]; exact e⟩ }
      loc := I1.loc
      cell := I1.cell
      free := by rw [upd_ne (Ne.symm p3)]; exact I1.free
      freeC := fun x c e => by
        have := I.freeC x c e
        rw [upd_ne (fun z => by subst z; rw [hp] at this; cases this)]
        exact I1.freeC x c e
      pin := fun p hp' => by
        have hn : p.1 ≠ pd := by
          obtain ⟨_, a2, _⟩ := I.pin p hp'
          intro z
          rw [z, hp] at a2
          cases a2
        have hm : p ∈ X.pn ++ (pd, { cls := .type "list", data := .seq its.toArray n }) :: pins := by
          rcases List.mem_append.mp hp' with hm | hm
          · exact List.mem_append_left _ hm
          · exact List.mem_append_right _ (List.mem_cons_of_mem _ hm)
        obtain ⟨a1, a2, a3, a4, a5⟩ := I1.pin p hm
        exact ⟨a1, by rw [upd_ne hn]; exact a2, a3, a4, a5⟩
      hok := fun a o e => by
        by_cases ea : a = pd
        · subst ea
          rw [upd_same] at e
          cases e
          exact ⟨hz, its, n, r, p1⟩
        · rw [upd_ne ea] at e
          refine (I1.hok a o e).stay (fun _ _ _ q => q) (fun b q => ?_) fun b ys q => ?_
          · rw [upd_ne (ne1 q)]; exact q
          · rw [upd_ne (ne1 q)]; exact q
      len := I1.len }, rv, q1 p2⟩⟩
theorem wo_upd {H : Hp} {pd : Addr} {o : HO} (h : H pd = some o) : upd (wo H pd) pd o = H := by
  funext b
  by_cases e : b = pd
  · subst e; rw [upd_same, h]
  · rw [upd_ne e]; exact if_neg e
/-- the same, for an item of a comprehension -/
def tFrm (t : TE) : TE := fun σ H Q => t σ H Q ∨ ∃ (pd : Addr) (xs : List V), H pd = some (.lst xs) ∧ t σ (wo H pd) fun v H' => H' pd = none → Q v (upd H' pd (.lst xs))
theorem PE.frm2 {X : Cx} {e : Expr} {t : TE} (h : PE X e t) : PE X e (tFrm t) := PE.frm h
theorem w_frm {t : TE} {σ : L2.St} {H : Hp} {Q : VK} {pd : Addr} {xs : List V} (hp : H pd = some (.lst xs)) (h : t σ (wo H pd) fun v H' => H' pd = none → Q v (upd H' pd (.lst xs))) : tFrm t σ H Q := .inr ⟨pd, xs, hp, h⟩

/-! ### steps of the reading -/
local macro_rules | `(tactic| walk_at "len") => `(tactic| (intro vs H Q E h; first | (obtain ⟨e, _⟩ := h; subst e; rfl) | (obtain ⟨_, e, _⟩ := h; subst e; rfl) | (obtain ⟨_, _, e, _⟩ := h; subst e; rfl) | (obtain ⟨_, _, _, e, _⟩ := h; subst e; rfl) | (obtain ⟨_, _, _, _, e, _⟩ := h; subst e; rfl) | (obtain ⟨_, _, _, _, _, e, _⟩ := h; subst e; rfl) | (obtain ⟨_, _, _, _, _, _, e, _⟩ := h; subst e; rfl) | (obtain ⟨_, _, _, _, _, _, _, e, _⟩ := h; subst e; rfl) | (obtain ⟨_, _, _, _, _, _, _, _, e, _⟩ := h; subst e; rfl) | (obtain ⟨_, _, _, _, _, _, _, _, _, e, _⟩ := h; subst e; rfl) | (obtain ⟨_, _, _, _, _, _, _, _, _, _, e, _⟩ := h; subst e; rfl) | (obtain ⟨_, _, _, _, _, _, _, _, _, _, _, e, _⟩ := h; subst e; rfl)))
/-- p ≠ q -/
local macro_rules | `(tactic| walk_at "ne1") => `(tactic| (refine ne_new (H := ?H) (o := ?o) ?a ?b; (case b => assumption); (case a => walk_at "hp")))
local macro_rules | `(tactic| walk_at "ne") => `(tactic| first
  | assumption | (apply Ne.symm; assumption) | walk_at "ne1" | (apply Ne.symm; walk_at "ne1") | fail)
/-- H p = some o -/
local macro_rules | `(tactic| walk_at "hp") => `(tactic| first
  | assumption
  | exact upd_same
  | (refine (upd_ne ?n).trans ?h; (case n => walk_at "ne"); (case h => walk_at "hp"))
  | (refine Same.get (H := ?H) ?s ?h; (case s => assumption); (case h => assumption)) | fail)
local macro_rules | `(tactic| walk_at "sq") => `(tactic| first
  | assumption
  | exact SqL.of (by walk_at "hp") | exact SqT.of (by walk_at "hp")
  | (refine Same.seq (H := ?H) ?s ?h; (case h => assumption); (case s => walk_at "same"))
  | (refine same_read (H := ?H) ?s ?h; (case h => assumption); (case s => walk_at "same")) | fail)
/-- a later new object was free ahead -/
local macro_rules | `(tactic| walk_at "fr") => `(tactic| first | assumption | (refine New.of (H' := ?H) ?n ?s; (case n => assumption); (case s => walk_at "same")) | fail)
/-- what was tracked stays -/
local macro_rules | `(tactic| walk_at "same") => `(tactic| first | assumption | exact Same.refl _ | (refine Same.new ?_ (by assumption); walk_at "same") | (refine Same.mut ?s ?n; (case n => walk_at "fr"); (case s => walk_at "same")) | (refine Same.trans (H1 := ?H1) ?a ?b; (case b => assumption); (case a => walk_at "same")) | fail)
local macro_rules | `(tactic| walk_at "side") => `(tactic| first | decide | omega | (with_reducible assumption) | fail)
local macro_rules | `(tactic| walk_at "at") => `(tactic| first | rfl | assumption | exact atI_nat (by assumption) | fail)
local macro_rules | `(tactic| walk_at "ll") => `(tactic| first | omega | (simp only [List.length_append, List.length_cons, List.length_nil, List.length_map, List.length_range, List.length_set, List.length_replicate]; omega) | (simp only [List.length_append, List.length_cons, List.length_nil, List.length_map, List.length_range, List.length_set, List.length_replicate] at *; omega) | (simp; done) | (simp; omega) | fail)
local macro_rules | `(tactic| walk_at "ix") => `(tactic| first | assumption | (refine ixN_nat ?_; walk_at "ll") | rfl | fail)
local macro_rules | `(tactic| walk_at "szlt") => `(tactic| first | assumption | (refine szlt ?_; walk_at "ll") | fail)
local macro_rules | `(tactic| walk_at "szk") => `(tactic| first | assumption | (refine szlt ?_; omega) | fail)
/-- one step -/
local macro_rules | `(tactic| walk_at "st") => `(tactic| first
  | with_reducible refine w_iT ?_
  | with_reducible refine w_iF ?_
  | with_reducible refine w_iNT ?_
  | with_reducible refine w_iNF ?_
  | with_reducible refine w_iNN ?_
  | with_reducible refine w_seq ?_
  | with_reducible refine w_asg ?_
  | with_reducible refine w_gn ?_
  | with_reducible refine w_c ?_
  | with_reducible refine w_op ?_
  | with_reducible refine w_ret ?_
  | with_reducible refine w_if ?_
  | with_reducible refine w_test ?_
  | with_reducible refine w_rI0 ?_
  | with_reducible refine w_cons ?_
  | with_reducible refine w_nil ?_
  | with_reducible refine w_call ?_
  | with_reducible refine w_cb ?_
  | with_reducible refine w_drop ?_
  | with_reducible refine w_next ?_
  | with_reducible refine w_eqI ?_
  | with_reducible refine w_neI ?_
  | ((with_reducible refine w_var ?_); refine ⟨_, rfl, ?_⟩)
  | ((with_reducible refine w_aug ?_); refine ⟨_, rfl, ?_⟩)
  | with_reducible refine w_eqB ?_
  | with_reducible refine w_neB ?_
  | with_reducible refine w_tB ?_
  | with_reducible refine w_bl ?_
  | with_reducible refine w_and ?_
  | with_reducible refine w_or ?_
  | with_reducible refine w_not ?_
  | with_reducible refine w_andV ?_
  | with_reducible refine w_orV ?_
  | with_reducible refine w_notV ?_
  | with_reducible refine w_ifE ?_
  | with_reducible refine w_un ?_
  | with_reducible refine w_rU ?_
  | with_reducible refine w_ip ?_
  | with_reducible refine w_gc ?_
  | with_reducible refine w_g0 ?_
  | with_reducible refine w_gs ?_
  | with_reducible refine w_tup ?_
  | with_reducible refine w_lst ?_
  | with_reducible refine w_sl ?_
  | with_reducible refine w_np ?_
  | with_reducible refine w_part ?_
  | with_reducible refine w_partI ?_
  | with_reducible refine w_bm ?_
  | with_reducible refine w_bm0 ?_
  | with_reducible refine w_for ?_
  | with_reducible refine w_lc ?_
  | with_reducible refine w_yes ?_
  | with_reducible refine w_make ?_
  | with_reducible refine w_meth ?_
  | with_reducible refine w_sf ?_
  | with_reducible refine w_r3 ?_
  | with_reducible refine w_din ?_
  | with_reducible refine w_dni ?_
  | with_reducible refine w_dg ?_
  | with_reducible refine w_put ?_
  | with_reducible refine w_dn ?_
  | with_reducible refine w_enum ?_
  | with_reducible refine w_iL ?_
  | with_reducible refine w_iTu ?_
  | with_reducible refine w_r1 ?_
  | with_reducible refine w_r2 ?_
  | with_reducible refine w_int1 ?_
  | with_reducible refine w_intb ?_
  | with_reducible refine w_fl ?_
  | with_reducible refine w_retN ?_
  | with_reducible refine w_break ?_
  | with_reducible refine w_cont ?_
  | with_reducible refine w_par ?_
  | with_reducible refine w_par2 ?_
  | with_reducible refine w_eqS ?_
  | with_reducible refine w_neS ?_
  | with_reducible refine w_eqNI ?_
  | with_reducible refine w_eqIN ?_
  | with_reducible refine w_callS ?_
  | with_reducible refine w_ost ?_
  | with_reducible refine w_xf ?_
  | with_reducible refine w_mko ?_
  | ((with_reducible refine w_mod ?s0 ?_); (case s0 => walk_at "side"))
  | ((with_reducible refine w_div ?s0 ?s1 ?_); (case s0 => walk_at "side"); (case s1 => walk_at "side"))
  | ((with_reducible refine w_shr ?s0 ?_); (case s0 => walk_at "side"))
  | ((with_reducible refine w_shl1 ?s0 ?s1 ?_); (case s0 => walk_at "side"); (case s1 => walk_at "side"))
  | ((with_reducible refine w_mul ?s0 ?s1 ?s2 ?s3 ?_); (case s0 => walk_at "side"); (case s1 => walk_at "side"); (case s2 => walk_at "side"); (case s3 => walk_at "side"))
  | ((with_reducible refine w_shl ?s0 ?s1 ?s2 ?s3 ?_); (case s0 => walk_at "side"); (case s1 => walk_at "side"); (case s2 => walk_at "side"); (case s3 => walk_at "side"))
  | ((with_reducible refine w_r1q ?s0 ?s1 ?_); (case s0 => walk_at "side"); (case s1 => walk_at "side"))
  | ((with_reducible refine w_r2q ?s0 ?s1 ?s2 ?s3 ?_); (case s0 => walk_at "side"); (case s1 => walk_at "side"); (case s2 => walk_at "side"); (case s3 => walk_at "side"))
  | ((with_reducible refine w_ixL (xs := ?xs) (v := ?v) ?s0 ?s1 ?_); (case s0 => walk_at "sq"); (case s1 => walk_at "at"))
  | ((with_reducible refine w_ixT (xs := ?xs) (v := ?v) ?s0 ?s1 ?_); (case s0 => walk_at "sq"); (case s1 => walk_at "at"))
  | ((with_reducible refine w_ixl (xs := ?xs) (v := ?v) ?s0 ?s1 ?_); (case s0 => walk_at "sq"); (case s1 => walk_at "at"))
  | ((with_reducible refine w_ixt (xs := ?xs) (v := ?v) ?s0 ?s1 ?_); (case s0 => walk_at "sq"); (case s1 => walk_at "at"))
  | ((with_reducible refine w_lenK (xs := ?xs) ?s0 ?_); (case s0 => walk_at "sq"))
  | ((with_reducible refine w_lenTK (xs := ?xs) ?s0 ?_); (case s0 => walk_at "sq"))
  | ((with_reducible refine w_listK (xs := ?xs) ?s0 ?_); (case s0 => walk_at "sq"))
  | ((with_reducible refine w_len (xs := ?xs) ?s0 ?_); (case s0 => walk_at "sq"))
  | ((with_reducible refine w_lenT (xs := ?xs) ?s0 ?_); (case s0 => walk_at "sq"))
  | ((with_reducible refine w_iLq (xs := ?xs) ?s0 ?_); (case s0 => walk_at "sq"))
  | ((with_reducible refine w_iTq (xs := ?xs) ?s0 ?_); (case s0 => walk_at "sq"))
  | ((with_reducible refine w_tyl (xs := ?xs) ?s0 ?_); (case s0 => walk_at "sq"))
  | ((with_reducible refine w_slL (xs := ?xs) ?s0 ?_); (case s0 => walk_at "sq"))
  | ((with_reducible refine w_gt (xs := ?xs) ?s0 ?s1 ?_); (case s0 => walk_at "sq"); (case s1 => rfl))
  | ((with_reducible refine w_setL (xs := ?xs) (j := ?j) ?s0 ?s1 ?_); (case s0 => walk_at "hp"); (case s1 => walk_at "ix"))
  | ((with_reducible refine w_app (xs := ?xs) ?s0 ?s1 ?_); (case s0 => walk_at "hp"); (case s1 => walk_at "szlt"))
  | ((with_reducible refine w_rev (xs := ?xs) ?s0 ?_); (case s0 => walk_at "hp"))
  | with_reducible refine w_isi kb_ii ?_
  | with_reducible refine w_isi kb_ib ?_
  | with_reducible refine w_isb kb_bb ?_
  | with_reducible refine w_isb kb_bi ?_
  | with_reducible refine w_isn kb_ni ?_
  | with_reducible refine w_isn kb_nb ?_
  | ((with_reducible refine w_isl (xs := ?xs) ?s0 kb_ll ?_); (case s0 => walk_at "hp"))
  | ((with_reducible refine w_isl (xs := ?xs) ?s0 kb_lt ?_); (case s0 => walk_at "hp"))
  | ((with_reducible refine w_ist (xs := ?xs) ?s0 kb_tt ?_); (case s0 => walk_at "hp"))
  | ((with_reducible refine w_ist (xs := ?xs) ?s0 kb_tl ?_); (case s0 => walk_at "hp"))
  | with_reducible refine w_len1 rfl ?_
  | with_reducible refine w_isN ?_
  | with_reducible refine w_2i ?_
  | with_reducible refine w_1i ?_
  | with_reducible refine w_augS ?_
  | ((with_reducible refine w_getL (xs := ?xs) (v := ?v) ?s0 ?s1 ?_); (case s0 => walk_at "sq"); (case s1 => assumption))
  | ((with_reducible refine w_wipe ?s0 ?_); (case s0 => rfl))
  | ((with_reducible refine w_inI (kvs := ?kvs) ?s0 ?_); (case s0 => walk_at "hp"))
  | ((with_reducible refine w_putI (kvs := ?kvs) ?s0 ?s1 ?_); (case s0 => walk_at "hp"); (case s1 => walk_at "szk"))
  | ((with_reducible refine w_ins (xs := ?xs) ?s0 ?s1 ?s2 ?s3 ?_); (case s0 => walk_at "hp"); (case s1 => walk_at "szlt"); (case s2 => walk_at "side"); (case s3 => walk_at "side"))
  | ((with_reducible refine w_pow ?s0 ?_); (case s0 => exact ⟨by decide, by decide, by decide⟩))
  | ((with_reducible refine ifd (fun h => ?c) (fun _ => ?_)); (case c => exfalso; omega))
  | ((with_reducible refine ifd (fun _ => ?_) (fun h => ?c)); (case c => exfalso; omega))
  | ((with_reducible refine ifnd (fun h => ?c) (fun _ => ?_)); (case c => exfalso; omega))
  | ((with_reducible refine ifnd (fun _ => ?_) (fun h => ?c)); (case c => exfalso; omega))
  | fail)
local macro_rules | `(tactic| walk_at "sts") => `(tactic| repeat (walk_at "st"))

def topS (i : Nat) : Stmt := PySem.Challenge.pw_spinfloor_k48_powers_joined.main.body.getD i (.Pass ⟨0, 0, 0, 0⟩)
abbrev s_way_to : Stmt := topS 1
theorem sc_way_to : FnScope ["row", "table", "goal", "modulus", "low", "many", "mid", "cost"] ["row", "table", "goal", "modulus"] (defScope s_way_to) := ⟨rfl, rfl, rfl, by decide +kernel, rfl, by decide +kernel, by decide +kernel⟩
abbrev s_row_joined : Stmt := topS 2
theorem sc_row_joined : FnScope ["row", "table", "modulus", "goal"] ["row", "table", "modulus"] (defScope s_row_joined) := ⟨rfl, rfl, rfl, by decide +kernel, rfl, by decide +kernel, by decide +kernel⟩
abbrev s_tables_joined : Stmt := topS 3
theorem sc_tables_joined : FnScope ["one", "two", "modulus", "row"] ["one", "two", "modulus"] (defScope s_tables_joined) := ⟨rfl, rfl, rfl, by decide +kernel, rfl, by decide +kernel, by decide +kernel⟩
abbrev s_by_modulus : Stmt := topS 4
theorem sc_by_modulus : FnScope ["row", "modulus", "entry"] ["row", "modulus"] (defScope s_by_modulus) := ⟨rfl, rfl, rfl, by decide +kernel, rfl, by decide +kernel, by decide +kernel⟩
abbrev s_table_power : Stmt := topS 5
theorem sc_table_power : FnScope ["table", "times", "modulus", "square", "found", "row"] ["table", "times", "modulus"] (defScope s_table_power) := ⟨rfl, rfl, rfl, by decide +kernel, rfl, by decide +kernel, by decide +kernel⟩
abbrev s_law_cell : Stmt := topS 7
theorem sc_law_cell : FnScope ["script", "k"] ["script", "k"] (defScope s_law_cell) := ⟨rfl, rfl, rfl, by decide +kernel, rfl, by decide +kernel, by decide +kernel⟩
abbrev s_law_whole : Stmt := topS 8
theorem sc_law_whole : FnScope ["found"] ["found"] (defScope s_law_whole) := ⟨rfl, rfl, rfl, by decide +kernel, rfl, by decide +kernel, by decide +kernel⟩
abbrev s_law_pair : Stmt := topS 9
theorem sc_law_pair : FnScope ["found"] ["found"] (defScope s_law_pair) := ⟨rfl, rfl, rfl, by decide +kernel, rfl, by decide +kernel, by decide +kernel⟩
abbrev s_law_number : Stmt := topS 10
theorem sc_law_number : FnScope ["script", "k", "cell", "mixed"] ["script", "k"] (defScope s_law_number) := ⟨rfl, rfl, rfl, by decide +kernel, rfl, by decide +kernel, by decide +kernel⟩
abbrev s_law_table : Stmt := topS 11
theorem sc_law_table : FnScope ["script", "size", "at", "mode", "found", "k", "row", "j", "one", "two"] ["script", "size", "at", "mode"] (defScope s_law_table) := ⟨rfl, rfl, rfl, by decide +kernel, rfl, by decide +kernel, by decide +kernel⟩
abbrev s_law_same : Stmt := topS 12
theorem sc_law_same : FnScope ["found", "due", "k", "j"] ["found", "due"] (defScope s_law_same) := ⟨rfl, rfl, rfl, by decide +kernel, rfl, by decide +kernel, by decide +kernel⟩
abbrev s_law_joined : Stmt := topS 13
theorem sc_law_joined : FnScope ["one", "two", "modulus", "due", "k", "row", "j", "mid", "low", "many"] ["one", "two", "modulus"] (defScope s_law_joined) := ⟨rfl, rfl, rfl, by decide +kernel, rfl, by decide +kernel, by decide +kernel⟩
abbrev s_law : Stmt := topS 14
theorem sc_law : FnScope ["script", "first", "size", "mode", "modulus", "own", "handed", "plain", "span", "left", "right", "one", "two", "row", "entry"] ["script"] (defScope s_law) := ⟨rfl, rfl, rfl, by decide +kernel, rfl, by decide +kernel, by decide +kernel⟩
structure Bl (mg : Str → Option Value) : Prop where
  range : mg "range" = none
  len : mg "len" = none
  isinstance : mg "isinstance" = none
  int : mg "int" = none
  bool : mg "bool" = none
  tuple : mg "tuple" = none
  max : mg "max" = none
  list : mg "list" = none
  min : mg "min" = none
  any : mg "any" = none
  sum : mg "sum" = none
/-! ### data of webs -/
def dRow (r : List Nat) : PyData := .list (r.map fun x : Nat => .int (x : Int))
def dRows (T : List (List Nat)) : PyData := .list (T.map dRow)
def iv (r : List Nat) : List V := r.map fun x : Nat => V.int (x : Int)
theorem iv_len (r : List Nat) : (iv r).length = r.length := by unfold iv; simp
theorem iv_at {r : List Nat} {i : Nat} (h : i < r.length) : (iv r)[i]? = some (.int ((r.getD i 0 : Nat) : Int)) := by
  unfold iv
  rw [List.getElem?_map, List.getD_eq_getElem?_getD, List.getElem?_eq_getElem h]
  rfl
theorem iv_app (r s : List Nat) : iv (r ++ s) = iv r ++ iv s := by unfold iv; simp
theorem take_snoc {l : List Nat} {i : Nat} (h : i < l.length) : l.take (i + 1) = l.take i ++ [l.getD i 0] := by
  rw [List.take_add_one, List.getElem?_eq_getElem h, List.getD_eq_getElem?_getD, List.getElem?_eq_getElem h]
  rfl
theorem iv_flat (r : List Nat) : (iv r).all flatV = true := by
  rw [List.all_eq_true]
  intro v hv
  obtain ⟨x, _, rfl⟩ := List.mem_map.mp hv
  rfl
theorem dpRowA {K : PySem.W.Frag} {H : Hp} {a : Addr} {r : List Nat} (h : Dp K H (.ref a) (dRow r)) : SqL K H a (iv r) := by
  obtain ⟨xs, h1, h2⟩ := dpLstA h
  have e := dpAll_ints (ns := r.map fun x : Nat => (x : Int)) (by rw [List.map_map]; exact h2)
  rw [List.map_map] at e
  have e2 : xs = iv r := e
  rw [← e2]
  exact h1
theorem dpRow {K : PySem.W.Frag} {H : Hp} {a : Addr} {r : List Nat} (h : SqL K H a (iv r)) : Dp K H (.ref a) (dRow r) := by
  have := dpInts (K := K) (H := H) (r.map fun x : Nat => (x : Int))
  rw [List.map_map, List.map_map] at this
  exact .lst h this
theorem goodRow (r : List Nat) : Good 1 (dRow r) := goodLst (goodMap fun _ => goodInt)
theorem goodRows (T : List (List Nat)) : Good 2 (dRows T) := goodLst (goodMap fun r => goodRow r)
theorem w_idx {K : PySem.W.Frag} {H : Hp} {Q : VK} {p : Addr} {r : List Nat} {x : Nat} (hs : SqL K H p (iv r)) (hx : x ∈ r) (h : Q (.int ((r.idxOf x : Nat) : Int)) H) : rIndex K (.ref p) [.int (x : Int)] H Q := by
  have hl : r.idxOf x < r.length := List.idxOf_lt_length_of_mem hx
  refine ⟨p, iv r, .int (x : Int), r.idxOf x, .int ((r.getD (r.idxOf x) 0 : Nat) : Int), rfl, rfl, hs, rfl, iv_flat r, iv_at hl, ?_, ?_, h⟩
  · have : r.getD (r.idxOf x) 0 = x := by
      rw [List.getD_eq_getElem?_getD, List.getElem?_eq_getElem hl]
      exact List.getElem_idxOf hl
    rw [this]
    simp [eqV]
  · intro m z' hm hz
    have hml : m < r.length := by omega
    rw [iv_at hml] at hz
    cases hz
    have hne : r.getD m 0 ≠ x := by
      rw [List.getD_eq_getElem?_getD, List.getElem?_eq_getElem hml]
      have := List.not_of_lt_findIdx (xs := r) (p := (· == x)) hm
      simpa using this
    show (((r.getD m 0 : Nat) : Int) == (x : Int)) = false
    rw [beq_eq_false_iff_ne]
    omega
theorem iv_map (r : List Nat) : iv r = (r.map fun x : Nat => (x : Int)).map V.int := by unfold iv; rw [List.map_map]; rfl

theorem w_istS {K : PySem.W.Frag} {H : Hp} {Q : VK} {p : Addr} {xs : List V} {s : String} {b : Bool} (hp : SqT K H p xs) (hk : kitB "tuple" s = some b) (h : Q (.bl b) H) : rIsi K [.ref p, .ty s] H Q := by
  rcases hp with (hp | ⟨o, hp⟩) | ⟨o, its, n, h1, h2, _⟩
  · exact ⟨_, _, _, _, b, rfl, .ty _, .base (.tup hp), kit_ty hk, h⟩
  · exact ⟨_, _, _, _, b, rfl, .ty _, .fTuple hp, kit_ty hk, h⟩
  · exact ⟨_, _, _, _, b, rfl, .ty _, .kTuple h1 h2, kit_ty hk, h⟩

/-! ### lists whose members stand beside them -/
theorem wo_self {H : Hp} {D : Addr} (h : H D = none) : wo H D = H := by
  funext b
  by_cases e : b = D
  · subst e; rw [h]; exact if_pos rfl
  · exact if_neg e
def GrD (K : PySem.W.Frag) (H : Hp) (D : Addr) (ds : List PyData) : Prop := ∃ xs, H D = some (.lst xs) ∧ DpAll K (wo H D) xs ds
theorem GrD.new {K : PySem.W.Frag} {H : Hp} {D : Addr} : GrD K (upd H D (.lst [])) D [] := ⟨[], upd_same, .nil⟩
theorem GrD.same {K : PySem.W.Frag} {H H' : Hp} {D : Addr} {ds : List PyData} (h : GrD K H D ds) (e : Same H H') : GrD K H' D ds := by
  obtain ⟨xs, h1, h2⟩ := h
  exact ⟨xs, e _ _ h1, h2.same (wo_mono e)⟩
theorem GrD.dp {K : PySem.W.Frag} {H : Hp} {D : Addr} {ds : List PyData} (h : GrD K H D ds) : Dp K H (.ref D) (.list ds) := by
  obtain ⟨xs, h1, h2⟩ := h
  exact .lst (SqL.of h1) (h2.same wo_same)
/-- put at the end, the list laid aside while the member was made -/
theorem GrD.put {K : PySem.W.Frag} {H H' : Hp} {D : Addr} {ds : List PyData} {d : PyData} {v : V} {xs : List V} (h : DpAll K (wo H D) xs ds) (e : Same (wo H D) H') (n : H' D = none) (hv : Dp K H' v d) {o : HO} : GrD K (upd (upd H' D o) D (.lst (xs ++ [v]))) D (ds ++ [d]) := by
  refine ⟨xs ++ [v], upd_same, ?_⟩
  rw [wo_eq, wo_eq, wo_self n]
  exact dpaApp (h.same e) (.cons hv .nil)
/-- put at the end -/
theorem GrD.push {K : PySem.W.Frag} {H H' : Hp} {D : Addr} {ds : List PyData} {d : PyData} {v : V} {xs : List V} (h : DpAll K (wo H D) xs ds) (e : Same H H') (hv : Dp K (wo H' D) v d) : GrD K (upd H' D (.lst (xs ++ [v]))) D (ds ++ [d]) :=
  ⟨xs ++ [v], upd_same, dpaPush h e hv⟩
theorem GrD.len {K : PySem.W.Frag} {H : Hp} {D : Addr} {xs : List V} {ds : List PyData} (h : DpAll K (wo H D) xs ds) : xs.length = ds.length := dpaLen h
theorem range_snoc {α : Type} (f : Nat → α) (i : Nat) : (List.range (i + 1)).map f = (List.range i).map f ++ [f i] := by rw [List.range_succ, List.map_append]; rfl
theorem w_islS {K : PySem.W.Frag} {H : Hp} {Q : VK} {p : Addr} {xs : List V} {s : String} {b : Bool} (hp : SqL K H p xs) (hk : kitB "list" s = some b) (h : Q (.bl b) H) : rIsi K [.ref p, .ty s] H Q := by
  rcases hp with (hp | ⟨o, hp⟩) | ⟨o, its, n, h1, h2, _⟩
  · exact ⟨_, _, _, _, b, rfl, .ty _, .base (.lst hp), kit_ty hk, h⟩
  · exact ⟨_, _, _, _, b, rfl, .ty _, .base (.frz hp), kit_ty hk, h⟩
  · exact ⟨_, _, _, _, b, rfl, .ty _, .kList h1 h2, kit_ty hk, h⟩
theorem range_put {α β : Type} (g : α → β) (A : Nat → α) (f : α) (i : Nat) : (List.range (i + 1)).map (fun s => g (if s = i then f else A s)) = (List.range i).map (fun s => g (A s)) ++ [g f] := by
  rw [range_snoc, if_pos rfl, List.map_congr_left fun s hs => by rw [if_neg (by have := List.mem_range.mp hs; omega)]]

/-! ### tables in the store -/
def dCN (x : CN) : PyData := .tuple ([x.1, (x.2 : Int)].map PyData.int)
def dCRow (f : Nat → CN) (n : Nat) : PyData := .list ((List.range n).map fun j => dCN (f j))
def dTab (A : Nat → Nat → CN) (r n : Nat) : PyData := .list ((List.range r).map fun i => dCRow (A i) n)
theorem goodCN (x : CN) : Good 1 (dCN x) := goodTup (goodMap fun _ => goodInt)
theorem goodCRow (f : Nat → CN) (n : Nat) : Good 2 (dCRow f n) := goodLst (goodMap fun _ => goodCN _)
theorem goodTab (A : Nat → Nat → CN) (r n : Nat) : Good 3 (dTab A r n) := goodLst (goodMap fun _ => goodCRow _ _)
theorem dpCN {K : PySem.W.Frag} {H : Hp} {p : Addr} {x : CN} (h : SqT K H p [.int x.1, .int (x.2 : Nat)]) : Dp K H (.ref p) (dCN x) := .tup h (dpInts [x.1, (x.2 : Int)])
theorem cnAt {K : PySem.W.Frag} {H : Hp} {v : V} {x : CN} (h : Dp K H v (dCN x)) : ∃ p, v = .ref p ∧ SqT K H p [.int x.1, .int (x.2 : Nat)] := by
  obtain ⟨p, ys, rfl, h3, h4⟩ := dpTup h
  rw [dpAll_ints (ns := [x.1, (x.2 : Int)]) h4] at h3
  exact ⟨p, rfl, h3⟩
theorem crowAt {K : PySem.W.Frag} {H : Hp} {a : Addr} {f : Nat → CN} {n : Nat} (h : Dp K H (.ref a) (dCRow f n)) : ∃ xs, SqL K H a xs ∧ xs.length = n ∧ ∀ i, i < n → ∃ p, xs[i]? = some (.ref p) ∧ SqT K H p [.int (f i).1, .int ((f i).2 : Nat)] := by
  obtain ⟨xs, h1, h2⟩ := dpLstA h
  refine ⟨xs, h1, by have := dpaLen h2; simpa using this, fun i hi => ?_⟩
  obtain ⟨v, e, d⟩ := dpaGet (i := i) h2 (map_at hi)
  obtain ⟨p, rfl, d2⟩ := cnAt d
  exact ⟨p, e, d2⟩
theorem tabAt {K : PySem.W.Frag} {H : Hp} {a : Addr} {A : Nat → Nat → CN} {r n : Nat} (h : Dp K H (.ref a) (dTab A r n)) : ∃ xs, SqL K H a xs ∧ xs.length = r ∧ ∀ i, i < r → ∃ p, xs[i]? = some (.ref p) ∧ Dp K H (.ref p) (dCRow (A i) n) := by
  obtain ⟨xs, h1, h2⟩ := dpLstA h
  refine ⟨xs, h1, by have := dpaLen h2; simpa using this, fun i hi => ?_⟩
  obtain ⟨v, e, d⟩ := dpaGet (i := i) h2 (map_at hi)
  obtain ⟨p, _, rfl, _, _⟩ := dpLst d
  exact ⟨p, e, d⟩
def TabIn (K : PySem.W.Frag) (H : Hp) (p : Addr) (A : Nat → Nat → CN) (r n : Nat) : Prop := ∃ xs, H p = some (.lst xs) ∧ DpAll K H xs ((List.range r).map fun i => dCRow (A i) n)
theorem TabIn.same {K : PySem.W.Frag} {H H' : Hp} {p : Addr} {A : Nat → Nat → CN} {r n : Nat} (h : TabIn K H p A r n) (e : Same H H') : TabIn K H' p A r n := by
  obtain ⟨xs, h1, h2⟩ := h
  exact ⟨xs, e _ _ h1, h2.same e⟩
theorem TabIn.of {K : PySem.W.Frag} {H : Hp} {p : Addr} {A : Nat → Nat → CN} {r n : Nat} (h : GrD K H p ((List.range r).map fun i => dCRow (A i) n)) : TabIn K H p A r n := by
  obtain ⟨xs, h1, h2⟩ := h
  exact ⟨xs, h1, h2.same wo_same⟩
def lwV (F : Nat → CN) : Nat → V
  | 0 => .non
  | j + 1 => .int (csm F j).1
def mnV (F : Nat → CN) : Nat → Nat
  | 0 => 0
  | j + 1 => (csm F j).2
theorem dec_int_non (i : Int) : decide (V.int i = V.non) = false := decide_eq_false (by simp)
theorem dec_non_non : decide (V.non = V.non) = true := rfl
theorem crow_congr {f g : Nat → CN} {n : Nat} (h : ∀ i, i < n → f i = g i) : dCRow f n = dCRow g n := by
  unfold dCRow
  rw [List.map_congr_left fun i hi => by rw [h i (List.mem_range.mp hi)]]
theorem tab_congr {A B : Nat → Nat → CN} {r n : Nat} (h : ∀ i j, i < r → j < n → A i j = B i j) : dTab A r n = dTab B r n := by
  unfold dTab
  rw [List.map_congr_left fun i hi => crow_congr fun j hj => h i j (List.mem_range.mp hi) hj]
section
variable {P : Program} {w : World} {K : PySem.W.Frag} {mg : Str → Option Value} {base : Heap}
def jF (f : Nat → CN) (B : Nat → Nat → CN) (g u : Nat) : CN := cmu (f u) (B u g)
def spWayTo (K : PySem.W.Frag) : Sp := fun vs H Q _ => ∃ (pr pt : Addr) (f : Nat → CN) (B : Nat → Nat → CN) (n g m : Nat), vs = [.ref pr, .ref pt, .int g, .int m] ∧ Dp K H (.ref pr) (dCRow f (n + 1)) ∧ Dp K H (.ref pt) (dTab B (n + 1) (n + 1)) ∧ g ≤ n ∧ 0 < m ∧ n ≤ 100 ∧ (∀ i, i ≤ n → (f i).2 < 2 ^ 200) ∧ (∀ i j, i ≤ n → j ≤ n → (B i j).2 < 2 ^ 200) ∧
  ∀ p H', Same H H' → New H p → H' p = some (.tup [.int (csm (jF f B g) n).1, .int ((csm (jF f B g) n).2 % m : Nat)]) → Q (.ref p) H'
theorem ok_way_to {f : Addr} {fd : FuncData} (F : Fun K "way_to" "way_to" s_way_to f fd) (gf : mg "way_to" = some (.ref f)) (B : Bl mg) : Has P w K mg base CX0 1 "way_to" ["row", "table", "goal", "modulus"] (spWayTo K) := by
  refine Has.mk' F gf (F.binds (ps := ["row", "table", "goal", "modulus"]) fun _ _ _ _ _ _ us hl => match us, hl with | [_, _, _, _], _ => rfl) sc_way_to (by walk_at "len") (fun cdv A outer s H vs Q E hr h => ?_)
  obtain ⟨pr, pt, f, B', n, g, m, rfl, hrw, ht, hg, hm, hn, hf, hB, q⟩ := h
  obtain ⟨rs, hrs, hrl, hra⟩ := crowAt hrw
  obtain ⟨ts, hts, htl, hta⟩ := tabAt ht
  refine ⟨_, (pss_cons (ps_set (i := 4) sc_way_to.nd rfl (.inl rfl) pe_non)
 (pss_cons (ps_set (i := 5) sc_way_to.nd rfl (.inl rfl) pe_int)
 (pss_cons (ps_for PassesOwn.never rfl (pi_range1 (by rfl) B.range (pa_cons (pe_callB (call_lenK K) (by rfl) B.len (by decide +kernel) (pa_cons (pv 1) pa_nil)) pa_nil)) (pg_name (i := 6) sc_way_to.nd rfl (.inl rfl)) (pss_cons (ps_set (i := 7) sc_way_to.nd rfl (.inl rfl) (pe_op op_add (pe_ix (ix_tupK K) (pe_ix (ix_listK K) (pv 0) (pv 6) (fun _ _ => rfl)) pe_int (fun _ _ => rfl)) (pe_ix (ix_tupK K) (pe_ix (ix_listK K) (pe_ix (ix_listK K) (pv 1) (pv 6) (fun _ _ => rfl)) (pv 2) (fun _ _ => rfl)) pe_int (fun _ _ => rfl))))
 (pss_cons (ps_if (PW.pt (pw_or (pt_cmpR op_isN (pv 4) pe_non (nomark _)) (pw_or1 (pt_cmpR op_lt (pv 7) (pv 4) (nomark _))))) (pss_cons (ps_set (i := 4) sc_way_to.nd rfl (.inl rfl) (pv 7))
 (pss_one (ps_set (i := 5) sc_way_to.nd rfl (.inl rfl) pe_int))) pss_nil)
 (pss_one (ps_if (pt_cmpR op_eq (pv 7) (pv 4) (nomark _)) (pss_one (ps_aug (i := 5) sc_way_to.nd rfl (.inl rfl) (pe_op op_mulX (pe_ix (ix_tupK K) (pe_ix (ix_listK K) (pv 0) (pv 6) (fun _ _ => rfl)) pe_int (fun _ _ => rfl)) (pe_ix (ix_tupK K) (pe_ix (ix_listK K) (pe_ix (ix_listK K) (pv 1) (pv 6) (fun _ _ => rfl)) (pv 2) (fun _ _ => rfl)) pe_int (fun _ _ => rfl))) ip_add)) pss_nil)))))
 (pss_one (ps_ret (pe_tup (pa_cons (pv 4) (pa_cons (pe_op op_mod (pv 5) (pv 3)) pa_nil)))))))), ?_⟩
  walk_at "sts"
  refine for_r0 (n := n + 1) ?_ (fun i σ H' => ∃ (y6 y7 : Option V), σ = [some (.ref pr), some (.ref pt), some (.int (g : Nat)), some (.int (m : Nat)), some (lwV (jF f B' g) i), some (.int (mnV (jF f B' g) i : Nat)), y6, y7] ∧ H' = H) ?_ ?_ ?_
  · rw [htl]
  · exact ⟨_, _, rfl, rfl⟩
  · rintro i σ H' hi ⟨y6, y7, rfl, rfl⟩
    obtain ⟨p1, a1, a2⟩ := hra i hi
    obtain ⟨p2, b1, b2⟩ := hta i hi
    obtain ⟨xs2, c1, c2, c3⟩ := crowAt b2
    obtain ⟨p3, d1, d2⟩ := c3 g (by omega)
    have f1 := hf i (by omega)
    have f2 := hB i g (by omega) hg
    have e : jF f B' g i = ((f i).1 + (B' i g).1, (f i).2 * (B' i g).2) := rfl
    walk_at "sts"
    cases i with
    | zero =>
      show _
      have e1 : lwV (jF f B' g) (0 + 1) = .int ((f 0).1 + (B' 0 g).1) := rfl
      have e2 : mnV (jF f B' g) (0 + 1) = (f 0).2 * (B' 0 g).2 := rfl
      rw [e1, e2]
      rw [show decide (lwV (jF f B' g) 0 = V.non) = true from rfl]
      walk_at "sts"
      rw [Int.zero_add, ← Int.natCast_mul]
      exact ⟨_, _, rfl, rfl⟩
    | succ j =>
      rw [show lwV (jF f B' g) (j + 1) = .int (csm (jF f B' g) j).1 from rfl, show mnV (jF f B' g) (j + 1) = (csm (jF f B' g) j).2 from rfl, dec_int_non]
      have e0 : csm (jF f B' g) (j + 1) = cad (csm (jF f B' g) j) (jF f B' g (j + 1)) := rfl
      have e1 : lwV (jF f B' g) (j + 1 + 1) = .int (csm (jF f B' g) (j + 1)).1 := rfl
      have e2 : mnV (jF f B' g) (j + 1 + 1) = (csm (jF f B' g) (j + 1)).2 := rfl
      have e3 : (jF f B' g (j + 1)).1 = (f (j + 1)).1 + (B' (j + 1) g).1 := rfl
      have e4 : (jF f B' g (j + 1)).2 = (f (j + 1)).2 * (B' (j + 1) g).2 := rfl
      walk_at "sts"
      refine ifd (fun hc => ?_) (fun hc => ?_)
      · rw [cad_gt (by rw [e3]; exact hc)] at e0
        rw [e1, e2, e0, e3, e4]
        walk_at "sts"
        rw [Int.zero_add, ← Int.natCast_mul]
        exact ⟨_, _, rfl, rfl⟩
      · walk_at "sts"
        refine ifd (fun hd => ?_) (fun hd => ?_)
        · rw [cad_eq (by rw [e3]; omega)] at e0
          rw [e1, e2, e0, e4]
          walk_at "sts"
          rw [← Int.natCast_mul, ← Int.natCast_add]
          exact ⟨_, _, rfl, rfl⟩
        · rw [cad_lt (by rw [e3]; omega)] at e0
          rw [e1, e2, e0]
          walk_at "sts"
          exact ⟨_, _, rfl, rfl⟩
  · rintro σ H' ⟨y6, y7, rfl, rfl⟩
    rw [show lwV (jF f B' g) (n + 1) = .int (csm (jF f B' g) n).1 from rfl, show mnV (jF f B' g) (n + 1) = (csm (jF f B' g) n).2 from rfl]
    walk_at "sts"
    refine w_new fun p np => ?_
    exact q p _ (same_upd np) np upd_same
def spRowJ (K : PySem.W.Frag) : Sp := fun vs H Q _ => ∃ (pr pt : Addr) (f : Nat → CN) (B : Nat → Nat → CN) (n m : Nat), vs = [.ref pr, .ref pt, .int m] ∧ Dp K H (.ref pr) (dCRow f (n + 1)) ∧ Dp K H (.ref pt) (dTab B (n + 1) (n + 1)) ∧ 0 < m ∧ n ≤ 100 ∧ (∀ i, i ≤ n → (f i).2 < 2 ^ 200) ∧ (∀ i j, i ≤ n → j ≤ n → (B i j).2 < 2 ^ 200) ∧
  ∀ p H', Same H H' → New H p → Dp K H' (.ref p) (dCRow (fun g => cmd m (csm (jF f B g) n)) (n + 1)) → Q (.ref p) H'
theorem ok_row_joined {f : Addr} {fd : FuncData} (F : Fun K "row_joined" "row_joined" s_row_joined f fd) (gf : mg "row_joined" = some (.ref f)) (B : Bl mg) (h_way_to : Has P w K mg base CX0 1 "way_to" ["row", "table", "goal", "modulus"] (spWayTo K)) : Has P w K mg base CX0 2 "row_joined" ["row", "table", "modulus"] (spRowJ K) := by
  refine Has.mk' F gf (F.binds (ps := ["row", "table", "modulus"]) fun _ _ _ _ _ _ us hl => match us, hl with | [_, _, _], _ => rfl) sc_row_joined (by walk_at "len") (fun cdv A outer s H vs Q E hr h => ?_)
  obtain ⟨pr, pt, f, B', n, m, rfl, hrw, ht, hm, hn, hf, hB, q⟩ := h
  obtain ⟨ts, hts, htl, hta⟩ := tabAt ht
  refine ⟨_, (pss_one (ps_ret (pe_lc (own := [("goal", 3)]) rfl sc_row_joined.nd (pi_range1 (by rfl) B.range (pa_cons (pe_callB (call_lenK K) (by rfl) B.len (by decide +kernel) (pa_cons (pv 1) pa_nil)) pa_nil)) (blkOk_by (own := [("goal", 3)]) (N := ["row", "table", "modulus", "goal"]) (sc := defScope s_row_joined) (by decide +kernel)) (fun _ _ _ _ _ => pg_name (i := 3) sc_row_joined.nd rfl (Or.inl rfl)) (fun _ _ _ _ _ => pts_nil) (fun _ _ _ _ _ => (pe_fn h_way_to (hr.mono (by decide)) (by rfl) (pa_cons (pv 0) (pa_cons (pv 1) (pa_cons (pv 3) (pa_cons (pv 2) pa_nil))))))))), ?_⟩
  walk_at "sts"
  intro D nD
  refine lc_r0 (n := n + 1) ?_ (fun i H' => GrD K H' D ((List.range i).map fun g => dCN (cmd m (csm (jF f B' g) n))) ∧ Same H H') ?_ ?_ ?_
  · rw [htl]
  · exact ⟨GrD.new, same_upd nD⟩
  · rintro i H' hi ⟨⟨xs, x1, x2⟩, s1⟩
    have hxl := dpaLen x2
    rw [List.length_map, List.length_range] at hxl
    walk_at "sts"
    refine ⟨pr, pt, f, B', n, i, m, rfl, hrw.same s1, ht.same s1, by omega, hm, hn, hf, hB, fun p H2 s2 n2 hp => ?_⟩
    have hDp : D ≠ p := ne_new x1 n2
    refine ⟨xs, s2 _ _ x1, szlt (by omega), ?_, (s1.trans s2).mut nD⟩
    rw [range_snoc]
    exact GrD.push x2 s2 (dpCN (SqT.of (wo_get hp (Ne.symm hDp))))
  · rintro H' ⟨hG, s1⟩
    exact q D H' s1 nD hG.dp
def spTabsJ (K : PySem.W.Frag) : Sp := fun vs H Q _ => ∃ (pa pb : Addr) (A B : Nat → Nat → CN) (r n m : Nat), vs = [.ref pa, .ref pb, .int m] ∧ Dp K H (.ref pa) (dTab A r (n + 1)) ∧ Dp K H (.ref pb) (dTab B (n + 1) (n + 1)) ∧ 0 < m ∧ n ≤ 100 ∧ r ≤ 100 ∧ (∀ i j, i < r → j ≤ n → (A i j).2 < 2 ^ 200) ∧ (∀ i j, i ≤ n → j ≤ n → (B i j).2 < 2 ^ 200) ∧
  ∀ p H', Same H H' → New H p → Dp K H' (.ref p) (dTab (fun s t => cmd m (cjn n A B s t)) r (n + 1)) → TabIn K H' p (fun s t => cmd m (cjn n A B s t)) r (n + 1) → Q (.ref p) H'
theorem ok_tables_joined {f : Addr} {fd : FuncData} (F : Fun K "tables_joined" "tables_joined" s_tables_joined f fd) (gf : mg "tables_joined" = some (.ref f)) (B : Bl mg) (h_row_joined : Has P w K mg base CX0 2 "row_joined" ["row", "table", "modulus"] (spRowJ K)) : Has P w K mg base CX0 3 "tables_joined" ["one", "two", "modulus"] (spTabsJ K) := by
  refine Has.mk' F gf (F.binds (ps := ["one", "two", "modulus"]) fun _ _ _ _ _ _ us hl => match us, hl with | [_, _, _], _ => rfl) sc_tables_joined (by walk_at "len") (fun cdv A outer s H vs Q E hr h => ?_)
  obtain ⟨pa, pb, A', B', r, n, m, rfl, ha, hb, hm, hn, hr', hA, hB, q⟩ := h
  obtain ⟨ts, hts, htl, hta⟩ := tabAt ha
  refine ⟨_, (pss_one (ps_ret (pe_lc (own := [("row", 3)]) rfl sc_tables_joined.nd (pi_listK K (pv 0)) (blkOk_by (own := [("row", 3)]) (N := ["one", "two", "modulus", "row"]) (sc := defScope s_tables_joined) (by decide +kernel)) (fun _ _ _ _ _ => pg_name (i := 3) sc_tables_joined.nd rfl (Or.inl rfl)) (fun _ _ _ _ _ => pts_nil) (fun _ _ _ _ _ => (PE.frm2 (pe_fn h_row_joined (hr.mono (by decide)) (by rfl) (pa_cons (pv 3) (pa_cons (pv 1) (pa_cons (pv 2) pa_nil))))))))), ?_⟩
  walk_at "sts"
  intro D nD
  refine lc_list (xs := ts) (fun i H' => GrD K H' D ((List.range i).map fun s => dCRow (fun t => cmd m (cjn n A' B' s t)) (n + 1)) ∧ Same H H') ?_ ?_ ?_ ?_
  · exact ⟨GrD.new, same_upd nD⟩
  · rintro i H' _ ⟨_, s1⟩
    exact s1.seq hts
  · rintro i v H' hv ⟨⟨xs, x1, x2⟩, s1⟩
    have hi : i < r := by rw [← htl]; exact (List.getElem?_eq_some_iff.mp hv).1
    obtain ⟨pr, e1, e2⟩ := hta i hi
    rw [hv] at e1
    cases e1
    have hxl := dpaLen x2
    rw [List.length_map, List.length_range] at hxl
    have s2 := same_wo s1 nD
    walk_at "sts"
    refine w_frm x1 ?_
    walk_at "sts"
    refine ⟨pr, pb, A' i, B', n, m, rfl, e2.same s2, hb.same s2, hm, hn, fun j hj => hA i j hi hj, hB, fun p H3 s3 n3 hp => ?_⟩
    walk_at "sts"
    intro h3
    walk_at "sts"
    refine ⟨xs, upd_same, szlt (by omega), ?_, ?_⟩
    · rw [range_snoc]
      exact GrD.put x2 s3 h3 hp
    · rw [upd_upd]
      exact (s2.trans s3).trans (same_upd h3)
  · rintro H' ⟨hG, s1⟩
    rw [htl] at hG
    exact q D H' s1 nD hG.dp (.of hG)
end

/-! ### powers of tables -/
theorem cmd_cjn (m n : Nat) (A : Nat → Nat → CN) (a b s t : Nat) : cmd m (cjn n (fun s t => cmd m (cpw n A a s t)) (fun s t => cmd m (cpw n A b s t)) s t) = cmd m (cpw n A (a + b + 1) s t) := by
  rw [← cpw_add]
  exact CEq.red (CEq.cjn (fun u _ => cmd_eq _ _) fun u _ => cmd_eq _ _)
theorem cmd_cjnF (m n : Nat) (A : Nat → Nat → CN) (a b : Nat) : (fun s t => cmd m (cjn n (fun s t => cmd m (cpw n A a s t)) (fun s t => cmd m (cpw n A b s t)) s t)) = fun s t => cmd m (cpw n A (a + b + 1) s t) := by
  funext s t
  exact cmd_cjn m n A a b s t
theorem dec_ref_non (p : Addr) : decide (V.ref p = V.non) = false := decide_eq_false (by simp)
theorem cmd_lt {m : Nat} (h : 0 < m) (x : CN) : (cmd m x).2 < m := Nat.mod_lt _ h
section
variable {P : Program} {w : World} {K : PySem.W.Frag} {mg : Str → Option Value} {base : Heap}
def spByMod (K : PySem.W.Frag) : Sp := fun vs H Q _ => ∃ (pr : Addr) (f : Nat → CN) (n m : Nat), vs = [.ref pr, .int m] ∧ Dp K H (.ref pr) (dCRow f n) ∧ 0 < m ∧ n ≤ 1000 ∧
  ∀ p H', Same H H' → New H p → Dp K H' (.ref p) (dCRow (fun j => cmd m (f j)) n) → Q (.ref p) H'
theorem ok_by_modulus {f : Addr} {fd : FuncData} (F : Fun K "by_modulus" "by_modulus" s_by_modulus f fd) (gf : mg "by_modulus" = some (.ref f)) (B : Bl mg) : Has P w K mg base CX0 1 "by_modulus" ["row", "modulus"] (spByMod K) := by
  refine Has.mk' F gf (F.binds (ps := ["row", "modulus"]) fun _ _ _ _ _ _ us hl => match us, hl with | [_, _], _ => rfl) sc_by_modulus (by walk_at "len") (fun cdv A outer s H vs Q E hr h => ?_)
  obtain ⟨pr, f, n, m, rfl, hrw, hm, hn, q⟩ := h
  obtain ⟨rs, hrs, hrl, hra⟩ := crowAt hrw
  refine ⟨_, (pss_one (ps_ret (pe_lc (own := [("entry", 2)]) rfl sc_by_modulus.nd (pi_listK K (pv 0)) (blkOk_by (own := [("entry", 2)]) (N := ["row", "modulus", "entry"]) (sc := defScope s_by_modulus) (by decide +kernel)) (fun _ _ _ _ _ => pg_name (i := 2) sc_by_modulus.nd rfl (Or.inl rfl)) (fun _ _ _ _ _ => pts_nil) (fun _ _ _ _ _ => (pe_tup (pa_cons (pe_ix (ix_tupK K) (pv 2) pe_int (fun _ _ => rfl)) (pa_cons (pe_op op_mod (pe_ix (ix_tupK K) (pv 2) pe_int (fun _ _ => rfl)) (pv 1)) pa_nil))))))), ?_⟩
  walk_at "sts"
  intro D nD
  refine lc_list (xs := rs) (fun i H' => GrD K H' D ((List.range i).map fun j => dCN (cmd m (f j))) ∧ Same H H') ?_ ?_ ?_ ?_
  · exact ⟨GrD.new, same_upd nD⟩
  · rintro i H' _ ⟨_, s1⟩
    exact s1.seq hrs
  · rintro i v H' hv ⟨⟨xs, x1, x2⟩, s1⟩
    have hi : i < n := by rw [← hrl]; exact (List.getElem?_eq_some_iff.mp hv).1
    obtain ⟨pe, e1, e2⟩ := hra i hi
    rw [hv] at e1
    cases e1
    have e3 := same_read s1 e2
    have hxl := dpaLen x2
    rw [List.length_map, List.length_range] at hxl
    walk_at "sts"
    refine w_new fun p np => ?_
    have hDp : D ≠ p := ne_new x1 np
    have sp := same_upd (o := .tup [.int (f i).1, .int (((f i).2 : Int) % (m : Int))]) np
    refine ⟨xs, sp _ _ x1, szlt (by omega), ?_, (s1.trans sp).mut nD⟩
    rw [range_snoc]
    exact GrD.push x2 sp (dpCN (SqT.of (wo_get upd_same (Ne.symm hDp))))
  · rintro H' ⟨hG, s1⟩
    rw [hrl] at hG
    exact q D H' s1 nD hG.dp
def spPower (K : PySem.W.Frag) : Sp := fun vs H Q _ => ∃ (pt : Addr) (A : Nat → Nat → CN) (n N m : Nat), vs = [.ref pt, .int N, .int m] ∧ Dp K H (.ref pt) (dTab A (n + 1) (n + 1)) ∧ 0 < m ∧ m ≤ 2 ^ 200 ∧ n ≤ 99 ∧ 1 ≤ N ∧
  ∀ p H', Same H H' → New H p → Dp K H' (.ref p) (dTab (fun s t => cmd m (cpw n A (N - 1) s t)) (n + 1) (n + 1)) → TabIn K H' p (fun s t => cmd m (cpw n A (N - 1) s t)) (n + 1) (n + 1) → Q (.ref p) H'
theorem ok_table_power {f : Addr} {fd : FuncData} (F : Fun K "table_power" "table_power" s_table_power f fd) (gf : mg "table_power" = some (.ref f)) (B : Bl mg) (h_by_modulus : Has P w K mg base CX0 1 "by_modulus" ["row", "modulus"] (spByMod K)) (h_tables_joined : Has P w K mg base CX0 3 "tables_joined" ["one", "two", "modulus"] (spTabsJ K)) : Has P w K mg base CX0 4 "table_power" ["table", "times", "modulus"] (spPower K) := by
  refine Has.mk' F gf (F.binds (ps := ["table", "times", "modulus"]) fun _ _ _ _ _ _ us hl => match us, hl with | [_, _, _], _ => rfl) sc_table_power (by walk_at "len") (fun cdv A outer s H vs Q E hr h => ?_)
  obtain ⟨pt, A', n, N, m, rfl, ht, hm, hm2, hn, hN, q⟩ := h
  obtain ⟨ts, hts, htl, hta⟩ := tabAt ht
  refine ⟨_, (pss_cons (ps_setLc (i := 3) (own := [("row", 5)]) rfl sc_table_power.nd rfl rfl (sw_true rfl rfl rfl (by decide +kernel)) (pi_listK K (pv 0)) (blkOk_by (own := [("row", 5)]) (N := ["table", "times", "modulus", "square", "found", "row"]) (sc := defScope s_table_power) (by decide +kernel)) (fun _ _ _ _ _ => pg_name (i := 5) sc_table_power.nd rfl (Or.inl rfl)) (fun _ _ _ _ _ => pts_nil) (fun _ _ _ _ _ => (PE.frm2 (pe_fn h_by_modulus (hr.mono (by decide)) (by rfl) (pa_cons (pv 5) (pa_cons (pv 2) pa_nil))))))
 (pss_cons (ps_set (i := 4) sc_table_power.nd rfl (.inl rfl) pe_non)
 (pss_cons (ps_while PassesOwn.never (pt_cmpR op_gt (pv 1) pe_int (nomark _)) (pss_cutX (ps_if (pt_cmpR op_eq (pe_op op_and (pv 1) pe_int) pe_int (nomark _)) (pss_one (ps_set (i := 4) sc_table_power.nd rfl (.inl rfl) (pe_ifExp (pt_cmpR op_isN (pv 4) pe_non (nomark _)) (pv 3) (pe_fn h_tables_joined (hr.mono (by decide)) (by rfl) (pa_cons (pv 4) (pa_cons (pv 3) (pa_cons (pv 2) pa_nil))))))) pss_nil)
 (pss_cons (ps_set (i := 1) sc_table_power.nd rfl (.inl rfl) (pe_op op_shr (pv 1) pe_int))
 (pss_one (ps_if (pt_cmpR op_gt (pv 1) pe_int (nomark _)) (pss_one (ps_set (i := 3) sc_table_power.nd rfl (.inl rfl) (pe_fn h_tables_joined (hr.mono (by decide)) (by rfl) (pa_cons (pv 3) (pa_cons (pv 3) (pa_cons (pv 2) pa_nil)))))) pss_nil)))))
 (pss_one (ps_ret (pv 4)))))), ?_⟩
  walk_at "sts"
  intro D nD
  refine lc_list (xs := ts) (fun i H' => GrD K H' D ((List.range i).map fun s => dCRow (fun t => cmd m (A' s t)) (n + 1)) ∧ Same H H') ?_ ?_ ?_ ?_
  · exact ⟨GrD.new, same_upd nD⟩
  · rintro i H' _ ⟨_, s1⟩
    exact s1.seq hts
  · rintro i v H' hv ⟨⟨xs, x1, x2⟩, s1⟩
    have hi : i < n + 1 := by rw [← htl]; exact (List.getElem?_eq_some_iff.mp hv).1
    obtain ⟨pr, e1, e2⟩ := hta i hi
    rw [hv] at e1
    cases e1
    have hxl := dpaLen x2
    rw [List.length_map, List.length_range] at hxl
    have s2 := same_wo s1 nD
    walk_at "sts"
    refine w_frm x1 ?_
    walk_at "sts"
    refine ⟨pr, A' i, n + 1, m, rfl, e2.same s2, hm, by omega, fun p H3 s3 n3 hp => ?_⟩
    walk_at "sts"
    intro h3
    walk_at "sts"
    refine ⟨xs, upd_same, szlt (by omega), ?_, ?_⟩
    · rw [range_snoc]
      exact GrD.put x2 s3 h3 hp
    · rw [upd_upd]
      exact (s2.trans s3).trans (same_upd h3)
  rintro H1 ⟨hG, s1⟩
  rw [htl] at hG
  have hD : Dp K H1 (.ref D) (dTab (fun s t => cmd m (cpw n A' 0 s t)) (n + 1) (n + 1)) := hG.dp
  have hD0 : TabIn K H1 D (fun s t => cmd m (cpw n A' 0 s t)) (n + 1) (n + 1) := .of hG
  walk_at "sts"
  refine ⟨fun k σ H' => ∃ (t a : Nat) (pq : Addr) (fo : V) (y5 : Option V), σ = [some (.ref pt), some (.int (t : Nat)), some (.int (m : Nat)), some (.ref pq), some fo, y5] ∧ Same H H' ∧ New H pq ∧ (0 < t → Dp K H' (.ref pq) (dTab (fun s u => cmd m (cpw n A' a s u)) (n + 1) (n + 1)) ∧ TabIn K H' pq (fun s u => cmd m (cpw n A' a s u)) (n + 1) (n + 1)) ∧ k = t ∧
    ((fo = .non ∧ N = t * (a + 1)) ∨ ∃ pf b, fo = .ref pf ∧ New H pf ∧ Dp K H' (.ref pf) (dTab (fun s u => cmd m (cpw n A' b s u)) (n + 1) (n + 1)) ∧ TabIn K H' pf (fun s u => cmd m (cpw n A' b s u)) (n + 1) (n + 1) ∧ N = b + 1 + t * (a + 1)), ⟨N, N, 0, D, .non, _, rfl, s1, nD, fun _ => ⟨hD, hD0⟩, rfl, .inl ⟨rfl, by omega⟩⟩, ?_⟩
  rintro k σ H' ⟨t, a, pq, fo, y5, rfl, s2, nq, hq, rfl, hfo⟩
  walk_at "sts"
  refine ifd (fun hc => ?_) (fun hc => ?_)
  · refine w_wt ?_
    have ht0 : 0 < k := by omega
    obtain ⟨hq1, hqx⟩ := hq ht0
    have e1 : (k : Int) / 2 ^ Int.toNat 1 = ((k / 2 : Nat) : Int) := by
      show (k : Int) / 2 = _
      omega
    have hlt : ∀ b s t, ((fun s u => cmd m (cpw n A' b s u)) s t : CN).2 < 2 ^ 200 := fun b s t => Nat.lt_of_lt_of_le (cmd_lt hm _) hm2
    walk_at "sts"
    refine w_cut (fun σ' H2 => ∃ (fo' : V), σ' = [some (.ref pt), some (.int (k : Nat)), some (.int (m : Nat)), some (.ref pq), some fo', y5] ∧ Same H' H2 ∧ ((fo' = .non ∧ N = k / 2 * (2 * (a + 1))) ∨ ∃ pf b, fo' = .ref pf ∧ New H pf ∧ Dp K H2 (.ref pf) (dTab (fun s u => cmd m (cpw n A' b s u)) (n + 1) (n + 1)) ∧ TabIn K H2 pf (fun s u => cmd m (cpw n A' b s u)) (n + 1) (n + 1) ∧ N = b + 1 + k / 2 * (2 * (a + 1)))) ?_ ?_
    · walk_at "sts"
      rw [and_one _ (Int.natCast_nonneg _)]
      have ek : k * (a + 1) = k % 2 * (a + 1) + k / 2 * (2 * (a + 1)) := by
        rw [← Nat.mul_assoc, ← Nat.add_mul]
        congr 1
        omega
      refine ifd (fun hd => ?_) (fun hd => ?_)
      · rw [show k % 2 = 1 by omega, Nat.one_mul] at ek
        walk_at "sts"
        rcases hfo with ⟨rfl, h0⟩ | ⟨pf, b, rfl, nf, hf, hx, h0⟩
        · rw [dec_non_non]
          walk_at "sts"
          exact ⟨_, rfl, Same.refl _, .inr ⟨pq, a, rfl, nq, hq1, hqx, by omega⟩⟩
        · rw [dec_ref_non]
          walk_at "sts"
          refine ⟨pf, pq, _, _, n + 1, n, m, rfl, hf, hq1, hm, by omega, by omega, fun i j _ _ => hlt _ _ _, fun i j _ _ => hlt _ _ _, fun p H2 s3 n3 hp hpx => ?_⟩
          rw [cmd_cjnF] at hp hpx
          exact ⟨_, rfl, s3, .inr ⟨p, b + a + 1, rfl, n3.of s2, hp, hpx, by omega⟩⟩
      · rw [show k % 2 = 0 by omega, Nat.zero_mul, Nat.zero_add] at ek
        walk_at "sts"
        refine ⟨_, rfl, Same.refl _, ?_⟩
        rcases hfo with ⟨rfl, h0⟩ | ⟨pf, b, rfl, nf, hf, hx, h0⟩
        · exact .inl ⟨rfl, by omega⟩
        · exact .inr ⟨pf, b, rfl, nf, hf, hx, by omega⟩
    rintro σ' H2 ⟨fo', rfl, s3, hfo'⟩
    have hq2 := hq1.same s3
    walk_at "sts"
    rw [e1]
    refine ifd (fun hd => ?_) (fun hd => ?_)
    · walk_at "sts"
      refine ⟨pq, pq, _, _, n + 1, n, m, rfl, hq2, hq2, hm, by omega, by omega, fun i j _ _ => hlt _ _ _, fun i j _ _ => hlt _ _ _, fun p H3 s4 n4 hp hpx => ?_⟩
      rw [cmd_cjnF] at hp hpx
      walk_at "sts"
      refine ⟨_, by omega, k / 2, a + a + 1, p, fo', _, rfl, (s2.trans s3).trans s4, n4.of (s2.trans s3), fun _ => ⟨hp, hpx⟩, rfl, ?_⟩
      rw [show a + a + 1 + 1 = 2 * (a + 1) by omega]
      rcases hfo' with ⟨rfl, h0⟩ | ⟨pf, b, rfl, nf, hf, hx, h0⟩
      · exact .inl ⟨rfl, h0⟩
      · exact .inr ⟨pf, b, rfl, nf, hf.same s4, hx.same s4, h0⟩
    · walk_at "sts"
      have hk0 : k / 2 = 0 := by omega
      refine ⟨_, by omega, k / 2, a, pq, fo', _, rfl, s2.trans s3, nq, fun h => absurd h (by omega), rfl, ?_⟩
      rw [hk0, Nat.zero_mul] at hfo' ⊢
      exact hfo'
  · have ht0 : k = 0 := by omega
    subst ht0
    rcases hfo with ⟨rfl, h0⟩ | ⟨pf, b, rfl, nf, hf, hx, h0⟩
    · omega
    · walk_at "sts"
      have eb : N - 1 = b := by omega
      subst eb
      exact q pf H' s2 nf hf hx
end

section
variable {P : Program} {w : World} {K : PySem.W.Frag} {mg : Str → Option Value} {base : Heap}
def spCell (K : PySem.W.Frag) : Sp := fun vs H Q _ => ∃ (p : Addr) (ns : List Int) (k : Nat), vs = [.ref p, .int k] ∧ SqL K H p (ns.map V.int) ∧ Q (.int (ns.getD k 0)) H
theorem ok_law_cell {f : Addr} {fd : FuncData} (F : Fun K "_law_cell" "_law_cell" s_law_cell f fd) (gf : mg "_law_cell" = some (.ref f)) (B : Bl mg) : Has P w K mg base CX0 1 "_law_cell" ["script", "k"] (spCell K) := by
  refine Has.mk' F gf (F.binds (ps := ["script", "k"]) fun _ _ _ _ _ _ us hl => match us, hl with | [_, _], _ => rfl) sc_law_cell (by walk_at "len") (fun cdv A outer s H vs Q E hr h => ?_)
  obtain ⟨p, ns, k, rfl, hp, q⟩ := h
  refine ⟨_, (pss_cons (ps_if (pt_cmpR op_lt (pv 1) (pe_callB (call_lenK K) (by rfl) B.len (by decide +kernel) (pa_cons (pv 0) pa_nil)) (nomark _)) (pss_one (ps_ret (pe_ix (ix_listK K) (pv 0) (pv 1) (fun _ _ => rfl)))) pss_nil)
 (pss_one (ps_ret pe_int))), ?_⟩
  walk_at "sts"
  refine ifd (fun hc => ?_) (fun hc => ?_)
  · rw [List.length_map] at hc
    have e : (ns.map V.int)[k]? = some (.int (ns.getD k 0)) := by
      rw [List.getElem?_map, List.getD_eq_getElem?_getD, List.getElem?_eq_getElem (by omega)]
      rfl
    walk_at "sts"
    exact q
  · rw [List.length_map] at hc
    walk_at "sts"
    rw [List.getD_eq_getElem?_getD, List.getElem?_eq_none (by omega)] at q
    exact q
end

section
variable {P : Program} {w : World} {K : PySem.W.Frag} {mg : Str → Option Value} {base : Heap}
def spLaw (K : PySem.W.Frag) : Sp := fun vs H Q _ => ∃ (a : Addr) (ns : List Int), vs = [.ref a] ∧ LsE K H a (ns.map V.int) ∧ ns.length ≤ 63 ∧ (∀ z ∈ ns, Builtin.Int.intBits z ≤ 1048576) ∧ ∀ H', Q (.bl true) H'
end
theorem modN (z : Int) {n : Nat} (h : 0 < n) : ∃ k : Nat, z % (n : Int) = (k : Int) ∧ k < n := by
  have h1 := Int.emod_nonneg z (show (n : Int) ≠ 0 by omega)
  have h2 := Int.emod_lt_of_pos z (show (0 : Int) < n by omega)
  exact ⟨(z % (n : Int)).toNat, by omega, by omega⟩

/-! ### the law's tables -/
theorem w_minL {K : PySem.W.Frag} {H : Hp} {Q : VK} {a : Addr} {ns : List Int} (hs : SqL K H a (ns.map V.int)) (h0 : 0 < ns.length) (h : ∀ m, m ∈ ns → (∀ y, y ∈ ns → m ≤ y) → Q (.int m) H) : rMin K [.ref a] H Q := ⟨a, ns, rfl, hs, h0, h⟩
theorem csm_min {F : Nat → CN} {n : Nat} {m : Int} (h1 : m ∈ (List.range (n + 1)).map fun i => (F i).1) (h2 : ∀ y, y ∈ (List.range (n + 1)).map (fun i => (F i).1) → m ≤ y) : m = (csm F n).1 := by
  obtain ⟨i, hi, rfl⟩ := List.mem_map.mp h1
  have hi := List.mem_range.mp hi
  obtain ⟨j, hj, e⟩ := csm_at F n
  have a := h2 _ (List.mem_map.mpr ⟨j, List.mem_range.mpr (by omega), rfl⟩)
  have b := csm_le F n i (by omega)
  omega
section
variable {P : Program} {w : World} {K : PySem.W.Frag} {mg : Str → Option Value} {base : Heap}
def spWhole : Sp := fun vs H Q _ => ∃ i : Int, vs = [.int i] ∧ Q (.bl true) H
theorem ok_law_whole {f : Addr} {fd : FuncData} (F : Fun K "_law_whole" "_law_whole" s_law_whole f fd) (gf : mg "_law_whole" = some (.ref f)) (B : Bl mg) : Has P w K mg base CX0 1 "_law_whole" ["found"] spWhole := by
  refine Has.mk' F gf (F.binds (ps := ["found"]) fun _ _ _ _ _ _ us hl => match us, hl with | [_], _ => rfl) sc_law_whole (by walk_at "len") (fun cdv A outer s H vs Q E hr h => ?_)
  obtain ⟨i, rfl, q⟩ := h
  refine ⟨_, (pss_one (ps_ret (pe_and (pe_callB (call_isiK' K) (by rfl) B.isinstance (by decide +kernel) (pa_cons (pv 0) (pa_cons (pe_bltn (v := .ty "int") (by rfl) B.int (by decide +kernel) rfl) pa_nil))) (pe_one (pe_not (pe_callB (call_isiK' K) (by rfl) B.isinstance (by decide +kernel) (pa_cons (pv 0) (pa_cons (pe_bltn (v := .ty "bool") (by rfl) B.bool (by decide +kernel) rfl) pa_nil)))))))), ?_⟩
  walk_at "sts"
  exact q
def spPairI (K : PySem.W.Frag) : Sp := fun vs H Q _ => ∃ (p : Addr) (i j : Int), vs = [.ref p] ∧ SqT K H p [.int i, .int j] ∧ Q (.bl true) H
theorem ok_law_pair {f : Addr} {fd : FuncData} (F : Fun K "_law_pair" "_law_pair" s_law_pair f fd) (gf : mg "_law_pair" = some (.ref f)) (B : Bl mg) (h_law_whole : Has P w K mg base CX0 1 "_law_whole" ["found"] spWhole) : Has P w K mg base CX0 2 "_law_pair" ["found"] (spPairI K) := by
  refine Has.mk' F gf (F.binds (ps := ["found"]) fun _ _ _ _ _ _ us hl => match us, hl with | [_], _ => rfl) sc_law_pair (by walk_at "len") (fun cdv A outer s H vs Q E hr h => ?_)
  obtain ⟨p, i, j, rfl, hp, q⟩ := h
  refine ⟨_, (pss_cons (ps_if (PW.pt (pw_or (pt_not (pt_val (pe_callB (call_isiK' K) (by rfl) B.isinstance (by decide +kernel) (pa_cons (pv 0) (pa_cons (pe_bltn (v := .ty "tuple") (by rfl) B.tuple (by decide +kernel) rfl) pa_nil))))) (pw_or1 (pt_cmpR op_ne (pe_callB (call_lenK K) (by rfl) B.len (by decide +kernel) (pa_cons (pv 0) pa_nil)) pe_int (nomark _))))) (pss_one (ps_ret pe_bl)) pss_nil)
 (pss_one (ps_ret (pe_and (pe_fn h_law_whole (hr.mono (by decide)) (by rfl) (pa_cons (pe_ix (ix_tupK K) (pv 0) pe_int (fun _ _ => rfl)) pa_nil)) (pe_one (pe_fn h_law_whole (hr.mono (by decide)) (by rfl) (pa_cons (pe_ix (ix_tupK K) (pv 0) pe_int (fun _ _ => rfl)) pa_nil))))))), ?_⟩
  walk_at "sts"
  refine w_istS hp kb_tt ?_
  walk_at "sts"
  refine ⟨_, rfl, ?_⟩
  walk_at "sts"
  refine ⟨_, rfl, ?_⟩
  walk_at "sts"
  refine ⟨_, rfl, ?_⟩
  exact q
def spNumber (K : PySem.W.Frag) : Sp := fun vs H Q _ => ∃ (p : Addr) (ns : List Int) (k : Nat), vs = [.ref p, .int k] ∧ SqL K H p (ns.map V.int) ∧ ns.length ≤ 63 ∧ k ≤ 10000 ∧ ∀ z : Int, Q (.int z) H
theorem ok_law_number {f : Addr} {fd : FuncData} (F : Fun K "_law_number" "_law_number" s_law_number f fd) (gf : mg "_law_number" = some (.ref f)) (B : Bl mg) : Has P w K mg base CX0 1 "_law_number" ["script", "k"] (spNumber K) := by
  refine Has.mk' F gf (F.binds (ps := ["script", "k"]) fun _ _ _ _ _ _ us hl => match us, hl with | [_, _], _ => rfl) sc_law_number (by walk_at "len") (fun cdv A outer s H vs Q E hr h => ?_)
  obtain ⟨p, ns, k, rfl, hp, hl, hk, q⟩ := h
  refine ⟨_, (pss_cons (ps_set (i := 2) sc_law_number.nd rfl (.inl rfl) pe_int)
 (pss_cons (ps_if (pt_cmpR op_gt (pe_callB (call_lenK K) (by rfl) B.len (by decide +kernel) (pa_cons (pv 0) pa_nil)) pe_int (nomark _)) (pss_one (ps_set (i := 2) sc_law_number.nd rfl (.inl rfl) (pe_ix (ix_listK K) (pv 0) (pe_op op_add pe_int (pe_op op_mod (pv 1) (pe_op op_sub (pe_callB (call_lenK K) (by rfl) B.len (by decide +kernel) (pa_cons (pv 0) pa_nil)) pe_int))) (fun _ _ => rfl)))) pss_nil)
 (pss_cons (ps_set (i := 3) sc_law_number.nd rfl (.inl rfl) (pe_op op_mod (pe_op op_mulX (pe_op op_add (pe_op op_mod (pv 2) pe_int) (pe_op op_mulX pe_int (pe_op op_fdivW (pv 1) (pe_callB (call_max2 rfl) (by rfl) B.max (by decide +kernel) (pa_cons pe_int (pa_cons (pe_op op_sub (pe_callB (call_lenK K) (by rfl) B.len (by decide +kernel) (pa_cons (pv 0) pa_nil)) pe_int) pa_nil)))))) pe_int) pe_int))
 (pss_one (ps_ret (pe_op op_add (pv 2) (pv 3))))))), ?_⟩
  walk_at "sts"
  rw [List.length_map]
  refine ifd (fun hc => ?_) (fun hc => ?_)
  · obtain ⟨r, hr1, hr2⟩ := modN (k : Int) (show 0 < ns.length - 1 by omega)
    have e1 : ((ns.length - 1 : Nat) : Int) = (ns.length : Int) - 1 := by omega
    rw [e1] at hr1
    have e2 : (ns.map V.int)[1 + r]? = some (.int (ns.getD (1 + r) 0)) := by
      rw [List.getElem?_map, List.getD_eq_getElem?_getD, List.getElem?_eq_getElem (by omega)]
      rfl
    have h0 : (0 : Int) < (ns.length : Int) - 1 := by omega
    walk_at "sts"
    rw [List.length_map]
    refine w_mod h0 ?_
    rw [hr1]
    walk_at "sts"
    rw [List.length_map]
    obtain ⟨M, hM, hM1, hM2⟩ : ∃ M : Int, (if (ns.length : Int) - 1 > 1 then (ns.length : Int) - 1 else 1) = M ∧ 0 < M ∧ M ≤ 100 := ⟨_, rfl, by split <;> omega, by split <;> omega⟩
    rw [hM]
    have h1 := Int.ediv_nonneg (show 0 ≤ (k : Int) by omega) (show 0 ≤ M by omega)
    have h2 := Int.ediv_le_self M (show 0 ≤ (k : Int) by omega)
    walk_at "sts"
    exact q _
  · walk_at "sts"
    rw [List.length_map]
    obtain ⟨M, hM, hM1, hM2⟩ : ∃ M : Int, (if (ns.length : Int) - 1 > 1 then (ns.length : Int) - 1 else 1) = M ∧ 0 < M ∧ M ≤ 100 := ⟨_, rfl, by split <;> omega, by split <;> omega⟩
    rw [hM]
    have h1 := Int.ediv_nonneg (show 0 ≤ (k : Int) by omega) (show 0 ≤ M by omega)
    have h2 := Int.ediv_le_self M (show 0 ≤ (k : Int) by omega)
    walk_at "sts"
    exact q _
def spTable (K : PySem.W.Frag) : Sp := fun vs H Q _ => ∃ (p : Addr) (ns : List Int) (n at_ mode : Nat), vs = [.ref p, .int n, .int at_, .int mode] ∧ SqL K H p (ns.map V.int) ∧ ns.length ≤ 63 ∧ n ≤ 10 ∧ at_ ≤ 1000 ∧ mode ≤ 2 ∧
  ∀ r H' A, Same H H' → New H r → Dp K H' (.ref r) (dTab A n n) → (∀ i j, (A i j).2 ≤ 10 ^ 60) → Q (.ref r) H'
theorem ok_law_table {f : Addr} {fd : FuncData} (F : Fun K "_law_table" "_law_table" s_law_table f fd) (gf : mg "_law_table" = some (.ref f)) (B : Bl mg) (h_law_number : Has P w K mg base CX0 1 "_law_number" ["script", "k"] (spNumber K)) : Has P w K mg base CX0 2 "_law_table" ["script", "size", "at", "mode"] (spTable K) := by
  refine Has.mk' F gf (F.binds (ps := ["script", "size", "at", "mode"]) fun _ _ _ _ _ _ us hl => match us, hl with | [_, _, _, _], _ => rfl) sc_law_table (by walk_at "len") (fun cdv A outer s H vs Q E hr h => ?_)
  obtain ⟨p, ns, n, at_, mode, rfl, hp, hl, hn, hat, hmo, q⟩ := h
  refine ⟨_, (pss_cons (ps_set (i := 4) sc_law_table.nd rfl (.inl rfl) (pe_lst pa_nil))
 (pss_cons (ps_for PassesOwn.never rfl (pi_range1 (by rfl) B.range (pa_cons (pv 1) pa_nil)) (pg_name (i := 5) sc_law_table.nd rfl (.inl rfl)) (pss_cons (ps_set (i := 6) sc_law_table.nd rfl (.inl rfl) (pe_lst pa_nil))
 (pss_cons (ps_for PassesOwn.never rfl (pi_range1 (by rfl) B.range (pa_cons (pv 1) pa_nil)) (pg_name (i := 7) sc_law_table.nd rfl (.inl rfl)) (pss_cons (ps_set (i := 8) sc_law_table.nd rfl (.inl rfl) (pe_fn h_law_number (hr.mono (by decide)) (by rfl) (pa_cons (pv 0) (pa_cons (pe_op op_add (pv 2) (pe_op op_mulX pe_int (pe_op op_add (pe_op op_mulX (pv 1) (pv 5)) (pv 7)))) pa_nil))))
 (pss_cons (ps_set (i := 9) sc_law_table.nd rfl (.inl rfl) (pe_fn h_law_number (hr.mono (by decide)) (by rfl) (pa_cons (pv 0) (pa_cons (pe_op op_add (pe_op op_add (pv 2) (pe_op op_mulX pe_int (pe_op op_add (pe_op op_mulX (pv 1) (pv 5)) (pv 7)))) pe_int) pa_nil))))
 (pss_one (ps_if (pt_cmpR op_eq (pv 3) pe_int (nomark _)) (pss_one (ps_expr (pe_bmK K (pe_bm PySem.F.plainAttrs_list PySem.F.slot_list_append PySem.F.type_list_append mt_append (pv 6) (pa_cons (pe_tup (pa_cons (pe_op op_sub (pe_op op_mod (pv 8) (pe_op op_add (pe_op op_mulX pe_int (pe_op op_pow pe_int pe_int)) pe_int)) (pe_op op_pow pe_int pe_int)) (pa_cons (pe_op op_mod (pv 9) (pe_op op_add (pe_op op_pow pe_int pe_int) pe_int)) pa_nil))) pa_nil))))) (pss_one (ps_expr (pe_bmK K (pe_bm PySem.F.plainAttrs_list PySem.F.slot_list_append PySem.F.type_list_append mt_append (pv 6) (pa_cons (pe_tup (pa_cons (pe_op op_sub (pe_op op_mod (pv 8) pe_int) pe_int) (pa_cons (pe_op op_mod (pv 9) (pe_op op_add (pe_op op_sub (pe_op op_mulX (pe_op op_pow pe_int pe_int) (pv 3)) (pe_op op_pow pe_int pe_int)) pe_int)) pa_nil))) pa_nil))))))))))
 (pss_one (ps_expr (pe_bmK K (pe_bm PySem.F.plainAttrs_list PySem.F.slot_list_append PySem.F.type_list_append mt_append (pv 4) (pa_cons (pv 6) pa_nil))))))))
 (pss_one (ps_ret (pv 4))))), ?_⟩
  walk_at "sts"
  refine w_new fun F nF => ?_
  walk_at "sts"
  refine for_r0 (n := n) rfl (fun i σ H' => ∃ (A : Nat → Nat → CN) (y5 y6 y7 y8 y9 : Option V), σ = [some (.ref p), some (.int (n : Nat)), some (.int (at_ : Nat)), some (.int (mode : Nat)), some (.ref F), y5, y6, y7, y8, y9] ∧ GrD K H' F ((List.range i).map fun i => dCRow (A i) n) ∧ Same H H' ∧ ∀ i j, (A i j).2 ≤ 10 ^ 60) ?_ ?_ ?_
  · exact ⟨fun _ _ => (0, 0), _, _, _, _, _, rfl, GrD.new, same_upd nF, fun _ _ => Nat.zero_le _⟩
  · rintro i σ H' hi ⟨A', y5, y6, y7, y8, y9, rfl, ⟨xs, x1, x2⟩, s1, hA⟩
    have hxl := dpaLen x2
    rw [List.length_map, List.length_range] at hxl
    walk_at "sts"
    refine w_new fun R nR => ?_
    have hFR : F ≠ R := ne_new x1 nR
    walk_at "sts"
    refine for_r0 (n := n) rfl (fun j σ H2 => ∃ (f : Nat → CN) (y7 y8 y9 : Option V), σ = [some (.ref p), some (.int (n : Nat)), some (.int (at_ : Nat)), some (.int (mode : Nat)), some (.ref F), some (.int (i : Nat)), some (.ref R), y7, y8, y9] ∧ Same H' H2 ∧ (∃ ys, H2 R = some (.lst ys) ∧ DpAll K (wo (wo H2 R) F) ys ((List.range j).map fun j => dCN (f j))) ∧ ∀ j, (f j).2 ≤ 10 ^ 60) ?_ ?_ ?_
    · exact ⟨fun _ => (0, 0), _, _, _, rfl, same_upd nR, ⟨[], upd_same, .nil⟩, fun _ => Nat.zero_le _⟩
    · rintro j σ H2 hj ⟨f, y7, y8, y9, rfl, s2, ⟨ys, z1, z2⟩, hf⟩
      have hyl := dpaLen z2
      rw [List.length_map, List.length_range] at hyl
      have hp2 := (s1.trans s2).seq hp
      obtain ⟨ni, hij2, hij⟩ : ∃ ni : Nat, (n : Int) * (i : Int) = (ni : Int) ∧ ni ≤ 100 := ⟨n * i, (Int.natCast_mul n i).symm, Nat.mul_le_mul hn (show i ≤ 10 by omega)⟩
      walk_at "sts"
      rw [hij2]
      walk_at "sts"
      refine ⟨p, ns, at_ + 2 * (ni + j), by simp only [Int.natCast_add, Int.natCast_mul]; rfl, hp2, hl, by omega, fun u => ?_⟩
      walk_at "sts"
      rw [hij2]
      walk_at "sts"
      refine ⟨p, ns, at_ + 2 * (ni + j) + 1, by simp only [Int.natCast_add, Int.natCast_mul]; rfl, hp2, hl, by omega, fun v => ?_⟩
      have fin : ∀ (x y : Int) (pp : Addr), 0 ≤ y → y ≤ 10 ^ 60 → New H2 pp → ∃ f' : Nat → CN, Same H' (upd (upd H2 pp (.tup [.int x, .int y])) R (.lst (ys ++ [.ref pp]))) ∧ (∃ ys', upd (upd H2 pp (.tup [.int x, .int y])) R (.lst (ys ++ [.ref pp])) R = some (.lst ys') ∧ DpAll K (wo (wo (upd (upd H2 pp (.tup [.int x, .int y])) R (.lst (ys ++ [.ref pp]))) R) F) ys' ((List.range (j + 1)).map fun j => dCN (f' j))) ∧ ∀ j, (f' j).2 ≤ 10 ^ 60 := fun x y pp y0 y1 npp => by
        have hRp : R ≠ pp := ne_new z1 npp
        have hFp : F ≠ pp := ne_new (s2 _ _ x1) npp
        have sp := same_upd (o := .tup [.int x, .int y]) npp
        refine ⟨fun s => if s = j then (x, y.toNat) else f s, (s2.trans sp).mut nR, ⟨_, upd_same, ?_⟩, fun s => ?_⟩
        · rw [wo_eq, range_put dCN f (x, y.toNat) j]
          refine dpaApp (z2.same (wo_mono (wo_mono sp))) (.cons (dpCN (SqT.of ?_)) .nil)
          rw [show ((y.toNat : Nat) : Int) = y by omega]
          exact wo_get (wo_get upd_same (Ne.symm hRp)) (Ne.symm hFp)
        · show (if s = j then (x, y.toNat) else f s).2 ≤ 10 ^ 60
          split
          · show y.toNat ≤ 10 ^ 60
            omega
          · exact hf s
      have p60 : (10 : Int) ^ Int.toNat 60 = 10 ^ 60 := rfl
      have p9 : (10 : Int) ^ Int.toNat 9 = 1000000000 := by decide
      walk_at "sts"
      refine ifd (fun hm => ?_) (fun hm => ?_)
      · walk_at "sts"
        refine w_new fun pp np => ?_
        walk_at "sts"
        have h1 : 0 ≤ v % (10 ^ Int.toNat 60 + 1) ∧ v % (10 ^ Int.toNat 60 + 1) ≤ 10 ^ 60 := by rw [p60]; omega
        obtain ⟨f', b1, b2, b3⟩ := fin (u % (2 * 10 ^ Int.toNat 60 + 1) - 10 ^ Int.toNat 60) (v % (10 ^ Int.toNat 60 + 1)) pp h1.1 h1.2 np
        exact ⟨f', _, _, _, rfl, b1, b2, b3⟩
      · walk_at "sts"
        rw [p9]
        obtain ⟨M, hM, hM1, hM2⟩ : ∃ M : Int, 1000000000 * (mode : Int) - 1000000000 + 4 = M ∧ 0 < M ∧ M ≤ 10 ^ 60 := ⟨_, rfl, by omega, by omega⟩
        rw [hM]
        refine w_mod hM1 ?_
        walk_at "sts"
        refine w_new fun pp np => ?_
        walk_at "sts"
        have h1 := Int.emod_nonneg v (show M ≠ 0 by omega)
        have h2 := Int.emod_lt_of_pos v hM1
        obtain ⟨f', b1, b2, b3⟩ := fin (u % 4 - 1) (v % M) pp h1 (by omega) np
        exact ⟨f', _, _, _, rfl, b1, b2, b3⟩
    · rintro σ H2 ⟨f, y7, y8, y9, rfl, s2, ⟨ys, z1, z2⟩, hf⟩
      have hx2 := s2 _ _ x1
      walk_at "sts"
      refine ⟨fun s => if s = i then f else A' s, _, _, _, _, _, rfl, ?_, (s1.trans s2).mut nF, fun a b => ?_⟩
      · rw [range_put (fun g => dCRow g n) A' f i]
        exact GrD.push x2 s2 (.lst (SqL.of (wo_get z1 (Ne.symm hFR))) (z2.same (wo_mono wo_same)))
      · show ((if a = i then f else A' a) b).2 ≤ 10 ^ 60
        split
        · exact hf b
        · exact hA a b
  · rintro σ H2 ⟨A', y5, y6, y7, y8, y9, rfl, hG, s1, hA⟩
    walk_at "sts"
    exact q F H2 A' s1 nF hG.dp hA
end

section
variable {P : Program} {w : World} {K : PySem.W.Frag} {mg : Str → Option Value} {base : Heap}
def spSameT (K : PySem.W.Frag) : Sp := fun vs H Q _ => ∃ (a b : Addr) (A : Nat → Nat → CN) (r n : Nat), vs = [.ref a, .ref b] ∧ Dp K H (.ref a) (dTab A r n) ∧ Dp K H (.ref b) (dTab A r n) ∧ r ≤ 1000 ∧ n ≤ 1000 ∧ Q (.bl true) H
theorem ok_law_same {f : Addr} {fd : FuncData} (F : Fun K "_law_same" "_law_same" s_law_same f fd) (gf : mg "_law_same" = some (.ref f)) (B : Bl mg) (h_law_pair : Has P w K mg base CX0 2 "_law_pair" ["found"] (spPairI K)) : Has P w K mg base CX0 3 "_law_same" ["found", "due"] (spSameT K) := by
  refine Has.mk' F gf (F.binds (ps := ["found", "due"]) fun _ _ _ _ _ _ us hl => match us, hl with | [_, _], _ => rfl) sc_law_same (by walk_at "len") (fun cdv A outer s H vs Q E hr h => ?_)
  obtain ⟨a, b, A', r, n, rfl, ha, hb, hr', hn, q⟩ := h
  obtain ⟨xs, hxs, hxl, hxa⟩ := tabAt ha
  obtain ⟨ys, hys, hyl, hya⟩ := tabAt hb
  refine ⟨_, (pss_cons (ps_if (PW.pt (pw_or (pt_not (pt_val (pe_callB (call_isiK' K) (by rfl) B.isinstance (by decide +kernel) (pa_cons (pv 0) (pa_cons (pe_bltn (v := .ty "list") (by rfl) B.list (by decide +kernel) rfl) pa_nil))))) (pw_or1 (pt_cmpR op_ne (pe_callB (call_lenK K) (by rfl) B.len (by decide +kernel) (pa_cons (pv 0) pa_nil)) (pe_callB (call_lenK K) (by rfl) B.len (by decide +kernel) (pa_cons (pv 1) pa_nil)) (nomark _))))) (pss_one (ps_ret pe_bl)) pss_nil)
 (pss_cons (ps_for PassesOwn.never rfl (pi_range1 (by rfl) B.range (pa_cons (pe_callB (call_lenK K) (by rfl) B.len (by decide +kernel) (pa_cons (pv 1) pa_nil)) pa_nil)) (pg_name (i := 2) sc_law_same.nd rfl (.inl rfl)) (pss_cons (ps_if (PW.pt (pw_or (pt_not (pt_val (pe_callB (call_isiK' K) (by rfl) B.isinstance (by decide +kernel) (pa_cons (pe_ix (ix_listK K) (pv 0) (pv 2) (fun _ _ => rfl)) (pa_cons (pe_bltn (v := .ty "list") (by rfl) B.list (by decide +kernel) rfl) pa_nil))))) (pw_or1 (pt_cmpR op_ne (pe_callB (call_lenK K) (by rfl) B.len (by decide +kernel) (pa_cons (pe_ix (ix_listK K) (pv 0) (pv 2) (fun _ _ => rfl)) pa_nil)) (pe_callB (call_lenK K) (by rfl) B.len (by decide +kernel) (pa_cons (pe_ix (ix_listK K) (pv 1) (pv 2) (fun _ _ => rfl)) pa_nil)) (nomark _))))) (pss_one (ps_ret pe_bl)) pss_nil)
 (pss_one (ps_for PassesOwn.never rfl (pi_range1 (by rfl) B.range (pa_cons (pe_callB (call_lenK K) (by rfl) B.len (by decide +kernel) (pa_cons (pe_ix (ix_listK K) (pv 1) (pv 2) (fun _ _ => rfl)) pa_nil)) pa_nil)) (pg_name (i := 3) sc_law_same.nd rfl (.inl rfl)) (pss_one (ps_if (PW.pt (pw_or (pt_not (pt_val (pe_fn h_law_pair (hr.mono (by decide)) (by rfl) (pa_cons (pe_ix (ix_listK K) (pe_ix (ix_listK K) (pv 0) (pv 2) (fun _ _ => rfl)) (pv 3) (fun _ _ => rfl)) pa_nil)))) (pw_or1 (pt_cmpR (op_neDK K hr.units) (pe_ix (ix_listK K) (pe_ix (ix_listK K) (pv 0) (pv 2) (fun _ _ => rfl)) (pv 3) (fun _ _ => rfl)) (pe_ix (ix_listK K) (pe_ix (ix_listK K) (pv 1) (pv 2) (fun _ _ => rfl)) (pv 3) (fun _ _ => rfl)) (nomark _))))) (pss_one (ps_ret pe_bl)) pss_nil))))))
 (pss_one (ps_ret pe_bl)))), ?_⟩
  walk_at "sts"
  refine w_islS hxs kb_ll ?_
  walk_at "sts"
  refine for_r0 (n := r) ?_ (fun i σ H' => ∃ (y2 y3 : Option V), σ = [some (.ref a), some (.ref b), y2, y3] ∧ H' = H) ?_ ?_ ?_
  · rw [hyl]
  · exact ⟨_, _, rfl, rfl⟩
  · rintro i σ H' hi ⟨y2, y3, rfl, rfl⟩
    obtain ⟨p1, e1, d1⟩ := hxa i hi
    obtain ⟨p2, e2, d2⟩ := hya i hi
    obtain ⟨us, hus, hul, hua⟩ := crowAt d1
    obtain ⟨ws, hws, hwl, hwa⟩ := crowAt d2
    walk_at "sts"
    refine w_islS hus kb_ll ?_
    walk_at "sts"
    refine for_r0 (n := n) ?_ (fun j σ H'' => ∃ (y3 : Option V), σ = [some (.ref a), some (.ref b), some (.int (i : Nat)), y3] ∧ H'' = H') ?_ ?_ ?_
    · rw [hwl]
    · exact ⟨_, rfl, rfl⟩
    · rintro j σ H'' hj ⟨y3, rfl, rfl⟩
      obtain ⟨p3, e3, d3⟩ := hua j hj
      obtain ⟨p4, e4, d4⟩ := hwa j hj
      walk_at "sts"
      refine ⟨p3, _, _, rfl, d3, ?_⟩
      walk_at "sts"
      refine w_neD (dpCN d3) (dpCN d4) (goodCN _) (by decide) ?_
      walk_at "sts"
      exact ⟨_, rfl, rfl⟩
    · rintro σ H'' ⟨y3, rfl, rfl⟩
      walk_at "sts"
      exact ⟨_, _, rfl, rfl⟩
  · rintro σ H' ⟨y2, y3, rfl, rfl⟩
    walk_at "sts"
    exact q
def spLJoin (K : PySem.W.Frag) : Sp := fun vs H Q _ => ∃ (pa pb : Addr) (A B : Nat → Nat → CN) (n m : Nat), vs = [.ref pa, .ref pb, .int m] ∧ Dp K H (.ref pa) (dTab A (n + 1) (n + 1)) ∧ Dp K H (.ref pb) (dTab B (n + 1) (n + 1)) ∧ 0 < m ∧ n ≤ 100 ∧ (∀ i j, i ≤ n → j ≤ n → (A i j).2 < 2 ^ 200) ∧ (∀ i j, i ≤ n → j ≤ n → (B i j).2 < 2 ^ 200) ∧
  ∀ p H', Same H H' → New H p → Dp K H' (.ref p) (dTab (fun s t => cmd m (cjn n A B s t)) (n + 1) (n + 1)) → Q (.ref p) H'
theorem ok_law_joined {f : Addr} {fd : FuncData} (F : Fun K "_law_joined" "_law_joined" s_law_joined f fd) (gf : mg "_law_joined" = some (.ref f)) (B : Bl mg) : Has P w K mg base CX0 1 "_law_joined" ["one", "two", "modulus"] (spLJoin K) := by
  refine Has.mk' F gf (F.binds (ps := ["one", "two", "modulus"]) fun _ _ _ _ _ _ us hl => match us, hl with | [_, _, _], _ => rfl) sc_law_joined (by walk_at "len") (fun cdv A outer s H vs Q E hr h => ?_)
  obtain ⟨pa, pb, A', B', n, m, rfl, ha, hb, hm, hn, hA, hB, q⟩ := h
  obtain ⟨as, has, hal, haa⟩ := tabAt ha
  obtain ⟨bs, hbs, hbl, hba⟩ := tabAt hb
  refine ⟨_, (pss_cons (ps_set (i := 3) sc_law_joined.nd rfl (.inl rfl) (pe_lst pa_nil))
 (pss_cons (ps_for PassesOwn.never rfl (pi_range1 (by rfl) B.range (pa_cons (pe_callB (call_lenK K) (by rfl) B.len (by decide +kernel) (pa_cons (pv 0) pa_nil)) pa_nil)) (pg_name (i := 4) sc_law_joined.nd rfl (.inr rfl)) (pss_cons (ps_set (i := 5) sc_law_joined.nd rfl (.inl rfl) (pe_lst pa_nil))
 (pss_cons (ps_for PassesOwn.never rfl (pi_range1 (by rfl) B.range (pa_cons (pe_callB (call_lenK K) (by rfl) B.len (by decide +kernel) (pa_cons (pv 0) pa_nil)) pa_nil)) (pg_name (i := 6) sc_law_joined.nd rfl (.inr rfl)) (pss_cons (ps_set (i := 8) sc_law_joined.nd rfl (.inl rfl) (pe_callB (cr_minK K rfl) (by rfl) B.min (by decide +kernel) (pa_cons (pe_lc (own := [("mid", 7)]) rfl sc_law_joined.nd (pi_range1 (by rfl) B.range (pa_cons (pe_callB (call_lenK K) (by rfl) B.len (by decide +kernel) (pa_cons (pv 0) pa_nil)) pa_nil)) (blkOk_by (own := [("mid", 7)]) (N := ["one", "two", "modulus", "due", "k", "row", "j", "mid", "low", "many"]) (sc := defScope s_law_joined) (by decide +kernel)) (fun _ _ _ _ _ => pg_name (i := 7) sc_law_joined.nd rfl (Or.inl rfl)) (fun _ _ _ _ _ => pts_nil) (fun _ _ _ _ _ => (pe_op op_add (pe_ix (ix_tupK K) (pe_ix (ix_listK K) (pe_ix (ix_listK K) (pv 0) (pv 4) (fun _ _ => rfl)) (pv 7) (fun _ _ => rfl)) pe_int (fun _ _ => rfl)) (pe_ix (ix_tupK K) (pe_ix (ix_listK K) (pe_ix (ix_listK K) (pv 1) (pv 7) (fun _ _ => rfl)) (pv 6) (fun _ _ => rfl)) pe_int (fun _ _ => rfl))))) pa_nil)))
 (pss_cons (ps_set (i := 9) sc_law_joined.nd rfl (.inl rfl) pe_int)
 (pss_cons (ps_for PassesOwn.never rfl (pi_range1 (by rfl) B.range (pa_cons (pe_callB (call_lenK K) (by rfl) B.len (by decide +kernel) (pa_cons (pv 0) pa_nil)) pa_nil)) (pg_name (i := 7) sc_law_joined.nd rfl (.inl rfl)) (pss_one (ps_if (pt_cmpR op_eq (pe_op op_add (pe_ix (ix_tupK K) (pe_ix (ix_listK K) (pe_ix (ix_listK K) (pv 0) (pv 4) (fun _ _ => rfl)) (pv 7) (fun _ _ => rfl)) pe_int (fun _ _ => rfl)) (pe_ix (ix_tupK K) (pe_ix (ix_listK K) (pe_ix (ix_listK K) (pv 1) (pv 7) (fun _ _ => rfl)) (pv 6) (fun _ _ => rfl)) pe_int (fun _ _ => rfl))) (pv 8) (nomark _)) (pss_one (ps_set (i := 9) sc_law_joined.nd rfl (.inl rfl) (pe_op op_add (pv 9) (pe_op op_mulX (pe_ix (ix_tupK K) (pe_ix (ix_listK K) (pe_ix (ix_listK K) (pv 0) (pv 4) (fun _ _ => rfl)) (pv 7) (fun _ _ => rfl)) pe_int (fun _ _ => rfl)) (pe_ix (ix_tupK K) (pe_ix (ix_listK K) (pe_ix (ix_listK K) (pv 1) (pv 7) (fun _ _ => rfl)) (pv 6) (fun _ _ => rfl)) pe_int (fun _ _ => rfl)))))) pss_nil)))
 (pss_one (ps_expr (pe_bmK K (pe_bm PySem.F.plainAttrs_list PySem.F.slot_list_append PySem.F.type_list_append mt_append (pv 5) (pa_cons (pe_tup (pa_cons (pv 8) (pa_cons (pe_op op_mod (pv 9) (pv 2)) pa_nil))) pa_nil)))))))))
 (pss_one (ps_expr (pe_bmK K (pe_bm PySem.F.plainAttrs_list PySem.F.slot_list_append PySem.F.type_list_append mt_append (pv 3) (pa_cons (pv 5) pa_nil))))))))
 (pss_one (ps_ret (pv 3))))), ?_⟩
  walk_at "sts"
  refine w_new fun D nD => ?_
  walk_at "sts"
  refine for_r0 (n := n + 1) ?_ (fun i σ H' => ∃ (y4 y5 y6 y7 y8 y9 : Option V), σ = [some (.ref pa), some (.ref pb), some (.int (m : Nat)), some (.ref D), y4, y5, y6, y7, y8, y9] ∧ GrD K H' D ((List.range i).map fun s => dCRow (fun t => cmd m (cjn n A' B' s t)) (n + 1)) ∧ Same H H') ?_ ?_ ?_
  · rw [hal]
  · exact ⟨_, _, _, _, _, _, rfl, GrD.new, same_upd nD⟩
  · rintro i σ H' hi ⟨y4, y5, y6, y7, y8, y9, rfl, ⟨xs, x1, x2⟩, s1⟩
    have hxl := dpaLen x2
    rw [List.length_map, List.length_range] at hxl
    obtain ⟨pr, e1, e2⟩ := haa i hi
    have has1 := s1.seq has
    walk_at "sts"
    refine w_new fun R nR => ?_
    have hDR : D ≠ R := ne_new x1 nR
    walk_at "sts"
    refine for_r0 (n := n + 1) ?_ (fun j σ H2 => ∃ (y6 y7 y8 y9 : Option V), σ = [some (.ref pa), some (.ref pb), some (.int (m : Nat)), some (.ref D), some (.int (i : Nat)), some (.ref R), y6, y7, y8, y9] ∧ Same H' H2 ∧ (∃ ys, H2 R = some (.lst ys) ∧ DpAll K (wo (wo H2 R) D) ys ((List.range j).map fun t => dCN (cmd m (cjn n A' B' i t))))) ?_ ?_ ?_
    · rw [hal]
    · exact ⟨_, _, _, _, rfl, same_upd nR, ⟨[], upd_same, .nil⟩⟩
    · rintro j σ H2 hj ⟨y6, y7, y8, y9, rfl, s2, ⟨ys, z1, z2⟩⟩
      have hyl := dpaLen z2
      rw [List.length_map, List.length_range] at hyl
      have s02 := s1.trans s2
      have has2 := s02.seq has
      have hbs2 := s02.seq hbs
      have hx2 := s2 _ _ x1
      obtain ⟨rs, hrs, hrl, hra⟩ := crowAt (e2.same s02)
      walk_at "sts"
      intro E nE
      refine lc_r0 (n := n + 1) ?_ (fun u H3 => H3 E = some (.lst (((List.range u).map fun u => (jF (A' i) B' j u).1).map V.int)) ∧ Same H2 H3) ?_ ?_ ?_
      · rw [hal]
      · exact ⟨upd_same, same_upd nE⟩
      · rintro u H3 hu ⟨l3, s3⟩
        obtain ⟨q1, c1, c2⟩ := hra u hu
        obtain ⟨q2, c3, c4⟩ := hba u hu
        obtain ⟨ws, hws, hwl, hwa⟩ := crowAt (c4.same (s02.trans s3))
        obtain ⟨q3, c5, c6⟩ := hwa j hj
        have has3 := s3.seq has2
        have hbs3 := s3.seq hbs2
        have hrs3 := s3.seq hrs
        have c23 := same_read s3 c2
        walk_at "sts"
        refine ⟨_, l3, szlt (by simp; omega), ?_, s3.mut nE⟩
        rw [upd_same, List.range_succ, List.map_append, List.map_append]
        rfl
      rintro H3 ⟨l3, s3⟩
      walk_at "sts"
      refine w_minL (SqL.of l3) (by simp) fun low hl1 hl2 => ?_
      have hlow := csm_min hl1 hl2
      subst hlow
      walk_at "sts"
      refine for_r0 (n := n + 1) ?_ (fun u σ H4 => ∃ (y7 : Option V), σ = [some (.ref pa), some (.ref pb), some (.int (m : Nat)), some (.ref D), some (.int (i : Nat)), some (.ref R), some (.int (j : Nat)), y7, some (.int (csm (jF (A' i) B' j) n).1), some (.int (cnum (jF (A' i) B' j) (csm (jF (A' i) B' j) n).1 u : Nat))] ∧ H4 = H3) ?_ ?_ ?_
      · rw [hal]
      · exact ⟨_, rfl, rfl⟩
      · rintro u σ H4 hu ⟨y7, rfl, rfl⟩
        obtain ⟨q1, c1, c2⟩ := hra u hu
        obtain ⟨q2, c3, c4⟩ := hba u hu
        obtain ⟨ws, hws, hwl, hwa⟩ := crowAt (c4.same (s02.trans s3))
        obtain ⟨q3, c5, c6⟩ := hwa j hj
        have has3 := s3.seq has2
        have hbs3 := s3.seq hbs2
        have hrs3 := s3.seq hrs
        have c23 := same_read s3 c2
        have f1 := hA i u (by omega) (by omega)
        have f2 := hB u j (by omega) (by omega)
        have hst : cnum (jF (A' i) B' j) (csm (jF (A' i) B' j) n).1 (u + 1) = cnum (jF (A' i) B' j) (csm (jF (A' i) B' j) n).1 u + if (jF (A' i) B' j u).1 = (csm (jF (A' i) B' j) n).1 then (jF (A' i) B' j u).2 else 0 := rfl
        walk_at "sts"
        refine ifd (fun hc => ?_) (fun hc => ?_)
        · rw [if_pos (show (jF (A' i) B' j u).1 = _ from hc)] at hst
          rw [hst]
          walk_at "sts"
          rw [← Int.natCast_mul, ← Int.natCast_add]
          exact ⟨_, rfl, rfl⟩
        · rw [if_neg (show ¬ (jF (A' i) B' j u).1 = _ from hc)] at hst
          rw [hst]
          walk_at "sts"
          exact ⟨_, rfl, rfl⟩
      rintro σ H4 ⟨y7, rfl, rfl⟩
      rw [← csm_num]
      have z1' := s3 _ _ z1
      walk_at "sts"
      refine w_new fun p np => ?_
      have sp := same_upd (o := .tup [.int (csm (jF (A' i) B' j) n).1, .int (((csm (jF (A' i) B' j) n).2 : Int) % (m : Int))]) np
      have hRp : R ≠ p := ne_new z1' np
      have hDp : D ≠ p := ne_new (s3 _ _ hx2) np
      walk_at "sts"
      refine ⟨_, _, _, _, rfl, (s2.trans (s3.trans sp)).mut nR, ⟨_, upd_same, ?_⟩⟩
      rw [wo_eq, range_snoc]
      exact dpaApp (z2.same (wo_mono (wo_mono (s3.trans sp)))) (.cons (dpCN (SqT.of (wo_get (wo_get upd_same (Ne.symm hRp)) (Ne.symm hDp)))) .nil)
    · rintro σ H2 ⟨y6, y7, y8, y9, rfl, s2, ⟨ys, z1, z2⟩⟩
      have hx2 := s2 _ _ x1
      walk_at "sts"
      refine ⟨_, _, _, _, _, _, rfl, ?_, (s1.trans s2).mut nD⟩
      rw [range_snoc (fun s => dCRow (fun t => cmd m (cjn n A' B' s t)) (n + 1)) i]
      exact GrD.push x2 s2 (.lst (SqL.of (wo_get z1 (Ne.symm hDR))) (z2.same (wo_mono wo_same)))
  · rintro σ H' ⟨y4, y5, y6, y7, y8, y9, rfl, hG, s1⟩
    walk_at "sts"
    exact q D H' s1 nD hG.dp
end

section
variable {P : Program} {w : World} {K : PySem.W.Frag} {mg : Str → Option Value} {base : Heap}
theorem ok_law {f : Addr} {fd : FuncData} (F : Fun K "law" "law" s_law f fd) (B : Bl mg) (h_law_cell : Has P w K mg base CX0 1 "_law_cell" ["script", "k"] (spCell K)) (h_law_table : Has P w K mg base CX0 2 "_law_table" ["script", "size", "at", "mode"] (spTable K)) (h_table_power : Has P w K mg base CX0 4 "table_power" ["table", "times", "modulus"] (spPower K)) (h_law_same : Has P w K mg base CX0 3 "_law_same" ["found", "due"] (spSameT K)) (h_law_joined : Has P w K mg base CX0 1 "_law_joined" ["one", "two", "modulus"] (spLJoin K)) : FnOk P w K mg base CX0 5 f fd ["script"] (spLaw K) := by
  refine F.ok sc_law (by walk_at "len") (fun cdv A outer s H vs Q E hr h => ?_)
  obtain ⟨a, ns, rfl, hS, hlen, _, q⟩ := h
  have hS0 := hS.sq
  refine ⟨_, (pss_cons (ps_set (i := 1) sc_law.nd rfl (.inl rfl) (pe_fn h_law_cell (hr.mono (by decide)) (by rfl) (pa_cons (pv 0) (pa_cons pe_int pa_nil))))
 (pss_cons (ps_set (i := 2) sc_law.nd rfl (.inr rfl) (pe_op op_add pe_int (pe_op op_mod (pv 1) pe_int)))
 (pss_cutX (ps_if (pt_cmpR op_eq (pe_op op_mod (pe_op op_fdivW (pv 1) pe_int) pe_int) pe_int (nomark _)) (pss_one (ps_set (i := 2) sc_law.nd rfl (.inr rfl) pe_int)) pss_nil)
 (pss_cons (ps_set (i := 3) sc_law.nd rfl (.inl rfl) (pe_op op_mod (pe_op op_fdivW (pv 1) pe_int) pe_int))
 (pss_cons (ps_set (i := 4) sc_law.nd rfl (.inr rfl) (pe_op op_add pe_int (pe_op op_mod (pe_op op_fdivW (pv 1) pe_int) (pe_op op_sub (pe_op op_pow pe_int pe_int) pe_int))))
 (pss_cons (ps_set (i := 5) sc_law.nd rfl (.inl rfl) (pe_fn h_law_table (hr.mono (by decide)) (by rfl) (pa_cons (pv 0) (pa_cons (pv 2) (pa_cons pe_int (pa_cons (pv 3) pa_nil))))))
 (pss_cons (ps_setLc (i := 6) (own := [("row", 13)]) rfl sc_law.nd rfl rfl (sw_true rfl rfl rfl (by decide +kernel)) (pi_listK K (pv 5)) (blkOk_by (own := [("row", 13)]) (N := ["script", "first", "size", "mode", "modulus", "own", "handed", "plain", "span", "left", "right", "one", "two", "row", "entry"]) (sc := defScope s_law) (by decide +kernel)) (fun _ _ _ _ _ => pg_name (i := 13) sc_law.nd rfl (Or.inl rfl)) (fun _ _ _ _ _ => pts_nil) (fun _ _ _ _ _ => (pe_callTy (call_listK K) (by rfl) B.list (by decide +kernel) (pa_cons (pv 13) pa_nil))))
 (pss_cons (ps_setLc (i := 7) (own := [("row", 13)]) rfl sc_law.nd rfl rfl (sw_true rfl rfl rfl (by decide +kernel)) (pi_listK K (pv 5)) (blkOk_by (own := [("row", 13)]) (N := ["script", "first", "size", "mode", "modulus", "own", "handed", "plain", "span", "left", "right", "one", "two", "row", "entry"]) (sc := defScope s_law) (by decide +kernel)) (fun _ _ _ _ _ => pg_name (i := 13) sc_law.nd rfl (Or.inl rfl)) (fun _ _ _ _ _ => pts_nil) (fun _ _ _ _ _ => (pe_lc (own := [("entry", 14)]) rfl sc_law.nd (pi_listK K (pv 13)) (by refine blkOk_by (own := [("entry", 14)]) ?_; rfl) (fun _ _ _ _ _ => pg_name (i := 14) sc_law.nd rfl (Or.inl rfl)) (fun _ _ _ _ _ => pts_nil) (fun _ _ _ _ _ => (pe_tup (pa_cons (pe_ix (ix_tupK K) (pv 14) pe_int (fun _ _ => rfl)) (pa_cons (pe_op op_mod (pe_ix (ix_tupK K) (pv 14) pe_int (fun _ _ => rfl)) (pv 4)) pa_nil)))))))
 (pss_cons (ps_if (pt_not (pt_val (pe_fn h_law_same (hr.mono (by decide)) (by rfl) (pa_cons (pe_fn h_table_power (hr.mono (by decide)) (by rfl) (pa_cons (pv 6) (pa_cons pe_int (pa_cons (pv 4) pa_nil)))) (pa_cons (pv 7) pa_nil))))) (pss_one (ps_ret pe_bl)) pss_nil)
 (pss_cons (ps_if (pt_not (pt_val (pe_fn h_law_same (hr.mono (by decide)) (by rfl) (pa_cons (pe_fn h_table_power (hr.mono (by decide)) (by rfl) (pa_cons (pv 6) (pa_cons pe_int (pa_cons (pv 4) pa_nil)))) (pa_cons (pe_fn h_law_joined (hr.mono (by decide)) (by rfl) (pa_cons (pv 5) (pa_cons (pv 5) (pa_cons (pv 4) pa_nil)))) pa_nil))))) (pss_one (ps_ret pe_bl)) pss_nil)
 (pss_cons (ps_set (i := 8) sc_law.nd rfl (.inl rfl) pe_int)
 (pss_cutX (ps_if (pt_cmpR op_eq (pe_op op_mod (pe_op op_fdivW (pv 1) pe_int) pe_int) pe_int (nomark _)) (pss_one (ps_set (i := 8) sc_law.nd rfl (.inl rfl) (pe_ix (ix_listK K) (pe_lst (pa_cons (pe_op op_mulX pe_int (pe_op op_pow pe_int pe_int)) (pa_cons (pe_op op_pow pe_int pe_int) (pa_cons (pe_op op_pow pe_int pe_int) (pa_cons (pe_op op_pow pe_int pe_int) pa_nil))))) (pe_op op_sub (pv 2) pe_int) (fun _ _ => rfl)))) pss_nil)
 (pss_cons (ps_set (i := 9) sc_law.nd rfl (.inl rfl) (pe_op op_add pe_int (pe_op op_mod (pe_callB (cr_sumK K rfl) (by rfl) B.sum (by decide +kernel) (pa_cons (pv 0) pa_nil)) (pv 8))))
 (pss_cons (ps_set (i := 10) sc_law.nd rfl (.inl rfl) (pe_op op_add pe_int (pe_op op_mod (pe_op op_fdivW (pe_callB (cr_sumK K rfl) (by rfl) B.sum (by decide +kernel) (pa_cons (pv 0) pa_nil)) pe_int) (pv 8))))
 (pss_cons (ps_set (i := 11) sc_law.nd rfl (.inl rfl) (pe_fn h_table_power (hr.mono (by decide)) (by rfl) (pa_cons (pv 6) (pa_cons (pv 9) (pa_cons (pv 4) pa_nil)))))
 (pss_cons (ps_set (i := 12) sc_law.nd rfl (.inl rfl) (pe_fn h_table_power (hr.mono (by decide)) (by rfl) (pa_cons (pv 6) (pa_cons (pv 10) (pa_cons (pv 4) pa_nil)))))
 (pss_cons (ps_if (PW.pt (pw_or (pt_not (pt_val (pe_fn h_law_same (hr.mono (by decide)) (by rfl) (pa_cons (pv 11) (pa_cons (pv 11) pa_nil))))) (pw_or (pt_not (pt_val (pe_fn h_law_same (hr.mono (by decide)) (by rfl) (pa_cons (pv 12) (pa_cons (pv 12) pa_nil))))) (pw_or (pt_cmpR op_ne (pe_callB (call_lenK K) (by rfl) B.len (by decide +kernel) (pa_cons (pv 11) pa_nil)) (pv 2) (nomark _)) (pw_or1 (pt_cmpR op_ne (pe_callB (call_lenK K) (by rfl) B.len (by decide +kernel) (pa_cons (pv 12) pa_nil)) (pv 2) (nomark _))))))) (pss_one (ps_ret pe_bl)) pss_nil)
 (pss_cons (ps_if (pt_val (pe_callB (cr_anyK K rfl) (by rfl) B.any (by decide +kernel) (pa_cons (pe_lc (own := [("row", 13)]) rfl sc_law.nd (pi_listK K (pe_op op_cat (pv 11) (pv 12))) (blkOk_by (own := [("row", 13)]) (N := ["script", "first", "size", "mode", "modulus", "own", "handed", "plain", "span", "left", "right", "one", "two", "row", "entry"]) (sc := defScope s_law) (by decide +kernel)) (fun _ _ _ _ _ => pg_name (i := 13) sc_law.nd rfl (Or.inl rfl)) (fun _ _ _ _ _ => pts_nil) (fun _ _ _ _ _ => (pe_cmpR op_ne (pe_callB (call_lenK K) (by rfl) B.len (by decide +kernel) (pa_cons (pv 13) pa_nil)) (pv 2) (nomark _)))) pa_nil))) (pss_one (ps_ret pe_bl)) pss_nil)
 (pss_cons (ps_if (pt_not (pt_val (pe_fn h_law_same (hr.mono (by decide)) (by rfl) (pa_cons (pe_fn h_table_power (hr.mono (by decide)) (by rfl) (pa_cons (pv 6) (pa_cons (pe_op op_add (pv 9) (pv 10)) (pa_cons (pv 4) pa_nil)))) (pa_cons (pe_fn h_law_joined (hr.mono (by decide)) (by rfl) (pa_cons (pv 11) (pa_cons (pv 12) (pa_cons (pv 4) pa_nil)))) pa_nil))))) (pss_one (ps_ret pe_bl)) pss_nil)
 (pss_one (ps_ret (pe_cmpR (op_eqDK K hr.units) (pv 6) (pv 5) (nomark _))))))))))))))))))))))), ?_⟩
  walk_at "sts"
  refine ⟨a, ns, 0, rfl, hS0, ?_⟩
  generalize ns.getD 0 0 = z
  walk_at "sts"
  refine w_cut (fun σ' H2 => ∃ n : Nat, σ' = [some (.ref a), some (.int z), some (.int ((n + 1 : Nat) : Int)), none, none, none, none, none, none, none, none, none, none, none, none] ∧ n ≤ 3 ∧ H2 = H) ?_ ?_
  · walk_at "sts"
    refine ifd (fun hc => ?_) (fun hc => ?_)
    · walk_at "sts"
      exact ⟨3, rfl, by omega, rfl⟩
    · walk_at "sts"
      obtain ⟨n, hn1, hn2⟩ : ∃ n : Nat, 1 + z % 3 = ((n + 1 : Nat) : Int) ∧ n ≤ 3 := ⟨(z % 3).toNat, by omega, by omega⟩
      rw [hn1]
      exact ⟨n, rfl, hn2, rfl⟩
  rintro σ' H2 ⟨n, rfl, hn, rfl⟩
  obtain ⟨mode, hmo1, hmo2⟩ := modN (z / 24) (show 0 < 3 by decide)
  have p9 : (10 : Int) ^ Int.toNat 9 = 1000000000 := by decide
  obtain ⟨m, hm1, hm2, hm3⟩ : ∃ m : Nat, 2 + z / 72 % (10 ^ Int.toNat 9 - 1) = (m : Int) ∧ 2 ≤ m ∧ m ≤ 2 ^ 40 := ⟨(2 + z / 72 % 999999999).toNat, by rw [p9]; omega, by omega, by omega⟩
  walk_at "sts"
  rw [show z / 24 % 3 = (mode : Int) from hmo1, hm1]
  refine ⟨a, ns, n + 1, 0, mode, rfl, hS0, hlen, by omega, by omega, by omega, fun r1 H1 A' s1 n1 hA1 hA2 => ?_⟩
  have hA3 : ∀ i j, i ≤ n → j ≤ n → (A' i j).2 < 2 ^ 200 := fun i j _ _ => Nat.lt_of_le_of_lt (hA2 i j) (by decide)
  obtain ⟨as, has, hal⟩ := dpLstA hA1
  have hasl : as.length = n + 1 := by have := dpaLen hal; simpa using this
  walk_at "sts"
  intro D1 nD1
  refine lc_list (xs := as) (fun i H' => GrD K H' D1 ((List.range i).map fun s => dCRow (A' s) (n + 1)) ∧ Same H1 H') ?_ ?_ ?_ ?_
  · exact ⟨GrD.new, same_upd nD1⟩
  · rintro i H' _ ⟨_, s3⟩
    exact s3.seq has
  · rintro i v H' hv ⟨⟨xs, x1, x2⟩, s3⟩
    have hi : i < n + 1 := by rw [← hasl]; exact (List.getElem?_eq_some_iff.mp hv).1
    have hxl := dpaLen x2
    rw [List.length_map, List.length_range] at hxl
    obtain ⟨v', e1, e2⟩ := dpaGet (i := i) hal (map_at hi)
    rw [hv] at e1
    cases e1
    obtain ⟨pr, ys, rfl, y1, y2⟩ := dpLst e2
    have y3 := s3.seq y1
    walk_at "sts"
    refine w_new fun l nl => ?_
    have sl := same_upd (o := .lst ys) nl
    have hDl : D1 ≠ l := ne_new x1 nl
    refine ⟨xs, sl _ _ x1, szlt (by omega), ?_, (s3.trans sl).mut nD1⟩
    rw [range_snoc]
    exact GrD.push x2 sl (.lst (SqL.of (wo_get upd_same (Ne.symm hDl))) (y2.same (same_wo (s3.trans sl) nD1)))
  rintro H3 ⟨hG3, s3⟩
  rw [hasl] at hG3
  have hD3 : Dp K H3 (.ref D1) (dTab A' (n + 1) (n + 1)) := hG3.dp
  have has3 := s3.seq has
  have hA4 := hA1.same s3
  have hS3 := (s1.trans s3).seq hS0
  clear hG3
  walk_at "sts"
  intro D2 nD2
  refine lc_list (xs := as) (fun i H' => GrD K H' D2 ((List.range i).map fun s => dCRow (fun t => cmd m (A' s t)) (n + 1)) ∧ Same H3 H') ?_ ?_ ?_ ?_
  · exact ⟨GrD.new, same_upd nD2⟩
  · rintro i H' _ ⟨_, s4⟩
    exact s4.seq has3
  · rintro i v H' hv ⟨⟨xs, x1, x2⟩, s4⟩
    have hi : i < n + 1 := by rw [← hasl]; exact (List.getElem?_eq_some_iff.mp hv).1
    have hxl := dpaLen x2
    rw [List.length_map, List.length_range] at hxl
    obtain ⟨v', e1, e2⟩ := dpaGet (i := i) (hal.same s3) (map_at hi)
    rw [hv] at e1
    cases e1
    obtain ⟨pr, _, rfl, _, _⟩ := dpLst e2
    obtain ⟨rs, hrs, hrl, hra⟩ := crowAt e2
    have y3 := s4.seq hrs
    walk_at "sts"
    intro D4 nD4
    have hD24 : D2 ≠ D4 := ne_new x1 nD4
    refine lc_list (xs := rs) (fun j H2 => (∃ ys, H2 D4 = some (.lst ys) ∧ DpAll K (wo (wo H2 D4) D2) ys ((List.range j).map fun t => dCN (cmd m (A' i t)))) ∧ Same H' H2) ?_ ?_ ?_ ?_
    · exact ⟨⟨[], upd_same, .nil⟩, same_upd nD4⟩
    · rintro j H2 _ ⟨_, s5⟩
      exact s5.seq y3
    · rintro j v H2 hv2 ⟨⟨ys, z1, z2⟩, s5⟩
      have hj : j < n + 1 := by rw [← hrl]; exact (List.getElem?_eq_some_iff.mp hv2).1
      obtain ⟨pe, e3, e4⟩ := hra j hj
      rw [hv2] at e3
      cases e3
      have e5 := same_read (s4.trans s5) e4
      have hyl := dpaLen z2
      rw [List.length_map, List.length_range] at hyl
      walk_at "sts"
      refine w_new fun p np => ?_
      have sp := same_upd (o := .tup [.int (A' i j).1, .int (((A' i j).2 : Int) % (m : Int))]) np
      have h4p : D4 ≠ p := ne_new z1 np
      have h2p : D2 ≠ p := ne_new (s5 _ _ x1) np
      refine ⟨ys, sp _ _ z1, szlt (by omega), ⟨_, upd_same, ?_⟩, (s5.trans sp).mut nD4⟩
      rw [wo_eq, range_snoc]
      exact dpaApp (z2.same (wo_mono (wo_mono sp))) (.cons (dpCN (SqT.of (wo_get (wo_get upd_same (Ne.symm h4p)) (Ne.symm h2p)))) .nil)
    · rintro H2 ⟨⟨ys, z1, z2⟩, s5⟩
      rw [hrl] at z2
      walk_at "sts"
      refine ⟨xs, s5 _ _ x1, szlt (by omega), ?_, (s4.trans s5).mut nD2⟩
      rw [range_snoc]
      exact GrD.push x2 s5 (.lst (SqL.of (wo_get z1 (Ne.symm hD24))) (z2.same (wo_mono wo_same)))
  rintro H4 ⟨hG4, s4⟩
  rw [hasl] at hG4
  have hD4 : Dp K H4 (.ref D2) (dTab (fun s t => cmd m (A' s t)) (n + 1) (n + 1)) := hG4.dp
  have hD5 := hD3.same s4
  have hA5 := hA4.same s4
  have hS4 := s4.seq hS3
  walk_at "sts"
  refine ⟨D1, A', n, 1, m, rfl, hD5, by omega, by omega, by omega, by omega, fun t1 H5 s5 n5 ht1 _ => ?_⟩
  walk_at "sts"
  refine ⟨t1, D2, _, n + 1, n + 1, rfl, ht1, hD4.same s5, by omega, by omega, ?_⟩
  walk_at "sts"
  refine ⟨D1, A', n, 2, m, rfl, hD5.same s5, by omega, by omega, by omega, by omega, fun t2 H6 s6 n6 ht2 _ => ?_⟩
  have s46 := s5.trans s6
  walk_at "sts"
  refine ⟨r1, r1, A', A', n, m, rfl, hA5.same s46, hA5.same s46, by omega, by omega, hA3, hA3, fun t3 H7 s7 n7 ht3 => ?_⟩
  walk_at "sts"
  refine ⟨t2, t3, _, n + 1, n + 1, rfl, ht2.same s7, ht3, by omega, by omega, ?_⟩
  have s47 := s46.trans s7
  have hS7 := s47.seq hS4
  have hD7 := hD5.same s47
  have hA7 := hA5.same s47
  walk_at "sts"
  refine w_cut (fun σ' H8 => ∃ S : Int, σ' = [some (.ref a), some (.int z), some (.int ((n + 1 : Nat) : Int)), some (.int (mode : Nat)), some (.int (m : Nat)), some (.ref r1), some (.ref D1), some (.ref D2), some (.int S), none, none, none, none, none, none] ∧ 0 < S ∧ S ≤ 10 ^ 18 ∧ Same H7 H8) ?_ ?_
  · walk_at "sts"
    refine ifd (fun hc => ?_) (fun hc => ?_)
    · walk_at "sts"
      refine w_new fun pl nl => ?_
      have e5 : (10 : Int) ^ Int.toNat 5 = 100000 := by decide
      have e17 : (5 : Int) * 10 ^ Int.toNat 17 = 500000000000000000 := by decide
      rw [p9, e5, e17]
      obtain ⟨S, e, h1, h2⟩ : ∃ S : Int, [V.int 500000000000000000, V.int 1000000000, V.int 100000, V.int 100000][n]? = some (.int S) ∧ 0 < S ∧ S ≤ 10 ^ 18 := by
        have : n = 0 ∨ n = 1 ∨ n = 2 ∨ n = 3 := by omega
        rcases this with rfl | rfl | rfl | rfl
        · exact ⟨_, rfl, by omega, by omega⟩
        · exact ⟨_, rfl, by omega, by omega⟩
        · exact ⟨_, rfl, by omega, by omega⟩
        · exact ⟨_, rfl, by omega, by omega⟩
      walk_at "sts"
      rw [show ((n + 1 : Nat) : Int) - 1 = (n : Int) by omega]
      walk_at "sts"
      exact ⟨S, rfl, h1, h2, same_upd nl⟩
    · walk_at "sts"
      exact ⟨6, rfl, by omega, by omega, Same.refl _⟩
  rintro σ' H8 ⟨S, rfl, hS1, hS2, s8⟩
  have hS8 := s8.seq hS7
  walk_at "sts"
  refine ⟨a, ns, rfl, hS8, ?_⟩
  obtain ⟨sm, hsm⟩ : ∃ sm, ns.sum = sm := ⟨_, rfl⟩
  rw [hsm]
  have b1 := Int.emod_nonneg sm (show S ≠ 0 by omega)
  have b2 := Int.emod_lt_of_pos sm hS1
  have b3 := Int.emod_nonneg (sm / 7) (show S ≠ 0 by omega)
  have b4 := Int.emod_lt_of_pos (sm / 7) hS1
  obtain ⟨l, hl⟩ : ∃ l : Nat, sm % S = (l : Int) := ⟨(sm % S).toNat, by omega⟩
  obtain ⟨r, hr7⟩ : ∃ l : Nat, sm / 7 % S = (l : Int) := ⟨(sm / 7 % S).toNat, by omega⟩
  walk_at "sts"
  refine ⟨a, ns, rfl, hS8, ?_⟩
  rw [hsm]
  walk_at "sts"
  rw [hl, hr7, show 1 + (l : Int) = ((l + 1 : Nat) : Int) by omega, show 1 + (r : Int) = ((r + 1 : Nat) : Int) by omega]
  have hD8 := hD7.same s8
  have hA8 := hA7.same s8
  refine ⟨D1, A', n, l + 1, m, rfl, hD8, by omega, by omega, by omega, by omega, fun t4 H9 s9 n9 ht4 hx4 => ?_⟩
  walk_at "sts"
  refine ⟨D1, A', n, r + 1, m, rfl, hD8.same s9, by omega, by omega, by omega, by omega, fun t5 H10 s10 n10 ht5 hx5 => ?_⟩
  rw [show l + 1 - 1 = l by omega] at ht4
  rw [show r + 1 - 1 = r by omega] at ht5
  have ht4' := ht4.same s10
  walk_at "sts"
  refine ⟨t4, t4, _, n + 1, n + 1, rfl, ht4', ht4', by omega, by omega, ?_⟩
  walk_at "sts"
  refine ⟨t5, t5, _, n + 1, n + 1, rfl, ht5, ht5, by omega, by omega, ?_⟩
  rw [show l + 1 - 1 = l by omega] at hx4
  rw [show r + 1 - 1 = r by omega] at hx5
  obtain ⟨xs4, hq4, hl4⟩ := hx4.same s10
  obtain ⟨xs5, hq5, hl5⟩ := hx5
  have hn4 : xs4.length = n + 1 := by have := dpaLen hl4; simpa using this
  have hn5 : xs5.length = n + 1 := by have := dpaLen hl5; simpa using this
  walk_at "sts"
  refine ⟨t4, t5, xs4, xs5, rfl, rfl, hq4, hq5, Nat.le_trans (m := 1000) (by omega) (by decide), w_new fun pc nc => ?_⟩
  have sc := same_upd (o := .lst (xs4 ++ xs5)) nc
  have hc : upd H10 pc (.lst (xs4 ++ xs5)) pc = some (.lst (xs4 ++ xs5)) := upd_same
  have hrows : ∀ v, v ∈ xs4 ++ xs5 → ∃ pr ys, v = .ref pr ∧ SqL K H10 pr ys ∧ ys.length = n + 1 := fun v hv => by
    have key : ∀ (xs : List V) (A0 : Nat → Nat → CN), DpAll K H10 xs ((List.range (n + 1)).map fun i => dCRow (A0 i) (n + 1)) → v ∈ xs → ∃ pr ys, v = .ref pr ∧ SqL K H10 pr ys ∧ ys.length = n + 1 := fun xs A0 hd hv => by
      obtain ⟨i, hi, e⟩ := List.mem_iff_getElem.mp hv
      have hl := dpaLen hd
      rw [List.length_map, List.length_range] at hl
      obtain ⟨v', e1, e2⟩ := dpaGet (i := i) hd (map_at (by omega))
      rw [List.getElem?_eq_getElem hi, e] at e1
      cases e1
      obtain ⟨pr, _, rfl, _, _⟩ := dpLst e2
      obtain ⟨rs, hrs, hrl, _⟩ := crowAt e2
      exact ⟨pr, rs, rfl, hrs, hrl⟩
    rcases List.mem_append.mp hv with hv | hv
    · exact key _ _ hl4 hv
    · exact key _ _ hl5 hv
  have hlen : (xs4 ++ xs5).length ≤ 100 := by rw [List.length_append]; omega
  have ht45 := ht4'.same sc
  have ht55 := ht5.same sc
  have hS11 := (s8.trans (s9.trans (s10.trans sc)))
  have hD11 := hD7.same hS11
  have hA11 := hA7.same hS11
  generalize xs4 ++ xs5 = xc at hc hrows hlen sc nc ht45 ht55 hS11 hD11 hA11
  generalize upd H10 pc (.lst xc) = H11 at sc hc ht45 ht55 hS11 hD11 hA11 ⊢
  walk_at "sts"
  intro D6 nD6
  refine lc_list (xs := xc) (fun i H' => H' D6 = some (.lst (((List.range i).map fun _ => false).map V.bl)) ∧ Same H11 H') ?_ ?_ ?_ ?_
  · exact ⟨upd_same, same_upd nD6⟩
  · rintro i H' _ ⟨_, s12⟩
    exact s12.seq (SqL.of hc)
  · rintro i v H' hv ⟨l6, s12⟩
    obtain ⟨pr, ys, rfl, y1, y2⟩ := hrows v (List.mem_of_getElem? hv)
    have y3 := (sc.trans s12).seq y1
    have hi := (List.getElem?_eq_some_iff.mp hv).1
    walk_at "sts"
    refine ⟨_, l6, szlt (by simp; omega), ?_, s12.mut nD6⟩
    rw [upd_same, List.range_succ, List.map_append, List.map_append]
    rw [y2, decide_eq_true rfl]
    rfl
  rintro H12 ⟨l6, s12⟩
  walk_at "sts"
  refine ⟨D6, _, rfl, SqL.of l6, ?_⟩
  rw [show (List.map (fun _ => false) (List.range xc.length)).any id = false by simp]
  walk_at "sts"
  refine ⟨D1, A', n, l + 1 + (r + 1), m, by simp only [Int.natCast_add], hD11.same s12, by omega, by omega, by omega, by omega, fun t6 H13 s13 n13 ht6 _ => ?_⟩
  have s413 := s12.trans s13
  walk_at "sts"
  have hlt : ∀ k s t, (cmd m (cpw n A' k s t)).2 < 2 ^ 200 := fun k s t => Nat.lt_of_lt_of_le (cmd_lt (by omega) _) (Nat.le_trans hm3 (by decide))
  refine ⟨t4, t5, _, _, n, m, rfl, ht45.same s413, ht55.same s413, by omega, by omega, fun i j _ _ => hlt _ _ _, fun i j _ _ => hlt _ _ _, fun t7 H14 s14 n14 ht7 => ?_⟩
  rw [cmd_cjnF] at ht7
  rw [show l + 1 + (r + 1) - 1 = l + r + 1 by omega] at ht6
  walk_at "sts"
  refine ⟨t6, t7, _, n + 1, n + 1, rfl, ht6.same s14, ht7, by omega, by omega, ?_⟩
  have sf := s413.trans s14
  walk_at "sts"
  refine w_eqD (hD11.same sf) (hA11.same sf) (goodTab _ _ _) (by decide) ?_
  exact q _
end

theorem all_mk {l : PySem.W.OpenLaw} {w : World} {K : PySem.W.Frag} {h : Heap} {mg : Str → Option Value} {fa f0 f1 f2 f3 f4 f5 f6 f7 f8 f9 f10 f11 f12  : Addr} (X : K.In h) (G : h.Ns mainGlobals mg) (hfa : mg "law" = some (.ref fa))
    {od0 an0 od1 an1 od2 an2 od3 an3 od4 an4 od5 an5 od6 an6 od7 an7 od8 an8 od9 an9 od10 an10 od11 an11 od12 an12 : Option Addr} {sl0 sl1 sl2 sl3 sl4 sl5 sl6 sl7 sl8 sl9 sl10 sl11 sl12 : Array (Option Value)} {oc0 kV0 dc0 pm0 cd0 ct0 oc1 kV1 dc1 pm1 cd1 ct1 oc2 kV2 dc2 pm2 cd2 ct2 oc3 kV3 dc3 pm3 cd3 ct3 oc4 kV4 dc4 pm4 cd4 ct4 oc5 kV5 dc5 pm5 cd5 ct5 oc6 kV6 dc6 pm6 cd6 ct6 oc7 kV7 dc7 pm7 cd7 ct7 oc8 kV8 dc8 pm8 cd8 ct8 oc9 kV9 dc9 pm9 cd9 ct9 oc10 kV10 dc10 pm10 cd10 ct10 oc11 kV11 dc11 pm11 cd11 ct11 oc12 kV12 dc12 pm12 cd12 ct12 : Value}
    (a0 : PySem.W.nsIn K mainGlobals "way_to" = some (some (.ref f0)))
    (l0 : K.lookup f0 = some ⟨oc0, od0, .func (PySem.W.fnOf "way_to" "way_to" (defArgs s_way_to) (defBody s_way_to) (defScope s_way_to) .none kV0 dc0 pm0 an0 cd0 ct0), sl0⟩)
    (c0 : PySem.W.codeIn K cd0 "way_to" = true)
    (k0 : PySem.W.keepIn K (.ref f0) = true)
    (a1 : PySem.W.nsIn K mainGlobals "row_joined" = some (some (.ref f1)))
    (l1 : K.lookup f1 = some ⟨oc1, od1, .func (PySem.W.fnOf "row_joined" "row_joined" (defArgs s_row_joined) (defBody s_row_joined) (defScope s_row_joined) .none kV1 dc1 pm1 an1 cd1 ct1), sl1⟩)
    (c1 : PySem.W.codeIn K cd1 "row_joined" = true)
    (k1 : PySem.W.keepIn K (.ref f1) = true)
    (a2 : PySem.W.nsIn K mainGlobals "tables_joined" = some (some (.ref f2)))
    (l2 : K.lookup f2 = some ⟨oc2, od2, .func (PySem.W.fnOf "tables_joined" "tables_joined" (defArgs s_tables_joined) (defBody s_tables_joined) (defScope s_tables_joined) .none kV2 dc2 pm2 an2 cd2 ct2), sl2⟩)
    (c2 : PySem.W.codeIn K cd2 "tables_joined" = true)
    (k2 : PySem.W.keepIn K (.ref f2) = true)
    (a3 : PySem.W.nsIn K mainGlobals "by_modulus" = some (some (.ref f3)))
    (l3 : K.lookup f3 = some ⟨oc3, od3, .func (PySem.W.fnOf "by_modulus" "by_modulus" (defArgs s_by_modulus) (defBody s_by_modulus) (defScope s_by_modulus) .none kV3 dc3 pm3 an3 cd3 ct3), sl3⟩)
    (c3 : PySem.W.codeIn K cd3 "by_modulus" = true)
    (k3 : PySem.W.keepIn K (.ref f3) = true)
    (a4 : PySem.W.nsIn K mainGlobals "table_power" = some (some (.ref f4)))
    (l4 : K.lookup f4 = some ⟨oc4, od4, .func (PySem.W.fnOf "table_power" "table_power" (defArgs s_table_power) (defBody s_table_power) (defScope s_table_power) .none kV4 dc4 pm4 an4 cd4 ct4), sl4⟩)
    (c4 : PySem.W.codeIn K cd4 "table_power" = true)
    (k4 : PySem.W.keepIn K (.ref f4) = true)
    (a5 : PySem.W.nsIn K mainGlobals "_law_cell" = some (some (.ref f5)))
    (l5 : K.lookup f5 = some ⟨oc5, od5, .func (PySem.W.fnOf "_law_cell" "_law_cell" (defArgs s_law_cell) (defBody s_law_cell) (defScope s_law_cell) .none kV5 dc5 pm5 an5 cd5 ct5), sl5⟩)
    (c5 : PySem.W.codeIn K cd5 "_law_cell" = true)
    (k5 : PySem.W.keepIn K (.ref f5) = true)
    (a6 : PySem.W.nsIn K mainGlobals "_law_whole" = some (some (.ref f6)))
    (l6 : K.lookup f6 = some ⟨oc6, od6, .func (PySem.W.fnOf "_law_whole" "_law_whole" (defArgs s_law_whole) (defBody s_law_whole) (defScope s_law_whole) .none kV6 dc6 pm6 an6 cd6 ct6), sl6⟩)
    (c6 : PySem.W.codeIn K cd6 "_law_whole" = true)
    (k6 : PySem.W.keepIn K (.ref f6) = true)
    (a7 : PySem.W.nsIn K mainGlobals "_law_pair" = some (some (.ref f7)))
    (l7 : K.lookup f7 = some ⟨oc7, od7, .func (PySem.W.fnOf "_law_pair" "_law_pair" (defArgs s_law_pair) (defBody s_law_pair) (defScope s_law_pair) .none kV7 dc7 pm7 an7 cd7 ct7), sl7⟩)
    (c7 : PySem.W.codeIn K cd7 "_law_pair" = true)
    (k7 : PySem.W.keepIn K (.ref f7) = true)
    (a8 : PySem.W.nsIn K mainGlobals "_law_number" = some (some (.ref f8)))
    (l8 : K.lookup f8 = some ⟨oc8, od8, .func (PySem.W.fnOf "_law_number" "_law_number" (defArgs s_law_number) (defBody s_law_number) (defScope s_law_number) .none kV8 dc8 pm8 an8 cd8 ct8), sl8⟩)
    (c8 : PySem.W.codeIn K cd8 "_law_number" = true)
    (k8 : PySem.W.keepIn K (.ref f8) = true)
    (a9 : PySem.W.nsIn K mainGlobals "_law_table" = some (some (.ref f9)))
    (l9 : K.lookup f9 = some ⟨oc9, od9, .func (PySem.W.fnOf "_law_table" "_law_table" (defArgs s_law_table) (defBody s_law_table) (defScope s_law_table) .none kV9 dc9 pm9 an9 cd9 ct9), sl9⟩)
    (c9 : PySem.W.codeIn K cd9 "_law_table" = true)
    (k9 : PySem.W.keepIn K (.ref f9) = true)
    (a10 : PySem.W.nsIn K mainGlobals "_law_same" = some (some (.ref f10)))
    (l10 : K.lookup f10 = some ⟨oc10, od10, .func (PySem.W.fnOf "_law_same" "_law_same" (defArgs s_law_same) (defBody s_law_same) (defScope s_law_same) .none kV10 dc10 pm10 an10 cd10 ct10), sl10⟩)
    (c10 : PySem.W.codeIn K cd10 "_law_same" = true)
    (k10 : PySem.W.keepIn K (.ref f10) = true)
    (a11 : PySem.W.nsIn K mainGlobals "_law_joined" = some (some (.ref f11)))
    (l11 : K.lookup f11 = some ⟨oc11, od11, .func (PySem.W.fnOf "_law_joined" "_law_joined" (defArgs s_law_joined) (defBody s_law_joined) (defScope s_law_joined) .none kV11 dc11 pm11 an11 cd11 ct11), sl11⟩)
    (c11 : PySem.W.codeIn K cd11 "_law_joined" = true)
    (k11 : PySem.W.keepIn K (.ref f11) = true)
    (a12 : PySem.W.nsIn K mainGlobals "law" = some (some (.ref f12)))
    (l12 : K.lookup f12 = some ⟨oc12, od12, .func (PySem.W.fnOf "law" "law" (defArgs s_law) (defBody s_law) (defScope s_law) .none kV12 dc12 pm12 an12 cd12 ct12), sl12⟩)
    (c12 : PySem.W.codeIn K cd12 "law" = true)
    (k12 : PySem.W.keepIn K (.ref f12) = true)
    (z_range : PySem.W.nsIn K mainGlobals "range" = some none)
    (z_len : PySem.W.nsIn K mainGlobals "len" = some none)
    (z_isinstance : PySem.W.nsIn K mainGlobals "isinstance" = some none)
    (z_int : PySem.W.nsIn K mainGlobals "int" = some none)
    (z_bool : PySem.W.nsIn K mainGlobals "bool" = some none)
    (z_tuple : PySem.W.nsIn K mainGlobals "tuple" = some none)
    (z_max : PySem.W.nsIn K mainGlobals "max" = some none)
    (z_list : PySem.W.nsIn K mainGlobals "list" = some none)
    (z_min : PySem.W.nsIn K mainGlobals "min" = some none)
    (z_any : PySem.W.nsIn K mainGlobals "any" = some none)
    (z_sum : PySem.W.nsIn K mainGlobals "sum" = some none)
    : ∃ fd : FuncData, (∀ (s : Shared) (v : Value), BindsTo s fd ⟨[v], []⟩ [("script", v)]) ∧ ∀ base : Heap, K.In base → base.Ns mainGlobals mg → FnOk l.prog w K mg base CX0 5 fa fd ["script"] (spLaw K) := by
  have e := hfa.symm.trans (PySem.W.mg_of X G a12)
  cases e
  have B : Bl mg := ⟨PySem.W.mg_none_of X G z_range, PySem.W.mg_none_of X G z_len, PySem.W.mg_none_of X G z_isinstance, PySem.W.mg_none_of X G z_int, PySem.W.mg_none_of X G z_bool, PySem.W.mg_none_of X G z_tuple, PySem.W.mg_none_of X G z_max, PySem.W.mg_none_of X G z_list, PySem.W.mg_none_of X G z_min, PySem.W.mg_none_of X G z_any, PySem.W.mg_none_of X G z_sum⟩
  refine ⟨PySem.W.fnOf "law" "law" (defArgs s_law) (defBody s_law) (defScope s_law) .none kV12 dc12 pm12 an12 cd12 ct12, fun s v => .of_eq rfl, fun base _ _ => ?_⟩
  have h_way_to := ok_way_to (P := l.prog) (w := w) (base := base) (fun_mk (st := s_way_to) l0 c0 k0) (PySem.W.mg_of X G a0) B 
  have h_row_joined := ok_row_joined (P := l.prog) (w := w) (base := base) (fun_mk (st := s_row_joined) l1 c1 k1) (PySem.W.mg_of X G a1) B h_way_to
  have h_tables_joined := ok_tables_joined (P := l.prog) (w := w) (base := base) (fun_mk (st := s_tables_joined) l2 c2 k2) (PySem.W.mg_of X G a2) B h_row_joined
  have h_by_modulus := ok_by_modulus (P := l.prog) (w := w) (base := base) (fun_mk (st := s_by_modulus) l3 c3 k3) (PySem.W.mg_of X G a3) B 
  have h_table_power := ok_table_power (P := l.prog) (w := w) (base := base) (fun_mk (st := s_table_power) l4 c4 k4) (PySem.W.mg_of X G a4) B h_by_modulus h_tables_joined
  have h_law_cell := ok_law_cell (P := l.prog) (w := w) (base := base) (fun_mk (st := s_law_cell) l5 c5 k5) (PySem.W.mg_of X G a5) B 
  have h_law_whole := ok_law_whole (P := l.prog) (w := w) (base := base) (fun_mk (st := s_law_whole) l6 c6 k6) (PySem.W.mg_of X G a6) B 
  have h_law_pair := ok_law_pair (P := l.prog) (w := w) (base := base) (fun_mk (st := s_law_pair) l7 c7 k7) (PySem.W.mg_of X G a7) B h_law_whole
  have h_law_number := ok_law_number (P := l.prog) (w := w) (base := base) (fun_mk (st := s_law_number) l8 c8 k8) (PySem.W.mg_of X G a8) B 
  have h_law_table := ok_law_table (P := l.prog) (w := w) (base := base) (fun_mk (st := s_law_table) l9 c9 k9) (PySem.W.mg_of X G a9) B h_law_number
  have h_law_same := ok_law_same (P := l.prog) (w := w) (base := base) (fun_mk (st := s_law_same) l10 c10 k10) (PySem.W.mg_of X G a10) B h_law_pair
  have h_law_joined := ok_law_joined (P := l.prog) (w := w) (base := base) (fun_mk (st := s_law_joined) l11 c11 k11) (PySem.W.mg_of X G a11) B 
  exact ok_law (P := l.prog) (w := w) (base := base) (fun_mk (st := s_law) l12 c12 k12) B h_law_cell h_law_table h_table_power h_law_same h_law_joined
end Sf
open PySem PySem.W PyProof.Rows
set_option maxRecDepth 100000 in
set_option maxHeartbeats 0 in
theorem PySem.Challenge.cw_spinfloor_k48_powers_joined_holds : PySem.Challenge.rw_spinfloor_k48_powers_joined.Holds := by
  w_on; o_law; k_head; (case hw => w_witness2)
  k_fill
  refine Sf.walk_ofE (l := PySem.Challenge.rw_spinfloor_k48_powers_joined) (n := 63) (k := 5) (sp := Sf.spLaw) rfl (by decide) rfl ⟨rfl, by decide, by decide⟩ (fun w h Y => PySem.W.kIn_of Y) ?F (fun _ _ a ns hl hb hS => ⟨a, ns, rfl, hS, hl, hb, fun _ => rfl⟩)
  case F =>
    intro w mg fa h KX G hmg
    refine' Sf.all_mk KX G hmg ?a0 ?l0 ?c0 ?k0 ?a1 ?l1 ?c1 ?k1 ?a2 ?l2 ?c2 ?k2 ?a3 ?l3 ?c3 ?k3 ?a4 ?l4 ?c4 ?k4 ?a5 ?l5 ?c5 ?k5 ?a6 ?l6 ?c6 ?k6 ?a7 ?l7 ?c7 ?k7 ?a8 ?l8 ?c8 ?k8 ?a9 ?l9 ?c9 ?k9 ?a10 ?l10 ?c10 ?k10 ?a11 ?l11 ?c11 ?k11 ?a12 ?l12 ?c12 ?k12 ?z_range ?z_len ?z_isinstance ?z_int ?z_bool ?z_tuple ?z_max ?z_list ?z_min ?z_any ?z_sum
    (case a0 => k_is); (case l0 => k_is); (case c0 => k_is); (case k0 => k_is); (case a1 => k_is); (case l1 => k_is); (case c1 => k_is); (case k1 => k_is); (case a2 => k_is); (case l2 => k_is); (case c2 => k_is); (case k2 => k_is); (case a3 => k_is); (case l3 => k_is); (case c3 => k_is); (case k3 => k_is); (case a4 => k_is); (case l4 => k_is); (case c4 => k_is); (case k4 => k_is); (case a5 => k_is); (case l5 => k_is); (case c5 => k_is); (case k5 => k_is); (case a6 => k_is); (case l6 => k_is); (case c6 => k_is); (case k6 => k_is); (case a7 => k_is); (case l7 => k_is); (case c7 => k_is); (case k7 => k_is); (case a8 => k_is); (case l8 => k_is); (case c8 => k_is); (case k8 => k_is); (case a9 => k_is); (case l9 => k_is); (case c9 => k_is); (case k9 => k_is); (case a10 => k_is); (case l10 => k_is); (case c10 => k_is); (case k10 => k_is); (case a11 => k_is); (case l11 => k_is); (case c11 => k_is); (case k11 => k_is); (case a12 => k_is); (case l12 => k_is); (case c12 => k_is); (case k12 => k_is); (case z_range => k_is); (case z_len => k_is); (case z_isinstance => k_is); (case z_int => k_is); (case z_bool => k_is); (case z_tuple => k_is); (case z_max => k_is); (case z_list => k_is); (case z_min => k_is); (case z_any => k_is); (case z_sum => k_is)

