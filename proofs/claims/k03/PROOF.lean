
import PyProof.Rows.All
import Wide.All
import OpenK.AllK
import Wide.FinOn
import HandS.ForMost
import HandS.Wide
import HandS.WideBits
import HandS.IsInst
import HandS.More
import HandS.EndBits
import HandS.SortInts
import KE.SortData
import HandS.TupLe
import HandS.Exc
import HandS.ExcOwn
import HandS.WordsExc
import HandS.ExcInit
import HandS.ExcField
import HandS.ExcIs
import HandS.TryOnly
import HandS.Small
import KE.KExcIs
import PySem.Challenge.RW_spinfloor_k03_ties_made
set_option Elab.async false
set_option linter.all false
set_option pp.deepTerms false
set_option pp.deepTerms.threshold 4
set_option maxRecDepth 100000
set_option maxHeartbeats 2000000
namespace Sf
open PySem PySem.Spec PyProof.Rows L2

/-! ### defs by name -/
structure Has (P : Program) (w : World) (K : PySem.W.Frag) (mg : Str → Option Value) (base : Heap) (CX : CXT) (k : Nat) (x : Str) (ps : List Str) (sp : Sp) : Prop where
  ex : ∃ f fd, FnOk P w K mg base CX k f fd ps sp ∧ mg x = some (.ref f) ∧ PySem.W.keepIn K (.ref f) = true ∧ Binds K fd ps []
section
variable {P : Program} {w : World} {K : PySem.W.Frag} {mg : Str → Option Value} {base : Heap} {x qual : Str} {ps N : List Str} {sp : Sp} {k : Nat}
theorem Has.mk' {st : Stmt} {f : Addr} {fd : FuncData} (F : Fun K x qual st f fd) (gf : mg x = some (.ref f)) (b : Binds K fd ps []) (S : FnScope N ps (defScope st)) (len : ∀ vs H Q E, sp vs H Q E → vs.length = ps.length)
    (hbody : ∀ (cdv : Value) (A : Around) (outer : List Env) (s : Shared) (H : Hp) (vs : List V) (Q : VK) (E : XK), Room k (A.deeper (envOfC qual (defScope st) s.heap.objs.size f cdv)) → sp vs H Q E →
      ∃ t, PSs (cxOf CX0 P w K mg base N qual (defScope st) f cdv A outer s H E).nox (defBody st) t ∧ t { nx := fun _ H' => Q .non H', rt := Q } (start N vs) H) : Has P w K mg base CX0 (k + 1) x ps sp :=
  ⟨f, fd, F.ok S len hbody, gf, F.kp, b⟩
end
section
variable {X : Cx} {k : Nat} {ps : List Str} {sp : Sp} {x : Str} {p pos : Pos} {e : Expr} {es : List Expr} {t : TA}
theorem pe_fn (h : Has X.prog X.w X.K X.mg X.base CX0 k x ps sp) (hr : Room k X.A) (hg : Gl X x) (ha : PA X (e :: es) t) (hdb : (x == ("__debug__" : Str)) = false := by decide) (he : starEach (e :: es) X.env = (false, eval e X.env) :: starEach es X.env := by rfl) (hpl : (backTo pos (starEach es X.env)).any (·.1) = false := by rfl) :
    PE X (.Call (.Name x p) (e :: es) [] pos) (tCall sp [] E0 t) := by
  obtain ⟨f, fd, F, gf, kp, b⟩ := h.ex
  exact pe_call F hr hg gf kp b .nil pass0 ha hdb he hpl
theorem pe_fn0 (h : Has X.prog X.w X.K X.mg X.base CX0 k x ps sp) (hr : Room k X.A) (hg : Gl X x) (hdb : (x == ("__debug__" : Str)) = false := by decide) :
    PE X (.Call (.Name x p) [] [] pos) (tCall sp [] E0 tNil) := by
  obtain ⟨f, fd, F, gf, kp, b⟩ := h.ex
  exact pe_call0 F hr hg gf kp b .nil pass0 hdb
end
/-! ### lists whose object is known to the sign; the sum of two -/
def LsE (K : PySem.W.Frag) (H : Hp) (a : Addr) (xs : List V) : Prop :=
  Rd H a (.lst xs) ∨ ∃ (its : List Value) (n : Nat), K.lookup a = some { cls := .type "list", data := .seq its.toArray n } ∧ Vals xs its ∧ xs.length ≤ sizeLine
theorem LsE.sq {K : PySem.W.Frag} {H : Hp} {a : Addr} {xs : List V} (h : LsE K H a xs) : SqL K H a xs := by
  rcases h with h | ⟨its, n, h1, h2, h3⟩
  · exact .inl h
  · exact .inr ⟨_, its.toArray, n, h1, rfl, rfl, rfl, by rw [List.size_toArray, ← h2.length]; exact h3, by simpa using h2⟩
theorem LsE.of {K : PySem.W.Frag} {H : Hp} {a : Addr} {xs : List V} (h : H a = some (.lst xs)) : LsE K H a xs := .inl (.inl h)
theorem LsE.same {K : PySem.W.Frag} {H H' : Hp} {a : Addr} {xs : List V} (e : Same H H') (h : LsE K H a xs) : LsE K H' a xs := by
  rcases h with (h | ⟨o, h⟩) | h
  · exact .inl (.inl (e _ _ h))
  · exact .inl (.inr ⟨o, e _ _ h⟩)
  · exact .inr h
section
variable {X : Cx}
theorem LsE.obj {pins : List (Addr × Obj)} {σ : L2.St} {H : Hp} {s : Shared} {a : Addr} {xs : List V} (I : Inv X pins σ H s) (h : LsE X.K H a xs) :
    ∃ (its : List Value) (n : Nat), Vals xs its ∧ s.heap.get? a = some { cls := .type "list", data := .seq its.toArray n } := by
  rcases h with h | ⟨its, n, h1, h2, _⟩
  · obtain ⟨_, its, n, r, e⟩ := h.ok I.hok
    exact ⟨its, n, r, e⟩
  · exact ⟨its, n, h2, I.kIn a _ h1⟩
def rCatE (K : PySem.W.Frag) : R2 := fun x y H Q => ∃ l b xs zs, x = .ref l ∧ y = .ref b ∧ LsE K H l xs ∧ LsE K H b zs ∧ xs.length + zs.length ≤ sizeLine ∧ ∀ p, H p = none → Q (.ref p) (upd H p (.lst (xs ++ zs)))
theorem op_catE : OpR X (binaryOp .Add) (rCatE X.K) := by
  intro pins s σ H x y v u Q I rx ry h
  obtain ⟨l, b, xs, zs, rfl, rfl, hl, hb, hz, q⟩ := h
  cases rx
  cases ry
  obtain ⟨ix, n, rl, el⟩ := hl.obj I
  obtain ⟨iz, m, rb, eb⟩ := hb.obj I
  refine PySem.P.add_list el eb ?_ (by simp only [List.size_toArray, ← rl.length, ← rb.length]; exact hz)
  have join : ix.toArray ++ iz.toArray = (ix ++ iz).toArray := by simp
  rw [join]
  exact ⟨.ref s.heap.objs.size, _, I.lnew (t' := s.toks) (rl.append rb) (by simpa using hz), rfl, q _ I.fresh⟩
end
/-! ### tests -/
theorem ifd {c A B : Prop} [Decidable c] (h1 : c → A) (h2 : ¬ c → B) : if decide c = true then A else B := by
  by_cases h : c
  · simp only [h, decide_true, if_true]; exact h1 h
  · simp only [h, decide_false, Bool.false_eq_true, if_false]; exact h2 h
theorem ifnd {c A B : Prop} [Decidable c] (h1 : ¬ c → A) (h2 : c → B) : if (!decide c) = true then A else B := by
  by_cases h : c
  · simp only [h, decide_true, Bool.not_true, Bool.false_eq_true, if_false]; exact h2 h
  · simp only [h, decide_false, Bool.not_false, if_true]; exact h1 h
theorem ifb {b : Bool} {A B : Prop} (h1 : b = true → A) (h2 : b = false → B) : if b = true then A else B := by
  cases b with
  | true => exact h1 rfl
  | false => exact h2 rfl
theorem ifT {b : Bool} {A B : Prop} (hb : b = true) (h : A) : if b = true then A else B := by rw [if_pos hb]; exact h
theorem ifF {b : Bool} {A B : Prop} (hb : b = false) (h : B) : if b = true then A else B := by rw [hb]; exact h
theorem int_eq {i j : Int} : (V.int i = V.int j) = (i = j) := by simp
theorem same_upd {H : Hp} {p : Addr} {o : HO} (h : H p = none) : Same H (upd H p o) := fun b x e => by
  rw [upd_ne (ne_of_none e h)]
  exact e
/-- a place that is free -/
def New (H : Hp) (p : Addr) : Prop := H p = none
theorem w_new {H : Hp} {R : Addr → Prop} (h : ∀ p, New H p → R p) : ∀ p, H p = none → R p := h
theorem ne_new {H : Hp} {a b : Addr} {o : HO} (h : H a = some o) (n : New H b) : a ≠ b := ne_of_none h n
/-- one more object over what was tracked at H -/
theorem _root_.L2.Same.new {H H' : Hp} {p : Addr} {o : HO} (e : Same H H') (h : New H' p) : Same H (upd H' p o) := e.trans (same_upd h)
theorem _root_.L2.Same.get {H H' : Hp} {p : Addr} {o : HO} (e : Same H H') (h : H p = some o) : H' p = some o := e p o h
theorem New.of {H H' : Hp} {p : Addr} (n : New H' p) (e : Same H H') : New H p := e.free n
/-- an object that H does not track is changed -/
theorem _root_.L2.Same.mut {H H' : Hp} {p : Addr} {o : HO} (e : Same H H') (h : New H p) : Same H (upd H' p o) := fun b x hb => by
  rw [upd_ne (ne_of_none hb h)]
  exact e b x hb
/-! ### isinstance of ints and bools -/
theorem kb_ii : kitB "int" "int" = some true := by decide +kernel
theorem kb_ib : kitB "int" "bool" = some false := by decide +kernel
theorem kb_bb : kitB "bool" "bool" = some true := by decide +kernel
theorem kb_bi : kitB "bool" "int" = some true := by decide +kernel
theorem kb_ll : kitB "list" "list" = some true := by decide +kernel
theorem kb_tt : kitB "tuple" "tuple" = some true := by decide +kernel
theorem kb_ni : kitB "NoneType" "int" = some false := by decide +kernel
theorem kb_nb : kitB "NoneType" "bool" = some false := by decide +kernel
theorem kb_tl : kitB "tuple" "list" = some false := by decide +kernel
theorem kb_lt : kitB "list" "tuple" = some false := by decide +kernel
/-! ### the law's end, the script's list known to the sign, its bits told -/
theorem walk_ofE {l : PySem.W.OpenLaw} {n k : Nat} {q : Program} {loose : List Str} {XP : (Str → Option Value) → Heap → Prop} {YP : World → Heap → Prop} {d : DefRec} {K : Params → PySem.W.Frag} {sp : PySem.W.Frag → Sp}
    (hn : l.most = some n) (hn2 : n ≤ sizeLine) (hdf : d.params.defaults = []) (hr : Room k callerA) (hY : ∀ (w : World) (h : Heap), YP w h → (K w.params).In h)
    (F : ∀ (w : World) (mg : Str → Option Value) (fa : Addr) (h : Heap), (K w.params).In h → h.Ns mainGlobals mg → mg d.name = some (.ref fa) →
      ∃ fd : FuncData, (∀ (s : Shared) (u : Value), BindsTo s fd ⟨[u], []⟩ [("script", u)]) ∧ ∀ base : Heap, (K w.params).In base → base.Ns mainGlobals mg → FnOk l.prog w (K w.params) mg base CX0 k fa fd ["script"] (sp (K w.params)))
    (hsp : ∀ (K : PySem.W.Frag) (H : Hp) (a : Addr) (ns : List Int), ns.length ≤ n → (∀ z ∈ ns, Builtin.Int.intBits z ≤ 1048576) → LsE K H a (ns.map V.int) → sp K [.ref a] H (fun v _ => v = .bl true) fun _ _ _ => False) :
    PySem.W.WalkO q loose XP YP l.row.toRowW d [] (fun f vs => PySem.call f vs) := by
  refine Att.attach_callB hn hdf fun w s₀ s₁ mg mb fa o pm cd doc a vs ns G Y ho hd hcd hmg hobj hints hlen hbits hg => ?_
  obtain ⟨fd, hb, hF⟩ := F w mg fa _ (hY w _ Y) G.T.g hmg
  refine law_call (hY w _ Y) G.T.g G.T.b G.T.builtins G.T.nolimit hg hobj hints (Nat.le_trans hlen hn2) hr hF hb (fun H _ hS => hsp _ H a ns hlen hbits ?_) fun _ _ _ h => h
  rcases hS with h | ⟨ob, its, m, hk, h1, h2, h3, h4, h5⟩
  · exact .inl h
  · have e := (hY w _ Y) a ob hk
    rw [hobj] at e
    cases e
    cases h3
    exact .inr ⟨vs, _, hk, by simpa using h5, by rw [List.length_map]; exact Nat.le_trans hlen hn2⟩
/-! ### bounds of operators -/
theorem cdivw_small {i j : Int} (h : 0 < j) (h2 : j < 2 ^ 200) : CDivW i j := wide_div (b := 200) h (by omega) (by decide) (by decide)
theorem nab_lt {i : Int} {a : Nat} (h1 : -(2 ^ a) < i) (h2 : i < 2 ^ a) : i.natAbs < 2 ^ a := by
  have e : ((2 ^ a : Nat) : Int) = (2 : Int) ^ a := by simp
  omega
theorem cmulx_small {i j : Int} (h1 : -(2 ^ 200) < i) (h2 : i < 2 ^ 200) (h3 : -(2 ^ 200) < j) (h4 : j < 2 ^ 200) : CMulX i j := mulx_ok (nab_lt h1 h2) (nab_lt h3 h4) (by decide)
theorem cshl_one {j : Int} (h : 0 ≤ j) (h2 : j ≤ 100000) : CShl 1 j := by
  have e : ((j.toNat : Nat) : Int) = j := Int.toNat_of_nonneg h
  rw [← e]
  exact shl_ok (n := 1) (by decide) (by omega)
theorem cshl_small {i j : Int} (h0 : -(2 ^ 200) < i) (h1 : i < 2 ^ 200) (h : 0 ≤ j) (h2 : j ≤ 100000) : CShl i j := by
  have e : ((j.toNat : Nat) : Int) = j := Int.toNat_of_nonneg h
  rw [← e]
  exact shl_ok (n := 200) (nab_lt h0 h1) (by omega)
theorem szle {α : Type} {xs : List α} (h : Nat.ble xs.length 1000 = true) : xs.length ≤ sizeLine := Nat.le_trans (Nat.le_of_ble_eq_true h) (by decide)
theorem szlt {α : Type} {xs : List α} (h : xs.length < 1000000) : xs.length < sizeLine := Nat.lt_of_lt_of_le h (by decide)
theorem atI_get {α : Type} {xs : List α} {i : Int} {j : Nat} (e : i = j) (h : j < xs.length) : atI xs i = some xs[j] := by
  subst e
  exact atI_nat (List.getElem?_eq_getElem h)
theorem atI_map {α β : Type} {f : α → β} {xs : List α} {i : Int} {j : Nat} (e : i = j) (h : j < xs.length) : atI (xs.map f) i = some (f xs[j]) := by
  subst e
  exact atI_nat (by rw [List.getElem?_map, List.getElem?_eq_getElem h]; rfl)
/-! ### the readings, one at a time -/
section
variable {σ : L2.St} {H : Hp} {Q : VK} {QT : Bool → Hp → Prop} {QA : List V → Hp → Prop} {D : Ends} {v x y z : V} {ta tb tc te tv : TE} {t u c : TT} {ts us : TS} {tl tr : TA} {r : R2} {g : TG} {gs : TGs} {i j : Nat} {m n : Int} {K : PySem.W.Frag} {a p q C dx : Addr} {f : Str} {xs ys : List V} {fs : List (Str × V)}
theorem w_seq (h : ts { D with nx := us D } σ H) : tSeq ts us D σ H := h
theorem w_next (h : D.nx σ H) : tNext D σ H := h
theorem w_var (h : ∃ v, σ[i]? = some (some v) ∧ Q v H) : tVar i σ H Q := h
theorem w_c (h : Q v H) : tC v σ H Q := h
theorem w_op (h : ta σ H fun x H1 => tb σ H1 fun y H2 => r x y H2 Q) : tOp r ta tb σ H Q := h
theorem w_un {r : V → Hp → VK → Prop} (h : ta σ H fun x H1 => r x H1 Q) : tUn r ta σ H Q := h
theorem w_rI0 {g : Int → Int → V} (h : Q (g m n) H) : rI0 g (.int m) (.int n) H Q := ⟨m, n, rfl, rfl, h⟩
theorem w_mod (h0 : 0 < n) (h : Q (.int (m % n)) H) : rI (fun _ j => 0 < j) (fun i j => .int (i % j)) (.int m) (.int n) H Q := ⟨m, n, rfl, rfl, h0, h⟩
theorem w_div (h0 : 0 < n) (h1 : n < 2 ^ 200) (h : Q (.int (m / n)) H) : rI CDivW (fun i j => .int (i / j)) (.int m) (.int n) H Q := ⟨m, n, rfl, rfl, cdivw_small h0 h1, h⟩
theorem w_shr (h0 : 0 ≤ n) (h : Q (.int (m / 2 ^ n.toNat)) H) : rI (fun _ j => 0 ≤ j) (fun i j => .int (i / 2 ^ j.toNat)) (.int m) (.int n) H Q := ⟨m, n, rfl, rfl, h0, h⟩
theorem w_mul (h1 : -(2 ^ 200) < m) (h2 : m < 2 ^ 200) (h3 : -(2 ^ 200) < n) (h4 : n < 2 ^ 200) (h : Q (.int (m * n)) H) : rI CMulX (fun i j => .int (i * j)) (.int m) (.int n) H Q := ⟨m, n, rfl, rfl, cmulx_small h1 h2 h3 h4, h⟩
theorem w_shl1 (h1 : 0 ≤ n) (h2 : n ≤ 100000) (h : Q (.int (1 * 2 ^ n.toNat)) H) : rI CShl (fun i j => .int (i * 2 ^ j.toNat)) (.int 1) (.int n) H Q := ⟨1, n, rfl, rfl, cshl_one h1 h2, h⟩
theorem w_shl (h1 : -(2 ^ 200) < m) (h2 : m < 2 ^ 200) (h3 : 0 ≤ n) (h4 : n ≤ 100000) (h : Q (.int (m * 2 ^ n.toNat)) H) : rI CShl (fun i j => .int (i * 2 ^ j.toNat)) (.int m) (.int n) H Q := ⟨m, n, rfl, rfl, cshl_small h1 h2 h3 h4, h⟩
theorem w_pow (h0 : CPow m n) (h : Q (.int (m ^ n.toNat)) H) : rI CPow (fun i j => .int (i ^ j.toNat)) (.int m) (.int n) H Q := ⟨m, n, rfl, rfl, h0, h⟩
theorem w_rU {g : Int → V} (h : Q (g m) H) : rU g (.int m) H Q := ⟨m, rfl, h⟩
theorem dec_ii : decide (V.int m = V.int n) = decide (m = n) := by
  by_cases h : m = n
  · rw [h]; simp
  · simp [h]
theorem dec_bb {a b : Bool} : decide (V.bl a = V.bl b) = decide (a = b) := by cases a <;> cases b <;> decide
theorem dec_ss {a b : Str} : decide (V.str a = V.str b) = decide (a = b) := by
  by_cases h : a = b
  · rw [h]; simp
  · simp [h]
theorem w_eqI (h : Q (.bl (decide (m = n))) H) : rEq (.int m) (.int n) H Q := ⟨rfl, by rw [dec_ii]; exact h⟩
theorem w_eqB {a b : Bool} (h : Q (.bl (decide (a = b))) H) : rEq (.bl a) (.bl b) H Q := ⟨rfl, by rw [dec_bb]; exact h⟩
theorem w_eqS {a b : Str} (h : Q (.bl (decide (a = b))) H) : rEq (.str a) (.str b) H Q := ⟨rfl, by rw [dec_ss]; exact h⟩
theorem w_eqNI (h : Q (.bl false) H) : rEq .non (.int n) H Q := ⟨rfl, by rw [decide_eq_false (by simp)]; exact h⟩
theorem w_eqIN (h : Q (.bl false) H) : rEq (.int n) .non H Q := ⟨rfl, by rw [decide_eq_false (by simp)]; exact h⟩
theorem w_neI (h : Q (.bl (!decide (m = n))) H) : rNe (.int m) (.int n) H Q := ⟨rfl, by rw [dec_ii]; exact h⟩
theorem w_neB {a b : Bool} (h : Q (.bl (!decide (a = b))) H) : rNe (.bl a) (.bl b) H Q := ⟨rfl, by rw [dec_bb]; exact h⟩
theorem w_neS {a b : Str} (h : Q (.bl (!decide (a = b))) H) : rNe (.str a) (.str b) H Q := ⟨rfl, by rw [dec_ss]; exact h⟩
theorem w_ixL (hs : SqL K H p xs) (ha : atI xs m = some v) (h : Q v H) : rIxL K (.ref p) (.int m) H Q := ⟨p, xs, m, v, rfl, rfl, hs, ha, h⟩
theorem w_ixT (hs : SqT K H p xs) (ha : atI xs m = some v) (h : Q v H) : rIxT K (.ref p) (.int m) H Q := ⟨p, xs, m, v, rfl, rfl, hs, ha, h⟩
theorem w_ixl (hs : SqL K H p xs) (ha : atI xs m = some v) (h : Q v H) : rIx K (.ref p) (.int m) H Q := .inl ⟨p, xs, m, v, rfl, rfl, hs, ha, h⟩
theorem w_ixt (hs : SqT K H p xs) (ha : atI xs m = some v) (h : Q v H) : rIx K (.ref p) (.int m) H Q := .inr (.inl ⟨p, xs, m, v, rfl, rfl, hs, ha, h⟩)
theorem w_catE (h1 : LsE K H p xs) (h2 : LsE K H q ys) (hz : xs.length + ys.length ≤ sizeLine) (h : ∀ p, H p = none → Q (.ref p) (upd H p (.lst (xs ++ ys)))) : rCatE K (.ref p) (.ref q) H Q := ⟨p, q, xs, ys, rfl, rfl, h1, h2, hz, h⟩
theorem w_rep (h1 : H p = some (.lst xs)) (h2 : -(2 ^ 63) ≤ n) (h3 : n < 2 ^ 63) (h4 : xs.length * n.toNat ≤ sizeLine) (h : ∀ p, H p = none → Q (.ref p) (upd H p (.lst (List.replicate n.toNat xs).flatten))) : rRep (.ref p) (.int n) H Q := ⟨p, n, xs, rfl, rfl, h1, h2, h3, h4, h⟩
theorem w_test (h : te σ H fun x H' => ∃ k, x = .bl k ∧ QT k H') : tTest te σ H QT := h
theorem w_tB (h : te σ H fun x H' => ∃ k, x = .bl k ∧ QT k H') : tB te σ H QT := h
theorem w_bl {b : Bool} {R : Bool → Prop} (h : R b) : ∃ k, V.bl b = .bl k ∧ R k := ⟨b, rfl, h⟩
theorem w_and (h : t σ H fun c H1 => if c = true then u σ H1 QT else QT false H1) : tAnd t u σ H QT := h
theorem w_or (h : t σ H fun c H1 => if c = true then QT true H1 else u σ H1 QT) : tOr t u σ H QT := h
theorem w_not (h : t σ H fun c H1 => QT (!c) H1) : tNot t σ H QT := h
theorem w_andV (h : ta σ H fun x H1 => ∃ c, x = .bl c ∧ if c = true then tb σ H1 Q else Q (.bl false) H1) : tAndV ta tb σ H Q := h
theorem w_orV (h : ta σ H fun x H1 => ∃ c, x = .bl c ∧ if c = true then Q (.bl true) H1 else tb σ H1 Q) : tOrV ta tb σ H Q := h
theorem w_notV (h : ta σ H fun x H1 => ∃ c, x = .bl c ∧ Q (.bl (!c)) H1) : tNotV ta σ H Q := h
theorem w_ifE (h : t σ H fun c H1 => if c = true then ta σ H1 Q else tb σ H1 Q) : tIf t ta tb σ H Q := h
theorem w_asg (h : te σ H fun x H1 => g x σ H1 D.nx) : tAsg te g D σ H := h
theorem w_gn {R : L2.St → Hp → Prop} (h : R (σ.set i (some v)) H) : gName i v σ H R := h
theorem w_gt {R : L2.St → Hp → Prop} {k : Nat} (hs : SqT K H p xs) (hl : xs.length = k) (h : gs xs σ H R) : gTup K k gs (.ref p) σ H R := ⟨p, xs, rfl, hs, hl, h⟩
theorem w_gc {R : L2.St → Hp → Prop} (h : g v σ H fun σ' H' => gs xs σ' H' R) : gCons g gs (v :: xs) σ H R := ⟨v, xs, rfl, h⟩
theorem w_g0 {R : L2.St → Hp → Prop} (h : R σ H) : gNil [] σ H R := ⟨rfl, h⟩
theorem w_gs {R : L2.St → Hp → Prop} {tt : TSet} (h : ta σ H fun o H1 => tb σ H1 fun i H2 => tt o i v H2 fun H3 => R σ H3) : gSub ta tb tt v σ H R := h
theorem w_setL {R : Hp → Prop} (hp : H p = some (.lst xs)) (hj : ixN xs.length m = some j) (h : R (upd H p (.lst (xs.set j v)))) : rSetL (.ref p) (.int m) v H R := ⟨p, xs, m, j, rfl, rfl, hp, hj, h⟩
theorem w_drop (h : te σ H fun _ H1 => D.nx σ H1) : tDrop te D σ H := h
theorem w_ret (h : te σ H D.rt) : tRet te D σ H := h
theorem w_retN (h : D.rt .non H) : tRetN D σ H := h
theorem w_if (h : t σ H fun b H1 => if b = true then ts D σ H1 else us D σ H1) : tIfS t ts us D σ H := h
theorem w_break (h : D.bk σ H) : tBreak D σ H := h
theorem w_cont (h : D.ct σ H) : tCont D σ H := h
theorem w_aug {ti : TIp} (h : ∃ x, σ[i]? = some (some x) ∧ te σ H fun y H1 => ti x y H1 fun z H2 => D.nx (σ.set i (some z)) H2) : tAug i te ti D σ H := h
theorem w_ip {f : Int → Int → Int} (h : Q (.int (f m n)) H) : ipI f (.int m) (.int n) H Q := ⟨m, n, rfl, rfl, h⟩
theorem w_par (h : tl σ H fun vs H1 => ∃ v w, vs = [v, w] ∧ D.nx ((σ.set i (some v)).set j (some w)) H1) : tPar i j tl D σ H := h
theorem w_par2 {R : V → V → Prop} (h : R v x) : ∃ a b, [v, x] = [a, b] ∧ R a b := ⟨v, x, rfl, h⟩
theorem w_nil (h : QA [] H) : tNil σ H QA := h
theorem w_cons (h : ta σ H fun x H1 => tl σ H1 fun xs H2 => QA (x :: xs) H2) : tCons ta tl σ H QA := h
theorem w_call {sp : Sp} {E : XK} (h : tl σ H fun vs H1 => sp vs H1 Q E) : tCall sp [] E tl σ H Q := by
  unfold tCall
  simp only [List.append_nil]
  exact h
theorem w_cb {r : List V → Hp → VK → Prop} (h : tl σ H fun vs H1 => r vs H1 Q) : tCB r tl σ H Q := h
theorem w_tup (h : tl σ H fun xs H1 => xs.length ≤ sizeLine ∧ ∀ p, H1 p = none → Q (.ref p) (upd H1 p (.tup xs))) : tTup tl σ H Q := h
theorem w_lst (h : tl σ H fun xs H1 => xs.length ≤ sizeLine ∧ ∀ p, H1 p = none → Q (.ref p) (upd H1 p (.lst xs))) : tLst tl σ H Q := h
theorem w_sl {r : V → Option Int → Option Int → Hp → VK → Prop} {to tu : TO} (h : te σ H fun x H1 => to σ H1 fun l H2 => tu σ H2 fun u H3 => r x l u H3 Q) : tSl r te to tu σ H Q := h
theorem w_np {R : Option Int → Hp → Prop} (h : R none H) : tNoPart σ H R := h
theorem w_part {R : Option Int → Hp → Prop} (h : te σ H fun x H1 => ∃ i, x = .int i ∧ R (some i) H1) : tPart te σ H R := h
theorem w_partI {R : Int → Prop} (h : R m) : ∃ i, V.int m = .int i ∧ R i := ⟨m, rfl, h⟩
theorem w_slL {lo hi : Option Int} (hs : SqL K H p xs) (h : ∀ q, H q = none → Q (.ref q) (upd H q (.lst (cutV xs lo hi)))) : rSlL K (.ref p) lo hi H Q := ⟨p, xs, rfl, hs, h⟩
theorem w_bm {T : String} {r : V → List V → Hp → VK → Prop} (h : ta σ H fun x H1 => tyV K T x H1 ∧ tl σ H1 fun xs H2 => r x xs H2 Q) : tBM K T r ta tl σ H Q := h
theorem w_bm0 {T : String} {r : V → List V → Hp → VK → Prop} (h : ta σ H fun x H1 => tyV K T x H1 ∧ r x [] H1 Q) : tBM0 K T r ta σ H Q := h
theorem w_tyl {R : Prop} (hs : SqL K H p xs) (h : R) : tyV K "list" (.ref p) H ∧ R := ⟨.inl ⟨rfl, xs, hs⟩, h⟩
theorem w_app (hp : H p = some (.lst xs)) (hl : xs.length < sizeLine) (h : Q .non (upd H p (.lst (xs ++ [v])))) : rAppend (.ref p) [v] H Q := ⟨p, xs, v, rfl, rfl, hp, hl, h⟩
theorem w_rev (hp : H p = some (.lst xs)) (h : Q .non (upd H p (.lst xs.reverse))) : rReverse (.ref p) [] H Q := ⟨p, xs, rfl, rfl, hp, h⟩
theorem w_len {R : List V → Prop} (hs : SqL K H p xs) (h : R xs) : ∃ p' ys, [V.ref p] = [.ref p'] ∧ (SqL K H p' ys ∨ SqT K H p' ys) ∧ R ys := ⟨p, xs, rfl, .inl hs, h⟩
theorem w_lenT {R : List V → Prop} (hs : SqT K H p xs) (h : R xs) : ∃ p' ys, [V.ref p] = [.ref p'] ∧ (SqL K H p' ys ∨ SqT K H p' ys) ∧ R ys := ⟨p, xs, rfl, .inr hs, h⟩
theorem w_isi {s : String} {b : Bool} (hk : kitB "int" s = some b) (h : Q (.bl b) H) : rIsi K [.int m, .ty s] H Q := ⟨_, _, _, _, b, rfl, .ty _, .base (.int _), kit_ty hk, h⟩
theorem w_isb {k : Bool} {s : String} {b : Bool} (hk : kitB "bool" s = some b) (h : Q (.bl b) H) : rIsi K [.bl k, .ty s] H Q := ⟨_, _, _, _, b, rfl, .ty _, .base (.bl _), kit_ty hk, h⟩
theorem w_isn {s : String} {b : Bool} (hk : kitB "NoneType" s = some b) (h : Q (.bl b) H) : rIsi K [.non, .ty s] H Q := ⟨_, _, _, _, b, rfl, .ty _, .base .non, kit_ty hk, h⟩
theorem w_isl {s : String} {b : Bool} (hp : H p = some (.lst xs)) (hk : kitB "list" s = some b) (h : Q (.bl b) H) : rIsi K [.ref p, .ty s] H Q := ⟨_, _, _, _, b, rfl, .ty _, .base (.lst hp), kit_ty hk, h⟩
theorem w_ist {s : String} {b : Bool} (hp : H p = some (.tup xs)) (hk : kitB "tuple" s = some b) (h : Q (.bl b) H) : rIsi K [.ref p, .ty s] H Q := ⟨_, _, _, _, b, rfl, .ty _, .base (.tup hp), kit_ty hk, h⟩
theorem w_2i {R : Int → Int → Prop} (h : R m n) : ∃ i j, [V.int m, V.int n] = [.int i, .int j] ∧ R i j := ⟨m, n, rfl, h⟩
theorem w_1i {R : Int → Prop} (h : R m) : ∃ i, [V.int m] = [.int i] ∧ R i := ⟨m, rfl, h⟩
theorem w_int1 {R : Int → Prop} {S : Prop} (h : R m) : (∃ i, [V.int m] = [.int i] ∧ R i) ∨ S := .inl ⟨m, rfl, h⟩
theorem w_intb {b : Bool} {R : Bool → Prop} {S : Prop} (h : R b) : S ∨ ∃ k, [V.bl b] = [.bl k] ∧ R k := .inr ⟨b, rfl, h⟩
theorem w_isN {R : Prop} (h : R) : V.non = .non ∧ R := ⟨rfl, h⟩
theorem w_fld {v : V} {R : V → Prop} (hp : H p = some (.ins C dx fs)) (hc : Cls K C) (hn : NoAttr K C f) (hl : fs.lookup f = some v) (h : R v) : ∃ a C' dx' fs' v', V.ref p = .ref a ∧ H a = some (.ins C' dx' fs') ∧ Cls K C' ∧ NoAttr K C' f ∧ fs'.lookup f = some v' ∧ R v' := ⟨p, C, dx, fs, v, rfl, hp, hc, hn, hl, h⟩
theorem w_fl (h : ta σ H fun x H1 => ∃ a C dx fs v, x = .ref a ∧ H1 a = some (.ins C dx fs) ∧ Cls K C ∧ NoAttr K C f ∧ fs.lookup f = some v ∧ Q v H1) : tFld K ta f σ H Q := h
theorem w_for {wi : TI} {tu : TS} (h : wi σ H fun J H1 => ∃ W : Nat → Nat → L2.St → Hp → Prop, (∃ m, W 0 m σ H1) ∧ ∀ i m σ H, W i m σ H →
  (J.stop i H ∧ D.nx σ H) ∨ (J.go i H ∧ ∃ N : L2.St → Hp → Prop, (∀ σ' H', N σ' H' → ∃ m', m' < m ∧ W (i + 1) m' σ' H') ∧ ∀ x H', J.yld i H x H' → g x σ H' fun σ2 H2 => tu { D with nx := N, ct := N, bk := D.nx } σ2 H2)) : tFor wi g tu D σ H := h
theorem w_iL {R : It → Hp → Prop} (h : te σ H fun x H1 => ∃ a, x = .ref a ∧ (∃ xs, SqL K H1 a xs) ∧ R (Itl K a) H1) : iList K te σ H R := h
theorem w_iLq {R : Addr → Prop} (hs : SqL K H p xs) (h : R p) : ∃ a, V.ref p = .ref a ∧ (∃ xs, SqL K H a xs) ∧ R a := ⟨p, rfl, ⟨xs, hs⟩, h⟩
theorem w_iTu {R : It → Hp → Prop} (h : te σ H fun x H1 => ∃ a, x = .ref a ∧ (∃ xs, SqT K H1 a xs) ∧ R (Itt K a) H1) : iTup K te σ H R := h
theorem w_iTq {R : Addr → Prop} (hs : SqT K H p xs) (h : R p) : ∃ a, V.ref p = .ref a ∧ (∃ xs, SqT K H a xs) ∧ R a := ⟨p, rfl, ⟨xs, hs⟩, h⟩
theorem w_r1 {R : It → Hp → Prop} (h : tl σ H fun vs H1 => ∃ j : Int, vs = [.int j] ∧ -(2 ^ 62) ≤ j ∧ j < 2 ^ 62 ∧ R (Itr 0 j.toNat) H1) : iRng1 tl σ H R := h
theorem w_r1q {R : Int → Prop} (h1 : -(2 ^ 62) ≤ m) (h2 : m < 2 ^ 62) (h : R m) : ∃ j : Int, [V.int m] = [.int j] ∧ -(2 ^ 62) ≤ j ∧ j < 2 ^ 62 ∧ R j := ⟨m, rfl, h1, h2, h⟩
theorem w_r2 {R : It → Hp → Prop} (h : tl σ H fun vs H1 => ∃ i j : Int, vs = [.int i, .int j] ∧ (-(2 ^ 62) ≤ i ∧ i < 2 ^ 62 ∧ -(2 ^ 62) ≤ j ∧ j < 2 ^ 62) ∧ R (Itr i (j - i).toNat) H1) : iRng2 tl σ H R := h
theorem w_r2q {R : Int → Int → Prop} (h1 : -(2 ^ 62) ≤ m) (h2 : m < 2 ^ 62) (h3 : -(2 ^ 62) ≤ n) (h4 : n < 2 ^ 62) (h : R m n) : ∃ i j : Int, [V.int m, V.int n] = [.int i, .int j] ∧ (-(2 ^ 62) ≤ i ∧ i < 2 ^ 62 ∧ -(2 ^ 62) ≤ j ∧ j < 2 ^ 62) ∧ R i j := ⟨m, n, rfl, ⟨h1, h2, h3, h4⟩, h⟩
theorem w_len1 {R : Prop} (hl : Nat.ble xs.length 1000 = true) (h : R) : xs.length ≤ sizeLine ∧ R := ⟨szle hl, h⟩
end
theorem same_read {K : PySem.W.Frag} {H H' : Hp} {a : Addr} {xs : List V} (e : Same H H') (h : SqT K H a xs) : SqT K H' a xs := by
  rcases h with (h | ⟨o, h⟩) | h
  · exact .inl (.inl (e _ _ h))
  · exact .inl (.inr ⟨o, e _ _ h⟩)
  · exact .inr h
theorem w_iT {A B : Prop} (h : A) : if true = true then A else B := by rw [if_pos rfl]; exact h
theorem w_iF {A B : Prop} (h : B) : if false = true then A else B := by rw [if_neg Bool.false_ne_true]; exact h
theorem w_iNT {A B : Prop} (h : B) : if (!true) = true then A else B := by rw [Bool.not_true, if_neg Bool.false_ne_true]; exact h
theorem w_iNF {A B : Prop} (h : A) : if (!false) = true then A else B := by rw [Bool.not_false, if_pos rfl]; exact h
theorem w_iNN {A B : Prop} {b : Bool} (h : if b = true then A else B) : if (!!b) = true then A else B := by rw [Bool.not_not]; exact h

/-! ### data -/
mutual
theorem dpSame {K : PySem.W.Frag} {H H' : Hp} (e : Same H H') : ∀ (d : PyData) (v : V), Dp K H v d → Dp K H' v d
  | .none, _, h => by cases h; exact .non
  | .bool _, _, h => by cases h; exact .bl _
  | .int _, _, h => by cases h; exact .int _
  | .str _, _, h => by cases h; exact .str _
  | .list ds, _, h => by
    cases h with
    | lst hs ha => exact .lst (e.seq hs) (dpSameAll e ds _ ha)
  | .tuple ds, _, h => by
    cases h with
    | tup hs ha => exact .tup (same_read e hs) (dpSameAll e ds _ ha)
  | .dict _, _, h => by cases h
theorem dpSameAll {K : PySem.W.Frag} {H H' : Hp} (e : Same H H') : ∀ (ds : List PyData) (xs : List V), DpAll K H xs ds → DpAll K H' xs ds
  | [], _, h => by cases h; exact .nil
  | d :: ds, _, h => by
    cases h with
    | cons h1 h2 => exact .cons (dpSame e d _ h1) (dpSameAll e ds _ h2)
end
section
variable {K : PySem.W.Frag} {H H' : Hp} {xs ys : List V} {ds es : List PyData} {v : V} {d : PyData} {a : Addr}
theorem _root_.L2.Dp.same (e : Same H H') (h : Dp K H v d) : Dp K H' v d := dpSame e d v h
theorem _root_.L2.DpAll.same (e : Same H H') (h : DpAll K H xs ds) : DpAll K H' xs ds := dpSameAll e ds xs h
theorem dpaLen : ∀ {xs : List V} {ds : List PyData}, DpAll K H xs ds → xs.length = ds.length
  | _, _, .nil => rfl
  | _, _, .cons _ t => by rw [List.length_cons, List.length_cons, dpaLen t]
theorem dpaGet : ∀ {xs : List V} {ds : List PyData} {i : Nat} {d : PyData}, DpAll K H xs ds → ds[i]? = some d → ∃ v, xs[i]? = some v ∧ Dp K H v d
  | _, _, _, _, .nil, e => by simp at e
  | _, _, 0, _, .cons h _, e => by simp at e; subst e; exact ⟨_, rfl, h⟩
  | _, _, i + 1, _, .cons _ t, e => by
    obtain ⟨v, h1, h2⟩ := dpaGet (i := i) t (by simpa using e)
    exact ⟨v, by simpa using h1, h2⟩
theorem dpaApp : ∀ {xs ys : List V} {ds es : List PyData}, DpAll K H xs ds → DpAll K H ys es → DpAll K H (xs ++ ys) (ds ++ es)
  | _, _, _, _, .nil, h => h
  | _, _, _, _, .cons h t, s => .cons h (dpaApp t s)
theorem dpInts : ∀ ns : List Int, DpAll K H (ns.map V.int) (ns.map PyData.int)
  | [] => .nil
  | n :: r => .cons (.int n) (dpInts r)
theorem dpAll_ints : ∀ {ns : List Int} {xs : List V}, DpAll K H xs (ns.map PyData.int) → xs = ns.map V.int
  | [], _, h => by cases h; rfl
  | n :: r, _, h => by
    cases h with
    | cons h t => cases h; rw [dpAll_ints t]; rfl
theorem dpInt {i : Int} (h : Dp K H v (.int i)) : v = .int i := by cases h; rfl
theorem dpTup (h : Dp K H v (.tuple ds)) : ∃ a xs, v = .ref a ∧ SqT K H a xs ∧ DpAll K H xs ds := by cases h with | tup h1 h2 => exact ⟨_, _, rfl, h1, h2⟩
theorem dpLst (h : Dp K H v (.list ds)) : ∃ a xs, v = .ref a ∧ SqL K H a xs ∧ DpAll K H xs ds := by cases h with | lst h1 h2 => exact ⟨_, _, rfl, h1, h2⟩
theorem dpLstA (h : Dp K H (.ref a) (.list ds)) : ∃ xs, SqL K H a xs ∧ DpAll K H xs ds := by cases h with | lst h1 h2 => exact ⟨_, h1, h2⟩
theorem dpTupA (h : Dp K H (.ref a) (.tuple ds)) : ∃ xs, SqT K H a xs ∧ DpAll K H xs ds := by cases h with | tup h1 h2 => exact ⟨_, h1, h2⟩
end
/-- data that == serves: no dicts, no deeper than n -/
def Good (n : Nat) (d : PyData) : Prop := d.canLay0 = true ∧ d.depth ≤ n
theorem goodInt {n : Nat} {i : Int} : Good n (.int i) := ⟨rfl, Nat.zero_le _⟩
theorem goodBool {n : Nat} {b : Bool} : Good n (.bool b) := ⟨rfl, Nat.zero_le _⟩
theorem goodNone {n : Nat} : Good n .none := ⟨rfl, Nat.zero_le _⟩
theorem goodAll {n : Nat} : ∀ {ds : List PyData}, (∀ d ∈ ds, Good n d) → PyData.canLayAll0 ds = true ∧ PyData.depthAll ds ≤ n
  | [], _ => ⟨rfl, Nat.zero_le _⟩
  | d :: ds, h => by
    obtain ⟨h1, h2⟩ := h d List.mem_cons_self
    obtain ⟨h3, h4⟩ := goodAll fun e he => h e (List.mem_cons_of_mem _ he)
    exact ⟨by simp [PyData.canLayAll0, h1, h3], by simp only [PyData.depthAll]; omega⟩
theorem goodLst {n : Nat} {ds : List PyData} (h : ∀ d ∈ ds, Good n d) : Good (n + 1) (.list ds) := ⟨(goodAll h).1, Nat.succ_le_succ (goodAll h).2⟩
theorem goodTup {n : Nat} {ds : List PyData} (h : ∀ d ∈ ds, Good n d) : Good (n + 1) (.tuple ds) := ⟨(goodAll h).1, Nat.succ_le_succ (goodAll h).2⟩
theorem goodMap {α : Type} {n : Nat} {f : α → PyData} {xs : List α} (h : ∀ x, Good n (f x)) : ∀ d ∈ xs.map f, Good n d := by
  intro d hd
  obtain ⟨x, _, rfl⟩ := List.mem_map.mp hd
  exact h x
theorem Good.mono {n m : Nat} {d : PyData} (h : Good n d) (e : n ≤ m) : Good m d := ⟨h.1, Nat.le_trans h.2 e⟩
theorem Good.shaped {n : Nat} {d : PyData} (h : Good n d) (e : n ≤ 64) : SeqAt.shaped d = true := by
  unfold SeqAt.shaped
  rw [h.1, decide_eq_true (Nat.le_trans h.2 e)]
  rfl
theorem Good.eqv {n : Nat} {d : PyData} (h : Good n d) : PyData.eqv d d = true := SeqAt.eqv_refl d h.1
section
variable {K : PySem.W.Frag} {H : Hp} {x y : V} {d : PyData} {Q : VK} {n : Nat}
/-- two things of the same data are equal -/
theorem w_eqD (h1 : Dp K H x d) (h2 : Dp K H y d) (g : Good n d) (hn : n ≤ 64) (h : Q (.bl true) H) : rEqD K x y H Q := ⟨d, d, h1, h2, g.shaped hn, g.shaped hn, by rw [g.eqv]; exact h⟩
theorem w_neD (h1 : Dp K H x d) (h2 : Dp K H y d) (g : Good n d) (hn : n ≤ 64) (h : Q (.bl false) H) : rNeD K x y H Q := ⟨d, d, h1, h2, g.shaped hn, g.shaped hn, by rw [g.eqv]; exact h⟩
end
/-! ### xs[i] op= e -/
def rGetL (K : PySem.W.Frag) : V → V → Hp → VK → Prop := fun x y H Q => ∃ (p : Addr) (xs : List V) (j : Nat) (v : V), x = .ref p ∧ y = .int j ∧ SqL K H p xs ∧ xs[j]? = some v ∧ Q v H
theorem get_list {X : Cx} : PGet X (rGetL X.K) := by
  intro pins s σ H o i ov iv Q I ro ri h
  obtain ⟨p, xs, j, v, rfl, rfl, hq, he, q⟩ := h
  cases ro
  obtain ⟨t, rfl⟩ := ri
  obtain ⟨its, r, pl, hz⟩ := I.list hq
  obtain ⟨u, eu, ru⟩ := r.get he
  have hj : j < xs.length := (List.getElem?_eq_some_iff.mp he).1
  have hn := line63
  exact wpAny_getItem_list pl.isList (Int.natCast_nonneg j) (by omega) (by simpa using eu) ⟨v, H, I, ru, q⟩
theorem ps_augL {X : Cx} {o i e : Expr} {to ti te : TE} {tip : TIp} {op : Operator} {tpos pos : Pos} (ho : PE X o to) (hi : PE X i ti) (he : PE X e te) (hp : PIp X op tip)
    (ha : ∀ ov iv new, augStore i ov iv new = (do holding [new, ov, iv] (setItem ov iv new); release [new, ov, iv] []; pure .next) := by intros; rfl) : PS X (.AugAssign (.Subscript o i tpos) op e pos) (tAugS to ti te (rGetL X.K) tip rSetL) :=
  ps_augS ho hi get_list he hp set_list ha
section
variable {σ : L2.St} {H : Hp} {Q : VK} {D : Ends} {K : PySem.W.Frag} {p : Addr} {xs : List V} {v : V} {j : Nat}
theorem w_augS {to ti te : TE} {tget : V → V → Hp → VK → Prop} {tip : TIp} {tset : TSet} (h : to σ H fun o H1 => ti σ H1 fun i H2 => tget o i H2 fun x H3 => te σ H3 fun y H4 => tip x y H4 fun z H5 => tset o i z H5 fun H6 => D.nx σ H6) : tAugS to ti te tget tip tset D σ H := h
theorem w_getL (hs : SqL K H p xs) (he : xs[j]? = some v) (h : Q v H) : rGetL K (.ref p) (.int (j : Int)) H Q := ⟨p, xs, j, v, rfl, rfl, hs, he, h⟩
theorem ixN_nat {n j : Nat} (h : j < n) : ixN n (j : Int) = some j := by
  unfold ixN
  rw [if_pos (Int.natCast_nonneg j), if_pos (by omega)]
  simp
end
/-! ### range from nought -/
theorem for_r0 {m : Int} {n : Nat} {g : TG} {tb : TS} {D : Ends} {σ : L2.St} {H : Hp} (hm : m = n) (Pv : Nat → L2.St → Hp → Prop) (h0 : Pv 0 σ H)
    (hs : ∀ i σ H, i < n → Pv i σ H → g (.int (i : Nat)) σ H fun σ2 H2 => tb { D with nx := Pv (i + 1), ct := Pv (i + 1), bk := D.nx } σ2 H2) (hd : ∀ σ H, Pv n σ H → D.nx σ H) :
    ∃ W : Nat → Nat → L2.St → Hp → Prop, (∃ m, W 0 m σ H) ∧ ∀ i k σ H, W i k σ H →
      ((Itr 0 m.toNat).stop i H ∧ D.nx σ H) ∨ ((Itr 0 m.toNat).go i H ∧ ∃ N : L2.St → Hp → Prop, (∀ σ' H', N σ' H' → ∃ m', m' < k ∧ W (i + 1) m' σ' H') ∧ ∀ x H', (Itr 0 m.toNat).yld i H x H' → g x σ H' fun σ2 H2 => tb { D with nx := N, ct := N, bk := D.nx } σ2 H2) := by
  subst hm
  rw [Int.toNat_natCast]
  exact for_range (lo := 0) Pv h0 (fun i σ H hi hp => by rw [Int.zero_add]; exact hs i σ H hi hp) hd
/-! ### bits of numbers from nought on -/
theorem shr_nat (m k : Nat) : (m : Int) / 2 ^ (Int.toNat (k : Int)) = ((m >>> k : Nat) : Int) := by
  rw [Int.toNat_natCast, Nat.shiftRight_eq_div_pow]
  simp
theorem shl_nat (m k : Nat) : (m : Int) * 2 ^ (Int.toNat (k : Int)) = ((m <<< k : Nat) : Int) := by
  rw [Int.toNat_natCast, Nat.shiftLeft_eq]
  simp
theorem shl_one (k : Nat) : (1 : Int) * 2 ^ (Int.toNat (k : Int)) = ((2 ^ k : Nat) : Int) := by
  rw [Int.toNat_natCast, Int.one_mul]
  simp
theorem xor_nat (m n : Nat) : Builtin.bitXor (m : Int) (n : Int) = ((m ^^^ n : Nat) : Int) := by
  have h := Bits.bitXor_pp (x := (m : Int)) (y := (n : Int)) (Int.natCast_nonneg m) (Int.natCast_nonneg n)
  rw [Int.toNat_natCast, Int.toNat_natCast] at h
  exact h
theorem or_nat (m n : Nat) : Builtin.bitOr (m : Int) (n : Int) = ((m ||| n : Nat) : Int) := by
  have h := Bits.bitOr_pp (x := (m : Int)) (y := (n : Int)) (Int.natCast_nonneg m) (Int.natCast_nonneg n)
  rw [Int.toNat_natCast, Int.toNat_natCast] at h
  exact h
theorem and_one (m : Int) (h : 0 ≤ m) : Builtin.bitAnd m 1 = m % 2 := by
  have e := Bits.bitAnd_mask (x := m) 1 h
  simpa using e
theorem bit_nat (m k : Nat) : Builtin.bitAnd ((m : Int) / 2 ^ (Int.toNat (k : Int))) 1 = (((m.testBit k).toNat : Nat) : Int) := by
  rw [shr_nat, and_one _ (Int.natCast_nonneg _), Nat.testBit_eq_decide_div_mod_eq, Nat.shiftRight_eq_div_pow]
  have h : m / 2 ^ k % 2 < 2 := Nat.mod_lt _ (by decide)
  generalize m / 2 ^ k = z at h
  have e : z % 2 = 0 ∨ z % 2 = 1 := by omega
  rcases e with e | e
  · rw [e]; simp; omega
  · rw [e]; simp; omega
theorem bit_dec (m k : Nat) : decide (Builtin.bitAnd ((m : Int) / 2 ^ (Int.toNat (k : Int))) 1 = 1) = m.testBit k := by
  rw [bit_nat]
  cases m.testBit k <;> simp
/-! ### tables by number -/
theorem map_set {α : Type} {f : Nat → α} {m j : Nat} {y : α} : ((List.range m).map f).set j y = (List.range m).map fun r => if r = j then y else f r := by
  apply List.ext_getElem
  · simp
  · intro i h1 h2
    simp only [List.length_set, List.length_map, List.length_range] at h1
    simp only [List.getElem_set, List.getElem_map, List.getElem_range]
    by_cases e : j = i
    · subst e; simp
    · rw [if_neg e, if_neg (Ne.symm e)]
theorem map_at {α : Type} {f : Nat → α} {m j : Nat} (h : j < m) : ((List.range m).map f)[j]? = some (f j) := by
  rw [List.getElem?_map, List.getElem?_range h]
  rfl
theorem map_len {α : Type} {f : Nat → α} {m : Nat} : ((List.range m).map f).length = m := by simp
theorem map_setI {f : Nat → Int} {m j : Nat} {y : Int} : ((List.range m).map fun r => V.int (f r)).set j (V.int y) = (List.range m).map fun r => V.int (if r = j then y else f r) := by
  rw [map_set]
  congr 1
  funext r
  split <;> rfl
/-! ### comprehensions, slices -/
section
variable {σ σ' : L2.St} {H : Hp} {Q : VK} {QT : Bool → Hp → Prop}
theorem w_lc {wi : TI} {g : TG} {tt : TT} {te : TE} {vs : List Nat} (h : wi σ H fun J H1 => ∀ D, New H1 D → ∃ W : Nat → Nat → Hp → Prop, (∃ m, W 0 m (upd H1 D (.lst []))) ∧ ∀ i m H, W i m H →
  (J.stop i H ∧ Q (.ref D) H) ∨ (J.go i H ∧ ∃ Nx : Hp → Prop, (∀ H', Nx H' → ∃ m', m' < m ∧ W (i + 1) m' H') ∧ ∀ x H', J.yld i H x H' → g x (wipe σ vs) H' fun σ2 H2 => wipe σ2 vs = wipe σ vs ∧ tt σ2 H2 fun b H3 =>
    if b = true then te σ2 H3 fun y H4 => ∃ acc, H4 D = some (.lst acc) ∧ acc.length < sizeLine ∧ Nx (upd H4 D (.lst (acc ++ [y]))) else Nx H3)) : tLc wi g tt te vs σ H Q := h
theorem w_wipe {vs : List Nat} {R : Prop} (e : wipe σ vs = wipe σ' vs) (h : R) : wipe σ vs = wipe σ' vs ∧ R := ⟨e, h⟩
theorem w_yes (h : QT true H) : tYes σ H QT := h
theorem cutV_nat (xs : List V) (a b : Nat) : cutV xs (some (a : Int)) (some (b : Int)) = (xs.drop a).take (b - a) := by
  unfold cutV
  rw [HT.sIx_nat, HT.sIx_nat]
  apply List.ext_getElem?
  intro i
  simp only [List.getElem?_take, List.getElem?_drop]
  by_cases ha : a ≤ xs.length
  · rw [Nat.min_eq_left ha]
    by_cases h : i < b - a
    · by_cases h2 : i < min b xs.length - a
      · rw [if_pos h, if_pos h2]
      · rw [if_pos h, if_neg h2, List.getElem?_eq_none (by omega)]
    · rw [if_neg h, if_neg (by omega)]
  · rw [if_neg (by omega)]
    split
    · rw [List.getElem?_eq_none (by omega)]
    · rfl
theorem cutV_from (xs : List V) (a : Nat) : cutV xs (some (a : Int)) none = xs.drop a := by
  unfold cutV
  rw [HT.sIx_nat, HT.sIx_none]
  by_cases h : a ≤ xs.length
  · rw [Nat.min_eq_left h]
    exact List.take_of_length_le (by simp)
  · rw [Nat.min_eq_right (by omega), List.drop_of_length_le (Nat.le_refl _), List.drop_of_length_le (by omega), List.take_nil]
theorem cutV_to (xs : List V) (b : Nat) : cutV xs none (some (b : Int)) = xs.take b := by
  unfold cutV
  rw [HT.sIx_nat, HT.sIx_none, List.drop_zero, Nat.sub_zero]
  by_cases h : b ≤ xs.length
  · rw [Nat.min_eq_left h]
  · rw [Nat.min_eq_right (by omega), List.take_of_length_le (Nat.le_refl _), List.take_of_length_le (by omega)]
end
theorem w_list {K : PySem.W.Frag} {H : Hp} {p : Addr} {xs : List V} {R : List V → Prop} (hs : SqL K H p xs) (h : R xs) : ∃ p' ys, [V.ref p] = [.ref p'] ∧ (SqL K H p' ys ∨ SqT K H p' ys) ∧ R ys := ⟨p, xs, rfl, .inl hs, h⟩
/-! ### a heap without one place -/
def wo (H : Hp) (D : Addr) : Hp := fun b => if b = D then none else H b
section
variable {K : PySem.W.Frag} {H H' H2 : Hp} {D p : Addr} {o : HO} {xs : List V} {ds : List PyData} {v : V} {d : PyData}
theorem wo_same : Same (wo H D) H := fun b o h => by
  unfold wo at h
  split at h
  · cases h
  · exact h
theorem wo_new : New (wo H D) D := if_pos rfl
theorem wo_get (h : H p = some o) (n : p ≠ D) : wo H D p = some o := (if_neg n).trans h
theorem wo_eq : wo (upd H D o) D = wo H D := by
  funext b
  unfold wo
  split
  · rfl
  · rw [upd_ne (by assumption)]
theorem wo_mono (e : Same H H') : Same (wo H D) (wo H' D) := fun b o h => by
  unfold wo at h ⊢
  split at h
  · cases h
  · rw [if_neg (by assumption)]; exact e b o h
theorem same_wo (e : Same H H') (n : New H D) : Same H (wo H' D) := fun b o h => wo_get (e b o h) (ne_new h n)
theorem dpaPush (h : DpAll K (wo H D) xs ds) (e : Same H H2) (hv : Dp K (wo H2 D) v d) : DpAll K (wo (upd H2 D o) D) (xs ++ [v]) (ds ++ [d]) := by
  rw [wo_eq]
  exact dpaApp (h.same (wo_mono e)) (.cons hv .nil)
theorem dpaPushI (h : DpAll K (wo H D) xs ds) {i : Int} : DpAll K (wo (upd H D o) D) (xs ++ [.int i]) (ds ++ [.int i]) := dpaPush h (Same.refl _) (.int i)
end
/-! ### while -/
theorem w_wt {W : Nat → L2.St → Hp → Prop} {tb : TS} {D : Ends} {σ : L2.St} {H : Hp} {m : Nat} (h : tb { D with nx := fun σ' H' => ∃ m', m' < m ∧ W m' σ' H', ct := fun σ' H' => ∃ m', m' < m ∧ W m' σ' H', bk := D.nx } σ H) :
    ∃ N : L2.St → Hp → Prop, (∀ σ' H', N σ' H' → ∃ m', m' < m ∧ W m' σ' H') ∧ tb { D with nx := N, ct := N, bk := D.nx } σ H := ⟨_, fun _ _ h => h, h⟩
theorem and_nat (m n : Nat) : Builtin.bitAnd (m : Int) (n : Int) = ((m &&& n : Nat) : Int) := rfl
/-! ### two ways to read -/
theorem _root_.L2.PE.or {X : Cx} {e : Expr} {t t' : TE} (h : PE X e t) (h' : PE X e t') : PE X e (fun σ H Q => t σ H Q ∨ t' σ H Q) := ⟨fun pins s σ H Q I q => by
  rcases q with q | q
  · exact h.run pins s σ H Q I q
  · exact h'.run pins s σ H Q I q⟩
/-- the same, for an item of a comprehension -/
def tOrE (t t' : TE) : TE := fun σ H Q => t σ H Q ∨ t' σ H Q
theorem _root_.L2.PE.orD {X : Cx} {e : Expr} {t t' : TE} (h : PE X e t) (h' : PE X e t') : PE X e (tOrE t t') := PE.or h h'
theorem w_orE {t t' : TE} {σ : L2.St} {H : Hp} {Q : VK} (h : t σ H Q ∨ t' σ H Q) : tOrE t t' σ H Q := h
/-! ### classes by name -/
structure HasMk (P : Program) (w : World) (K : PySem.W.Frag) (mg : Str → Option Value) (base : Heap) (CX : CXT) (k : Nat) (x : Str) (C : Addr) (ps : List Str) (sp : Sp) : Prop where
  ex : ∃ f fd, FnOk P w K mg base CX k f fd ps sp ∧ Mk K C f ∧ mg x = some (.ref C) ∧ Binds K fd ps []
structure HasMeth (P : Program) (w : World) (K : PySem.W.Frag) (mg : Str → Option Value) (base : Heap) (CX : CXT) (k : Nat) (C : Addr) (m : Str) (ps : List Str) (sp : Sp) : Prop where
  ex : ∃ f fd, FnOk P w K mg base CX k f fd ps sp ∧ Cls K C ∧ Meth K C m f ∧ Binds K fd ps []
/-- a method's body, proved once for whatever class holds it -/
structure HasFn (P : Program) (w : World) (K : PySem.W.Frag) (mg : Str → Option Value) (base : Heap) (CX : CXT) (k : Nat) (f : Addr) (ps : List Str) (sp : Sp) : Prop where
  ex : ∃ fd, FnOk P w K mg base CX k f fd ps sp ∧ Binds K fd ps []
section
variable {P : Program} {w : World} {K : PySem.W.Frag} {mg : Str → Option Value} {base : Heap} {x qual : Str} {ps N : List Str} {sp : Sp} {k : Nat}
theorem HasFn.mk' {st : Stmt} {f : Addr} {fd : FuncData} (F : Fun K x qual st f fd) (b : Binds K fd ps []) (S : FnScope N ps (defScope st)) (len : ∀ vs H Q E, sp vs H Q E → vs.length = ps.length)
    (hbody : ∀ (cdv : Value) (A : Around) (outer : List Env) (s : Shared) (H : Hp) (vs : List V) (Q : VK) (E : XK), Room k (A.deeper (envOfC qual (defScope st) s.heap.objs.size f cdv)) → sp vs H Q E →
      ∃ t, PSs (cxOf CX0 P w K mg base N qual (defScope st) f cdv A outer s H E).nox (defBody st) t ∧ t { nx := fun _ H' => Q .non H', rt := Q } (start N vs) H) : HasFn P w K mg base CX0 (k + 1) f ps sp :=
  ⟨fd, F.ok S len hbody, b⟩
theorem HasFn.mkOf {CX : CXT} {f C : Addr} (h : HasFn P w K mg base CX k f ps sp) (M : Mk K C f) (g : mg x = some (.ref C)) : HasMk P w K mg base CX k x C ps sp := by
  obtain ⟨fd, F, b⟩ := h.ex
  exact ⟨f, fd, F, M, g, b⟩
theorem HasFn.meth {CX : CXT} {f C : Addr} {m : Str} (h : HasFn P w K mg base CX k f ps sp) (c : Cls K C) (M : Meth K C m f) : HasMeth P w K mg base CX k C m ps sp := by
  obtain ⟨fd, F, b⟩ := h.ex
  exact ⟨f, fd, F, c, M, b⟩
end
section
variable {X : Cx} {k : Nat} {ps : List Str} {sp : Sp} {x m : Str} {p pos apos : Pos} {e o : Expr} {es : List Expr} {t : TA} {ta : TE} {C : Addr}
theorem pe_mk (h : HasMk X.prog X.w X.K X.mg X.base CX0 k x C ps sp) (hr : Room (k + 1) X.A) (hg : Gl X x) (ha : PA X (e :: es) t) (hdb : (x == ("__debug__" : Str)) = false := by decide) (he : starEach (e :: es) X.env = (false, eval e X.env) :: starEach es X.env := by rfl) (hpl : (backTo pos (starEach es X.env)).any (·.1) = false := by rfl) :
    PE X (.Call (.Name x p) (e :: es) [] pos) (tMake C sp [] E0 t) := by
  obtain ⟨f, fd, F, M, g, b⟩ := h.ex
  exact pe_make M F hr hg g b .nil pass0 ha hdb he hpl
theorem pe_mt {pl : Sem Bool} (h : HasMeth X.prog X.w X.K X.mg X.base CX0 k C m ps sp) (he : PE X o ta) (hr : Room k X.A) (ha : PA X (e :: es) t)
    (hst : starEach (e :: es) X.env = (false, eval e X.env) :: starEach es X.env := by rfl) (hpl : (backTo pos (starEach es X.env)).any (·.1) = false := by rfl)
    (ht : eval (.Call (.Attribute o m apos) (e :: es) [] pos) X.env = (do
      let v ← eval o X.env
      standAt apos.atName
      let (f, first) ← holding [v] (getMethod v m pl)
      callWith pos f first (backTo pos (starEach (e :: es) X.env)) (backToKw pos (keywordEach [] X.env))) := by rfl) :
    PE X (.Call (.Attribute o m apos) (e :: es) [] pos) (tMeth C m sp [] E0 ta t) := by
  obtain ⟨f, fd, F, c, M, b⟩ := h.ex
  exact pe_meth he c M F hr b .nil pass0 ha hst hpl ht
theorem pe_mt0 {pl : Sem Bool} (h : HasMeth X.prog X.w X.K X.mg X.base CX0 k C m ps sp) (he : PE X o ta) (hr : Room k X.A)
    (ht : eval (.Call (.Attribute o m apos) [] [] pos) X.env = (do
      let v ← eval o X.env
      standAt apos.atName
      let (f, first) ← holding [v] (getMethod v m pl)
      callWith pos f first (backTo pos (starEach [] X.env)) (backToKw pos (keywordEach [] X.env))) := by rfl) :
    PE X (.Call (.Attribute o m apos) [] [] pos) (tMeth C m sp [] E0 ta tNil) := by
  obtain ⟨f, fd, F, c, M, b⟩ := h.ex
  exact pe_meth0 he c M F hr b .nil pass0 ht
end
section
variable {σ : L2.St} {H : Hp} {Q : VK} {D : Ends} {K : PySem.W.Frag} {ta tv : TE} {tl : TA} {sp : Sp} {E : XK} {C p dx : Addr} {fs : List (Str × V)} {f m : Str} {v : V}
theorem w_make (h : tl σ H fun vs H1 => ∀ x dx, New H1 x → New H1 dx → dx ≠ x → sp (.ref x :: vs) (upd (upd H1 dx (.own x)) x (.ins C dx [])) (fun v H2 => v = .non ∧ Q (.ref x) H2) E) : tMake C sp [] E tl σ H Q := by
  unfold tMake
  simp only [List.append_nil]
  exact h
theorem w_meth (h : ta σ H fun x H1 => ∃ a dx fs, x = .ref a ∧ H1 a = some (.ins C dx fs) ∧ fs.lookup m = none ∧ tl σ H1 fun vs H2 => sp (x :: vs) H2 Q E) : tMeth C m sp [] E ta tl σ H Q := by
  unfold tMeth
  simp only [List.append_nil]
  exact h
theorem w_methq {R : Prop} (hp : H p = some (.ins C dx fs)) (hl : fs.lookup m = none) (h : R) : ∃ a dx fs, V.ref p = .ref a ∧ H a = some (.ins C dx fs) ∧ fs.lookup m = none ∧ R := ⟨p, dx, fs, rfl, hp, hl, h⟩
theorem w_sf (h : tv σ H fun y H1 => ta σ H1 fun x H2 => ∃ a C dx fs, x = .ref a ∧ H2 a = some (.ins C dx fs) ∧ Cls K C ∧ NoAttr K C f ∧ fs.length < 1000 ∧ D.nx σ (upd H2 a (.ins C dx (putF f y fs)))) : sFld K ta tv f D σ H := h
theorem w_sfq {R : Addr → Addr → Addr → List (Str × V) → Prop} (hp : H p = some (.ins C dx fs)) (hc : Cls K C) (hn : NoAttr K C f) (hl : fs.length < 1000) (h : R p C dx fs) : ∃ a C' dx' fs', V.ref p = .ref a ∧ H a = some (.ins C' dx' fs') ∧ Cls K C' ∧ NoAttr K C' f ∧ fs'.length < 1000 ∧ R a C' dx' fs' := ⟨p, C, dx, fs, rfl, hp, hc, hn, hl, h⟩
end
/-! ### isinstance of an object -/
structure IsoK (K : PySem.W.Frag) (C : Addr) : Prop where
  cl : Cls K C
  oc : PySem.W.findIn K (.ref C) "__class__" = some (some (.builtin "object.__class__"))
  og : PySem.W.specialIn K (.builtin "object.__class__") "__get__" = some (some (.builtin "getset_descriptor.__get__"))
  ot : PySem.W.takesIn K (.builtin "object.__class__") = some true
  om : PySem.W.mroIn K C (.type "object") = some true
theorem w_iso {K : PySem.W.Frag} {H : Hp} {Q : VK} {p C D dx : Addr} {fs : List (Str × V)} {b : Bool} (hp : H p = some (.ins C dx fs)) (I : IsoK K C) (hk : PySem.W.kitOne K (.ref C) (.ref D) = some b) (h : Q (.bl b) H) : rIsi K [.ref p, .ref D] H Q :=
  ⟨_, _, _, _, b, rfl, .own D, .base (.ins hp I.cl I.oc I.og I.ot I.om), hk, h⟩
theorem w_isoN {K : PySem.W.Frag} {H : Hp} {Q : VK} {D : Addr} {b : Bool} (hk : PySem.W.kitOne K (.type "NoneType") (.ref D) = some b) (h : Q (.bl b) H) : rIsi K [.non, .ref D] H Q :=
  ⟨_, _, _, _, b, rfl, .own D, .base .non, hk, h⟩
theorem kit_own {K : PySem.W.Frag} {C D : Addr} {b : Bool} (h1 : PySem.W.isClsIn K D = true) (h2 : PySem.W.typeIn K (.ref D) = some (.type "type")) (h3 : PySem.W.subIn K (.ref C) (.ref D) = some b) (h4 : PySem.W.subIn K (.ref C) (.ref C) = some true) : PySem.W.kitOne K (.ref C) (.ref D) = some b := by
  unfold PySem.W.kitOne
  by_cases e : C = D
  · subst e
    rw [h4] at h3
    cases h3
    rw [if_pos (by simp)]
  · have hn : ¬ ((Value.ref C == Value.ref D) = true) := by
      intro z
      rw [beq_iff_eq] at z
      cases z
      exact e rfl
    rw [if_neg hn]
    unfold PySem.W.kitCls
    have h5 : (PySem.W.clsIn K D).isSome = true := h1
    show (if ((PySem.W.clsIn K D).isSome && PySem.W.typeIn K (.ref D) == some (.type "type")) = true then PySem.W.subIn K (.ref C) (.ref D) else none) = some b
    rw [h5, h2, if_pos (by simp)]
    exact h3
/-! ### range by steps -/
theorem w_r3 {σ : L2.St} {H : Hp} {ta : TA} {R : It → Hp → Prop} (h : ta σ H fun vs H1 => ∃ (i j c : Int) (n : Nat), vs = [.int i, .int j, .int c] ∧ RgC i j c n ∧ R (Itc i c n) H1) : iRng3 ta σ H R := h
theorem w_r3q {i j c : Int} {n : Nat} {R : Int → Int → Nat → Prop} (hc : RgC i j c n) (h : R i c n) : ∃ (i' j' c' : Int) (n' : Nat), [V.int i, V.int j, V.int c] = [.int i', .int j', .int c'] ∧ RgC i' j' c' n' ∧ R i' c' n' := ⟨i, j, c, n, rfl, hc, h⟩
/-! ### ways joined behind a statement -/
def tCutX (t u : TS) : TS := fun D σ H => ∃ M : L2.St → Hp → Prop, t { D with nx := M } σ H ∧ ∀ σ' H', M σ' H' → u D σ' H'
theorem pss_cutX {X : Cx} {st : Stmt} {more : List Stmt} {t u : TS} (h1 : PS X st t) (h2 : PSs X more u) : PSs X (st :: more) (tCutX t u) := ⟨fun pins s σ H D I h => by
  obtain ⟨M, hm, hu⟩ := h
  refine wpAny_execs_cons (thn (h1.run pins s σ H { D with nx := M } I hm) fun f s1 q => ?_)
  cases f with
  | next => obtain ⟨σ1, H1, I1, q1⟩ := q; exact h2.run pins s1 σ1 H1 D I1 (hu σ1 H1 q1)
  | ret v => exact q
  | brk => exact q
  | cont => exact q⟩
theorem w_cut {t u : TS} {D : Ends} {σ : L2.St} {H : Hp} (M : L2.St → Hp → Prop) (h : t { D with nx := M } σ H) (k : ∀ σ' H', M σ' H' → u D σ' H') : tCutX t u D σ H := ⟨M, h, k⟩
/-! ### dicts with number keys; heaps that grow -/
theorem _root_.L2.Same.add {G H : Hp} {q : Addr} {o : HO} (e : Same G H) (h : H q = some o) : Same (upd G q o) H := fun b u hb => by
  by_cases e2 : b = q
  · subst e2
    rw [upd_same] at hb
    rw [h]
    exact hb
  · rw [upd_ne e2] at hb
    exact e b u hb
theorem New.upd {G : Hp} {p q : Addr} {o : HO} (n : New G p) (h : p ≠ q) : New (upd G q o) p := (upd_ne h).trans n
theorem putK_len {kvs : List (Key × V)} {k : Key} {v : V} : (putK kvs k v).length ≤ kvs.length + 1 := by
  unfold putK
  split <;> simp
theorem w_put {σ : L2.St} {H : Hp} {D : Ends} {td ty tv : TE} (h : tv σ H fun v H1 => td σ H1 fun x H2 => ty σ H2 fun y H3 => ∃ a H4, x = .ref a ∧ DPut H3 a y v H4 ∧ D.nx σ H4) : sDPut td ty tv D σ H := h
theorem w_putI {H : Hp} {a : Addr} {kvs : List (Key × V)} {i : Int} {v : V} {R : Hp → Prop} (e : H a = some (.dK kvs)) (hl : kvs.length < sizeLine) (h : R (upd H a (.dK (putK kvs (.inl i) v)))) : ∃ a' H4, V.ref a = .ref a' ∧ DPut H a' (.int i) v H4 ∧ R H4 := ⟨a, _, rfl, DPut.k (k := .inl i) e hl, h⟩
theorem w_getI {H : Hp} {a : Addr} {kvs : List (Key × V)} {i : Int} {v : V} {R : V → Prop} (e : H a = some (.dK kvs)) (hv : valV kvs (.inl i) = some v) (h : R v) : ∃ a' v', V.ref a = .ref a' ∧ DGet H a' (.int i) (some v') ∧ R v' := ⟨a, v, rfl, by rw [← hv]; exact DGet.k (k := .inl i) e, h⟩
theorem w_inI {H : Hp} {a : Addr} {kvs : List (Key × V)} {i : Int} {R : Option V → Prop} (e : H a = some (.dK kvs)) (h : R (valV kvs (.inl i))) : ∃ a' o, V.ref a = .ref a' ∧ DGet H a' (.int i) o ∧ R o := ⟨a, _, rfl, DGet.k (k := .inl i) e, h⟩
theorem w_din {σ : L2.St} {H : Hp} {Q : VK} {td ty : TE} (h : ty σ H fun y H1 => td σ H1 fun x H2 => ∃ a o, x = .ref a ∧ DGet H2 a y o ∧ Q (.bl o.isSome) H2) : tDIn ty td σ H Q := h
theorem w_dni {σ : L2.St} {H : Hp} {Q : VK} {td ty : TE} (h : ty σ H fun y H1 => td σ H1 fun x H2 => ∃ a o, x = .ref a ∧ DGet H2 a y o ∧ Q (.bl (!o.isSome)) H2) : tDNotIn ty td σ H Q := h
theorem w_dg {σ : L2.St} {H : Hp} {Q : VK} {td ty : TE} (h : td σ H fun x H1 => ty σ H1 fun y H2 => ∃ a v, x = .ref a ∧ DGet H2 a y (some v) ∧ Q v H2) : tDGet td ty σ H Q := h
theorem w_dn {σ : L2.St} {H : Hp} {Q : VK} (h : ∀ p, New H p → Q (.ref p) (upd H p (.dK []))) : tDNewK σ H Q := h
/-- a dict with number keys: what it holds -/
def Holds (kvs : List (Key × V)) (S : List Nat) (g : Nat → V) : Prop := kvs.length ≤ S.length ∧ ∀ d : Nat, valV kvs (.inl (d : Int)) = if d ∈ S then some (g d) else none
theorem Holds.nil {g : Nat → V} : Holds [] [] g := ⟨Nat.le_refl _, fun d => by simp [valV]⟩
theorem Holds.put {kvs : List (Key × V)} {S : List Nat} {g : Nat → V} (h : Holds kvs S g) (x : Nat) : Holds (putK kvs (.inl (x : Int)) (g x)) (S ++ [x]) g := by
  refine ⟨by have := putK_len (kvs := kvs) (k := .inl (x : Int)) (v := g x); have := h.1; simp; omega, fun d => ?_⟩
  rw [valV_put, h.2]
  by_cases e : d = x
  · subst e; simp
  · have : ¬ ((.inl (d : Int) : Key) = .inl (x : Int)) := fun z => e (by have := Sum.inl.inj z; omega)
    rw [if_neg this]
    simp [e]
theorem lc_r0 {m : Int} {n : Nat} {g : TG} {tt : TT} {te : TE} {vs : List Nat} {σ : L2.St} {H1 : Hp} {D : Addr} {Qd : Hp → Prop} (hm : m = n) (Pv : Nat → Hp → Prop) (h0 : Pv 0 (upd H1 D (.lst [])))
    (hs : ∀ i H, i < n → Pv i H → g (.int (i : Nat)) (wipe σ vs) H fun σ2 H2 => wipe σ2 vs = wipe σ vs ∧ tt σ2 H2 fun b H3 =>
      if b = true then te σ2 H3 fun y H4 => ∃ acc, H4 D = some (.lst acc) ∧ acc.length < sizeLine ∧ Pv (i + 1) (upd H4 D (.lst (acc ++ [y]))) else Pv (i + 1) H3) (hd : ∀ H, Pv n H → Qd H) :
    ∃ W : Nat → Nat → Hp → Prop, (∃ m, W 0 m (upd H1 D (.lst []))) ∧ ∀ i k H, W i k H →
      ((Itr 0 m.toNat).stop i H ∧ Qd H) ∨ ((Itr 0 m.toNat).go i H ∧ ∃ Nx : Hp → Prop, (∀ H', Nx H' → ∃ m', m' < k ∧ W (i + 1) m' H') ∧ ∀ x H', (Itr 0 m.toNat).yld i H x H' → g x (wipe σ vs) H' fun σ2 H2 => wipe σ2 vs = wipe σ vs ∧ tt σ2 H2 fun b H3 =>
        if b = true then te σ2 H3 fun y H4 => ∃ acc, H4 D = some (.lst acc) ∧ acc.length < sizeLine ∧ Nx (upd H4 D (.lst (acc ++ [y]))) else Nx H3) := by
  subst hm
  rw [Int.toNat_natCast]
  exact lc_range (lo := 0) Pv h0 (fun i H hi hp => by rw [Int.zero_add]; exact hs i H hi hp) hd
theorem w_acc {H : Hp} {D : Addr} {acc : List V} {R : List V → Prop} (h1 : H D = some (.lst acc)) (h2 : acc.length < sizeLine) (h : R acc) : ∃ acc', H D = some (.lst acc') ∧ acc'.length < sizeLine ∧ R acc' := ⟨acc, h1, h2, h⟩
/-! ### enumerate -/
theorem for_enumX {K : PySem.W.Frag} {a : Addr} {xs : List V} {g : TG} {tb : TS} {D : Ends} {σ : L2.St} {H : Hp} (Pv : Nat → L2.St → Hp → Prop) (h0 : Pv 0 σ H) (hl : ∀ i σ H, i ≤ xs.length → Pv i σ H → SqL K H a xs)
    (hs : ∀ i x σ H p, xs[i]? = some x → Pv i σ H → New H p → g (.ref p) σ (upd H p (.tup [.int (i : Nat), x])) fun σ2 H2 => tb { D with nx := Pv (i + 1), ct := Pv (i + 1), bk := D.nx } σ2 H2) (hd : ∀ σ H, Pv xs.length σ H → D.nx σ H) :
    ∃ W : Nat → Nat → L2.St → Hp → Prop, (∃ m, W 0 m σ H) ∧ ∀ i m σ H, W i m σ H →
      ((Ite K a).stop i H ∧ D.nx σ H) ∨ ((Ite K a).go i H ∧ ∃ N : L2.St → Hp → Prop, (∀ σ' H', N σ' H' → ∃ m', m' < m ∧ W (i + 1) m' σ' H') ∧ ∀ x H', (Ite K a).yld i H x H' → g x σ H' fun σ2 H2 => tb { D with nx := N, ct := N, bk := D.nx } σ2 H2) := by
  refine ⟨fun i m σ H => i + m = xs.length ∧ Pv i σ H, ⟨xs.length, by omega, h0⟩, fun i m σ H hW => ?_⟩
  obtain ⟨e, p⟩ := hW
  have q := hl i σ H (by omega) p
  cases m with
  | zero =>
    have e2 : i = xs.length := by omega
    subst e2
    exact .inl ⟨⟨xs, q, Nat.le_refl _⟩, hd σ H p⟩
  | succ m =>
    have hi : i < xs.length := by omega
    refine .inr ⟨⟨xs, xs[i], q, List.getElem?_eq_getElem hi⟩, Pv (i + 1), fun σ' H' h => ⟨m, by omega, by omega, h⟩, fun x H' hy => ?_⟩
    obtain ⟨T, y, rfl, nT, rfl, hx⟩ := hy
    exact hs i y σ H T (hx xs q) p nT
theorem w_enum {σ : L2.St} {H : Hp} {K : PySem.W.Frag} {ta : TA} {R : It → Hp → Prop} (h : ta σ H fun vs H1 => ∃ a xs, vs = [.ref a] ∧ SqL K H1 a xs ∧ R (Ite K a) H1) : iEnum K ta σ H R := h
theorem w_enq {H : Hp} {K : PySem.W.Frag} {p : Addr} {xs : List V} {R : Addr → Prop} (hs : SqL K H p xs) (h : R p) : ∃ a xs, [V.ref p] = [.ref a] ∧ SqL K H a xs ∧ R a := ⟨p, xs, rfl, hs, h⟩

/-! ### rules that name the written part -/
section
variable {X : Cx}
theorem ix_listK (K : PySem.W.Frag) (hK : X.K = K := by rfl) : IxR X (rIxL K) := by subst hK; exact ix_list
theorem ix_tupK (K : PySem.W.Frag) (hK : X.K = K := by rfl) : IxR X (rIxT K) := by subst hK; exact ix_tup
theorem ix_seqK (K : PySem.W.Frag) (hK : X.K = K := by rfl) : IxR X (rIx K) := by subst hK; exact ix_seq
theorem sl_listK (K : PySem.W.Frag) (hK : X.K = K := by rfl) : SlR X (rSlL K) := by subst hK; exact sl_list
def rLenK (K : PySem.W.Frag) : List V → Hp → VK → Prop := fun xs H Q => ∃ p ys, xs = [.ref p] ∧ (SqL K H p ys ∨ SqT K H p ys) ∧ Q (.int ys.length) H
theorem call_lenK (K : PySem.W.Frag) (hK : X.K = K := by rfl) : CallR X (.builtin "len") (rLenK K) := by subst hK; exact call_len_seq
def rListK (K : PySem.W.Frag) : List V → Hp → VK → Prop := fun xs H Q => ∃ p ys, xs = [.ref p] ∧ (SqL K H p ys ∨ SqT K H p ys) ∧ ∀ l, H l = none → Q (.ref l) (upd H l (.lst ys))
theorem call_listK (K : PySem.W.Frag) (hK : X.K = K := by rfl) : CallR X (.type "list") (rListK K) := by subst hK; exact call_list_of
theorem call_isiK' (K : PySem.W.Frag) (hK : X.K = K := by rfl) : CallR X (.builtin "isinstance") (rIsi K) := by subst hK; exact call_isi
theorem cr_sumK (K : PySem.W.Frag) (hc : X.calm = true) (hK : X.K = K := by rfl) : CallR X (.builtin "sum") (rSum K) := by subst hK; exact cr_sum hc
theorem cr_maxK (K : PySem.W.Frag) (hc : X.calm = true) (hK : X.K = K := by rfl) : CallR X (.builtin "max") (rMax K) := by subst hK; exact cr_max hc
theorem cr_minK (K : PySem.W.Frag) (hc : X.calm = true) (hK : X.K = K := by rfl) : CallR X (.builtin "min") (rMin K) := by subst hK; exact cr_min hc
theorem cr_allK (K : PySem.W.Frag) (hc : X.calm = true) (hK : X.K = K := by rfl) : CallR X (.builtin "all") (rAll K) := by subst hK; exact cr_all hc
theorem cr_anyK (K : PySem.W.Frag) (hc : X.calm = true) (hK : X.K = K := by rfl) : CallR X (.builtin "any") (rAny K) := by subst hK; exact cr_any hc
theorem cr_sortedIK (K : PySem.W.Frag) (hK : X.K = K := by rfl) : CallR X (.builtin "sorted") (rSortedI K) := by subst hK; exact cr_sortedI
theorem op_eqDK (K : PySem.W.Frag) (hu : X.A.units + 64 < cLine) (hK : X.K = K := by rfl) : OpR X (compareOp .Eq) (rEqD K) := by subst hK; exact op_eqD hu
theorem op_neDK (K : PySem.W.Frag) (hu : X.A.units + 64 < cLine) (hK : X.K = K := by rfl) : OpR X (compareOp .NotEq) (rNeD K) := by subst hK; exact op_neD hu
theorem op_inK (K : PySem.W.Frag) (hK : X.K = K := by rfl) : OpR X (compareOp .In) (rIn K false) := by subst hK; exact op_in_seq
theorem op_notInK (K : PySem.W.Frag) (hK : X.K = K := by rfl) : OpR X (compareOp .NotIn) (rIn K true) := by subst hK; exact op_notIn_seq
theorem mt_indexK (K : PySem.W.Frag) (hK : X.K = K := by rfl) : MtR X "list.index" (rIndex K) := by subst hK; exact mt_index
theorem w_lenK {K : PySem.W.Frag} {H : Hp} {Q : VK} {p : Addr} {xs : List V} (hs : SqL K H p xs) (h : Q (.int xs.length) H) : rLenK K [.ref p] H Q := ⟨p, xs, rfl, .inl hs, h⟩
theorem w_lenTK {K : PySem.W.Frag} {H : Hp} {Q : VK} {p : Addr} {xs : List V} (hs : SqT K H p xs) (h : Q (.int xs.length) H) : rLenK K [.ref p] H Q := ⟨p, xs, rfl, .inr hs, h⟩
theorem w_listK {K : PySem.W.Frag} {H : Hp} {Q : VK} {p : Addr} {xs : List V} (hs : SqL K H p xs) (h : ∀ l, New H l → Q (.ref l) (upd H l (.lst xs))) : rListK K [.ref p] H Q := ⟨p, xs, rfl, .inl hs, h⟩
end
section
variable {X : Cx} {e o : Expr} {f name : Str} {pos apos cpos : Pos} {ta to : TE} {t : TA} {es : List Expr}
theorem pe_fldK (K : PySem.W.Frag) (he : PE X e ta) (hb : attributeBase e f X.env (eval e X.env) = eval e X.env) (hK : X.K = K := by rfl) : PE X (.Attribute e f pos) (tFld K ta f) := by subst hK; exact pe_fld he hb
theorem pe_bmK (K : PySem.W.Frag) {T : String} {r : V → List V → Hp → VK → Prop} (h : PE X (.Call (.Attribute o name apos) es [] cpos) (tBM X.K T r to t)) (hK : X.K = K := by rfl) : PE X (.Call (.Attribute o name apos) es [] cpos) (tBM K T r to t) := by subst hK; exact h
theorem pe_bm0K (K : PySem.W.Frag) {T : String} {r : V → List V → Hp → VK → Prop} (h : PE X (.Call (.Attribute o name apos) es [] cpos) (tBM0 X.K T r to)) (hK : X.K = K := by rfl) : PE X (.Call (.Attribute o name apos) es [] cpos) (tBM0 K T r to) := by subst hK; exact h
theorem pi_listK (K : PySem.W.Frag) {tg l : Expr} {tl : TE} (hl : PE X l tl) (hK : X.K = K := by rfl) : PI X tg l (iList K tl) := by subst hK; exact pi_list hl
theorem pi_tupK (K : PySem.W.Frag) {tg l : Expr} {tl : TE} (hl : PE X l tl) (hK : X.K = K := by rfl) : PI X tg l (iTup K tl) := by subst hK; exact pi_tup hl
theorem pg_tupK (K : PySem.W.Frag) {es : List Expr} {k n : Nat} {t : TGs} (hc : X.calm = true) (h : PGs X es t) (hn : (assignEach es X.env).length = n := by rfl) (hst : (assignEach es X.env).findIdx? (·.1) = none := by rfl) (hK : X.K = K := by rfl) : PG X (.Tuple es k pos) (gTup K n t) := by subst hK; exact pg_tup hc h hn hst
end
/-! ### list.insert -/
theorem w_ins {H : Hp} {p : Addr} {xs : List V} {m : Int} {v : V} {R : Addr → List V → Int → V → Prop} (hp : H p = some (.lst xs)) (hl : xs.length < sizeLine) (h0 : 0 ≤ m) (h1 : m < 2 ^ 63) (h : R p xs m v) :
    ∃ (l : Addr) (ys : List V) (i : Int) (y : V), V.ref p = .ref l ∧ [V.int m, v] = [.int i, y] ∧ H l = some (.lst ys) ∧ ys.length < sizeLine ∧ 0 ≤ i ∧ i < 2 ^ 63 ∧ R l ys i y := ⟨p, xs, m, v, rfl, rfl, hp, hl, h0, h1, h⟩

/-! ### exceptions -/
theorem Has.mkX {P : Program} {w : World} {K : PySem.W.Frag} {mg : Str → Option Value} {base : Heap} {x qual : Str} {ps N : List Str} {sp : Sp} {k : Nat} {f : Addr} {fd : FuncData} {st : Stmt} (F : Fun K x qual st f fd) (gf : mg x = some (.ref f)) (b : Binds K fd ps []) (S : FnScope N ps (defScope st)) (len : ∀ vs H Q E, sp vs H Q E → vs.length = ps.length)
    (hbody : ∀ (cdv : Value) (A : Around) (outer : List Env) (s : Shared) (H : Hp) (vs : List V) (Q : VK) (E : XK), Room k (A.deeper (envOfC qual (defScope st) s.heap.objs.size f cdv)) → sp vs H Q E →
      ∃ t, PSs (cxOf (L2.CX P w) P w K mg base N qual (defScope st) f cdv A outer s H E) (defBody st) t ∧ t { nx := fun _ H' => Q .non H', rt := Q } (start N vs) H) : Has P w K mg base (L2.CX P w) (k + 1) x ps sp :=
  ⟨f, fd, F.okX S len hbody, gf, F.kp, b⟩
theorem pe_fnS {X : Cx} {W : WX} {k : Nat} {ps : List Str} {sp : Sp} {x : Str} {p pos : Pos} {e : Expr} {es : List Expr} {t : TA} (tk : Takes X W) (h : Has X.prog X.w X.K X.mg X.base (L2.CX X.prog X.w) k x ps sp) (hr : Room k X.A) (hg : Gl X x) (ha : PA X (e :: es) t) (hdb : (x == ("__debug__" : Str)) = false := by decide)
    (he : starEach (e :: es) X.env = (false, eval e X.env) :: starEach es X.env := by rfl) (hpl : (backTo pos (starEach es X.env)).any (·.1) = false := by rfl) :
    PE X (.Call (.Name x p) (e :: es) [] pos) (tCallS sp (WE W) t) := by
  obtain ⟨f, fd, F, gf, kp, b⟩ := h.ex
  exact pe_callS F hr hg gf kp b (fun σ => passAt tk σ) ha hdb he hpl
theorem pe_fnL {X : Cx} {k : Nat} {ps : List Str} {sp : Sp} {x : Str} {p pos : Pos} {e : Expr} {es : List Expr} {t : TA} (h : Has X.prog X.w X.K X.mg X.base (L2.CX X.prog X.w) k x ps sp) (hr : Room k X.A) (hg : Gl X x) (ha : PA X (e :: es) t) (hdb : (x == ("__debug__" : Str)) = false := by decide)
    (he : starEach (e :: es) X.env = (false, eval e X.env) :: starEach es X.env := by rfl) (hpl : (backTo pos (starEach es X.env)).any (·.1) = false := by rfl) :
    PE X (.Call (.Name x p) (e :: es) [] pos) (tCall sp [] E0 t) := by
  obtain ⟨f, fd, F, gf, kp, b⟩ := h.ex
  exact pe_call F hr hg gf kp b .nil passL ha hdb he hpl
theorem w_callS {σ : L2.St} {H : Hp} {Q : VK} {tl : TA} {sp : Sp} {E : L2.St → XK} (h : tl σ H fun vs H1 => sp vs H1 Q (E σ)) : tCallS sp E tl σ H Q := h
/-- facts of an exception class of the program's own -/
structure ExF (K : PySem.W.Frag) (C : Addr) : Prop where
  kp : PySem.W.keepIn K (.ref C) = true
  be : PySem.W.subIn K (.ref C) (.type "BaseException") = some true
  ty : PySem.W.typeIn K (.ref C) = some (.type "type")
  cl : PySem.W.isClsIn K C = true
  hd : PySem.W.hasDictIn K C = true
  ga : PySem.W.findIn K (.ref C) "__getattribute__" = some (some (.builtin "BaseException.__getattribute__"))
  gg : PySem.W.findIn K (.ref C) "__getattr__" = some none
  oc : PySem.W.findIn K (.ref C) "__class__" = some (some (.builtin "object.__class__"))
  om : PySem.W.mroIn K C (.type "object") = some true
  sv : PySem.W.subIn K (.ref C) (.type "ValueError") = some true
  ss : PySem.W.subIn K (.ref C) (.ref C) = some true
  og : PySem.W.specialIn K (.builtin "object.__class__") "__get__" = some (some (.builtin "getset_descriptor.__get__"))
  ot : PySem.W.takesIn K (.builtin "object.__class__") = some true
theorem ExF.exm {K : PySem.W.Frag} {C D : Addr} {b : Bool} (F : ExF K D) (h : PySem.W.subIn K (.ref C) (.ref D) = some b) : PySem.W.exmOne K (.ref C) (.ref D) = some b := PySem.W.exm_ref F.be F.hd F.ty h
theorem ExF.kit {K : PySem.W.Frag} {C D : Addr} {b : Bool} (F : ExF K C) (G : ExF K D) (h : PySem.W.subIn K (.ref C) (.ref D) = some b) : PySem.W.kitOne K (.ref C) (.ref D) = some b := kit_own G.cl G.ty h F.ss
theorem ExF.kitV {K : PySem.W.Frag} {C : Addr} (F : ExF K C) : PySem.W.kitOne K (.ref C) (.type "ValueError") = some true := by
  unfold PySem.W.kitOne
  rw [if_neg (by intro z; rw [beq_iff_eq] at z; cases z)]
  show (if PySem.W.kitMeta "ValueError" = true then PySem.W.subIn K (.ref C) (.type "ValueError") else none) = some true
  rw [if_pos (by decide +kernel), F.sv]
theorem ExF.xf {K : PySem.W.Frag} {C : Addr} (F : ExF K C) : XfC K C := ⟨F.ga, F.gg, F.be, F.hd⟩
/-- isinstance(e, c), e the exception that the suite holds, with its dict or without -/
def rIsX (K : PySem.W.Frag) (a : Addr) (cls : Value) (d : Option Addr) : List V → Hp → VK → Prop := fun xs H Q => ∃ (D : Addr) (c : V) (cv : Value) (b : Bool), cls = .ref D ∧ ExF K D ∧ (d = none ∨ ∃ dd fs, d = some dd ∧ H dd = some (.xd fs)) ∧ xs = [.ref a, c] ∧ (∀ u, RelV c u → u = cv) ∧ PySem.W.kitOne K (.ref D) cv = some b ∧ Q (.bl b) H
theorem call_isX {X : Cx} {a : Addr} {cls : Value} {d : Option Addr} {oe : Obj} {pn : List (Addr × Obj)} (K : PySem.W.Frag) (hz : Zc cls d oe) (hf : ∃ vs, oe.data = .fields vs) (hK : X.K = K := by rfl) : CallR (X.suite a ((a, oe) :: pn)) (.builtin "isinstance") (rIsX K a cls d) := by
  subst hK
  intro pins s σ H xs us Q I r h
  obtain ⟨D, c, cv, b, rfl, F, hd, rfl, hcv, e, q⟩ := h
  obtain _ | ⟨rx, rr⟩ := r
  obtain _ | ⟨rt, rr⟩ := rr
  cases rr
  cases rx
  have ec := hcv _ rt
  subst ec
  have hget := (I.pin (a, oe) (List.mem_append.mpr (.inl List.mem_cons_self))).1
  obtain ⟨vs, hv⟩ := hf
  have hcl : (PySem.W.clsIn X.K D).isSome = true := F.cl
  have J : ∃ od, PySem.W.InstAt s.heap a oe D od := by
    rcases hd with rfl | ⟨dd, fs, rfl, hdd⟩
    · exact ⟨none, hget, hz.1, by unfold PySem.W.notCls; rw [hv] <;> rfl, by rw [hz.2]; trivial⟩
    · obtain ⟨mA, hns, _⟩ : ObjOk X.prog X.w H s.heap dd (.xd fs) := I.hok dd _ hdd
      obtain ⟨od, ho, _⟩ := lookIn_ns hns
      exact ⟨some od, hget, hz.1, by unfold PySem.W.notCls; rw [hv] <;> rfl, by rw [hz.2]; exact ho⟩
  obtain ⟨od, J⟩ := J
  exact PySem.W.kia_one (PySem.W.kitx_exc hcl F.ga F.gg F.be F.oc F.og F.ot F.om) I.kIn J e (fun z => nomatch z) fun tk => ⟨.bl b, H, I.kept (t' := tk) fun _ _ z => z, rfl, q⟩
theorem w_isX {K : PySem.W.Frag} {H : Hp} {Q : VK} {a D E : Addr} {d : Option Addr} {b : Bool} (F : ExF K D) (G : ExF K E) (hs : PySem.W.subIn K (.ref D) (.ref E) = some b) (hd : d = none ∨ ∃ dd fs, d = some dd ∧ H dd = some (.xd fs)) (h : Q (.bl b) H) : rIsX K a (.ref D) d [.ref a, .ref E] H Q :=
  ⟨D, .ref E, .ref E, b, rfl, F, hd, rfl, fun _ r => r, F.kit G hs, h⟩
theorem w_isXV {K : PySem.W.Frag} {H : Hp} {Q : VK} {a D : Addr} {d : Option Addr} (F : ExF K D) (hd : d = none ∨ ∃ dd fs, d = some dd ∧ H dd = some (.xd fs)) (h : Q (.bl true) H) : rIsX K a (.ref D) d [.ref a, .ty "ValueError"] H Q :=
  ⟨D, .ty "ValueError", .type "ValueError", true, rfl, F, hd, rfl, fun _ r => r, F.kitV, h⟩
/-- an exception class whose __init__ is a def -/
structure HasXM (P : Program) (w : World) (K : PySem.W.Frag) (mg : Str → Option Value) (base : Heap) (k : Nat) (x : Str) (C : Addr) (ps : List Str) (sp : Sp) : Prop where
  oex : OexC K C
  ex : ∃ f fd, FnOk P w K mg base CX0 k f fd ps sp ∧ PySem.W.findIn K (.ref C) "__init__" = some (some (.ref f)) ∧ PySem.W.typeIn K (.ref f) = some (.type "function") ∧ mg x = some (.ref C) ∧ Binds K fd ps []
theorem pmk_xm {X : Cx} {x : Str} {C : Addr} {k : Nat} {ps : List Str} {sp : Sp} {e : Expr} {es : List Expr} {ta : TA} {p pos : Pos} (h : HasXM X.prog X.w X.K X.mg X.base k x C ps sp) (hr : Room (k + 1) X.A) (hg : Gl X x) (ha : PA X (e :: es) ta)
    (hdb : (x == ("__debug__" : Str)) = false := by decide) (he : starEach (e :: es) X.env = (false, eval e X.env) :: starEach es X.env := by rfl) (hpl : (backTo pos (starEach es X.env)).any (·.1) = false := by rfl) :
    PMk X (.Call (.Name x p) (e :: es) [] pos) (tMkO C sp [] ta) := by
  obtain ⟨f, fd, F, iC, tI, hm, b⟩ := h.ex
  exact pmk_oex h.oex iC tI F hr b .nil pass0 hg hm ha hdb he hpl
/-- the promise of an __init__ that keeps its argument as the field f -/
def spKeep (K : PySem.W.Frag) (C : Addr) : Sp := fun vs H Q _ => ∃ (a : Addr) (v : V), vs = [.ref a, v] ∧ OexC K C ∧ PySem.W.findIn K (.ref C) "at" = some none ∧ H a = some (exo a C none) ∧ ∀ d, H d = none → d ≠ a → Q .non (upd (upd H d (exd d [("at", v)])) a (exo a C (some d)))
/-- the raise of such an exception: its dict is new -/
theorem w_raiseK {K : PySem.W.Frag} {H : Hp} {C : Addr} {v : V} {Q : XK} (T : OexC K C) (n : PySem.W.findIn K (.ref C) "at" = some none) (h : ∀ d, New H d → Q (.ref C) (some d) (upd H d (.xd [("at", v)]))) :
    [v].length ≤ 1000 ∧ ∀ a, H a = none → spKeep K C (.ref a :: ([v] ++ [])) (upd H a (exo a C none)) (fun u H2 => u = .non ∧ ∃ (d : Addr) (fs : List (Str × V)), H2 a = some (exo a C (some d)) ∧ H2 d = some (exd d fs) ∧ H d = none ∧ Q (.ref C) (some d) (upd (del H2 a) d (.xd fs))) (fun _ _ _ => False) := by
  refine ⟨by show 1 ≤ 1000; decide, fun a na => ⟨a, v, rfl, T, n, upd_same, fun d nd hda => ⟨rfl, d, _, upd_same, by rw [upd_ne hda, upd_same], ?_, ?_⟩⟩⟩
  · rw [upd_ne hda] at nd
    exact nd
  · have nd' : H d = none := by rw [upd_ne hda] at nd; exact nd
    have e : upd (del (upd (upd (upd H a (exo a C none)) d (exd d [("at", v)])) a (exo a C (some d))) a) d (.xd [("at", v)]) = upd H d (.xd [("at", v)]) := by
      funext b
      by_cases hb : b = d
      · subst hb; rw [upd_same, upd_same]
      · rw [upd_ne hb, upd_ne hb]
        by_cases ha : b = a
        · subst ha; rw [del_same, na]
        · rw [del_ne ha, upd_ne ha, upd_ne hb, upd_ne ha]
    rw [e]
    exact h d nd'
theorem w_ost {K : PySem.W.Frag} {σ : L2.St} {H : Hp} {D : Ends} {to te : TE} {f : Str} (h : te σ H fun y H1 => to σ H1 fun x H2 => ∃ a C : Addr, x = .ref a ∧ OexC K C ∧ PySem.W.findIn K (.ref C) f = some none ∧
  ((H2 a = some (exo a C none) ∧ ∀ dx, H2 dx = none → dx ≠ a → D.nx σ (upd (upd H2 dx (exd dx [(f, y)])) a (exo a C (some dx)))) ∨
    ∃ (dx : Addr) (fs : List (Str × V)), H2 a = some (exo a C (some dx)) ∧ H2 dx = some (exd dx fs) ∧ fs.length ≤ 900 ∧ D.nx σ (upd H2 dx (exd dx ((f, y) :: fs))))) : tOst K f to te D σ H := h
theorem w_xf {σ : L2.St} {H : Hp} {Q : VK} {a C : Addr} {cls : Value} {d : Option Addr} {f : Str} {te : TE} (h : te σ H fun x H1 => x = .ref a ∧ cls = .ref C ∧ ∃ (dd : Addr) (fs : List (Str × V)) (v : V), d = some dd ∧ H1 dd = some (.xd fs) ∧ fs.lookup f = some v ∧ Q v H1) : tXf a cls d C f te σ H Q := h
theorem w_mko {σ : L2.St} {H : Hp} {C : Addr} {sp : Sp} {ta : TA} {Q : XK} (h : ta σ H fun vs H1 => vs.length ≤ 1000 ∧ ∀ a, H1 a = none → sp (.ref a :: (vs ++ [])) (upd H1 a (exo a C none))
  (fun v H2 => v = .non ∧ ∃ (d : Addr) (fs : List (Str × V)), H2 a = some (exo a C (some d)) ∧ H2 d = some (exd d fs) ∧ H1 d = none ∧ Q (.ref C) (some d) (upd (del H2 a) d (.xd fs))) (fun _ _ _ => False)) : tMkO C sp [] ta σ H Q := h

/-! ### an exception that is kept behind its suite: try: body, except x as n: .. found = n -/
/-- at a: a caught exception, of the class cls, its dict d -/
def exk (a : Addr) (cls : Value) (d : Option Addr) : HO := .ext fun h => ∃ (oe : Obj) (vs : Array Value), h.get? a = some oe ∧ Zc cls d oe ∧ oe.data = .fields vs
theorem exk_ok {P : Program} {w : World} {H : Hp} {h : Heap} {a : Addr} {cls : Value} {d : Option Addr} {oe : Obj} {vs : Array Value} (e : h.get? a = some oe) (z : Zc cls d oe) (dd : oe.data = .fields vs) : ObjOk P w H h a (exk a cls d) :=
  ⟨⟨oe, vs, e, z, dd⟩, ⟨oe, e⟩, fun _ _ ⟨o, v, q, r⟩ k => ⟨o, v, k o q, r⟩⟩
theorem exk_at {P : Program} {w : World} {H : Hp} {h : Heap} {a : Addr} {cls : Value} {d : Option Addr} (hok : HOk P w H h) (he : H a = some (exk a cls d)) : ∃ (oe : Obj) (vs : Array Value), h.get? a = some oe ∧ Zc cls d oe ∧ oe.data = .fields vs := by
  have x : ObjOk P w H h a (.ext fun h => ∃ (oe : Obj) (vs : Array Value), h.get? a = some oe ∧ Zc cls d oe ∧ oe.data = .fields vs) := hok a _ he
  exact x.1
section
variable {X : Cx} {pins : List (Addr × Obj)} {σ : L2.St} {H : Hp} {s : Shared}
/-- an object that is there, of ours, is tracked from now on -/
theorem Inv.track {a : Addr} {o : HO} (I : Inv X pins σ H s) (na : H a = none) (hx : ∀ ob, X.s_0.heap.get? a = some ob → a ∈ X.ex) (nL : a ≠ X.env.locals) (hc : ∀ x c, X.env.cells.lookup x = some c → c ≠ a) (hp : ∀ p ∈ X.pn ++ pins, p.1 ≠ a) (new : ObjOk X.prog X.w (upd H a o) s.heap a o) :
    Inv X pins σ (upd H a o) s :=
  ⟨I.ok, I.os, I.bare,
    ⟨I.base.keep, I.base.slot, fun b ob e n hb => by
      have nb : b ≠ a := fun z => by subst z; exact hb (hx ob e)
      rw [upd_ne nb]; exact I.base.free b ob e n hb, I.base.there,
      fun b xs q => by rw [upd_ne (ne_of_none (I.base.tups b xs q) na)]; exact I.base.tups b xs q,
      fun b ob u q => by rw [upd_ne (ne_of_none (I.base.frzs b ob u q) na)]; exact I.base.frzs b ob u q,
      fun b ps q => by
        obtain ⟨m, e⟩ := I.base.tbls b ps q
        exact ⟨m, by rw [upd_ne (ne_of_none e na)]; exact e⟩⟩,
    I.loc, I.cell, by rw [upd_ne nL.symm]; exact I.free, fun x c e => by rw [upd_ne (hc x c e)]; exact I.freeC x c e,
    fun p hq => by
      obtain ⟨h1, h2, h3⟩ := I.pin p hq
      exact ⟨h1, by rw [upd_ne (hp p hq)]; exact h2, h3⟩,
    fun b u e => by
      by_cases hb : b = a
      · subst hb; rw [upd_same] at e; cases e; exact new
      · rw [upd_ne hb] at e
        exact (I.hok b u e).stay (fun c v _ q => q) (fun c q => by rw [upd_ne (ne_of_none q na)]; exact q) fun c xs q => by rw [upd_ne (ne_of_none q na)]; exact q,
    I.len⟩
end
/-- what 'except x as n: suite' wishes, the exception kept behind -/
def wKeep (K : PySem.W.Frag) (c : Value) (i : Nat) (ts : Addr → Value → Option Addr → TS) (Wout : WX) (D : Ends) : WX := fun cls d σ H =>
  ∃ b, PySem.W.exmOne K cls c = some b ∧ (b = true → ∀ a, H a = none → ts a cls d { nx := fun σ' H' => H' a = none → D.nx (σ'.set i none) (upd H' a (exk a cls d)), rt := fun _ _ => False, bk := fun _ _ => False, ct := fun _ _ => False } (σ.set i (some (.ref a))) H) ∧
    (b = false → Wout cls d σ H)
section
variable {X : Cx} {x n : Str} {c : Value} {i : Nat} {body suite : List Stmt} {b₀ : Stmt} {np pos pos' : Pos} {tb : WX → TS} {ts : Addr → Value → Option Addr → TS} {Wout : WX}
theorem ps_try_keep (hs : X.stack = X.env :: X.outer) (hf : X.env.frame = some X.env.locals) (hN : X.N.Nodup) (hi : X.N[i]? = some n) (hln : X.env.kindOf n = some .local) (hc : Names X x c) (tk : Takes X Wout)
    (hb : ∀ (W : WX) (pn : List (Addr × Obj)) (xe : Value → Shared → Prop), Takes (X.tr pn xe) W → PassesOwn (model X.prog X.w) X.A X.env xe → PSs (X.tr pn xe) body (tb W))
    (hsu : ∀ (a : Addr) (oe : Obj) (cls : Value) (d : Option Addr) (pn : List (Addr × Obj)), Zc cls d oe → (∃ vs, oe.data = .fields vs) → PSs (X.suite a ((a, oe) :: pn)) (b₀ :: suite) (ts a cls d)) :
    PS X (.Try body [.ExceptHandler (some (.Name x np)) (some n) (b₀ :: suite) pos'] [] [] pos) (fun D σ H => tb (wKeep X.K c i ts Wout D) D σ H) := by
  refine ⟨fun pins s σ H D I h => ?_⟩
  have ok := I.ok
  have hfr : X.A.frames = some (X.env :: X.outer) := by rw [ok.frames, hs]
  refine wpAny_Try_except ?_
  refine wpAny_mono ((hb (wKeep X.K c i ts Wout D) (X.pn ++ pins) (fun e s₁ => wpAny (model X.prog X.w) X.A (noteFrame e X.env) (fun _ s₂ => wpAny (model X.prog X.w) X.A (setFlight e none) (fun _ s₃ =>
    wpAny (model X.prog X.w) X.A (handleBy e X.env [.ExceptHandler (some (.Name x np)) (some n) (b₀ :: suite) pos']) (SP X pins D) X.xe s₃) X.xe s₂) X.xe s₁) (fun u s' xx => ?_) PassesOwn.looking).run [] s σ H D (I.toTry _) h) (fun f s1 hsp => ?_) (fun e s1 he => he)
  · obtain ⟨a, B, sI, pins', σ', H', cls, d, rfl, J', nb, up, sky, na, os, ag, b, hb1, hyes, hno⟩ := xx
    have J : Inv X pins σ' H' sI := J'.ofTry ok
    have sky' : Sky B (X.env :: X.outer) a (Zc cls d) X.env.locals s'.heap := by rw [← hs]; exact sky
    show wpAny (model X.prog X.w) X.A (noteFrame (.ref a) X.env) _ _ _
    refine Sky.land Zc.steady hfr hf sky' fun h3 fl3 up3 => ?_
    have J3 : Inv X pins σ' H' { s' with heap := h3 } := J.landed nb fl3.1 (up.trans up3) os ag
    obtain ⟨oe3, vs3, he3, hz3, hd3⟩ := fl3.there
    have nfr : a ∉ frs (X.env :: X.outer) := fun hm => by
      obtain ⟨_, o', e', hnf⟩ := fl3.2.2.1.mem hm
      rw [he3] at e'; cases e'
      exact hnf _ hd3
    have nL : a ≠ X.env.locals := fun z => nfr (List.mem_filterMap.mpr ⟨X.env, List.mem_cons_self, by rw [hf, z]⟩)
    have nF : a ∉ X.fs := fun hm => by
      obtain ⟨e, he, q⟩ := List.mem_filterMap.mp hm
      exact nfr (List.mem_filterMap.mpr ⟨e, List.mem_cons_of_mem _ he, q⟩)
    have nI : sI.heap.get? a = none := by
      cases q : sI.heap.get? a with
      | none => rfl
      | some o =>
        have z := nb a o q (by rw [hs]; exact nfr)
        rw [fl3.2.1] at z
        cases z
    have S3 := J3.suite he3 hd3 na nL nF
    refine wpAny_handleBy_cons (codeAny_handlers_test ?_) (by intro q; cases q)
    have LT : PySem.W.Looks (model X.prog X.w) h3 (typeOf (.ref a)) cls := fun A Q E s k q => wpAny_typeOf_ref (k _ _ he3) (by rw [hz3.1]; exact q)
    have LM := PySem.W.exm_one (M := model X.prog X.w) (J3.kIn) LT hb1
    have test : ∀ {Q : Value → Shared → Prop} {E : Value → Shared → Prop}, Q c { s' with heap := h3 } → wpAny (model X.prog X.w) (X.A.mark (some (.ref a))) (eval (.Name x np) X.env) Q E { s' with heap := h3 } := fun {Q E} q => by
      obtain ⟨hg, hdbg, hm | ⟨hm, hv, hnn⟩⟩ := hc
      · exact ld_glob (X := X.suite a ((a, oe3) :: (X.pn ++ pins))) S3 hg hm q hdbg
      · exact ld_blt (X := X.suite a ((a, oe3) :: (X.pn ++ pins))) S3 hg hm hv q hnn hdbg
    refine test (LM.here ?_)
    cases b with
    | true =>
      refine codeAny_handlers_suite_as ?_
      refine HandSPX.lands_againZ fl3 fun h4 fl4 up4 => ?_
      have J4 : Inv X pins σ' H' { s' with heap := h4 } := J.landed nb fl4.1 ((up.trans up3).trans up4) os ag
      obtain ⟨oe4, vs4, he4, hz4, hd4⟩ := fl4.there
      have S4 := J4.suite he4 hd4 na nL nF
      refine store_ok (X := X.suite a ((a, oe4) :: (X.pn ++ pins))) (v := .ref a) S4 hN hi (.inl hln) rfl (fun s5 S5 => ?_) (.inr hln)
      refine wpAny_mono ((hsu a oe4 cls d (X.pn ++ pins) hz4 ⟨_, hd4⟩).run [] s5 _ H' _ S5 (hyes rfl a na)) (fun f s6 hsp => ?_) (fun _ _ z => False.elim z)
      cases f with
      | next =>
        obtain ⟨σ6, H6, S6, q6⟩ := hsp
        obtain ⟨g6, n6, _⟩ := S6.pin (a, oe4) (List.mem_append_left _ List.mem_cons_self)
        have T6 : Inv X pins σ6 (upd H6 a (exk a cls d)) s6 := Inv.track (S6.unsuite ok) n6
          (fun ob e => by
            refine Classical.byContradiction fun hx => ?_
            obtain ⟨o', e'⟩ := J.base.there a ob e hx
            rw [nI] at e'
            cases e')
          nL (fun y c' e z => by
            obtain ⟨v, hv⟩ := J.cell y c' e
            obtain ⟨o', e', _⟩ := hv
            rw [z, nI] at e'
            cases e')
          (fun p hp z => by
            have q := (J.pin p hp).1
            rw [z, nI] at q
            cases q)
          (exk_ok g6 hz4 hd4)
        exact gone_ok T6 hN hi hln fun s7 J7 => ⟨_, _, J7, q6 n6⟩
      | brk =>
        obtain ⟨_, _, _, q6⟩ := hsp
        exact False.elim q6
      | cont =>
        obtain ⟨_, _, _, q6⟩ := hsp
        exact False.elim q6
      | ret u =>
        obtain ⟨_, _, _, _, _, q6⟩ := hsp
        exact False.elim q6
    | false =>
      show wpAny _ X.A (handleBy (.ref a) X.env []) _ _ _
      refine wpAny_handleBy_nil ?_
      obtain ⟨k1, k2, k3, oe, vs, T, oT, ts', he, hz, hd, h1, hr⟩ := id fl3
      unfold PySem.passOn
      refine wpAny_bind (wpAny_field he hd h1 ?_)
      rw [if_neg (show ¬ ((Value.ref T == Value.none) = true) from by simp)]
      have fin : wpAny (model X.prog X.w) X.A (setFlight (.ref a) X.env.frame) (fun _ s4 => wpAny (model X.prog X.w) X.A (throw (.ref a) : Sem Flow) (SP X pins D) X.xe s4) X.xe { s' with heap := h3 } := by
        rw [hf]
        refine HandSPX.setFlight_upZ fl3 fun h4 hh4 up4 => wpAny_throw (tk _ _ ?_)
        exact ⟨a, B, sI, pins, σ', H', cls, d, rfl, J, nb, (up.trans up3).trans up4, .inr (.inr (by rw [hs]; exact hh4)), na, os, ag, hno rfl⟩
      first
        | exact wpAny_bind (wpAny_pure (wpAny_bind fin))
        | exact wpAny_bind fin
  · cases f with
    | next =>
      obtain ⟨σ', H', J', q⟩ := hsp
      exact wpAny_execs_nil ⟨σ', H', J'.ofTry ok, q⟩
    | brk =>
      obtain ⟨σ', H', J', q⟩ := hsp
      exact ⟨σ', H', J'.ofTry ok, q⟩
    | cont =>
      obtain ⟨σ', H', J', q⟩ := hsp
      exact ⟨σ', H', J'.ofTry ok, q⟩
    | ret u =>
      obtain ⟨v, σ', H', J', r, q⟩ := hsp
      exact ⟨v, σ', H', J'.ofTry ok, r, q⟩
end
/-- what is known of a kept exception -/
def Kept (K : PySem.W.Frag) (H : Hp) (a D : Addr) (d : Option Addr) : Prop := H a = some (exk a (.ref D) d) ∧ (d = none ∨ ∃ dd fs, d = some dd ∧ H dd = some (.xd fs))
theorem Kept.inst {X : Cx} {pins : List (Addr × Obj)} {σ : L2.St} {H : Hp} {s : Shared} {a D : Addr} {d : Option Addr} (I : Inv X pins σ H s) (k : Kept X.K H a D d) : ∃ oe od, PySem.W.InstAt s.heap a oe D od := by
  obtain ⟨ha, hd⟩ := k
  obtain ⟨oe, vs, hget, hz, hv⟩ := exk_at I.hok ha
  rcases hd with rfl | ⟨dd, fs, rfl, hdd⟩
  · exact ⟨oe, none, hget, hz.1, by unfold PySem.W.notCls; rw [hv] <;> rfl, by rw [hz.2]; trivial⟩
  · obtain ⟨mA, hns, _⟩ : ObjOk X.prog X.w H s.heap dd (.xd fs) := I.hok dd _ hdd
    obtain ⟨od, ho, _⟩ := lookIn_ns hns
    exact ⟨oe, some od, hget, hz.1, by unfold PySem.W.notCls; rw [hv] <;> rfl, by rw [hz.2]; exact ho⟩
/-- isinstance(x, c), x a kept exception or None -/
def rIsKp (K : PySem.W.Frag) : List V → Hp → VK → Prop := fun xs H Q =>
  (∃ (a D : Addr) (d : Option Addr) (c : V) (cv : Value) (b : Bool), ExF K D ∧ Kept K H a D d ∧ xs = [.ref a, c] ∧ (∀ u, RelV c u → u = cv) ∧ PySem.W.kitOne K (.ref D) cv = some b ∧ Q (.bl b) H)
theorem call_isKp {X : Cx} (K : PySem.W.Frag) (hK : X.K = K := by rfl) : CallR X (.builtin "isinstance") (rIsKp K) := by
  subst hK
  intro pins s σ H xs us Q I r h
  obtain ⟨a, D, d, c, cv, b, F, hk, rfl, hcv, e, q⟩ := h
  obtain _ | ⟨rx, rr⟩ := r
  obtain _ | ⟨rt, rr⟩ := rr
  cases rr
  cases rx
  have ec := hcv _ rt
  subst ec
  have hcl : (PySem.W.clsIn X.K D).isSome = true := F.cl
  obtain ⟨oe, od, J⟩ := hk.inst I
  exact PySem.W.kia_one (PySem.W.kitx_exc hcl F.ga F.gg F.be F.oc F.og F.ot F.om) I.kIn J e (fun z => nomatch z) fun tk => ⟨.bl b, H, I.kept (t' := tk) fun _ _ z => z, rfl, q⟩
theorem w_isKp {K : PySem.W.Frag} {H : Hp} {Q : VK} {a D E : Addr} {d : Option Addr} {b : Bool} (F : ExF K D) (G : ExF K E) (hs : PySem.W.subIn K (.ref D) (.ref E) = some b) (hk : Kept K H a D d) (h : Q (.bl b) H) : rIsKp K [.ref a, .ref E] H Q :=
  ⟨a, D, d, .ref E, .ref E, b, F, hk, rfl, fun _ r => r, F.kit G hs, h⟩
theorem w_isKpV {K : PySem.W.Frag} {H : Hp} {Q : VK} {a D : Addr} {d : Option Addr} (F : ExF K D) (hk : Kept K H a D d) (h : Q (.bl true) H) : rIsKp K [.ref a, .ty "ValueError"] H Q :=
  ⟨a, D, d, .ty "ValueError", .type "ValueError", true, F, hk, rfl, fun _ r => r, F.kitV, h⟩
theorem Kept.same {K : PySem.W.Frag} {H H' : Hp} {a D : Addr} {d : Option Addr} (k : Kept K H a D d) (e : Same H H') : Kept K H' a D d :=
  ⟨e _ _ k.1, k.2.imp_right fun ⟨dd, fs, h1, h2⟩ => ⟨dd, fs, h1, e _ _ h2⟩⟩
/-- found.f -/
def tXk (K : PySem.W.Frag) (f : Str) (te : TE) : TE := fun σ H Q => te σ H fun x H1 => ∃ (a C dd : Addr) (fs : List (Str × V)) (v : V), x = .ref a ∧ XfC K C ∧ PySem.W.findIn K (.ref C) f = some none ∧ H1 a = some (exk a (.ref C) (some dd)) ∧ H1 dd = some (.xd fs) ∧ fs.lookup f = some v ∧ Q v H1
theorem pe_xk {X : Cx} {e : Expr} {te : TE} {pos : Pos} {f : Str} (K : PySem.W.Frag) (he : PE X e te) (hb : attributeBase e f X.env (eval e X.env) = eval e X.env := by rfl) (hK : X.K = K := by rfl) : PE X (.Attribute e f pos) (tXk K f te) := by
  subst hK
  refine ⟨fun pins s σ H Q I h => ?_⟩
  refine attr_of hb (thn (he.run pins s σ H _ I h) fun u s1 hh => ?_)
  obtain ⟨x, H1, I1, rx, a, C, dd, fs, v, ex, T, hno, ha, ea, l, q⟩ := hh
  subst ex
  obtain rfl : u = Value.ref a := rx
  obtain ⟨oe, vs, hget, hz, hv⟩ := exk_at I1.hok ha
  have hx : ObjOk X.prog X.w H1 s1.heap dd (.xd fs) := I1.hok dd _ ea
  obtain ⟨mA, hns, hr⟩ := hx
  obtain ⟨od, ho, hl⟩ := lookIn_ns hns
  obtain ⟨u, hu, ru⟩ := RelO.some_of (v := v) (o := mA f) (by rw [← l]; exact hr f)
  have J : PySem.W.InstAt s1.heap a oe C (some od) := ⟨hget, hz.1, by unfold PySem.W.notCls; rw [hv] <;> rfl, by rw [hz.2]; exact ho⟩
  exact HandSPX.exc_get I1.kIn J T.ga T.gg T.exC (PySem.W.findObj_own T.hdC hno rfl (by rw [hl, hu])) (handed_of ru) ⟨v, H1, I1.tok _, ru, q⟩
theorem w_xk {K : PySem.W.Frag} {σ : L2.St} {H : Hp} {Q : VK} {f : Str} {te : TE} (h : te σ H fun x H1 => ∃ (a C dd : Addr) (fs : List (Str × V)) (v : V), x = .ref a ∧ XfC K C ∧ PySem.W.findIn K (.ref C) f = some none ∧ H1 a = some (exk a (.ref C) (some dd)) ∧ H1 dd = some (.xd fs) ∧ fs.lookup f = some v ∧ Q v H1) : tXk K f te σ H Q := h
/-! ### objects whose __init__ may raise -/
theorem HasFn.mkX {P : Program} {w : World} {K : PySem.W.Frag} {mg : Str → Option Value} {base : Heap} {x qual : Str} {ps N : List Str} {sp : Sp} {k : Nat} {st : Stmt} {f : Addr} {fd : FuncData} (F : Fun K x qual st f fd) (b : Binds K fd ps []) (S : FnScope N ps (defScope st)) (len : ∀ vs H Q E, sp vs H Q E → vs.length = ps.length)
    (hbody : ∀ (cdv : Value) (A : Around) (outer : List Env) (s : Shared) (H : Hp) (vs : List V) (Q : VK) (E : XK), Room k (A.deeper (envOfC qual (defScope st) s.heap.objs.size f cdv)) → sp vs H Q E →
      ∃ t, PSs (cxOf (L2.CX P w) P w K mg base N qual (defScope st) f cdv A outer s H E) (defBody st) t ∧ t { nx := fun _ H' => Q .non H', rt := Q } (start N vs) H) : HasFn P w K mg base (L2.CX P w) (k + 1) f ps sp :=
  ⟨fd, F.okX S len hbody, b⟩
section
variable {X : Cx} {k : Nat} {ps : List Str} {sp : Sp} {x : Str} {p pos : Pos} {e : Expr} {es : List Expr} {t : TA} {C : Addr} {E : XK}
theorem pe_mkX (tk : Takes X (fun cls d _ H => E cls d H)) (h : HasMk X.prog X.w X.K X.mg X.base (L2.CX X.prog X.w) k x C ps sp) (hr : Room (k + 1) X.A) (hg : Gl X x) (ha : PA X (e :: es) t) (hdb : (x == ("__debug__" : Str)) = false := by decide) (he : starEach (e :: es) X.env = (false, eval e X.env) :: starEach es X.env := by rfl) (hpl : (backTo pos (starEach es X.env)).any (·.1) = false := by rfl) :
    PE X (.Call (.Name x p) (e :: es) [] pos) (tMake C sp [] E t) := by
  obtain ⟨f, fd, F, M, g, b⟩ := h.ex
  exact pe_make M F hr hg g b .nil (passes_call tk fun _ _ _ _ h => h) ha hdb he hpl
theorem pe_mkL (h : HasMk X.prog X.w X.K X.mg X.base (L2.CX X.prog X.w) k x C ps sp) (hr : Room (k + 1) X.A) (hg : Gl X x) (ha : PA X (e :: es) t) (hdb : (x == ("__debug__" : Str)) = false := by decide) (he : starEach (e :: es) X.env = (false, eval e X.env) :: starEach es X.env := by rfl) (hpl : (backTo pos (starEach es X.env)).any (·.1) = false := by rfl) :
    PE X (.Call (.Name x p) (e :: es) [] pos) (tMake C sp [] E0 t) := by
  obtain ⟨f, fd, F, M, g, b⟩ := h.ex
  exact pe_make M F hr hg g b .nil passL ha hdb he hpl
end

/-! ### steps of the reading -/
local macro_rules | `(tactic| walk_at "len") => `(tactic| (intro vs H Q E h; first | (obtain ⟨e, _⟩ := h; subst e; rfl) | (obtain ⟨_, e, _⟩ := h; subst e; rfl) | (obtain ⟨_, _, e, _⟩ := h; subst e; rfl) | (obtain ⟨_, _, _, e, _⟩ := h; subst e; rfl) | (obtain ⟨_, _, _, _, e, _⟩ := h; subst e; rfl) | (obtain ⟨_, _, _, _, _, e, _⟩ := h; subst e; rfl) | (obtain ⟨_, _, _, _, _, _, e, _⟩ := h; subst e; rfl) | (obtain ⟨_, _, _, _, _, _, _, e, _⟩ := h; subst e; rfl) | (obtain ⟨_, _, _, _, _, _, _, _, e, _⟩ := h; subst e; rfl) | (obtain ⟨_, _, _, _, _, _, _, _, _, e, _⟩ := h; subst e; rfl) | (obtain ⟨_, _, _, _, _, _, _, _, _, _, e, _⟩ := h; subst e; rfl) | (obtain ⟨_, _, _, _, _, _, _, _, _, _, _, e, _⟩ := h; subst e; rfl)))
/-- p ≠ q -/
local macro_rules | `(tactic| walk_at "ne1") => `(tactic| (refine ne_new (H := ?H) (o := ?o) ?a ?b; (case b => assumption); (case a => walk_at "hp")))
local macro_rules | `(tactic| walk_at "ne") => `(tactic| first
  | assumption | (apply Ne.symm; assumption) | walk_at "ne1" | (apply Ne.symm; walk_at "ne1") | fail)
/-- H p = some o -/
local macro_rules | `(tactic| walk_at "hp") => `(tactic| first
  | assumption
  | exact upd_same
  | (refine (upd_ne ?n).trans ?h; (case n => walk_at "ne"); (case h => walk_at "hp"))
  | (refine Same.get (H := ?H) ?s ?h; (case s => assumption); (case h => assumption)) | fail)
local macro_rules | `(tactic| walk_at "sq") => `(tactic| first
  | assumption
  | exact SqL.of (by walk_at "hp") | exact SqT.of (by walk_at "hp")
  | (refine Same.seq (H := ?H) ?s ?h; (case h => assumption); (case s => walk_at "same"))
  | (refine same_read (H := ?H) ?s ?h; (case h => assumption); (case s => walk_at "same")) | fail)
/-- a later new object was free ahead -/
local macro_rules | `(tactic| walk_at "fr") => `(tactic| first | assumption | (refine New.of (H' := ?H) ?n ?s; (case n => assumption); (case s => walk_at "same")) | fail)
/-- what was tracked stays -/
local macro_rules | `(tactic| walk_at "same") => `(tactic| first | assumption | exact Same.refl _ | (refine Same.new ?_ (by assumption); walk_at "same") | (refine Same.mut ?s ?n; (case n => walk_at "fr"); (case s => walk_at "same")) | (refine Same.trans (H1 := ?H1) ?a ?b; (case b => assumption); (case a => walk_at "same")) | fail)
local macro_rules | `(tactic| walk_at "side") => `(tactic| first | decide | omega | (with_reducible assumption) | fail)
local macro_rules | `(tactic| walk_at "at") => `(tactic| first | rfl | assumption | exact atI_nat (by assumption) | fail)
local macro_rules | `(tactic| walk_at "ll") => `(tactic| first | omega | (simp only [List.length_append, List.length_cons, List.length_nil, List.length_map, List.length_range, List.length_set, List.length_replicate]; omega) | (simp only [List.length_append, List.length_cons, List.length_nil, List.length_map, List.length_range, List.length_set, List.length_replicate] at *; omega) | (simp; done) | (simp; omega) | fail)
local macro_rules | `(tactic| walk_at "ix") => `(tactic| first | assumption | (refine ixN_nat ?_; walk_at "ll") | rfl | fail)
local macro_rules | `(tactic| walk_at "szlt") => `(tactic| first | assumption | (refine szlt ?_; walk_at "ll") | fail)
local macro_rules | `(tactic| walk_at "szk") => `(tactic| first | assumption | (refine szlt ?_; omega) | fail)
/-- one step -/
local macro_rules | `(tactic| walk_at "st") => `(tactic| first
  | with_reducible refine w_iT ?_
  | with_reducible refine w_iF ?_
  | with_reducible refine w_iNT ?_
  | with_reducible refine w_iNF ?_
  | with_reducible refine w_iNN ?_
  | with_reducible refine w_seq ?_
  | with_reducible refine w_asg ?_
  | with_reducible refine w_gn ?_
  | with_reducible refine w_c ?_
  | with_reducible refine w_op ?_
  | with_reducible refine w_ret ?_
  | with_reducible refine w_if ?_
  | with_reducible refine w_test ?_
  | with_reducible refine w_rI0 ?_
  | with_reducible refine w_cons ?_
  | with_reducible refine w_nil ?_
  | with_reducible refine w_call ?_
  | with_reducible refine w_cb ?_
  | with_reducible refine w_drop ?_
  | with_reducible refine w_next ?_
  | with_reducible refine w_eqI ?_
  | with_reducible refine w_neI ?_
  | ((with_reducible refine w_var ?_); refine ⟨_, rfl, ?_⟩)
  | ((with_reducible refine w_aug ?_); refine ⟨_, rfl, ?_⟩)
  | with_reducible refine w_eqB ?_
  | with_reducible refine w_neB ?_
  | with_reducible refine w_tB ?_
  | with_reducible refine w_bl ?_
  | with_reducible refine w_and ?_
  | with_reducible refine w_or ?_
  | with_reducible refine w_not ?_
  | with_reducible refine w_andV ?_
  | with_reducible refine w_orV ?_
  | with_reducible refine w_notV ?_
  | with_reducible refine w_ifE ?_
  | with_reducible refine w_un ?_
  | with_reducible refine w_rU ?_
  | with_reducible refine w_ip ?_
  | with_reducible refine w_gc ?_
  | with_reducible refine w_g0 ?_
  | with_reducible refine w_gs ?_
  | with_reducible refine w_tup ?_
  | with_reducible refine w_lst ?_
  | with_reducible refine w_sl ?_
  | with_reducible refine w_np ?_
  | with_reducible refine w_part ?_
  | with_reducible refine w_partI ?_
  | with_reducible refine w_bm ?_
  | with_reducible refine w_bm0 ?_
  | with_reducible refine w_for ?_
  | with_reducible refine w_lc ?_
  | with_reducible refine w_yes ?_
  | with_reducible refine w_make ?_
  | with_reducible refine w_meth ?_
  | with_reducible refine w_sf ?_
  | with_reducible refine w_r3 ?_
  | with_reducible refine w_din ?_
  | with_reducible refine w_dni ?_
  | with_reducible refine w_dg ?_
  | with_reducible refine w_put ?_
  | with_reducible refine w_dn ?_
  | with_reducible refine w_enum ?_
  | with_reducible refine w_iL ?_
  | with_reducible refine w_iTu ?_
  | with_reducible refine w_r1 ?_
  | with_reducible refine w_r2 ?_
  | with_reducible refine w_int1 ?_
  | with_reducible refine w_intb ?_
  | with_reducible refine w_fl ?_
  | with_reducible refine w_retN ?_
  | with_reducible refine w_break ?_
  | with_reducible refine w_cont ?_
  | with_reducible refine w_par ?_
  | with_reducible refine w_par2 ?_
  | with_reducible refine w_eqS ?_
  | with_reducible refine w_neS ?_
  | with_reducible refine w_eqNI ?_
  | with_reducible refine w_eqIN ?_
  | with_reducible refine w_callS ?_
  | with_reducible refine w_ost ?_
  | with_reducible refine w_xf ?_
  | with_reducible refine w_mko ?_
  | ((with_reducible refine w_mod ?s0 ?_); (case s0 => walk_at "side"))
  | ((with_reducible refine w_div ?s0 ?s1 ?_); (case s0 => walk_at "side"); (case s1 => walk_at "side"))
  | ((with_reducible refine w_shr ?s0 ?_); (case s0 => walk_at "side"))
  | ((with_reducible refine w_shl1 ?s0 ?s1 ?_); (case s0 => walk_at "side"); (case s1 => walk_at "side"))
  | ((with_reducible refine w_mul ?s0 ?s1 ?s2 ?s3 ?_); (case s0 => walk_at "side"); (case s1 => walk_at "side"); (case s2 => walk_at "side"); (case s3 => walk_at "side"))
  | ((with_reducible refine w_shl ?s0 ?s1 ?s2 ?s3 ?_); (case s0 => walk_at "side"); (case s1 => walk_at "side"); (case s2 => walk_at "side"); (case s3 => walk_at "side"))
  | ((with_reducible refine w_r1q ?s0 ?s1 ?_); (case s0 => walk_at "side"); (case s1 => walk_at "side"))
  | ((with_reducible refine w_r2q ?s0 ?s1 ?s2 ?s3 ?_); (case s0 => walk_at "side"); (case s1 => walk_at "side"); (case s2 => walk_at "side"); (case s3 => walk_at "side"))
  | ((with_reducible refine w_ixL (xs := ?xs) (v := ?v) ?s0 ?s1 ?_); (case s0 => walk_at "sq"); (case s1 => walk_at "at"))
  | ((with_reducible refine w_ixT (xs := ?xs) (v := ?v) ?s0 ?s1 ?_); (case s0 => walk_at "sq"); (case s1 => walk_at "at"))
  | ((with_reducible refine w_ixl (xs := ?xs) (v := ?v) ?s0 ?s1 ?_); (case s0 => walk_at "sq"); (case s1 => walk_at "at"))
  | ((with_reducible refine w_ixt (xs := ?xs) (v := ?v) ?s0 ?s1 ?_); (case s0 => walk_at "sq"); (case s1 => walk_at "at"))
  | ((with_reducible refine w_lenK (xs := ?xs) ?s0 ?_); (case s0 => walk_at "sq"))
  | ((with_reducible refine w_lenTK (xs := ?xs) ?s0 ?_); (case s0 => walk_at "sq"))
  | ((with_reducible refine w_listK (xs := ?xs) ?s0 ?_); (case s0 => walk_at "sq"))
  | ((with_reducible refine w_len (xs := ?xs) ?s0 ?_); (case s0 => walk_at "sq"))
  | ((with_reducible refine w_lenT (xs := ?xs) ?s0 ?_); (case s0 => walk_at "sq"))
  | ((with_reducible refine w_iLq (xs := ?xs) ?s0 ?_); (case s0 => walk_at "sq"))
  | ((with_reducible refine w_iTq (xs := ?xs) ?s0 ?_); (case s0 => walk_at "sq"))
  | ((with_reducible refine w_tyl (xs := ?xs) ?s0 ?_); (case s0 => walk_at "sq"))
  | ((with_reducible refine w_slL (xs := ?xs) ?s0 ?_); (case s0 => walk_at "sq"))
  | ((with_reducible refine w_gt (xs := ?xs) ?s0 ?s1 ?_); (case s0 => walk_at "sq"); (case s1 => rfl))
  | ((with_reducible refine w_setL (xs := ?xs) (j := ?j) ?s0 ?s1 ?_); (case s0 => walk_at "hp"); (case s1 => walk_at "ix"))
  | ((with_reducible refine w_app (xs := ?xs) ?s0 ?s1 ?_); (case s0 => walk_at "hp"); (case s1 => walk_at "szlt"))
  | ((with_reducible refine w_rev (xs := ?xs) ?s0 ?_); (case s0 => walk_at "hp"))
  | with_reducible refine w_isi kb_ii ?_
  | with_reducible refine w_isi kb_ib ?_
  | with_reducible refine w_isb kb_bb ?_
  | with_reducible refine w_isb kb_bi ?_
  | with_reducible refine w_isn kb_ni ?_
  | with_reducible refine w_isn kb_nb ?_
  | ((with_reducible refine w_isl (xs := ?xs) ?s0 kb_ll ?_); (case s0 => walk_at "hp"))
  | ((with_reducible refine w_isl (xs := ?xs) ?s0 kb_lt ?_); (case s0 => walk_at "hp"))
  | ((with_reducible refine w_ist (xs := ?xs) ?s0 kb_tt ?_); (case s0 => walk_at "hp"))
  | ((with_reducible refine w_ist (xs := ?xs) ?s0 kb_tl ?_); (case s0 => walk_at "hp"))
  | with_reducible refine w_len1 rfl ?_
  | with_reducible refine w_isN ?_
  | with_reducible refine w_2i ?_
  | with_reducible refine w_1i ?_
  | with_reducible refine w_augS ?_
  | ((with_reducible refine w_getL (xs := ?xs) (v := ?v) ?s0 ?s1 ?_); (case s0 => walk_at "sq"); (case s1 => assumption))
  | ((with_reducible refine w_wipe ?s0 ?_); (case s0 => rfl))
  | ((with_reducible refine w_inI (kvs := ?kvs) ?s0 ?_); (case s0 => walk_at "hp"))
  | ((with_reducible refine w_putI (kvs := ?kvs) ?s0 ?s1 ?_); (case s0 => walk_at "hp"); (case s1 => walk_at "szk"))
  | ((with_reducible refine w_ins (xs := ?xs) ?s0 ?s1 ?s2 ?s3 ?_); (case s0 => walk_at "hp"); (case s1 => walk_at "szlt"); (case s2 => walk_at "side"); (case s3 => walk_at "side"))
  | ((with_reducible refine w_pow ?s0 ?_); (case s0 => exact ⟨by decide, by decide, by decide⟩))
  | ((with_reducible refine ifd (fun h => ?c) (fun _ => ?_)); (case c => exfalso; omega))
  | ((with_reducible refine ifd (fun _ => ?_) (fun h => ?c)); (case c => exfalso; omega))
  | ((with_reducible refine ifnd (fun h => ?c) (fun _ => ?_)); (case c => exfalso; omega))
  | ((with_reducible refine ifnd (fun _ => ?_) (fun h => ?c)); (case c => exfalso; omega))
  | fail)
local macro_rules | `(tactic| walk_at "sts") => `(tactic| repeat (walk_at "st"))

def topS (i : Nat) : Stmt := PySem.Challenge.pw_spinfloor_k03_ties_made.main.body.getD i (.Pass ⟨0, 0, 0, 0⟩)
abbrev s_Tie___init__ : Stmt := inClass (topS 5) 0
theorem sc_Tie___init__ : FnScope ["self", "one", "two", "strength"] ["self", "one", "two", "strength"] (defScope s_Tie___init__) := ⟨rfl, rfl, rfl, by decide +kernel, rfl, by decide +kernel, by decide +kernel⟩
abbrev s_Pull_wish : Stmt := inClass (topS 6) 0
theorem sc_Pull_wish : FnScope ["self"] ["self"] (defScope s_Pull_wish) := ⟨rfl, rfl, rfl, by decide +kernel, rfl, by decide +kernel, by decide +kernel⟩
abbrev s_Push_wish : Stmt := inClass (topS 7) 0
theorem sc_Push_wish : FnScope ["self"] ["self"] (defScope s_Push_wish) := ⟨rfl, rfl, rfl, by decide +kernel, rfl, by decide +kernel, by decide +kernel⟩
abbrev s_Tie_signed : Stmt := inClass (topS 5) 2
theorem sc_Tie_signed : FnScope ["self"] ["self"] (defScope s_Tie_signed) := ⟨rfl, rfl, rfl, by decide +kernel, rfl, by decide +kernel, by decide +kernel⟩
abbrev s_tie_of : Stmt := topS 8
theorem sc_tie_of : FnScope ["one", "two", "signed"] ["one", "two", "signed"] (defScope s_tie_of) := ⟨rfl, rfl, rfl, by decide +kernel, rfl, by decide +kernel, by decide +kernel⟩
abbrev s_law_whole : Stmt := topS 10
theorem sc_law_whole : FnScope ["found"] ["found"] (defScope s_law_whole) := ⟨rfl, rfl, rfl, by decide +kernel, rfl, by decide +kernel, by decide +kernel⟩
abbrev s_law_cell_at : Stmt := topS 11
theorem sc_law_cell_at : FnScope ["script", "k"] ["script", "k"] (defScope s_law_cell_at) := ⟨rfl, rfl, rfl, by decide +kernel, rfl, by decide +kernel, by decide +kernel⟩
abbrev s_law_made : Stmt := topS 12
theorem sc_law_made : FnScope ["way", "one", "two", "strength"] ["way", "one", "two", "strength"] (defScope s_law_made) := ⟨rfl, rfl, rfl, by decide +kernel, rfl, by decide +kernel, by decide +kernel⟩
abbrev s_law_refused : Stmt := topS 13
theorem sc_law_refused : FnScope ["way", "one", "two", "strength", "found", "e"] ["way", "one", "two", "strength"] (defScope s_law_refused) := ⟨rfl, rfl, rfl, by decide +kernel, rfl, by decide +kernel, by decide +kernel⟩
abbrev s_law_as_told : Stmt := topS 14
theorem sc_law_as_told : FnScope ["tie", "row", "told"] ["tie", "row"] (defScope s_law_as_told) := ⟨rfl, rfl, rfl, by decide +kernel, rfl, by decide +kernel, by decide +kernel⟩
abbrev s_law : Stmt := topS 15
theorem sc_law : FnScope ["script", "kept", "k", "way", "one", "two", "strength", "told", "tie", "row"] ["script"] (defScope s_law) := ⟨rfl, rfl, rfl, by decide +kernel, rfl, by decide +kernel, by decide +kernel⟩
structure Bl (mg : Str → Option Value) : Prop where
  isinstance : mg "isinstance" = none
  int : mg "int" = none
  bool : mg "bool" = none
  len : mg "len" = none
  range : mg "range" = none
structure Txt (K : PySem.W.Frag) (mg : Str → Option Value) (C_Pull C_Push C_Tie C_BadTie C_FloorError : Addr) : Prop where
  g_Pull : mg "Pull" = some (.ref C_Pull)
  g_Push : mg "Push" = some (.ref C_Push)
  g_Tie : mg "Tie" = some (.ref C_Tie)
  g_BadTie : mg "BadTie" = some (.ref C_BadTie)
  g_FloorError : mg "FloorError" = some (.ref C_FloorError)
  cl_Pull : Cls K C_Pull
  mk_Pull : PySem.W.makesIn K C_Pull = true
  kp_Pull : PySem.W.keepIn K (.ref C_Pull) = true
  n_Pull_one : NoAttr K C_Pull "one"
  n_Pull_two : NoAttr K C_Pull "two"
  n_Pull_strength : NoAttr K C_Pull "strength"
  cl_Push : Cls K C_Push
  mk_Push : PySem.W.makesIn K C_Push = true
  kp_Push : PySem.W.keepIn K (.ref C_Push) = true
  n_Push_one : NoAttr K C_Push "one"
  n_Push_two : NoAttr K C_Push "two"
  n_Push_strength : NoAttr K C_Push "strength"
  og : PySem.W.specialIn K (.builtin "object.__class__") "__get__" = some (some (.builtin "getset_descriptor.__get__"))
  ot : PySem.W.takesIn K (.builtin "object.__class__") = some true
  kp_BadTie : PySem.W.keepIn K (.ref C_BadTie) = true
  be_BadTie : PySem.W.subIn K (.ref C_BadTie) (.type "BaseException") = some true
  ty_BadTie : PySem.W.typeIn K (.ref C_BadTie) = some (.type "type")
  cl_BadTie : PySem.W.isClsIn K C_BadTie = true
  hd_BadTie : PySem.W.hasDictIn K C_BadTie = true
  ga_BadTie : PySem.W.findIn K (.ref C_BadTie) "__getattribute__" = some (some (.builtin "BaseException.__getattribute__"))
  gg_BadTie : PySem.W.findIn K (.ref C_BadTie) "__getattr__" = some none
  oc_BadTie : PySem.W.findIn K (.ref C_BadTie) "__class__" = some (some (.builtin "object.__class__"))
  om_BadTie : PySem.W.mroIn K C_BadTie (.type "object") = some true
  sv_BadTie : PySem.W.subIn K (.ref C_BadTie) (.type "ValueError") = some true
  sb_BadTie_BadTie : PySem.W.subIn K (.ref C_BadTie) (.ref C_BadTie) = some true
  kp_FloorError : PySem.W.keepIn K (.ref C_FloorError) = true
  be_FloorError : PySem.W.subIn K (.ref C_FloorError) (.type "BaseException") = some true
  ty_FloorError : PySem.W.typeIn K (.ref C_FloorError) = some (.type "type")
  cl_FloorError : PySem.W.isClsIn K C_FloorError = true
  hd_FloorError : PySem.W.hasDictIn K C_FloorError = true
  ga_FloorError : PySem.W.findIn K (.ref C_FloorError) "__getattribute__" = some (some (.builtin "BaseException.__getattribute__"))
  gg_FloorError : PySem.W.findIn K (.ref C_FloorError) "__getattr__" = some none
  oc_FloorError : PySem.W.findIn K (.ref C_FloorError) "__class__" = some (some (.builtin "object.__class__"))
  om_FloorError : PySem.W.mroIn K C_FloorError (.type "object") = some true
  sv_FloorError : PySem.W.subIn K (.ref C_FloorError) (.type "ValueError") = some true
  sb_FloorError_FloorError : PySem.W.subIn K (.ref C_FloorError) (.ref C_FloorError) = some true
  xn_BadTie : PySem.W.excIn K C_BadTie [.type "ValueError", .type "Exception", .type "BaseException", .type "object"] "ValueError.__new__" = true
  sb_BadTie_FloorError : PySem.W.subIn K (.ref C_BadTie) (.ref C_FloorError) = some true
  oc_Pull : PySem.W.findIn K (.ref C_Pull) "__class__" = some (some (.builtin "object.__class__"))
  om_Pull : PySem.W.mroIn K C_Pull (.type "object") = some true
  oc_Push : PySem.W.findIn K (.ref C_Push) "__class__" = some (some (.builtin "object.__class__"))
  om_Push : PySem.W.mroIn K C_Push (.type "object") = some true
  ci_Tie : PySem.W.isClsIn K C_Tie = true
  ty_Tie : PySem.W.typeIn K (.ref C_Tie) = some (.type "type")
  sb_Pull_Tie : PySem.W.subIn K (.ref C_Pull) (.ref C_Tie) = some true
  sb_Pull_Pull : PySem.W.subIn K (.ref C_Pull) (.ref C_Pull) = some true
  sb_Push_Tie : PySem.W.subIn K (.ref C_Push) (.ref C_Tie) = some true
  sb_Push_Push : PySem.W.subIn K (.ref C_Push) (.ref C_Push) = some true
  ci_Pull : PySem.W.isClsIn K C_Pull = true
  ty_Pull : PySem.W.typeIn K (.ref C_Pull) = some (.type "type")
  ci_Push : PySem.W.isClsIn K C_Push = true
  ty_Push : PySem.W.typeIn K (.ref C_Push) = some (.type "type")
  sb_Pull_Push : PySem.W.subIn K (.ref C_Pull) (.ref C_Push) = some false
  sb_Push_Pull : PySem.W.subIn K (.ref C_Push) (.ref C_Pull) = some false
theorem Txt.xf_BadTie {K : PySem.W.Frag} {mg : Str → Option Value} {C_Pull C_Push C_Tie C_BadTie C_FloorError : Addr} (T : Txt K mg C_Pull C_Push C_Tie C_BadTie C_FloorError) : ExF K C_BadTie := ⟨T.kp_BadTie, T.be_BadTie, T.ty_BadTie, T.cl_BadTie, T.hd_BadTie, T.ga_BadTie, T.gg_BadTie, T.oc_BadTie, T.om_BadTie, T.sv_BadTie, T.sb_BadTie_BadTie, T.og, T.ot⟩
theorem Txt.xf_FloorError {K : PySem.W.Frag} {mg : Str → Option Value} {C_Pull C_Push C_Tie C_BadTie C_FloorError : Addr} (T : Txt K mg C_Pull C_Push C_Tie C_BadTie C_FloorError) : ExF K C_FloorError := ⟨T.kp_FloorError, T.be_FloorError, T.ty_FloorError, T.cl_FloorError, T.hd_FloorError, T.ga_FloorError, T.gg_FloorError, T.oc_FloorError, T.om_FloorError, T.sv_FloorError, T.sb_FloorError_FloorError, T.og, T.ot⟩
theorem Txt.ki_Pull_Tie {K : PySem.W.Frag} {mg : Str → Option Value} {C_Pull C_Push C_Tie C_BadTie C_FloorError : Addr} (T : Txt K mg C_Pull C_Push C_Tie C_BadTie C_FloorError) : PySem.W.kitOne K (.ref C_Pull) (.ref C_Tie) = some true := kit_own T.ci_Tie T.ty_Tie T.sb_Pull_Tie T.sb_Pull_Pull
theorem Txt.ki_Push_Tie {K : PySem.W.Frag} {mg : Str → Option Value} {C_Pull C_Push C_Tie C_BadTie C_FloorError : Addr} (T : Txt K mg C_Pull C_Push C_Tie C_BadTie C_FloorError) : PySem.W.kitOne K (.ref C_Push) (.ref C_Tie) = some true := kit_own T.ci_Tie T.ty_Tie T.sb_Push_Tie T.sb_Push_Push
theorem Txt.ki_Pull_Pull {K : PySem.W.Frag} {mg : Str → Option Value} {C_Pull C_Push C_Tie C_BadTie C_FloorError : Addr} (T : Txt K mg C_Pull C_Push C_Tie C_BadTie C_FloorError) : PySem.W.kitOne K (.ref C_Pull) (.ref C_Pull) = some true := kit_own T.ci_Pull T.ty_Pull T.sb_Pull_Pull T.sb_Pull_Pull
theorem Txt.ki_Push_Push {K : PySem.W.Frag} {mg : Str → Option Value} {C_Pull C_Push C_Tie C_BadTie C_FloorError : Addr} (T : Txt K mg C_Pull C_Push C_Tie C_BadTie C_FloorError) : PySem.W.kitOne K (.ref C_Push) (.ref C_Push) = some true := kit_own T.ci_Push T.ty_Push T.sb_Push_Push T.sb_Push_Push
theorem Txt.ki_Pull_Push {K : PySem.W.Frag} {mg : Str → Option Value} {C_Pull C_Push C_Tie C_BadTie C_FloorError : Addr} (T : Txt K mg C_Pull C_Push C_Tie C_BadTie C_FloorError) : PySem.W.kitOne K (.ref C_Pull) (.ref C_Push) = some false := kit_own T.ci_Push T.ty_Push T.sb_Pull_Push T.sb_Pull_Pull
theorem Txt.ki_Push_Pull {K : PySem.W.Frag} {mg : Str → Option Value} {C_Pull C_Push C_Tie C_BadTie C_FloorError : Addr} (T : Txt K mg C_Pull C_Push C_Tie C_BadTie C_FloorError) : PySem.W.kitOne K (.ref C_Push) (.ref C_Pull) = some false := kit_own T.ci_Pull T.ty_Pull T.sb_Push_Pull T.sb_Push_Push
/-! ### ties -/
structure Ti where
  push : Bool
  one : Nat
  two : Nat
  s : Nat
def tf (a b s : Int) : List (Str × V) := [("one", .int a), ("two", .int b), ("strength", .int s)]
theorem tf_one (a b s : Int) : (tf a b s).lookup ("one" : Str) = some (.int a) := by rfl
theorem tf_two (a b s : Int) : (tf a b s).lookup ("two" : Str) = some (.int b) := by rfl
theorem tf_str (a b s : Int) : (tf a b s).lookup ("strength" : Str) = some (.int s) := by rfl
theorem tf_eq (a b s : Int) : putF "strength" (.int s) (putF "two" (.int b) (putF "one" (.int a) [])) = tf a b s := by rfl
def clsOf (CP CQ : Addr) (push : Bool) : Addr := if push = true then CQ else CP
def TieAt (CP CQ : Addr) (H : Hp) (p : Addr) (t : Ti) : Prop := ∃ dx, H p = some (.ins (clsOf CP CQ t.push) dx (tf t.one t.two t.s))
theorem TieAt.same {CP CQ : Addr} {H H' : Hp} {p : Addr} {t : Ti} (h : TieAt CP CQ H p t) (e : Same H H') : TieAt CP CQ H' p t := by
  obtain ⟨dx, h⟩ := h
  exact ⟨dx, e _ _ h⟩
/-- a list of ties: where each stands -/
def TiesIn (CP CQ : Addr) (H : Hp) (ps : List Addr) (ts : List Ti) : Prop := ps.length = ts.length ∧ ∀ (i : Nat) (p : Addr) (t : Ti), ps[i]? = some p → ts[i]? = some t → TieAt CP CQ H p t
def TiesAt (K : PySem.W.Frag) (CP CQ : Addr) (H : Hp) (a : Addr) (ts : List Ti) : Prop := ∃ ps : List Addr, SqL K H a (ps.map V.ref) ∧ TiesIn CP CQ H ps ts
theorem TiesIn.same {CP CQ : Addr} {H H' : Hp} {ps : List Addr} {ts : List Ti} (h : TiesIn CP CQ H ps ts) (e : Same H H') : TiesIn CP CQ H' ps ts := ⟨h.1, fun i p t a b => (h.2 i p t a b).same e⟩
theorem TiesAt.same {K : PySem.W.Frag} {CP CQ : Addr} {H H' : Hp} {a : Addr} {ts : List Ti} (h : TiesAt K CP CQ H a ts) (e : Same H H') : TiesAt K CP CQ H' a ts := by
  obtain ⟨ps, h1, h2⟩ := h
  exact ⟨ps, e.seq h1, h2.same e⟩
theorem TiesIn.nil {CP CQ : Addr} {H : Hp} : TiesIn CP CQ H [] [] := ⟨rfl, fun i p t a _ => by simp at a⟩
theorem TieAt.ins {CP CQ : Addr} {H : Hp} {p D : Addr} {t : Ti} {xs ys : List V} (h : TieAt CP CQ H p t) (hD : H D = some (.lst xs)) : TieAt CP CQ (upd H D (.lst ys)) p t := by
  obtain ⟨dx, h⟩ := h
  exact ⟨dx, by rw [upd_ne (ne_of h hD (by intro z; cases z))]; exact h⟩
theorem TiesIn.lst {CP CQ : Addr} {H : Hp} {D : Addr} {ps : List Addr} {ts : List Ti} {xs ys : List V} (h : TiesIn CP CQ H ps ts) (hD : H D = some (.lst xs)) : TiesIn CP CQ (upd H D (.lst ys)) ps ts :=
  ⟨h.1, fun i p t a b => (h.2 i p t a b).ins hD⟩
theorem TiesIn.push {CP CQ : Addr} {H : Hp} {p : Addr} {t : Ti} {ps : List Addr} {ts : List Ti} (h : TiesIn CP CQ H ps ts) (hp : TieAt CP CQ H p t) : TiesIn CP CQ H (ps ++ [p]) (ts ++ [t]) := by
  refine ⟨by simp [h.1], fun i p' t' a b => ?_⟩
  have hl := h.1
  by_cases e : i < ps.length
  · rw [List.getElem?_append_left e] at a
    rw [List.getElem?_append_left (by omega)] at b
    exact h.2 i p' t' a b
  · have e2 : i = ps.length := by
      have := (List.getElem?_eq_some_iff.mp a).1
      simp at this
      omega
    subst e2
    rw [List.getElem?_append_right (Nat.le_refl _), Nat.sub_self] at a
    rw [List.getElem?_append_right (by omega), hl, Nat.sub_self] at b
    simp at a b
    subst a b
    exact hp
theorem TiesIn.get {CP CQ : Addr} {H : Hp} {ps : List Addr} {ts : List Ti} (h : TiesIn CP CQ H ps ts) {i : Nat} {t : Ti} (e : ts[i]? = some t) : ∃ p, (ps.map V.ref)[i]? = some (.ref p) ∧ TieAt CP CQ H p t := by
  have hi : i < ps.length := by have := (List.getElem?_eq_some_iff.mp e).1; rw [h.1]; exact this
  exact ⟨ps[i], by rw [List.getElem?_map, List.getElem?_eq_getElem hi]; rfl, h.2 i _ _ (List.getElem?_eq_getElem hi) e⟩
theorem made_same {H : Hp} {x dx C : Addr} {fs : List (Str × V)} (h1 : New H x) (h2 : New H dx) (h3 : dx ≠ x) : Same H (upd (upd H dx (.own x)) x (.ins C dx fs)) :=
  ((Same.refl H).new h2).new (show upd H dx (.own x) x = none by rw [upd_ne (Ne.symm h3)]; exact h1)
section
variable {P : Program} {w : World} {K : PySem.W.Frag} {mg : Str → Option Value} {base : Heap} {C_Pull C_Push C_Tie C_BadTie C_FloorError : Addr}
structure TieCls (K : PySem.W.Frag) (CP CQ : Addr) : Prop where
  cp : Cls K CP
  cq : Cls K CQ
  p1 : NoAttr K CP "one"
  p2 : NoAttr K CP "two"
  p3 : NoAttr K CP "strength"
  q1 : NoAttr K CQ "one"
  q2 : NoAttr K CQ "two"
  q3 : NoAttr K CQ "strength"
theorem TieCls.cl (T : TieCls K C_Pull C_Push) (push : Bool) : Cls K (clsOf C_Pull C_Push push) := by cases push; exact T.cp; exact T.cq
theorem TieCls.n1 (T : TieCls K C_Pull C_Push) (push : Bool) : NoAttr K (clsOf C_Pull C_Push push) "one" := by cases push; exact T.p1; exact T.q1
theorem TieCls.n2 (T : TieCls K C_Pull C_Push) (push : Bool) : NoAttr K (clsOf C_Pull C_Push push) "two" := by cases push; exact T.p2; exact T.q2
theorem TieCls.n3 (T : TieCls K C_Pull C_Push) (push : Bool) : NoAttr K (clsOf C_Pull C_Push push) "strength" := by cases push; exact T.p3; exact T.q3
theorem Txt.tie {C_Pull C_Push C_Tie C_BadTie C_FloorError : Addr} (T : Txt K mg C_Pull C_Push C_Tie C_BadTie C_FloorError) : TieCls K C_Pull C_Push := ⟨T.cl_Pull, T.cl_Push, T.n_Pull_one, T.n_Pull_two, T.n_Pull_strength, T.n_Push_one, T.n_Push_two, T.n_Push_strength⟩
theorem w_t1 {H : Hp} {p : Addr} {t : Ti} {R : V → Prop} (T : TieCls K C_Pull C_Push) (hp : TieAt C_Pull C_Push H p t) (h : R (.int (t.one : Nat))) : ∃ a C' dx' fs' v', V.ref p = .ref a ∧ H a = some (.ins C' dx' fs') ∧ Cls K C' ∧ NoAttr K C' "one" ∧ fs'.lookup ("one" : Str) = some v' ∧ R v' := by
  obtain ⟨dx, e⟩ := hp
  exact ⟨p, _, dx, _, _, rfl, e, T.cl _, T.n1 _, tf_one _ _ _, h⟩
theorem w_t2 {H : Hp} {p : Addr} {t : Ti} {R : V → Prop} (T : TieCls K C_Pull C_Push) (hp : TieAt C_Pull C_Push H p t) (h : R (.int (t.two : Nat))) : ∃ a C' dx' fs' v', V.ref p = .ref a ∧ H a = some (.ins C' dx' fs') ∧ Cls K C' ∧ NoAttr K C' "two" ∧ fs'.lookup ("two" : Str) = some v' ∧ R v' := by
  obtain ⟨dx, e⟩ := hp
  exact ⟨p, _, dx, _, _, rfl, e, T.cl _, T.n2 _, tf_two _ _ _, h⟩
theorem w_t3 {H : Hp} {p : Addr} {t : Ti} {R : V → Prop} (T : TieCls K C_Pull C_Push) (hp : TieAt C_Pull C_Push H p t) (h : R (.int (t.s : Nat))) : ∃ a C' dx' fs' v', V.ref p = .ref a ∧ H a = some (.ins C' dx' fs') ∧ Cls K C' ∧ NoAttr K C' "strength" ∧ fs'.lookup ("strength" : Str) = some v' ∧ R v' := by
  obtain ⟨dx, e⟩ := hp
  exact ⟨p, _, dx, _, _, rfl, e, T.cl _, T.n3 _, tf_str _ _ _, h⟩
end

section
variable {P : Program} {w : World} {K : PySem.W.Frag} {mg : Str → Option Value} {base : Heap} {C_Pull C_Push C_Tie C_BadTie C_FloorError : Addr}
theorem tf_no (a b s : Int) {m : Str} (h1 : ¬ m = "one") (h2 : ¬ m = "two") (h3 : ¬ m = "strength") : (tf a b s).lookup m = none := by
  unfold tf
  simp [List.lookup, h1, h2, h3, beq_eq_false_iff_ne.mpr]
/-- a method of either kind, called -/
theorem w_mt {σ : L2.St} {H : Hp} {Q : VK} {ta : TE} {tl : TA} {m : Str} {sp : Sp} {p : Addr} {t : Ti} (h1 : ¬ m = "one") (h2 : ¬ m = "two") (h3 : ¬ m = "strength")
    (ha : ∀ R : VK, R (.ref p) H → ta σ H R) (ht : TieAt C_Pull C_Push H p t) (h : tl σ H fun vs H2 => sp (.ref p :: vs) H2 Q E0) : tMeth C_Pull m sp [] E0 ta tl σ H Q ∨ tMeth C_Push m sp [] E0 ta tl σ H Q := by
  obtain ⟨dx, e⟩ := ht
  cases hp : t.push with
  | true =>
    rw [hp] at e
    exact .inr (w_meth (ha _ (w_methq e (tf_no _ _ _ h1 h2 h3) h)))
  | false =>
    rw [hp] at e
    exact .inl (w_meth (ha _ (w_methq e (tf_no _ _ _ h1 h2 h3) h)))
theorem w_mt2 {σ : L2.St} {H : Hp} {Q : VK} {ta : TE} {tl : TA} {m : Str} {sp sq : Sp} {p : Addr} {t : Ti} (h1 : ¬ m = "one") (h2 : ¬ m = "two") (h3 : ¬ m = "strength")
    (ha : ∀ R : VK, R (.ref p) H → ta σ H R) (ht : TieAt C_Pull C_Push H p t) (hp : t.push = false → tl σ H fun vs H2 => sp (.ref p :: vs) H2 Q E0) (hq : t.push = true → tl σ H fun vs H2 => sq (.ref p :: vs) H2 Q E0) : tMeth C_Pull m sp [] E0 ta tl σ H Q ∨ tMeth C_Push m sq [] E0 ta tl σ H Q := by
  obtain ⟨dx, e⟩ := ht
  cases hb : t.push with
  | true =>
    rw [hb] at e
    exact .inr (w_meth (ha _ (w_methq e (tf_no _ _ _ h1 h2 h3) (hq hb))))
  | false =>
    rw [hb] at e
    exact .inl (w_meth (ha _ (w_methq e (tf_no _ _ _ h1 h2 h3) (hp hb))))
def wishOf (t : Ti) : Int := if t.push = true then 1 else 0
def spWish (CP CQ : Addr) (b : Bool) : Sp := fun vs H Q _ => ∃ (p : Addr) (t : Ti), vs = [.ref p] ∧ t.push = b ∧ TieAt CP CQ H p t ∧ Q (.int (wishOf t)) H
theorem ok_Pull_wish {f : Addr} {fd : FuncData} (F : Fun K "wish" "Pull.wish" s_Pull_wish f fd) (B : Bl mg) {C_Pull C_Push C_Tie C_BadTie C_FloorError : Addr} (T : Txt K mg C_Pull C_Push C_Tie C_BadTie C_FloorError) : HasFn P w K mg base CX0 1 f ["self"] (spWish C_Pull C_Push false) := by
  refine HasFn.mk' F (F.binds (ps := ["self"]) fun _ _ _ _ _ _ us hl => match us, hl with | [_], _ => rfl) sc_Pull_wish (by walk_at "len") (fun cdv A outer s H vs Q E hr h => ?_)
  obtain ⟨p, t, rfl, hp, ht, q⟩ := h
  refine ⟨_, (pss_one (ps_ret pe_int)), ?_⟩
  walk_at "sts"
  unfold wishOf at q
  rw [hp] at q
  exact q
theorem ok_Push_wish {f : Addr} {fd : FuncData} (F : Fun K "wish" "Push.wish" s_Push_wish f fd) (B : Bl mg) {C_Pull C_Push C_Tie C_BadTie C_FloorError : Addr} (T : Txt K mg C_Pull C_Push C_Tie C_BadTie C_FloorError) : HasFn P w K mg base CX0 1 f ["self"] (spWish C_Pull C_Push true) := by
  refine HasFn.mk' F (F.binds (ps := ["self"]) fun _ _ _ _ _ _ us hl => match us, hl with | [_], _ => rfl) sc_Push_wish (by walk_at "len") (fun cdv A outer s H vs Q E hr h => ?_)
  obtain ⟨p, t, rfl, hp, ht, q⟩ := h
  refine ⟨_, (pss_one (ps_ret pe_int)), ?_⟩
  walk_at "sts"
  unfold wishOf at q
  rw [hp] at q
  exact q
end

theorem Txt.iso {K : PySem.W.Frag} {mg : Str → Option Value} {C_Pull C_Push C_Tie C_BadTie C_FloorError : Addr} (T : Txt K mg C_Pull C_Push C_Tie C_BadTie C_FloorError) (push : Bool) : IsoK K (clsOf C_Pull C_Push push) := by
  cases push
  · exact ⟨T.cl_Pull, T.oc_Pull, T.og, T.ot, T.om_Pull⟩
  · exact ⟨T.cl_Push, T.oc_Push, T.og, T.ot, T.om_Push⟩
theorem Txt.isTie {K : PySem.W.Frag} {mg : Str → Option Value} {C_Pull C_Push C_Tie C_BadTie C_FloorError : Addr} (T : Txt K mg C_Pull C_Push C_Tie C_BadTie C_FloorError) (push : Bool) : PySem.W.kitOne K (.ref (clsOf C_Pull C_Push push)) (.ref C_Tie) = some true := by
  cases push
  · exact T.ki_Pull_Tie
  · exact T.ki_Push_Tie
theorem Txt.isPull {K : PySem.W.Frag} {mg : Str → Option Value} {C_Pull C_Push C_Tie C_BadTie C_FloorError : Addr} (T : Txt K mg C_Pull C_Push C_Tie C_BadTie C_FloorError) (push : Bool) : PySem.W.kitOne K (.ref (clsOf C_Pull C_Push push)) (.ref C_Pull) = some (!push) := by
  cases push
  · exact T.ki_Pull_Pull
  · exact T.ki_Push_Pull
theorem Txt.isPush {K : PySem.W.Frag} {mg : Str → Option Value} {C_Pull C_Push C_Tie C_BadTie C_FloorError : Addr} (T : Txt K mg C_Pull C_Push C_Tie C_BadTie C_FloorError) (push : Bool) : PySem.W.kitOne K (.ref (clsOf C_Pull C_Push push)) (.ref C_Push) = some push := by
  cases push
  · exact T.ki_Pull_Push
  · exact T.ki_Push_Push
section
variable {P : Program} {w : World} {K : PySem.W.Frag} {mg : Str → Option Value} {base : Heap} {C_Pull C_Push C_Tie C_BadTie C_FloorError : Addr}
def BadT (a b s : Int) : Prop := a = b ∨ a < 0 ∨ b < 0 ∨ s < 0
instance (a b s : Int) : Decidable (BadT a b s) := by unfold BadT; exact inferInstance
theorem badT_split {a b s : Int} (h : BadT a b s) : a = b ∨ (a ≠ b ∧ a < 0) ∨ (a ≠ b ∧ 0 ≤ a ∧ b < 0) ∨ (a ≠ b ∧ 0 ≤ a ∧ 0 ≤ b ∧ s < 0) := by unfold BadT at h; omega
theorem badT_not {a b s : Int} (h : ¬ BadT a b s) : a ≠ b ∧ 0 ≤ a ∧ 0 ≤ b ∧ 0 ≤ s := by unfold BadT at h; omega
end
section
variable {P : Program} {w : World} {K : PySem.W.Frag} {mg : Str → Option Value} {base : Heap} {C_Pull C_Push C_Tie C_BadTie C_FloorError : Addr}
def spTInitX (CP CQ CB : Addr) : Sp := fun vs H Q E => ∃ (p dx : Addr) (push : Bool) (a b s : Int), vs = [.ref p, .int a, .int b, .int s] ∧ H p = some (.ins (clsOf CP CQ push) dx []) ∧ (BadT a b s → E (.ref CB) none H) ∧ (¬ BadT a b s → Q .non (upd H p (.ins (clsOf CP CQ push) dx (tf a b s))))
theorem ok_Tie___init__ {f : Addr} {fd : FuncData} (F : Fun K "__init__" "Tie.__init__" s_Tie___init__ f fd) (B : Bl mg) {C_Pull C_Push C_Tie C_BadTie C_FloorError : Addr} (T : Txt K mg C_Pull C_Push C_Tie C_BadTie C_FloorError) : HasFn P w K mg base (L2.CX P w) 1 f ["self", "one", "two", "strength"] (spTInitX C_Pull C_Push C_BadTie) := by
  refine HasFn.mkX F (F.binds (ps := ["self", "one", "two", "strength"]) fun _ _ _ _ _ _ us hl => match us, hl with | [_, _, _, _], _ => rfl) sc_Tie___init__ (by walk_at "len") (fun cdv A outer s H vs Q E hr h => ?_)
  obtain ⟨p, dx, push, a, b, s, rfl, hp, q1, q2⟩ := h
  refine ⟨_, (pss_cons (ps_if (PW.pt (pw_or (pt_cmpR op_eq (pv 1) (pv 2) (nomark _)) (pw_or (pt_cmpR op_lt (pv 1) pe_int (nomark _)) (pw_or (pt_cmpR op_lt (pv 2) pe_int (nomark _)) (pw_or1 (pt_cmpR op_lt (pv 3) pe_int (nomark _))))))) (pss_one (ps_raise rfl (takes_of rfl rfl rfl rfl) (pmk_own PySem.F.excBase_ValueError T.xn_BadTie T.g_BadTie T.xf_BadTie.kp (raises_own T.xf_BadTie.be T.xf_BadTie.ty) (by exact rfl)))) pss_nil)
 (pss_cons (ps_fld (pv 0) (pv 1) rfl)
 (pss_cons (ps_fld (pv 0) (pv 2) rfl)
 (pss_one (ps_fld (pv 0) (pv 3) rfl))))), ?_⟩
  by_cases hb : BadT a b s
  · rcases badT_split hb with h | h | h | h
    all_goals
      walk_at "sts"
      exact q1 hb
  · obtain ⟨h1, h2, h3, h4⟩ := badT_not hb
    walk_at "sts"
    refine w_sfq hp (T.tie.cl _) (T.tie.n1 _) (by show 0 < 1000; decide) ?_
    walk_at "sts"
    refine w_sfq upd_same (T.tie.cl _) (T.tie.n2 _) (by show 1 < 1000; decide) ?_
    walk_at "sts"
    refine w_sfq upd_same (T.tie.cl _) (T.tie.n3 _) (by show 2 < 1000; decide) ?_
    walk_at "sts"
    rw [tf_eq, upd_upd, upd_upd]
    exact q2 hb
def spSigned (CP CQ : Addr) : Sp := fun vs H Q _ => ∃ (p : Addr) (t : Ti), vs = [.ref p] ∧ TieAt CP CQ H p t ∧ Q (.int (if t.push = true then -(t.s : Int) else t.s)) H
theorem ok_Tie_signed {f : Addr} {fd : FuncData} (F : Fun K "signed" "Tie.signed" s_Tie_signed f fd) (B : Bl mg) {C_Pull C_Push C_Tie C_BadTie C_FloorError : Addr} (T : Txt K mg C_Pull C_Push C_Tie C_BadTie C_FloorError) (h_Pull_wish : HasMeth P w K mg base CX0 1 C_Pull "wish" ["self"] (spWish C_Pull C_Push false)) (h_Push_wish : HasMeth P w K mg base CX0 1 C_Push "wish" ["self"] (spWish C_Pull C_Push true)) : HasFn P w K mg base CX0 2 f ["self"] (spSigned C_Pull C_Push) := by
  refine HasFn.mk' F (F.binds (ps := ["self"]) fun _ _ _ _ _ _ us hl => match us, hl with | [_], _ => rfl) sc_Tie_signed (by walk_at "len") (fun cdv A outer s H vs Q E hr h => ?_)
  obtain ⟨p, t, rfl, ht, q⟩ := h
  refine ⟨_, (pss_cons (ps_if (pt_cmpR op_eq (PE.or (pe_mt0 h_Pull_wish (pv 0) (hr.mono (by decide))) (pe_mt0 h_Push_wish (pv 0) (hr.mono (by decide)))) pe_int (nomark _)) (pss_one (ps_ret (pe_un un_neg (pe_fldK K (pv 0) rfl)))) pss_nil)
 (pss_one (ps_ret (pe_fldK K (pv 0) rfl)))), ?_⟩
  walk_at "sts"
  refine w_mt2 (p := p) (t := t) (by decide +kernel) (by decide +kernel) (by decide +kernel) (fun R h => ⟨_, rfl, h⟩) ht (fun hb => ?_) (fun hb => ?_)
  · walk_at "sts"
    refine ⟨p, t, rfl, hb, ht, ?_⟩
    rw [show wishOf t = (if t.push = true then 1 else 0) from rfl]
    rw [hb] at q ⊢
    walk_at "sts"
    refine ifd (fun h => absurd h (by decide)) (fun _ => ?_)
    walk_at "sts"
    refine w_t3 T.tie ht ?_
    walk_at "sts"
    exact q
  · walk_at "sts"
    refine ⟨p, t, rfl, hb, ht, ?_⟩
    rw [show wishOf t = (if t.push = true then 1 else 0) from rfl]
    rw [hb] at q ⊢
    walk_at "sts"
    refine ifd (fun _ => ?_) (fun h => absurd (show ((if true = true then (1 : Int) else 0) = 1) by decide) h)
    walk_at "sts"
    refine w_t3 T.tie ht ?_
    walk_at "sts"
    exact q
def tieP (push : Bool) (a b z : Int) : Ti := ⟨push, a.toNat, b.toNat, z.toNat⟩
/-- a tie made anew -/
def Fresh (CP CQ CB : Addr) (H : Hp) (bad : Prop) (t : Ti) (Q : VK) (E : XK) : Prop := (bad → ∀ H', Same H H' → E (.ref CB) none H') ∧ (¬ bad → ∀ p H', Same H H' → New H p → TieAt CP CQ H' p t → Q (.ref p) H')
def spTieOfX (CP CQ CB : Addr) : Sp := fun vs H Q E => ∃ (a b z : Int), vs = [.int a, .int b, .int z] ∧ Fresh CP CQ CB H (BadT a b 0) (tieP (decide (z < 0)) a b (z.natAbs : Nat)) Q E
theorem ok_tie_of {f : Addr} {fd : FuncData} (F : Fun K "tie_of" "tie_of" s_tie_of f fd) (gf : mg "tie_of" = some (.ref f)) (B : Bl mg) {C_Pull C_Push C_Tie C_BadTie C_FloorError : Addr} (T : Txt K mg C_Pull C_Push C_Tie C_BadTie C_FloorError) (h_mk_Push : HasMk P w K mg base (L2.CX P w) 1 "Push" C_Push ["self", "one", "two", "strength"] (spTInitX C_Pull C_Push C_BadTie)) (h_mk_Pull : HasMk P w K mg base (L2.CX P w) 1 "Pull" C_Pull ["self", "one", "two", "strength"] (spTInitX C_Pull C_Push C_BadTie)) : Has P w K mg base (L2.CX P w) 3 "tie_of" ["one", "two", "signed"] (spTieOfX C_Pull C_Push C_BadTie) := by
  refine Has.mkX F gf (F.binds (ps := ["one", "two", "signed"]) fun _ _ _ _ _ _ us hl => match us, hl with | [_, _, _], _ => rfl) sc_tie_of (by walk_at "len") (fun cdv A outer s H vs Q E hr h => ?_)
  obtain ⟨a, b, z, rfl, q1, q2⟩ := h
  refine ⟨_, (pss_cons (ps_if (pt_cmpR op_ge (pv 2) pe_int (nomark _)) (pss_one (ps_ret (pe_mkX (takes_of rfl rfl rfl rfl) h_mk_Pull (hr.mono (by decide)) (by rfl) (pa_cons (pv 0) (pa_cons (pv 1) (pa_cons (pv 2) pa_nil)))))) pss_nil)
 (pss_one (ps_ret (pe_mkX (takes_of rfl rfl rfl rfl) h_mk_Push (hr.mono (by decide)) (by rfl) (pa_cons (pv 0) (pa_cons (pv 1) (pa_cons (pe_un un_neg (pv 2)) pa_nil))))))), ?_⟩
  walk_at "sts"
  refine ifd (fun hc => ?_) (fun hc => ?_)
  · walk_at "sts"
    intro x dx nx nd hd
    have hz : decide (z < 0) = false := decide_eq_false (by omega)
    refine ⟨x, dx, false, a, b, z, rfl, upd_same, fun hb => q1 (by unfold BadT at hb ⊢; omega) _ (made_same nx nd hd), fun hb => ⟨rfl, ?_⟩⟩
    obtain ⟨h1, h2, h3, h4⟩ := badT_not hb
    rw [upd_upd]
    refine q2 (by unfold BadT; omega) _ _ (made_same nx nd hd) nx ⟨dx, ?_⟩
    rw [upd_same]
    unfold tieP
    simp only [hz]
    rw [show (((a.toNat : Nat)) : Int) = a by omega, show (((b.toNat : Nat)) : Int) = b by omega, show ((((z.natAbs : Nat) : Int).toNat : Nat) : Int) = z by omega]
  · walk_at "sts"
    intro x dx nx nd hd
    have hz : decide (z < 0) = true := decide_eq_true (by omega)
    refine ⟨x, dx, true, a, b, -z, rfl, upd_same, fun hb => q1 (by unfold BadT at hb ⊢; omega) _ (made_same nx nd hd), fun hb => ⟨rfl, ?_⟩⟩
    obtain ⟨h1, h2, h3, h4⟩ := badT_not hb
    rw [upd_upd]
    refine q2 (by unfold BadT; omega) _ _ (made_same nx nd hd) nx ⟨dx, ?_⟩
    rw [upd_same]
    unfold tieP
    simp only [hz]
    rw [show (((a.toNat : Nat)) : Int) = a by omega, show (((b.toNat : Nat)) : Int) = b by omega, show ((((z.natAbs : Nat) : Int).toNat : Nat) : Int) = -z by omega]
def BadW (way a b z : Int) : Prop := a = b ∨ a < 0 ∨ b < 0 ∨ (way < 2 ∧ z < 0)
def pushW (way z : Int) : Bool := if way = 0 then false else if way = 1 then true else decide (z < 0)
def spMade (CP CQ CB : Addr) : Sp := fun vs H Q E => ∃ (way a b z : Int), vs = [.int way, .int a, .int b, .int z] ∧ 0 ≤ way ∧ Fresh CP CQ CB H (BadW way a b z) (tieP (pushW way z) a b (z.natAbs : Nat)) Q E
theorem ok_law_made {f : Addr} {fd : FuncData} (F : Fun K "_law_made" "_law_made" s_law_made f fd) (gf : mg "_law_made" = some (.ref f)) (B : Bl mg) {C_Pull C_Push C_Tie C_BadTie C_FloorError : Addr} (T : Txt K mg C_Pull C_Push C_Tie C_BadTie C_FloorError) (h_tie_of : Has P w K mg base (L2.CX P w) 3 "tie_of" ["one", "two", "signed"] (spTieOfX C_Pull C_Push C_BadTie)) (h_mk_Pull : HasMk P w K mg base (L2.CX P w) 1 "Pull" C_Pull ["self", "one", "two", "strength"] (spTInitX C_Pull C_Push C_BadTie)) (h_mk_Push : HasMk P w K mg base (L2.CX P w) 1 "Push" C_Push ["self", "one", "two", "strength"] (spTInitX C_Pull C_Push C_BadTie)) : Has P w K mg base (L2.CX P w) 4 "_law_made" ["way", "one", "two", "strength"] (spMade C_Pull C_Push C_BadTie) := by
  refine Has.mkX F gf (F.binds (ps := ["way", "one", "two", "strength"]) fun _ _ _ _ _ _ us hl => match us, hl with | [_, _, _, _], _ => rfl) sc_law_made (by walk_at "len") (fun cdv A outer s H vs Q E hr h => ?_)
  obtain ⟨way, a, b, z, rfl, hw, q1, q2⟩ := h
  refine ⟨_, (pss_cons (ps_if (pt_cmpR op_eq (pv 0) pe_int (nomark _)) (pss_one (ps_ret (pe_mkX (takes_of rfl rfl rfl rfl) h_mk_Pull (hr.mono (by decide)) (by rfl) (pa_cons (pv 1) (pa_cons (pv 2) (pa_cons (pv 3) pa_nil)))))) pss_nil)
 (pss_cons (ps_if (pt_cmpR op_eq (pv 0) pe_int (nomark _)) (pss_one (ps_ret (pe_mkX (takes_of rfl rfl rfl rfl) h_mk_Push (hr.mono (by decide)) (by rfl) (pa_cons (pv 1) (pa_cons (pv 2) (pa_cons (pv 3) pa_nil)))))) pss_nil)
 (pss_one (ps_ret (pe_fnS (takes_of rfl rfl rfl rfl) h_tie_of (hr.mono (by decide)) (by rfl) (pa_cons (pv 1) (pa_cons (pv 2) (pa_cons (pv 3) pa_nil)))))))), ?_⟩
  walk_at "sts"
  refine ifd (fun hc => ?_) (fun hc => ?_)
  · walk_at "sts"
    intro x dx nx nd hd
    refine ⟨x, dx, false, a, b, z, rfl, upd_same, fun hb => q1 (by unfold BadT at hb; unfold BadW; omega) _ (made_same nx nd hd), fun hb => ⟨rfl, ?_⟩⟩
    obtain ⟨h1, h2, h3, h4⟩ := badT_not hb
    rw [upd_upd]
    refine q2 (by unfold BadW; omega) _ _ (made_same nx nd hd) nx ⟨dx, ?_⟩
    rw [upd_same]
    unfold tieP pushW
    rw [if_pos hc]
    rw [show (((a.toNat : Nat)) : Int) = a by omega, show (((b.toNat : Nat)) : Int) = b by omega, show ((((z.natAbs : Nat) : Int).toNat : Nat) : Int) = z by omega]
  · walk_at "sts"
    refine ifd (fun hc1 => ?_) (fun hc1 => ?_)
    · walk_at "sts"
      intro x dx nx nd hd
      refine ⟨x, dx, true, a, b, z, rfl, upd_same, fun hb => q1 (by unfold BadT at hb; unfold BadW; omega) _ (made_same nx nd hd), fun hb => ⟨rfl, ?_⟩⟩
      obtain ⟨h1, h2, h3, h4⟩ := badT_not hb
      rw [upd_upd]
      refine q2 (by unfold BadW; omega) _ _ (made_same nx nd hd) nx ⟨dx, ?_⟩
      rw [upd_same]
      unfold tieP pushW
      rw [if_neg hc, if_pos hc1]
      rw [show (((a.toNat : Nat)) : Int) = a by omega, show (((b.toNat : Nat)) : Int) = b by omega, show ((((z.natAbs : Nat) : Int).toNat : Nat) : Int) = z by omega]
    · walk_at "sts"
      refine ⟨a, b, z, rfl, fun hb => q1 (by unfold BadT at hb; unfold BadW; omega), fun hb => ?_⟩
      have e : pushW way z = decide (z < 0) := by unfold pushW; rw [if_neg hc, if_neg hc1]
      rw [e] at q2
      exact q2 (by unfold BadT at hb; unfold BadW; omega)
def spRefused (CP CQ CB : Addr) : Sp := fun vs H Q _ => ∃ (way a b z : Int), vs = [.int way, .int a, .int b, .int z] ∧ 0 ≤ way ∧ BadW way a b z ∧ ∀ H', Same H H' → Q (.bl true) H'
theorem ok_law_refused {f : Addr} {fd : FuncData} (F : Fun K "_law_refused" "_law_refused" s_law_refused f fd) (gf : mg "_law_refused" = some (.ref f)) (B : Bl mg) {C_Pull C_Push C_Tie C_BadTie C_FloorError : Addr} (T : Txt K mg C_Pull C_Push C_Tie C_BadTie C_FloorError) (h_law_made : Has P w K mg base (L2.CX P w) 4 "_law_made" ["way", "one", "two", "strength"] (spMade C_Pull C_Push C_BadTie)) : Has P w K mg base CX0 5 "_law_refused" ["way", "one", "two", "strength"] (spRefused C_Pull C_Push C_BadTie) := by
  refine Has.mk' F gf (F.binds (ps := ["way", "one", "two", "strength"]) fun _ _ _ _ _ _ us hl => match us, hl with | [_, _, _, _], _ => rfl) sc_law_refused (by walk_at "len") (fun cdv A outer s H vs Q E hr h => ?_)
  obtain ⟨way, a, b, z, rfl, hw, hb, q⟩ := h
  refine ⟨_, (pss_cons (ps_set (i := 4) sc_law_refused.nd rfl (.inl rfl) pe_non)
 (pss_cons (ps_try_keep (i := 5) rfl rfl sc_law_refused.nd rfl rfl ⟨rfl, by decide, .inl T.g_FloorError⟩ takes0 (fun W pn xe tk pw => (pss_one (ps_expr (pe_fnS tk h_law_made (hr.mono (by decide)) (by rfl) (pa_cons (pv 0) (pa_cons (pv 1) (pa_cons (pv 2) (pa_cons (pv 3) pa_nil)))))))) (fun a oe cls d pn hz hf => (pss_one (ps_set (i := 4) sc_law_refused.nd rfl (.inl rfl) (pv 5)))))
 (pss_one (ps_ret (pe_callB (call_isKp K) (by rfl) B.isinstance (by decide +kernel) (pa_cons (pv 4) (pa_cons (pe_glob (v := .ref C_BadTie) (by rfl) T.g_BadTie rfl) pa_nil))))))), ?_⟩
  walk_at "sts"
  refine ⟨way, a, b, z, rfl, hw, fun _ H1 s1 => ⟨true, T.xf_FloorError.exm T.sb_BadTie_FloorError, fun _ x nx => ?_, fun z => by cases z⟩, fun h => absurd hb h⟩
  walk_at "sts"
  refine fun nx' => ?_
  walk_at "sts"
  refine w_isKp T.xf_BadTie T.xf_BadTie T.sb_BadTie_BadTie ⟨upd_same, .inl rfl⟩ ?_
  exact q _ (s1.new nx')
def spCell (K : PySem.W.Frag) : Sp := fun vs H Q _ => ∃ (p : Addr) (ns : List Int) (k : Nat), vs = [.ref p, .int k] ∧ SqL K H p (ns.map V.int) ∧ Q (.int (ns.getD k 0)) H
theorem ok_law_cell_at {f : Addr} {fd : FuncData} (F : Fun K "_law_cell_at" "_law_cell_at" s_law_cell_at f fd) (gf : mg "_law_cell_at" = some (.ref f)) (B : Bl mg) {C_Pull C_Push C_Tie C_BadTie C_FloorError : Addr} (T : Txt K mg C_Pull C_Push C_Tie C_BadTie C_FloorError) : Has P w K mg base CX0 1 "_law_cell_at" ["script", "k"] (spCell K) := by
  refine Has.mk' F gf (F.binds (ps := ["script", "k"]) fun _ _ _ _ _ _ us hl => match us, hl with | [_, _], _ => rfl) sc_law_cell_at (by walk_at "len") (fun cdv A outer s H vs Q E hr h => ?_)
  obtain ⟨p, ns, k, rfl, hp, q⟩ := h
  refine ⟨_, (pss_cons (ps_if (pt_cmpR op_lt (pv 1) (pe_callB (call_lenK K) (by rfl) B.len (by decide +kernel) (pa_cons (pv 0) pa_nil)) (nomark _)) (pss_one (ps_ret (pe_ix (ix_listK K) (pv 0) (pv 1) (fun _ _ => rfl)))) pss_nil)
 (pss_one (ps_ret pe_int))), ?_⟩
  walk_at "sts"
  refine ifd (fun hc => ?_) (fun hc => ?_)
  · rw [List.length_map] at hc
    have e : (ns.map V.int)[k]? = some (.int (ns.getD k 0)) := by
      rw [List.getElem?_map, List.getD_eq_getElem?_getD, List.getElem?_eq_getElem (by omega)]
      rfl
    walk_at "sts"
    exact q
  · rw [List.length_map] at hc
    walk_at "sts"
    rw [List.getD_eq_getElem?_getD, List.getElem?_eq_none (by omega)] at q
    exact q
def spWhole : Sp := fun vs H Q _ => ∃ i : Int, vs = [.int i] ∧ Q (.bl true) H
theorem ok_law_whole {f : Addr} {fd : FuncData} (F : Fun K "_law_whole" "_law_whole" s_law_whole f fd) (gf : mg "_law_whole" = some (.ref f)) (B : Bl mg) {C_Pull C_Push C_Tie C_BadTie C_FloorError : Addr} (T : Txt K mg C_Pull C_Push C_Tie C_BadTie C_FloorError) : Has P w K mg base CX0 1 "_law_whole" ["found"] spWhole := by
  refine Has.mk' F gf (F.binds (ps := ["found"]) fun _ _ _ _ _ _ us hl => match us, hl with | [_], _ => rfl) sc_law_whole (by walk_at "len") (fun cdv A outer s H vs Q E hr h => ?_)
  obtain ⟨i, rfl, q⟩ := h
  refine ⟨_, (pss_one (ps_ret (pe_and (pe_callB (call_isiK' K) (by rfl) B.isinstance (by decide +kernel) (pa_cons (pv 0) (pa_cons (pe_bltn (v := .ty "int") (by rfl) B.int (by decide +kernel) rfl) pa_nil))) (pe_one (pe_not (pe_callB (call_isiK' K) (by rfl) B.isinstance (by decide +kernel) (pa_cons (pv 0) (pa_cons (pe_bltn (v := .ty "bool") (by rfl) B.bool (by decide +kernel) rfl) pa_nil)))))))), ?_⟩
  walk_at "sts"
  exact q
def rowOf (t : Ti) : List V := [.int t.one, .int t.two, .int t.s, .bl (!t.push)]
def spAsTold (CP CQ : Addr) : Sp := fun vs H Q _ => ∃ (p r : Addr) (t : Ti), vs = [.ref p, .ref r] ∧ TieAt CP CQ H p t ∧ H r = some (.tup (rowOf t)) ∧ Q (.bl true) H
theorem ok_law_as_told {f : Addr} {fd : FuncData} (F : Fun K "_law_as_told" "_law_as_told" s_law_as_told f fd) (gf : mg "_law_as_told" = some (.ref f)) (B : Bl mg) {C_Pull C_Push C_Tie C_BadTie C_FloorError : Addr} (T : Txt K mg C_Pull C_Push C_Tie C_BadTie C_FloorError) (h_law_whole : Has P w K mg base CX0 1 "_law_whole" ["found"] spWhole) (h_Pull_signed : HasMeth P w K mg base CX0 2 C_Pull "signed" ["self"] (spSigned C_Pull C_Push)) (h_Push_signed : HasMeth P w K mg base CX0 2 C_Push "signed" ["self"] (spSigned C_Pull C_Push)) : Has P w K mg base CX0 3 "_law_as_told" ["tie", "row"] (spAsTold C_Pull C_Push) := by
  refine Has.mk' F gf (F.binds (ps := ["tie", "row"]) fun _ _ _ _ _ _ us hl => match us, hl with | [_, _], _ => rfl) sc_law_as_told (by walk_at "len") (fun cdv A outer s H vs Q E hr h => ?_)
  obtain ⟨p, r, t, rfl, ht, hr', q⟩ := h
  refine ⟨_, (pss_cons (ps_if (PW.pt (pw_or (pt_not (pt_val (pe_callB (call_isiK' K) (by rfl) B.isinstance (by decide +kernel) (pa_cons (pv 0) (pa_cons (pe_glob (v := .ref C_Tie) (by rfl) T.g_Tie rfl) pa_nil))))) (pw_or (pt_cmpR op_ne (pe_callB (call_isiK' K) (by rfl) B.isinstance (by decide +kernel) (pa_cons (pv 0) (pa_cons (pe_glob (v := .ref C_Pull) (by rfl) T.g_Pull rfl) pa_nil))) (pe_ix (ix_tupK K) (pv 1) pe_int (fun _ _ => rfl)) (nomark _)) (pw_or1 (pt_cmpR op_eq (pe_callB (call_isiK' K) (by rfl) B.isinstance (by decide +kernel) (pa_cons (pv 0) (pa_cons (pe_glob (v := .ref C_Push) (by rfl) T.g_Push rfl) pa_nil))) (pe_ix (ix_tupK K) (pv 1) pe_int (fun _ _ => rfl)) (nomark _)))))) (pss_one (ps_ret pe_bl)) pss_nil)
 (pss_cons (ps_if (PW.pt (pw_or (pt_not (pt_val (pe_fn h_law_whole (hr.mono (by decide)) (by rfl) (pa_cons (pe_fldK K (pv 0) rfl) pa_nil)))) (pw_or (pt_not (pt_val (pe_fn h_law_whole (hr.mono (by decide)) (by rfl) (pa_cons (pe_fldK K (pv 0) rfl) pa_nil)))) (pw_or1 (pt_not (pt_val (pe_fn h_law_whole (hr.mono (by decide)) (by rfl) (pa_cons (pe_fldK K (pv 0) rfl) pa_nil)))))))) (pss_one (ps_ret pe_bl)) pss_nil)
 (pss_cons (ps_if (PW.pt (pw_or (pt_cmpR op_ne (pe_fldK K (pv 0) rfl) (pe_ix (ix_tupK K) (pv 1) pe_int (fun _ _ => rfl)) (nomark _)) (pw_or (pt_cmpR op_ne (pe_fldK K (pv 0) rfl) (pe_ix (ix_tupK K) (pv 1) pe_int (fun _ _ => rfl)) (nomark _)) (pw_or1 (pt_cmpR op_ne (pe_fldK K (pv 0) rfl) (pe_ix (ix_tupK K) (pv 1) pe_int (fun _ _ => rfl)) (nomark _)))))) (pss_one (ps_ret pe_bl)) pss_nil)
 (pss_cons (ps_set (i := 2) sc_law_as_told.nd rfl (.inl rfl) (PE.or (pe_mt0 h_Pull_signed (pv 0) (hr.mono (by decide))) (pe_mt0 h_Push_signed (pv 0) (hr.mono (by decide)))))
 (pss_cons (ps_if (pt_not (pt_val (pe_fn h_law_whole (hr.mono (by decide)) (by rfl) (pa_cons (pv 2) pa_nil)))) (pss_one (ps_ret pe_bl)) pss_nil)
 (pss_cons (ps_if (pt_val (pe_ix (ix_tupK K) (pv 1) pe_int (fun _ _ => rfl))) (pss_one (ps_ret (pe_cmpR op_eq (pv 2) (pe_ix (ix_tupK K) (pv 1) pe_int (fun _ _ => rfl)) (nomark _)))) pss_nil)
 (pss_one (ps_ret (pe_cmpR op_eq (pv 2) (pe_un un_neg (pe_ix (ix_tupK K) (pv 1) pe_int (fun _ _ => rfl))) (nomark _)))))))))), ?_⟩
  have hrq := SqT.of (K := K) hr'
  unfold rowOf at hrq
  have a0 : atI [V.int (t.one : Nat), .int (t.two : Nat), .int (t.s : Nat), .bl (!t.push)] 0 = some (.int (t.one : Nat)) := rfl
  have a1 : atI [V.int (t.one : Nat), .int (t.two : Nat), .int (t.s : Nat), .bl (!t.push)] 1 = some (.int (t.two : Nat)) := rfl
  have a2 : atI [V.int (t.one : Nat), .int (t.two : Nat), .int (t.s : Nat), .bl (!t.push)] 2 = some (.int (t.s : Nat)) := rfl
  have a3 : atI [V.int (t.one : Nat), .int (t.two : Nat), .int (t.s : Nat), .bl (!t.push)] 3 = some (.bl (!t.push)) := rfl
  obtain ⟨dx, e⟩ := id ht
  walk_at "sts"
  refine w_iso e (T.iso _) (T.isTie _) ?_
  walk_at "sts"
  refine w_iso e (T.iso _) (T.isPull _) ?_
  walk_at "sts"
  refine ifnd (fun h => absurd rfl h) (fun _ => ?_)
  walk_at "sts"
  refine w_iso e (T.iso _) (T.isPush _) ?_
  walk_at "sts"
  refine ifd (fun h => absurd h (by cases t.push <;> decide)) (fun _ => ?_)
  walk_at "sts"
  refine w_t1 T.tie ht ?_
  walk_at "sts"
  refine ⟨_, rfl, ?_⟩
  walk_at "sts"
  refine w_t2 T.tie ht ?_
  walk_at "sts"
  refine ⟨_, rfl, ?_⟩
  walk_at "sts"
  refine w_t3 T.tie ht ?_
  walk_at "sts"
  refine ⟨_, rfl, ?_⟩
  walk_at "sts"
  refine w_t1 T.tie ht ?_
  walk_at "sts"
  refine w_t2 T.tie ht ?_
  walk_at "sts"
  refine w_t3 T.tie ht ?_
  walk_at "sts"
  refine w_mt (p := p) (t := t) (by decide +kernel) (by decide +kernel) (by decide +kernel) (fun R h => ⟨_, rfl, h⟩) ht ?_
  walk_at "sts"
  refine ⟨p, t, rfl, ht, ?_⟩
  walk_at "sts"
  refine ⟨_, rfl, ?_⟩
  walk_at "sts"
  refine ifb (fun hc => ?_) (fun hc => ?_)
  · have hc2 : t.push = false := by cases ht2 : t.push; rfl; rw [ht2] at hc; cases hc
    rw [hc2]
    walk_at "sts"
    rw [if_neg (show ¬ (false = true) by decide), decide_eq_true rfl]
    exact q
  · have hc2 : t.push = true := by cases ht2 : t.push; rw [ht2] at hc; cases hc; rfl
    rw [hc2]
    walk_at "sts"
    rw [if_pos rfl, decide_eq_true rfl]
    exact q
end
section
variable {P : Program} {w : World} {K : PySem.W.Frag} {mg : Str → Option Value} {base : Heap} {C_Pull C_Push C_Tie C_BadTie C_FloorError : Addr}
def KeptRow (CP CQ : Addr) (H : Hp) (v : V) : Prop := ∃ (pt p r : Addr) (t : Ti), v = .ref pt ∧ H pt = some (.tup [.ref p, .ref r]) ∧ TieAt CP CQ H p t ∧ H r = some (.tup (rowOf t))
theorem KeptRow.same {CP CQ : Addr} {H H' : Hp} {v : V} (h : KeptRow CP CQ H v) (e : Same H H') : KeptRow CP CQ H' v := by
  obtain ⟨pt, p, r, t, h1, h2, h3, h4⟩ := h
  exact ⟨pt, p, r, t, h1, e _ _ h2, h3.same e, e _ _ h4⟩
theorem KeptRow.lst {CP CQ : Addr} {H : Hp} {v : V} {D : Addr} {xs ys : List V} (h : KeptRow CP CQ H v) (hD : H D = some (.lst xs)) : KeptRow CP CQ (upd H D (.lst ys)) v := by
  obtain ⟨pt, p, r, t, h1, h2, h3, h4⟩ := h
  exact ⟨pt, p, r, t, h1, by rw [upd_ne (ne_of h2 hD (by intro z; cases z))]; exact h2, h3.ins hD, by rw [upd_ne (ne_of h4 hD (by intro z; cases z))]; exact h4⟩
theorem rg4 : ∀ L : Fin 64, RgC 0 ((L : Nat) : Int) 4 (((L : Nat) + 3) / 4) := by unfold RgC; decide +kernel
def spLaw (K : PySem.W.Frag) : Sp := fun vs H Q _ => ∃ (a : Addr) (ns : List Int), vs = [.ref a] ∧ LsE K H a (ns.map V.int) ∧ ns.length ≤ 63 ∧ (∀ z ∈ ns, Builtin.Int.intBits z ≤ 1048576) ∧ ∀ H', Q (.bl true) H'
theorem ok_law {f : Addr} {fd : FuncData} (F : Fun K "law" "law" s_law f fd) (B : Bl mg) {C_Pull C_Push C_Tie C_BadTie C_FloorError : Addr} (T : Txt K mg C_Pull C_Push C_Tie C_BadTie C_FloorError) (h_law_made : Has P w K mg base (L2.CX P w) 4 "_law_made" ["way", "one", "two", "strength"] (spMade C_Pull C_Push C_BadTie)) (h_law_cell_at : Has P w K mg base CX0 1 "_law_cell_at" ["script", "k"] (spCell K)) (h_law_as_told : Has P w K mg base CX0 3 "_law_as_told" ["tie", "row"] (spAsTold C_Pull C_Push)) (h_law_refused : Has P w K mg base CX0 5 "_law_refused" ["way", "one", "two", "strength"] (spRefused C_Pull C_Push C_BadTie)) : FnOk P w K mg base CX0 6 f fd ["script"] (spLaw K) := by
  refine F.ok sc_law (by walk_at "len") (fun cdv A outer s H vs Q E hr h => ?_)
  obtain ⟨a, ns, rfl, hS, hlen, _, q⟩ := h
  have hS0 := hS.sq
  refine ⟨_, (pss_cons (ps_set (i := 1) sc_law.nd rfl (.inl rfl) (pe_lst pa_nil))
 (pss_cons (ps_for PassesOwn.never rfl (pi_range3 (by rfl) B.range (pa_cons pe_int (pa_cons (pe_callB (call_lenK K) (by rfl) B.len (by decide +kernel) (pa_cons (pv 0) pa_nil)) (pa_cons pe_int pa_nil)))) (pg_name (i := 2) sc_law.nd rfl (.inl rfl)) (pss_cons (ps_set (i := 3) sc_law.nd rfl (.inl rfl) (pe_op op_mod (pe_fn h_law_cell_at (hr.mono (by decide)) (by rfl) (pa_cons (pv 0) (pa_cons (pv 2) pa_nil))) pe_int))
 (pss_cons (ps_set (i := 4) sc_law.nd rfl (.inl rfl) (pe_op op_sub (pe_op op_mod (pe_fn h_law_cell_at (hr.mono (by decide)) (by rfl) (pa_cons (pv 0) (pa_cons (pe_op op_add (pv 2) pe_int) pa_nil))) pe_int) pe_int))
 (pss_cons (ps_set (i := 5) sc_law.nd rfl (.inl rfl) (pe_op op_sub (pe_op op_mod (pe_fn h_law_cell_at (hr.mono (by decide)) (by rfl) (pa_cons (pv 0) (pa_cons (pe_op op_add (pv 2) pe_int) pa_nil))) pe_int) pe_int))
 (pss_cutX (ps_if (pt_cmpR op_eq (pe_op op_mod (pe_op op_fdivW (pe_fn h_law_cell_at (hr.mono (by decide)) (by rfl) (pa_cons (pv 0) (pa_cons (pv 2) pa_nil))) pe_int) pe_int) pe_int (nomark _)) (pss_one (ps_set (i := 5) sc_law.nd rfl (.inl rfl) (pv 4))) pss_nil)
 (pss_cons (ps_set (i := 6) sc_law.nd rfl (.inl rfl) (pe_op op_mod (pe_fn h_law_cell_at (hr.mono (by decide)) (by rfl) (pa_cons (pv 0) (pa_cons (pe_op op_add (pv 2) pe_int) pa_nil))) (pe_op op_add (pe_op op_pow pe_int pe_int) pe_int)))
 (pss_cons (ps_set (i := 7) sc_law.nd rfl (.inl rfl) (pv 6))
 (pss_cutX (ps_if (PW.pt (pw_or (pt_cmpR op_eq (pv 3) pe_int (nomark _)) (pw_or1 (PW.pt (pw_and (pt_cmpR op_lt (pv 3) pe_int (nomark _)) (pw_and1 (pt_cmpR op_eq (pe_op op_mod (pe_op op_fdivW (pe_fn h_law_cell_at (hr.mono (by decide)) (by rfl) (pa_cons (pv 0) (pa_cons (pv 2) pa_nil))) pe_int) pe_int) pe_int (nomark _)))))))) (pss_one (ps_set (i := 7) sc_law.nd rfl (.inl rfl) (pe_op op_sub (pe_op op_mulX (pe_un un_neg pe_int) (pv 6)) (pe_callTy call_int1 (by rfl) B.int (by decide +kernel) (pa_cons (pe_cmpR op_lt (pv 3) pe_int (nomark _)) pa_nil))))) pss_nil)
 (pss_cons (ps_if (PW.pt (pw_or (pt_cmpR op_eq (pv 4) (pv 5) (nomark _)) (pw_or (pt_cmpR op_lt (pv 4) pe_int (nomark _)) (pw_or (pt_cmpR op_lt (pv 5) pe_int (nomark _)) (pw_or1 (PW.pt (pw_and (pt_cmpR op_lt (pv 3) pe_int (nomark _)) (pw_and1 (pt_cmpR op_lt (pv 7) pe_int (nomark _)))))))))) (pss_cons (ps_if (pt_not (pt_val (pe_fn h_law_refused (hr.mono (by decide)) (by rfl) (pa_cons (pv 3) (pa_cons (pv 4) (pa_cons (pv 5) (pa_cons (pv 7) pa_nil))))))) (pss_one (ps_ret pe_bl)) pss_nil)
 (pss_one ps_continue)) pss_nil)
 (pss_cons (ps_set (i := 8) sc_law.nd rfl (.inl rfl) (pe_fnL h_law_made (hr.mono (by decide)) (by rfl) (pa_cons (pv 3) (pa_cons (pv 4) (pa_cons (pv 5) (pa_cons (pv 7) pa_nil))))))
 (pss_cons (ps_set (i := 9) sc_law.nd rfl (.inl rfl) (pe_tup (pa_cons (pv 4) (pa_cons (pv 5) (pa_cons (pv 6) (pa_cons (pe_or (pe_cmpR op_eq (pv 3) pe_int (nomark _)) (pe_one (pe_and (pe_cmpR op_gt (pv 3) pe_int (nomark _)) (pe_one (pe_cmpR op_ge (pv 7) pe_int (nomark _)))))) pa_nil))))))
 (pss_cons (ps_if (pt_not (pt_val (pe_fn h_law_as_told (hr.mono (by decide)) (by rfl) (pa_cons (pv 8) (pa_cons (pv 9) pa_nil))))) (pss_one (ps_ret pe_bl)) pss_nil)
 (pss_one (ps_expr (pe_bmK K (pe_bm PySem.F.plainAttrs_list PySem.F.slot_list_append PySem.F.type_list_append mt_append (pv 1) (pa_cons (pe_tup (pa_cons (pv 8) (pa_cons (pv 9) pa_nil))) pa_nil)))))))))))))))))
 (pss_cons (ps_for PassesOwn.never rfl (pi_listK K (pv 1)) (pg_tupK K rfl (pgs_cons (pg_name (i := 8) sc_law.nd rfl (.inl rfl)) (pgs_cons (pg_name (i := 9) sc_law.nd rfl (.inl rfl)) pgs_nil))) (pss_one (ps_if (pt_not (pt_val (pe_fn h_law_as_told (hr.mono (by decide)) (by rfl) (pa_cons (pv 8) (pa_cons (pv 9) pa_nil))))) (pss_one (ps_ret pe_bl)) pss_nil)))
 (pss_one (ps_ret pe_bl))))), ?_⟩
  walk_at "sts"
  refine w_new fun D nD => ?_
  walk_at "sts"
  rw [List.length_map]
  refine w_r3q (rg4 ⟨ns.length, by omega⟩) ?_
  refine for_rangeC (fun i σ H' => ∃ (y2 y3 y4 y5 y6 y7 y8 y9 : Option V) (xs : List V), σ = [some (.ref a), some (.ref D), y2, y3, y4, y5, y6, y7, y8, y9] ∧ Same H H' ∧ H' D = some (.lst xs) ∧ xs.length ≤ i ∧ ∀ v ∈ xs, KeptRow C_Pull C_Push H' v) ?_ ?_ ?_
  · exact ⟨_, _, _, _, _, _, _, _, [], rfl, same_upd nD, upd_same, Nat.le_refl _, fun v z => by cases z⟩
  · rintro i σ H' hi ⟨y2, y3, y4, y5, y6, y7, y8, y9, xs, rfl, s1, hD, hxs, hal⟩
    have hS1 := s1.seq hS0
    rw [show (0 : Int) + (i : Nat) * 4 = ((4 * i : Nat) : Int) by omega]
    walk_at "sts"
    refine ⟨a, ns, 4 * i, rfl, hS1, ?_⟩
    walk_at "sts"
    refine ⟨a, ns, 4 * i + 1, rfl, hS1, ?_⟩
    walk_at "sts"
    refine ⟨a, ns, 4 * i + 2, rfl, hS1, ?_⟩
    obtain ⟨c, hc⟩ : ∃ c, ns.getD (4 * i) 0 = c := ⟨_, rfl⟩
    generalize ns.getD (4 * i + 1) 0 = c1
    generalize ns.getD (4 * i + 2) 0 = c2
    rw [hc]
    walk_at "sts"
    generalize c1 % 43 - 3 = one
    generalize c2 % 43 - 3 = two
    obtain ⟨way, hway, hw0, hw4⟩ : ∃ way : Int, c % 4 = way ∧ 0 ≤ way ∧ way < 4 := ⟨c % 4, rfl, by omega, by omega⟩
    rw [hway]
    refine w_cut (fun σ' H2 => ∃ two : Int, σ' = [some (.ref a), some (.ref D), some (.int (4 * i : Nat)), some (.int way), some (.int one), some (.int two), y6, y7, y8, y9] ∧ H2 = H') ?_ ?_
    · walk_at "sts"
      refine ⟨a, ns, 4 * i, rfl, hS1, ?_⟩
      rw [hc]
      walk_at "sts"
      refine ifd (fun h0 => ?_) (fun h0 => ?_)
      · walk_at "sts"
        exact ⟨_, rfl, rfl⟩
      · walk_at "sts"
        exact ⟨_, rfl, rfl⟩
    clear two
    rintro σ' H2 ⟨two, rfl, rfl⟩
    walk_at "sts"
    refine ⟨a, ns, 4 * i + 3, rfl, hS1, ?_⟩
    walk_at "sts"
    rw [show (10 : Int) ^ Int.toNat 30 + 1 = 1000000000000000000000000000001 by decide]
    walk_at "sts"
    obtain ⟨z, hz, hz2⟩ : ∃ z : Nat, ns.getD (4 * i + 3) 0 % 1000000000000000000000000000001 = (z : Int) ∧ (z : Int) < 1000000000000000000000000000001 := ⟨(ns.getD (4 * i + 3) 0 % 1000000000000000000000000000001).toNat, by omega, by omega⟩
    rw [hz]
    refine w_cut (fun σ' H3 => ∃ told : Int, σ' = [some (.ref a), some (.ref D), some (.int (4 * i : Nat)), some (.int way), some (.int one), some (.int two), some (.int z), some (.int told), y8, y9] ∧ H3 = H2 ∧ (told = z ∧ way < 3 ∨ way = 3 ∧ told = -(z : Int) ∨ way < 2 ∧ told < 0)) ?_ ?_
    · walk_at "sts"
      refine ifd (fun h0 => ?_) (fun h0 => ?_)
      · walk_at "sts"
        refine ⟨_, rfl, rfl, ?_⟩
        rw [show decide (way < 2) = false from decide_eq_false (by omega)]
        simp only [Bool.false_eq_true, if_false]
        omega
      · walk_at "sts"
        refine ifd (fun h1 => ?_) (fun h1 => ?_)
        · walk_at "sts"
          refine ⟨a, ns, 4 * i, rfl, hS1, ?_⟩
          rw [hc]
          walk_at "sts"
          refine ifd (fun h2 => ?_) (fun h2 => ?_)
          · walk_at "sts"
            refine ⟨_, rfl, rfl, ?_⟩
            rw [show decide (way < 2) = true from decide_eq_true (by omega)]
            simp only [if_true]
            omega
          · walk_at "sts"
            exact ⟨_, rfl, rfl, by omega⟩
        · walk_at "sts"
          exact ⟨_, rfl, rfl, by omega⟩
    rintro σ' H3 ⟨told, rfl, rfl, ht⟩
    by_cases hb : BadW way one two told
    · have hsp : one = two ∨ (one ≠ two ∧ one < 0) ∨ (one ≠ two ∧ 0 ≤ one ∧ two < 0) ∨ (one ≠ two ∧ 0 ≤ one ∧ 0 ≤ two ∧ way < 2 ∧ told < 0) := by
        have h := hb
        unfold BadW at h
        omega
      rcases hsp with h | ⟨h, h'⟩ | ⟨h, h', h''⟩ | ⟨h, h', h'', h3, h4⟩
      all_goals
        walk_at "sts"
        refine ⟨way, one, two, told, rfl, hw0, hb, fun H4 s4 => ?_⟩
        have hal4 : ∀ v ∈ xs, KeptRow C_Pull C_Push H4 v := fun v hv => (hal v hv).same s4
        walk_at "sts"
        exact ⟨_, _, _, _, _, _, _, _, xs, rfl, s1.trans s4, s4 _ _ hD, by omega, hal4⟩
    · have hsp : one ≠ two ∧ 0 ≤ one ∧ 0 ≤ two ∧ (way < 2 → 0 ≤ told) := by
        have h := hb
        unfold BadW at h
        omega
      obtain ⟨h1, h2, h3, h4⟩ := hsp
      have hz30 : told.natAbs = z := by omega
      rcases (by omega : (way = 0 ∧ 0 ≤ told) ∨ (way = 1 ∧ 0 ≤ told) ∨ (2 ≤ way ∧ 0 ≤ told) ∨ (2 ≤ way ∧ told < 0)) with ⟨hwy, htd⟩ | ⟨hwy, htd⟩ | ⟨hwy, htd⟩ | ⟨hwy, htd⟩
      all_goals
        walk_at "sts"
        refine ⟨way, one, two, told, rfl, hw0, fun h => absurd h hb, fun _ p H4 s4 np tp => ?_⟩
        have hal4 : ∀ v ∈ xs, KeptRow C_Pull C_Push H4 v := fun v hv => (hal v hv).same s4
        have hD4 := s4 _ _ hD
        have e1 : (((tieP (pushW way told) one two (told.natAbs : Nat)).one : Nat) : Int) = one := by show ((one.toNat : Nat) : Int) = one; omega
        have e2 : (((tieP (pushW way told) one two (told.natAbs : Nat)).two : Nat) : Int) = two := by show ((two.toNat : Nat) : Int) = two; omega
        have e3 : (((tieP (pushW way told) one two (told.natAbs : Nat)).s : Nat) : Int) = (z : Nat) := by show ((((told.natAbs : Nat) : Int).toNat : Nat) : Int) = (z : Nat); omega
        walk_at "sts"
        refine w_new fun r nr => ?_
        walk_at "sts"
        have tr := same_upd (o := .tup (rowOf (tieP (pushW way told) one two (told.natAbs : Nat)))) nr
        refine ⟨p, r, tieP (pushW way told) one two (told.natAbs : Nat), rfl, ?_⟩
        have erow : ∀ {b : Bool}, b = !pushW way told → ([V.int one, .int two, .int (z : Nat), .bl b] : List V) = rowOf (tieP (pushW way told) one two (told.natAbs : Nat)) := fun {b} h => by
          unfold rowOf
          rw [e1, e2, e3, h]
          rfl
        rw [erow ?hb]
        case hb =>
          unfold pushW
          first
            | (rw [hwy]; rfl)
            | (rw [if_neg (by omega), if_neg (by omega)]
               by_cases hz0 : told < 0
               · rw [decide_eq_true hz0, decide_eq_false (by omega)]; rfl
               · rw [decide_eq_false hz0, decide_eq_true (by omega)]; rfl)
        refine ⟨tp.same tr, upd_same, ?_⟩
        have hD5 := tr _ _ hD4
        have hr5 : upd H4 r (.tup (rowOf (tieP (pushW way told) one two (told.natAbs : Nat)))) r = some (.tup (rowOf (tieP (pushW way told) one two (told.natAbs : Nat)))) := upd_same
        have tp5 := tp.same tr
        have hal5 : ∀ v ∈ xs, KeptRow C_Pull C_Push _ v := fun v hv => (hal4 v hv).same tr
        have s5 := s1.trans (s4.trans tr)
        generalize upd H4 r (.tup (rowOf (tieP (pushW way told) one two (told.natAbs : Nat)))) = H5 at hD5 hr5 tp5 hal5 s5 ⊢
        walk_at "sts"
        refine w_new fun pt npt => ?_
        walk_at "sts"
        have t6 := same_upd (o := .tup [.ref p, .ref r]) npt
        have hD6 := t6 _ _ hD5
        refine ⟨_, _, _, _, _, _, _, _, xs ++ [.ref pt], rfl, (s5.trans t6).mut nD, upd_same, by rw [List.length_append]; show xs.length + 1 ≤ i + 1; omega, fun v hv => ?_⟩
        rcases List.mem_append.mp hv with hv | hv
        · exact ((hal5 v hv).same t6).lst hD6
        · rw [List.mem_singleton.mp hv]
          exact KeptRow.lst ⟨pt, p, r, _, rfl, upd_same, tp5.same t6, t6 _ _ hr5⟩ hD6
  · rintro σ H1 ⟨y2, y3, y4, y5, y6, y7, y8, y9, xs, rfl, s1, hD, hxs, hal⟩
    walk_at "sts"
    refine for_list (xs := xs) (fun i σ H' => ∃ (y2 y3 y4 y5 y6 y7 y8 y9 : Option V), σ = [some (.ref a), some (.ref D), y2, y3, y4, y5, y6, y7, y8, y9] ∧ H' = H1) ?_ ?_ ?_ ?_
    · exact ⟨_, _, _, _, _, _, _, _, rfl, rfl⟩
    · rintro i σ H' _ ⟨_, _, _, _, _, _, _, _, _, rfl⟩
      exact SqL.of hD
    · rintro i v σ H' hv ⟨y2, y3, y4, y5, y6, y7, y8, y9, rfl, rfl⟩
      obtain ⟨pt, p, r, t, rfl, h2, h3, h4⟩ := hal v (List.mem_of_getElem? hv)
      walk_at "sts"
      refine ⟨p, r, t, rfl, h3, h4, ?_⟩
      walk_at "sts"
      exact ⟨_, _, _, _, _, _, _, _, rfl, rfl⟩
    rintro σ H2 ⟨_, _, _, _, _, _, _, _, rfl, rfl⟩
    walk_at "sts"
    exact q _
end
theorem all_mk {l : PySem.W.OpenLaw} {w : World} {K : PySem.W.Frag} {h : Heap} {mg : Str → Option Value} {fa f0 f1 f2 f3 f4 f5 f6 f7 f8 f9 f10 C_Pull C_Push C_Tie C_BadTie C_FloorError : Addr} (X : K.In h) (G : h.Ns mainGlobals mg) (hfa : mg "law" = some (.ref fa))
    {od0 an0 od1 an1 od2 an2 od3 an3 od4 an4 od5 an5 od6 an6 od7 an7 od8 an8 od9 an9 od10 an10 : Option Addr} {sl0 sl1 sl2 sl3 sl4 sl5 sl6 sl7 sl8 sl9 sl10 : Array (Option Value)} {oc0 kV0 dc0 pm0 cd0 ct0 oc1 kV1 dc1 pm1 cd1 ct1 oc2 kV2 dc2 pm2 cd2 ct2 oc3 kV3 dc3 pm3 cd3 ct3 oc4 kV4 dc4 pm4 cd4 ct4 oc5 kV5 dc5 pm5 cd5 ct5 oc6 kV6 dc6 pm6 cd6 ct6 oc7 kV7 dc7 pm7 cd7 ct7 oc8 kV8 dc8 pm8 cd8 ct8 oc9 kV9 dc9 pm9 cd9 ct9 oc10 kV10 dc10 pm10 cd10 ct10 : Value}
    (g_Pull : PySem.W.nsIn K mainGlobals "Pull" = some (some (.ref C_Pull)))
    (g_Push : PySem.W.nsIn K mainGlobals "Push" = some (some (.ref C_Push)))
    (g_Tie : PySem.W.nsIn K mainGlobals "Tie" = some (some (.ref C_Tie)))
    (g_BadTie : PySem.W.nsIn K mainGlobals "BadTie" = some (some (.ref C_BadTie)))
    (g_FloorError : PySem.W.nsIn K mainGlobals "FloorError" = some (some (.ref C_FloorError)))
    (r0_Pull : PySem.W.findIn K (.ref C_Pull) "__init__" = some (some (.ref f0)))
    (r0_Push : PySem.W.findIn K (.ref C_Push) "__init__" = some (some (.ref f0)))
    (i0 : PySem.W.isFn K (.ref f0) = true)
    (l0 : K.lookup f0 = some ⟨oc0, od0, .func (PySem.W.fnOf "__init__" "Tie.__init__" (defArgs s_Tie___init__) (defBody s_Tie___init__) (defScope s_Tie___init__) .none kV0 dc0 pm0 an0 cd0 ct0), sl0⟩)
    (c0 : PySem.W.codeIn K cd0 "Tie.__init__" = true)
    (k0 : PySem.W.keepIn K (.ref f0) = true)
    (r1_Pull : PySem.W.findIn K (.ref C_Pull) "wish" = some (some (.ref f1)))
    (i1 : PySem.W.isFn K (.ref f1) = true)
    (l1 : K.lookup f1 = some ⟨oc1, od1, .func (PySem.W.fnOf "wish" "Pull.wish" (defArgs s_Pull_wish) (defBody s_Pull_wish) (defScope s_Pull_wish) .none kV1 dc1 pm1 an1 cd1 ct1), sl1⟩)
    (c1 : PySem.W.codeIn K cd1 "Pull.wish" = true)
    (k1 : PySem.W.keepIn K (.ref f1) = true)
    (r2_Push : PySem.W.findIn K (.ref C_Push) "wish" = some (some (.ref f2)))
    (i2 : PySem.W.isFn K (.ref f2) = true)
    (l2 : K.lookup f2 = some ⟨oc2, od2, .func (PySem.W.fnOf "wish" "Push.wish" (defArgs s_Push_wish) (defBody s_Push_wish) (defScope s_Push_wish) .none kV2 dc2 pm2 an2 cd2 ct2), sl2⟩)
    (c2 : PySem.W.codeIn K cd2 "Push.wish" = true)
    (k2 : PySem.W.keepIn K (.ref f2) = true)
    (r3_Pull : PySem.W.findIn K (.ref C_Pull) "signed" = some (some (.ref f3)))
    (r3_Push : PySem.W.findIn K (.ref C_Push) "signed" = some (some (.ref f3)))
    (i3 : PySem.W.isFn K (.ref f3) = true)
    (l3 : K.lookup f3 = some ⟨oc3, od3, .func (PySem.W.fnOf "signed" "Tie.signed" (defArgs s_Tie_signed) (defBody s_Tie_signed) (defScope s_Tie_signed) .none kV3 dc3 pm3 an3 cd3 ct3), sl3⟩)
    (c3 : PySem.W.codeIn K cd3 "Tie.signed" = true)
    (k3 : PySem.W.keepIn K (.ref f3) = true)
    (a4 : PySem.W.nsIn K mainGlobals "tie_of" = some (some (.ref f4)))
    (l4 : K.lookup f4 = some ⟨oc4, od4, .func (PySem.W.fnOf "tie_of" "tie_of" (defArgs s_tie_of) (defBody s_tie_of) (defScope s_tie_of) .none kV4 dc4 pm4 an4 cd4 ct4), sl4⟩)
    (c4 : PySem.W.codeIn K cd4 "tie_of" = true)
    (k4 : PySem.W.keepIn K (.ref f4) = true)
    (a5 : PySem.W.nsIn K mainGlobals "_law_whole" = some (some (.ref f5)))
    (l5 : K.lookup f5 = some ⟨oc5, od5, .func (PySem.W.fnOf "_law_whole" "_law_whole" (defArgs s_law_whole) (defBody s_law_whole) (defScope s_law_whole) .none kV5 dc5 pm5 an5 cd5 ct5), sl5⟩)
    (c5 : PySem.W.codeIn K cd5 "_law_whole" = true)
    (k5 : PySem.W.keepIn K (.ref f5) = true)
    (a6 : PySem.W.nsIn K mainGlobals "_law_cell_at" = some (some (.ref f6)))
    (l6 : K.lookup f6 = some ⟨oc6, od6, .func (PySem.W.fnOf "_law_cell_at" "_law_cell_at" (defArgs s_law_cell_at) (defBody s_law_cell_at) (defScope s_law_cell_at) .none kV6 dc6 pm6 an6 cd6 ct6), sl6⟩)
    (c6 : PySem.W.codeIn K cd6 "_law_cell_at" = true)
    (k6 : PySem.W.keepIn K (.ref f6) = true)
    (a7 : PySem.W.nsIn K mainGlobals "_law_made" = some (some (.ref f7)))
    (l7 : K.lookup f7 = some ⟨oc7, od7, .func (PySem.W.fnOf "_law_made" "_law_made" (defArgs s_law_made) (defBody s_law_made) (defScope s_law_made) .none kV7 dc7 pm7 an7 cd7 ct7), sl7⟩)
    (c7 : PySem.W.codeIn K cd7 "_law_made" = true)
    (k7 : PySem.W.keepIn K (.ref f7) = true)
    (a8 : PySem.W.nsIn K mainGlobals "_law_refused" = some (some (.ref f8)))
    (l8 : K.lookup f8 = some ⟨oc8, od8, .func (PySem.W.fnOf "_law_refused" "_law_refused" (defArgs s_law_refused) (defBody s_law_refused) (defScope s_law_refused) .none kV8 dc8 pm8 an8 cd8 ct8), sl8⟩)
    (c8 : PySem.W.codeIn K cd8 "_law_refused" = true)
    (k8 : PySem.W.keepIn K (.ref f8) = true)
    (a9 : PySem.W.nsIn K mainGlobals "_law_as_told" = some (some (.ref f9)))
    (l9 : K.lookup f9 = some ⟨oc9, od9, .func (PySem.W.fnOf "_law_as_told" "_law_as_told" (defArgs s_law_as_told) (defBody s_law_as_told) (defScope s_law_as_told) .none kV9 dc9 pm9 an9 cd9 ct9), sl9⟩)
    (c9 : PySem.W.codeIn K cd9 "_law_as_told" = true)
    (k9 : PySem.W.keepIn K (.ref f9) = true)
    (a10 : PySem.W.nsIn K mainGlobals "law" = some (some (.ref f10)))
    (l10 : K.lookup f10 = some ⟨oc10, od10, .func (PySem.W.fnOf "law" "law" (defArgs s_law) (defBody s_law) (defScope s_law) .none kV10 dc10 pm10 an10 cd10 ct10), sl10⟩)
    (c10 : PySem.W.codeIn K cd10 "law" = true)
    (k10 : PySem.W.keepIn K (.ref f10) = true)
    (z_isinstance : PySem.W.nsIn K mainGlobals "isinstance" = some none)
    (z_int : PySem.W.nsIn K mainGlobals "int" = some none)
    (z_bool : PySem.W.nsIn K mainGlobals "bool" = some none)
    (z_len : PySem.W.nsIn K mainGlobals "len" = some none)
    (z_range : PySem.W.nsIn K mainGlobals "range" = some none)
    (pg_Pull : PySem.W.plainGet K C_Pull Str.empty = true)
    (hd_Pull : PySem.W.hasDictIn K C_Pull = true)
    (po_Pull : PySem.W.plainOver K C_Pull = true)
    (sa_Pull : PySem.W.findIn K (.ref C_Pull) "__setattr__" = some (some (.builtin "object.__setattr__")))
    (mk_Pull : PySem.W.makesIn K C_Pull = true)
    (kp_Pull : PySem.W.keepIn K (.ref C_Pull) = true)
    (n_Pull_one : PySem.W.findIn K (.ref C_Pull) "one" = some none)
    (n_Pull_two : PySem.W.findIn K (.ref C_Pull) "two" = some none)
    (n_Pull_strength : PySem.W.findIn K (.ref C_Pull) "strength" = some none)
    (pg_Push : PySem.W.plainGet K C_Push Str.empty = true)
    (hd_Push : PySem.W.hasDictIn K C_Push = true)
    (po_Push : PySem.W.plainOver K C_Push = true)
    (sa_Push : PySem.W.findIn K (.ref C_Push) "__setattr__" = some (some (.builtin "object.__setattr__")))
    (mk_Push : PySem.W.makesIn K C_Push = true)
    (kp_Push : PySem.W.keepIn K (.ref C_Push) = true)
    (n_Push_one : PySem.W.findIn K (.ref C_Push) "one" = some none)
    (n_Push_two : PySem.W.findIn K (.ref C_Push) "two" = some none)
    (n_Push_strength : PySem.W.findIn K (.ref C_Push) "strength" = some none)
    (x_og : PySem.W.specialIn K (.builtin "object.__class__") "__get__" = some (some (.builtin "getset_descriptor.__get__")))
    (x_ot : PySem.W.takesIn K (.builtin "object.__class__") = some true)
    (x_kp_BadTie : PySem.W.keepIn K (.ref C_BadTie) = true)
    (x_be_BadTie : PySem.W.subIn K (.ref C_BadTie) (.type "BaseException") = some true)
    (x_ty_BadTie : PySem.W.typeIn K (.ref C_BadTie) = some (.type "type"))
    (x_cl_BadTie : PySem.W.isClsIn K C_BadTie = true)
    (x_hd_BadTie : PySem.W.hasDictIn K C_BadTie = true)
    (x_ga_BadTie : PySem.W.findIn K (.ref C_BadTie) "__getattribute__" = some (some (.builtin "BaseException.__getattribute__")))
    (x_gg_BadTie : PySem.W.findIn K (.ref C_BadTie) "__getattr__" = some none)
    (x_oc_BadTie : PySem.W.findIn K (.ref C_BadTie) "__class__" = some (some (.builtin "object.__class__")))
    (x_om_BadTie : PySem.W.mroIn K C_BadTie (.type "object") = some true)
    (x_sv_BadTie : PySem.W.subIn K (.ref C_BadTie) (.type "ValueError") = some true)
    (x_sb_BadTie_BadTie : PySem.W.subIn K (.ref C_BadTie) (.ref C_BadTie) = some true)
    (x_kp_FloorError : PySem.W.keepIn K (.ref C_FloorError) = true)
    (x_be_FloorError : PySem.W.subIn K (.ref C_FloorError) (.type "BaseException") = some true)
    (x_ty_FloorError : PySem.W.typeIn K (.ref C_FloorError) = some (.type "type"))
    (x_cl_FloorError : PySem.W.isClsIn K C_FloorError = true)
    (x_hd_FloorError : PySem.W.hasDictIn K C_FloorError = true)
    (x_ga_FloorError : PySem.W.findIn K (.ref C_FloorError) "__getattribute__" = some (some (.builtin "BaseException.__getattribute__")))
    (x_gg_FloorError : PySem.W.findIn K (.ref C_FloorError) "__getattr__" = some none)
    (x_oc_FloorError : PySem.W.findIn K (.ref C_FloorError) "__class__" = some (some (.builtin "object.__class__")))
    (x_om_FloorError : PySem.W.mroIn K C_FloorError (.type "object") = some true)
    (x_sv_FloorError : PySem.W.subIn K (.ref C_FloorError) (.type "ValueError") = some true)
    (x_sb_FloorError_FloorError : PySem.W.subIn K (.ref C_FloorError) (.ref C_FloorError) = some true)
    (x_xn_BadTie : PySem.W.excIn K C_BadTie [.type "ValueError", .type "Exception", .type "BaseException", .type "object"] "ValueError.__new__" = true)
    (x_sb_BadTie_FloorError : PySem.W.subIn K (.ref C_BadTie) (.ref C_FloorError) = some true)
    (x_oc_Pull : PySem.W.findIn K (.ref C_Pull) "__class__" = some (some (.builtin "object.__class__")))
    (x_om_Pull : PySem.W.mroIn K C_Pull (.type "object") = some true)
    (x_oc_Push : PySem.W.findIn K (.ref C_Push) "__class__" = some (some (.builtin "object.__class__")))
    (x_om_Push : PySem.W.mroIn K C_Push (.type "object") = some true)
    (x_ci_Tie : PySem.W.isClsIn K C_Tie = true)
    (x_ty_Tie : PySem.W.typeIn K (.ref C_Tie) = some (.type "type"))
    (x_sb_Pull_Tie : PySem.W.subIn K (.ref C_Pull) (.ref C_Tie) = some true)
    (x_sb_Pull_Pull : PySem.W.subIn K (.ref C_Pull) (.ref C_Pull) = some true)
    (x_sb_Push_Tie : PySem.W.subIn K (.ref C_Push) (.ref C_Tie) = some true)
    (x_sb_Push_Push : PySem.W.subIn K (.ref C_Push) (.ref C_Push) = some true)
    (x_ci_Pull : PySem.W.isClsIn K C_Pull = true)
    (x_ty_Pull : PySem.W.typeIn K (.ref C_Pull) = some (.type "type"))
    (x_ci_Push : PySem.W.isClsIn K C_Push = true)
    (x_ty_Push : PySem.W.typeIn K (.ref C_Push) = some (.type "type"))
    (x_sb_Pull_Push : PySem.W.subIn K (.ref C_Pull) (.ref C_Push) = some false)
    (x_sb_Push_Pull : PySem.W.subIn K (.ref C_Push) (.ref C_Pull) = some false)
    : ∃ fd : FuncData, (∀ (s : Shared) (v : Value), BindsTo s fd ⟨[v], []⟩ [("script", v)]) ∧ ∀ base : Heap, K.In base → base.Ns mainGlobals mg → FnOk l.prog w K mg base CX0 6 fa fd ["script"] (spLaw K) := by
  have e := hfa.symm.trans (PySem.W.mg_of X G a10)
  cases e
  have B : Bl mg := ⟨PySem.W.mg_none_of X G z_isinstance, PySem.W.mg_none_of X G z_int, PySem.W.mg_none_of X G z_bool, PySem.W.mg_none_of X G z_len, PySem.W.mg_none_of X G z_range⟩
  have T : Txt K mg C_Pull C_Push C_Tie C_BadTie C_FloorError := ⟨PySem.W.mg_of X G g_Pull, PySem.W.mg_of X G g_Push, PySem.W.mg_of X G g_Tie, PySem.W.mg_of X G g_BadTie, PySem.W.mg_of X G g_FloorError, ⟨pg_Pull, hd_Pull, po_Pull, sa_Pull⟩, mk_Pull, kp_Pull, n_Pull_one, n_Pull_two, n_Pull_strength, ⟨pg_Push, hd_Push, po_Push, sa_Push⟩, mk_Push, kp_Push, n_Push_one, n_Push_two, n_Push_strength, x_og, x_ot, x_kp_BadTie, x_be_BadTie, x_ty_BadTie, x_cl_BadTie, x_hd_BadTie, x_ga_BadTie, x_gg_BadTie, x_oc_BadTie, x_om_BadTie, x_sv_BadTie, x_sb_BadTie_BadTie, x_kp_FloorError, x_be_FloorError, x_ty_FloorError, x_cl_FloorError, x_hd_FloorError, x_ga_FloorError, x_gg_FloorError, x_oc_FloorError, x_om_FloorError, x_sv_FloorError, x_sb_FloorError_FloorError, x_xn_BadTie, x_sb_BadTie_FloorError, x_oc_Pull, x_om_Pull, x_oc_Push, x_om_Push, x_ci_Tie, x_ty_Tie, x_sb_Pull_Tie, x_sb_Pull_Pull, x_sb_Push_Tie, x_sb_Push_Push, x_ci_Pull, x_ty_Pull, x_ci_Push, x_ty_Push, x_sb_Pull_Push, x_sb_Push_Pull⟩
  refine ⟨PySem.W.fnOf "law" "law" (defArgs s_law) (defBody s_law) (defScope s_law) .none kV10 dc10 pm10 an10 cd10 ct10, fun s v => .of_eq rfl, fun base _ _ => ?_⟩
  have hf_Tie___init__ := ok_Tie___init__ (P := l.prog) (w := w) (base := base) (fun_mk (st := s_Tie___init__) l0 c0 k0) B T 
  have h_mk_Pull := hf_Tie___init__.mkOf ⟨mk_Pull, r0_Pull, i0, kp_Pull⟩ (PySem.W.mg_of X G g_Pull)
  have h_mk_Push := hf_Tie___init__.mkOf ⟨mk_Push, r0_Push, i0, kp_Push⟩ (PySem.W.mg_of X G g_Push)
  have hf_Pull_wish := ok_Pull_wish (P := l.prog) (w := w) (base := base) (fun_mk (st := s_Pull_wish) l1 c1 k1) B T 
  have h_Pull_wish := hf_Pull_wish.meth T.cl_Pull ⟨r1_Pull, i1, k1⟩
  have hf_Push_wish := ok_Push_wish (P := l.prog) (w := w) (base := base) (fun_mk (st := s_Push_wish) l2 c2 k2) B T 
  have h_Push_wish := hf_Push_wish.meth T.cl_Push ⟨r2_Push, i2, k2⟩
  have hf_Tie_signed := ok_Tie_signed (P := l.prog) (w := w) (base := base) (fun_mk (st := s_Tie_signed) l3 c3 k3) B T h_Pull_wish h_Push_wish
  have h_Pull_signed := hf_Tie_signed.meth T.cl_Pull ⟨r3_Pull, i3, k3⟩
  have h_Push_signed := hf_Tie_signed.meth T.cl_Push ⟨r3_Push, i3, k3⟩
  have h_tie_of := ok_tie_of (P := l.prog) (w := w) (base := base) (fun_mk (st := s_tie_of) l4 c4 k4) (PySem.W.mg_of X G a4) B T h_mk_Push h_mk_Pull
  have h_law_whole := ok_law_whole (P := l.prog) (w := w) (base := base) (fun_mk (st := s_law_whole) l5 c5 k5) (PySem.W.mg_of X G a5) B T 
  have h_law_cell_at := ok_law_cell_at (P := l.prog) (w := w) (base := base) (fun_mk (st := s_law_cell_at) l6 c6 k6) (PySem.W.mg_of X G a6) B T 
  have h_law_made := ok_law_made (P := l.prog) (w := w) (base := base) (fun_mk (st := s_law_made) l7 c7 k7) (PySem.W.mg_of X G a7) B T h_tie_of h_mk_Pull h_mk_Push
  have h_law_refused := ok_law_refused (P := l.prog) (w := w) (base := base) (fun_mk (st := s_law_refused) l8 c8 k8) (PySem.W.mg_of X G a8) B T h_law_made
  have h_law_as_told := ok_law_as_told (P := l.prog) (w := w) (base := base) (fun_mk (st := s_law_as_told) l9 c9 k9) (PySem.W.mg_of X G a9) B T h_law_whole h_Pull_signed h_Push_signed
  exact ok_law (P := l.prog) (w := w) (base := base) (fun_mk (st := s_law) l10 c10 k10) B T h_law_made h_law_cell_at h_law_as_told h_law_refused
end Sf
open PySem PySem.W PyProof.Rows
set_option maxRecDepth 100000 in
set_option maxHeartbeats 0 in
theorem PySem.Challenge.cw_spinfloor_k03_ties_made_holds : PySem.Challenge.rw_spinfloor_k03_ties_made.Holds := by
  w_on; o_law; k_head; (case hw => w_witness2)
  k_fill
  refine Sf.walk_ofE (l := PySem.Challenge.rw_spinfloor_k03_ties_made) (n := 63) (k := 6) (sp := Sf.spLaw) rfl (by decide) rfl ⟨rfl, by decide, by decide⟩ (fun w h Y => PySem.W.kIn_of Y) ?F (fun _ _ a ns hl hb hS => ⟨a, ns, rfl, hS, hl, hb, fun _ => rfl⟩)
  case F =>
    intro w mg fa h KX G hmg
    refine' Sf.all_mk KX G hmg ?g_Pull ?g_Push ?g_Tie ?g_BadTie ?g_FloorError ?r0_Pull ?r0_Push ?i0 ?l0 ?c0 ?k0 ?r1_Pull ?i1 ?l1 ?c1 ?k1 ?r2_Push ?i2 ?l2 ?c2 ?k2 ?r3_Pull ?r3_Push ?i3 ?l3 ?c3 ?k3 ?a4 ?l4 ?c4 ?k4 ?a5 ?l5 ?c5 ?k5 ?a6 ?l6 ?c6 ?k6 ?a7 ?l7 ?c7 ?k7 ?a8 ?l8 ?c8 ?k8 ?a9 ?l9 ?c9 ?k9 ?a10 ?l10 ?c10 ?k10 ?z_isinstance ?z_int ?z_bool ?z_len ?z_range ?pg_Pull ?hd_Pull ?po_Pull ?sa_Pull ?mk_Pull ?kp_Pull ?n_Pull_one ?n_Pull_two ?n_Pull_strength ?pg_Push ?hd_Push ?po_Push ?sa_Push ?mk_Push ?kp_Push ?n_Push_one ?n_Push_two ?n_Push_strength ?x_og ?x_ot ?x_kp_BadTie ?x_be_BadTie ?x_ty_BadTie ?x_cl_BadTie ?x_hd_BadTie ?x_ga_BadTie ?x_gg_BadTie ?x_oc_BadTie ?x_om_BadTie ?x_sv_BadTie ?x_sb_BadTie_BadTie ?x_kp_FloorError ?x_be_FloorError ?x_ty_FloorError ?x_cl_FloorError ?x_hd_FloorError ?x_ga_FloorError ?x_gg_FloorError ?x_oc_FloorError ?x_om_FloorError ?x_sv_FloorError ?x_sb_FloorError_FloorError ?x_xn_BadTie ?x_sb_BadTie_FloorError ?x_oc_Pull ?x_om_Pull ?x_oc_Push ?x_om_Push ?x_ci_Tie ?x_ty_Tie ?x_sb_Pull_Tie ?x_sb_Pull_Pull ?x_sb_Push_Tie ?x_sb_Push_Push ?x_ci_Pull ?x_ty_Pull ?x_ci_Push ?x_ty_Push ?x_sb_Pull_Push ?x_sb_Push_Pull
    (case g_Pull => k_is); (case g_Push => k_is); (case g_Tie => k_is); (case g_BadTie => k_is); (case g_FloorError => k_is); (case r0_Pull => k_is); (case r0_Push => k_is); (case i0 => k_is); (case l0 => k_is); (case c0 => k_is); (case k0 => k_is); (case r1_Pull => k_is); (case i1 => k_is); (case l1 => k_is); (case c1 => k_is); (case k1 => k_is); (case r2_Push => k_is); (case i2 => k_is); (case l2 => k_is); (case c2 => k_is); (case k2 => k_is); (case r3_Pull => k_is); (case r3_Push => k_is); (case i3 => k_is); (case l3 => k_is); (case c3 => k_is); (case k3 => k_is); (case a4 => k_is); (case l4 => k_is); (case c4 => k_is); (case k4 => k_is); (case a5 => k_is); (case l5 => k_is); (case c5 => k_is); (case k5 => k_is); (case a6 => k_is); (case l6 => k_is); (case c6 => k_is); (case k6 => k_is); (case a7 => k_is); (case l7 => k_is); (case c7 => k_is); (case k7 => k_is); (case a8 => k_is); (case l8 => k_is); (case c8 => k_is); (case k8 => k_is); (case a9 => k_is); (case l9 => k_is); (case c9 => k_is); (case k9 => k_is); (case a10 => k_is); (case l10 => k_is); (case c10 => k_is); (case k10 => k_is); (case z_isinstance => k_is); (case z_int => k_is); (case z_bool => k_is); (case z_len => k_is); (case z_range => k_is); (case pg_Pull => k_is); (case hd_Pull => k_is); (case po_Pull => k_is); (case sa_Pull => k_is); (case mk_Pull => k_is); (case kp_Pull => k_is); (case n_Pull_one => k_is); (case n_Pull_two => k_is); (case n_Pull_strength => k_is); (case pg_Push => k_is); (case hd_Push => k_is); (case po_Push => k_is); (case sa_Push => k_is); (case mk_Push => k_is); (case kp_Push => k_is); (case n_Push_one => k_is); (case n_Push_two => k_is); (case n_Push_strength => k_is); (case x_og => k_is); (case x_ot => k_is); (case x_kp_BadTie => k_is); (case x_be_BadTie => k_is); (case x_ty_BadTie => k_is); (case x_cl_BadTie => k_is); (case x_hd_BadTie => k_is); (case x_ga_BadTie => k_is); (case x_gg_BadTie => k_is); (case x_oc_BadTie => k_is); (case x_om_BadTie => k_is); (case x_sv_BadTie => k_is); (case x_sb_BadTie_BadTie => first | rfl | k_is); (case x_kp_FloorError => k_is); (case x_be_FloorError => k_is); (case x_ty_FloorError => k_is); (case x_cl_FloorError => k_is); (case x_hd_FloorError => k_is); (case x_ga_FloorError => k_is); (case x_gg_FloorError => k_is); (case x_oc_FloorError => k_is); (case x_om_FloorError => k_is); (case x_sv_FloorError => k_is); (case x_sb_FloorError_FloorError => first | rfl | k_is); (case x_xn_BadTie => k_exc); (case x_sb_BadTie_FloorError => first | rfl | k_is); (case x_oc_Pull => k_is); (case x_om_Pull => k_is); (case x_oc_Push => k_is); (case x_om_Push => k_is); (case x_ci_Tie => k_is); (case x_ty_Tie => k_is); (case x_sb_Pull_Tie => first | rfl | k_is); (case x_sb_Pull_Pull => first | rfl | k_is); (case x_sb_Push_Tie => first | rfl | k_is); (case x_sb_Push_Push => first | rfl | k_is); (case x_ci_Pull => k_is); (case x_ty_Pull => k_is); (case x_ci_Push => k_is); (case x_ty_Push => k_is); (case x_sb_Pull_Push => first | rfl | k_is); (case x_sb_Push_Pull => first | rfl | k_is)

