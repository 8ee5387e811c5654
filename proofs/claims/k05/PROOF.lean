
import PyProof.Rows.All
import Wide.All
import OpenK.AllK
import Wide.FinOn
import HandS.ForMost
import HandS.Wide
import HandS.WideBits
import HandS.IsInst
import HandS.More
import HandS.EndBits
import HandS.SortInts
import KE.SortData
import HandS.TupLe
import HandS.Exc
import HandS.ExcOwn
import HandS.WordsExc
import HandS.ExcInit
import HandS.ExcField
import HandS.ExcIs
import HandS.TryOnly
import HandS.Small
import KE.KExcIs
import PySem.Challenge.RW_spinfloor_k05_refusals_apart
set_option Elab.async false
set_option linter.all false
set_option pp.deepTerms false
set_option pp.deepTerms.threshold 4
set_option maxRecDepth 100000
set_option maxHeartbeats 2000000
namespace Sf
open PySem PySem.Spec PyProof.Rows L2

/-! ### defs by name -/
structure Has (P : Program) (w : World) (K : PySem.W.Frag) (mg : Str → Option Value) (base : Heap) (CX : CXT) (k : Nat) (x : Str) (ps : List Str) (sp : Sp) : Prop where
  ex : ∃ f fd, FnOk P w K mg base CX k f fd ps sp ∧ mg x = some (.ref f) ∧ PySem.W.keepIn K (.ref f) = true ∧ Binds K fd ps []
section
variable {P : Program} {w : World} {K : PySem.W.Frag} {mg : Str → Option Value} {base : Heap} {x qual : Str} {ps N : List Str} {sp : Sp} {k : Nat}
theorem Has.mk' {st : Stmt} {f : Addr} {fd : FuncData} (F : Fun K x qual st f fd) (gf : mg x = some (.ref f)) (b : Binds K fd ps []) (S : FnScope N ps (defScope st)) (len : ∀ vs H Q E, sp vs H Q E → vs.length = ps.length)
    (hbody : ∀ (cdv : Value) (A : Around) (outer : List Env) (s : Shared) (H : Hp) (vs : List V) (Q : VK) (E : XK), Room k (A.deeper (envOfC qual (defScope st) s.heap.objs.size f cdv)) → sp vs H Q E →
      ∃ t, PSs (cxOf CX0 P w K mg base N qual (defScope st) f cdv A outer s H E).nox (defBody st) t ∧ t { nx := fun _ H' => Q .non H', rt := Q } (start N vs) H) : Has P w K mg base CX0 (k + 1) x ps sp :=
  ⟨f, fd, F.ok S len hbody, gf, F.kp, b⟩
end
section
variable {X : Cx} {k : Nat} {ps : List Str} {sp : Sp} {x : Str} {p pos : Pos} {e : Expr} {es : List Expr} {t : TA}
theorem pe_fn (h : Has X.prog X.w X.K X.mg X.base CX0 k x ps sp) (hr : Room k X.A) (hg : Gl X x) (ha : PA X (e :: es) t) (hdb : (x == ("__debug__" : Str)) = false := by decide) (he : starEach (e :: es) X.env = (false, eval e X.env) :: starEach es X.env := by rfl) (hpl : (backTo pos (starEach es X.env)).any (·.1) = false := by rfl) :
    PE X (.Call (.Name x p) (e :: es) [] pos) (tCall sp [] E0 t) := by
  obtain ⟨f, fd, F, gf, kp, b⟩ := h.ex
  exact pe_call F hr hg gf kp b .nil pass0 ha hdb he hpl
theorem pe_fn0 (h : Has X.prog X.w X.K X.mg X.base CX0 k x ps sp) (hr : Room k X.A) (hg : Gl X x) (hdb : (x == ("__debug__" : Str)) = false := by decide) :
    PE X (.Call (.Name x p) [] [] pos) (tCall sp [] E0 tNil) := by
  obtain ⟨f, fd, F, gf, kp, b⟩ := h.ex
  exact pe_call0 F hr hg gf kp b .nil pass0 hdb
end
/-! ### lists whose object is known to the sign; the sum of two -/
def LsE (K : PySem.W.Frag) (H : Hp) (a : Addr) (xs : List V) : Prop :=
  Rd H a (.lst xs) ∨ ∃ (its : List Value) (n : Nat), K.lookup a = some { cls := .type "list", data := .seq its.toArray n } ∧ Vals xs its ∧ xs.length ≤ sizeLine
theorem LsE.sq {K : PySem.W.Frag} {H : Hp} {a : Addr} {xs : List V} (h : LsE K H a xs) : SqL K H a xs := by
  rcases h with h | ⟨its, n, h1, h2, h3⟩
  · exact .inl h
  · exact .inr ⟨_, its.toArray, n, h1, rfl, rfl, rfl, by rw [List.size_toArray, ← h2.length]; exact h3, by simpa using h2⟩
theorem LsE.of {K : PySem.W.Frag} {H : Hp} {a : Addr} {xs : List V} (h : H a = some (.lst xs)) : LsE K H a xs := .inl (.inl h)
theorem LsE.same {K : PySem.W.Frag} {H H' : Hp} {a : Addr} {xs : List V} (e : Same H H') (h : LsE K H a xs) : LsE K H' a xs := by
  rcases h with (h | ⟨o, h⟩) | h
  · exact .inl (.inl (e _ _ h))
  · exact .inl (.inr ⟨o, e _ _ h⟩)
  · exact .inr h
section
variable {X : Cx}
theorem LsE.obj {pins : List (Addr × Obj)} {σ : L2.St} {H : Hp} {s : Shared} {a : Addr} {xs : List V} (I : Inv X pins σ H s) (h : LsE X.K H a xs) :
    ∃ (its : List Value) (n : Nat), Vals xs its ∧ s.heap.get? a = some { cls := .type "list", data := .seq its.toArray n } := by
  rcases h with h | ⟨its, n, h1, h2, _⟩
  · obtain ⟨_, its, n, r, e⟩ := h.ok I.hok
    exact ⟨its, n, r, e⟩
  · exact ⟨its, n, h2, I.kIn a _ h1⟩
def rCatE (K : PySem.W.Frag) : R2 := fun x y H Q => ∃ l b xs zs, x = .ref l ∧ y = .ref b ∧ LsE K H l xs ∧ LsE K H b zs ∧ xs.length + zs.length ≤ sizeLine ∧ ∀ p, H p = none → Q (.ref p) (upd H p (.lst (xs ++ zs)))
theorem op_catE : OpR X (binaryOp .Add) (rCatE X.K) := by
  intro pins s σ H x y v u Q I rx ry h
  obtain ⟨l, b, xs, zs, rfl, rfl, hl, hb, hz, q⟩ := h
  cases rx
  cases ry
  obtain ⟨ix, n, rl, el⟩ := hl.obj I
  obtain ⟨iz, m, rb, eb⟩ := hb.obj I
  refine PySem.P.add_list el eb ?_ (by simp only [List.size_toArray, ← rl.length, ← rb.length]; exact hz)
  have join : ix.toArray ++ iz.toArray = (ix ++ iz).toArray := by simp
  rw [join]
  exact ⟨.ref s.heap.objs.size, _, I.lnew (t' := s.toks) (rl.append rb) (by simpa using hz), rfl, q _ I.fresh⟩
end
/-! ### tests -/
theorem ifd {c A B : Prop} [Decidable c] (h1 : c → A) (h2 : ¬ c → B) : if decide c = true then A else B := by
  by_cases h : c
  · simp only [h, decide_true, if_true]; exact h1 h
  · simp only [h, decide_false, Bool.false_eq_true, if_false]; exact h2 h
theorem ifnd {c A B : Prop} [Decidable c] (h1 : ¬ c → A) (h2 : c → B) : if (!decide c) = true then A else B := by
  by_cases h : c
  · simp only [h, decide_true, Bool.not_true, Bool.false_eq_true, if_false]; exact h2 h
  · simp only [h, decide_false, Bool.not_false, if_true]; exact h1 h
theorem ifb {b : Bool} {A B : Prop} (h1 : b = true → A) (h2 : b = false → B) : if b = true then A else B := by
  cases b with
  | true => exact h1 rfl
  | false => exact h2 rfl
theorem ifT {b : Bool} {A B : Prop} (hb : b = true) (h : A) : if b = true then A else B := by rw [if_pos hb]; exact h
theorem ifF {b : Bool} {A B : Prop} (hb : b = false) (h : B) : if b = true then A else B := by rw [hb]; exact h
theorem int_eq {i j : Int} : (V.int i = V.int j) = (i = j) := by simp
theorem same_upd {H : Hp} {p : Addr} {o : HO} (h : H p = none) : Same H (upd H p o) := fun b x e => by
  rw [upd_ne (ne_of_none e h)]
  exact e
/-- a place that is free -/
def New (H : Hp) (p : Addr) : Prop := H p = none
theorem w_new {H : Hp} {R : Addr → Prop} (h : ∀ p, New H p → R p) : ∀ p, H p = none → R p := h
theorem ne_new {H : Hp} {a b : Addr} {o : HO} (h : H a = some o) (n : New H b) : a ≠ b := ne_of_none h n
/-- one more object over what was tracked at H -/
theorem _root_.L2.Same.new {H H' : Hp} {p : Addr} {o : HO} (e : Same H H') (h : New H' p) : Same H (upd H' p o) := e.trans (same_upd h)
theorem _root_.L2.Same.get {H H' : Hp} {p : Addr} {o : HO} (e : Same H H') (h : H p = some o) : H' p = some o := e p o h
theorem New.of {H H' : Hp} {p : Addr} (n : New H' p) (e : Same H H') : New H p := e.free n
/-- an object that H does not track is changed -/
theorem _root_.L2.Same.mut {H H' : Hp} {p : Addr} {o : HO} (e : Same H H') (h : New H p) : Same H (upd H' p o) := fun b x hb => by
  rw [upd_ne (ne_of_none hb h)]
  exact e b x hb
/-! ### isinstance of ints and bools -/
theorem kb_ii : kitB "int" "int" = some true := by decide +kernel
theorem kb_ib : kitB "int" "bool" = some false := by decide +kernel
theorem kb_bb : kitB "bool" "bool" = some true := by decide +kernel
theorem kb_bi : kitB "bool" "int" = some true := by decide +kernel
theorem kb_ll : kitB "list" "list" = some true := by decide +kernel
theorem kb_tt : kitB "tuple" "tuple" = some true := by decide +kernel
theorem kb_ni : kitB "NoneType" "int" = some false := by decide +kernel
theorem kb_nb : kitB "NoneType" "bool" = some false := by decide +kernel
theorem kb_tl : kitB "tuple" "list" = some false := by decide +kernel
theorem kb_lt : kitB "list" "tuple" = some false := by decide +kernel
/-! ### the law's end, the script's list known to the sign, its bits told -/
theorem walk_ofE {l : PySem.W.OpenLaw} {n k : Nat} {q : Program} {loose : List Str} {XP : (Str → Option Value) → Heap → Prop} {YP : World → Heap → Prop} {d : DefRec} {K : Params → PySem.W.Frag} {sp : PySem.W.Frag → Sp}
    (hn : l.most = some n) (hn2 : n ≤ sizeLine) (hdf : d.params.defaults = []) (hr : Room k callerA) (hY : ∀ (w : World) (h : Heap), YP w h → (K w.params).In h)
    (F : ∀ (w : World) (mg : Str → Option Value) (fa : Addr) (h : Heap), (K w.params).In h → h.Ns mainGlobals mg → mg d.name = some (.ref fa) →
      ∃ fd : FuncData, (∀ (s : Shared) (u : Value), BindsTo s fd ⟨[u], []⟩ [("script", u)]) ∧ ∀ base : Heap, (K w.params).In base → base.Ns mainGlobals mg → FnOk l.prog w (K w.params) mg base CX0 k fa fd ["script"] (sp (K w.params)))
    (hsp : ∀ (K : PySem.W.Frag) (H : Hp) (a : Addr) (ns : List Int), ns.length ≤ n → (∀ z ∈ ns, Builtin.Int.intBits z ≤ 1048576) → LsE K H a (ns.map V.int) → sp K [.ref a] H (fun v _ => v = .bl true) fun _ _ _ => False) :
    PySem.W.WalkO q loose XP YP l.row.toRowW d [] (fun f vs => PySem.call f vs) := by
  refine Att.attach_callB hn hdf fun w s₀ s₁ mg mb fa o pm cd doc a vs ns G Y ho hd hcd hmg hobj hints hlen hbits hg => ?_
  obtain ⟨fd, hb, hF⟩ := F w mg fa _ (hY w _ Y) G.T.g hmg
  refine law_call (hY w _ Y) G.T.g G.T.b G.T.builtins G.T.nolimit hg hobj hints (Nat.le_trans hlen hn2) hr hF hb (fun H _ hS => hsp _ H a ns hlen hbits ?_) fun _ _ _ h => h
  rcases hS with h | ⟨ob, its, m, hk, h1, h2, h3, h4, h5⟩
  · exact .inl h
  · have e := (hY w _ Y) a ob hk
    rw [hobj] at e
    cases e
    cases h3
    exact .inr ⟨vs, _, hk, by simpa using h5, by rw [List.length_map]; exact Nat.le_trans hlen hn2⟩
/-! ### bounds of operators -/
theorem cdivw_small {i j : Int} (h : 0 < j) (h2 : j < 2 ^ 200) : CDivW i j := wide_div (b := 200) h (by omega) (by decide) (by decide)
theorem nab_lt {i : Int} {a : Nat} (h1 : -(2 ^ a) < i) (h2 : i < 2 ^ a) : i.natAbs < 2 ^ a := by
  have e : ((2 ^ a : Nat) : Int) = (2 : Int) ^ a := by simp
  omega
theorem cmulx_small {i j : Int} (h1 : -(2 ^ 200) < i) (h2 : i < 2 ^ 200) (h3 : -(2 ^ 200) < j) (h4 : j < 2 ^ 200) : CMulX i j := mulx_ok (nab_lt h1 h2) (nab_lt h3 h4) (by decide)
theorem cshl_one {j : Int} (h : 0 ≤ j) (h2 : j ≤ 100000) : CShl 1 j := by
  have e : ((j.toNat : Nat) : Int) = j := Int.toNat_of_nonneg h
  rw [← e]
  exact shl_ok (n := 1) (by decide) (by omega)
theorem cshl_small {i j : Int} (h0 : -(2 ^ 200) < i) (h1 : i < 2 ^ 200) (h : 0 ≤ j) (h2 : j ≤ 100000) : CShl i j := by
  have e : ((j.toNat : Nat) : Int) = j := Int.toNat_of_nonneg h
  rw [← e]
  exact shl_ok (n := 200) (nab_lt h0 h1) (by omega)
theorem szle {α : Type} {xs : List α} (h : Nat.ble xs.length 1000 = true) : xs.length ≤ sizeLine := Nat.le_trans (Nat.le_of_ble_eq_true h) (by decide)
theorem szlt {α : Type} {xs : List α} (h : xs.length < 1000000) : xs.length < sizeLine := Nat.lt_of_lt_of_le h (by decide)
theorem atI_get {α : Type} {xs : List α} {i : Int} {j : Nat} (e : i = j) (h : j < xs.length) : atI xs i = some xs[j] := by
  subst e
  exact atI_nat (List.getElem?_eq_getElem h)
theorem atI_map {α β : Type} {f : α → β} {xs : List α} {i : Int} {j : Nat} (e : i = j) (h : j < xs.length) : atI (xs.map f) i = some (f xs[j]) := by
  subst e
  exact atI_nat (by rw [List.getElem?_map, List.getElem?_eq_getElem h]; rfl)
/-! ### the readings, one at a time -/
section
variable {σ : L2.St} {H : Hp} {Q : VK} {QT : Bool → Hp → Prop} {QA : List V → Hp → Prop} {D : Ends} {v x y z : V} {ta tb tc te tv : TE} {t u c : TT} {ts us : TS} {tl tr : TA} {r : R2} {g : TG} {gs : TGs} {i j : Nat} {m n : Int} {K : PySem.W.Frag} {a p q C dx : Addr} {f : Str} {xs ys : List V} {fs : List (Str × V)}
theorem w_seq (h : ts { D with nx := us D } σ H) : tSeq ts us D σ H := h
theorem w_next (h : D.nx σ H) : tNext D σ H := h
theorem w_var (h : ∃ v, σ[i]? = some (some v) ∧ Q v H) : tVar i σ H Q := h
theorem w_c (h : Q v H) : tC v σ H Q := h
theorem w_op (h : ta σ H fun x H1 => tb σ H1 fun y H2 => r x y H2 Q) : tOp r ta tb σ H Q := h
theorem w_un {r : V → Hp → VK → Prop} (h : ta σ H fun x H1 => r x H1 Q) : tUn r ta σ H Q := h
theorem w_rI0 {g : Int → Int → V} (h : Q (g m n) H) : rI0 g (.int m) (.int n) H Q := ⟨m, n, rfl, rfl, h⟩
theorem w_mod (h0 : 0 < n) (h : Q (.int (m % n)) H) : rI (fun _ j => 0 < j) (fun i j => .int (i % j)) (.int m) (.int n) H Q := ⟨m, n, rfl, rfl, h0, h⟩
theorem w_div (h0 : 0 < n) (h1 : n < 2 ^ 200) (h : Q (.int (m / n)) H) : rI CDivW (fun i j => .int (i / j)) (.int m) (.int n) H Q := ⟨m, n, rfl, rfl, cdivw_small h0 h1, h⟩
theorem w_shr (h0 : 0 ≤ n) (h : Q (.int (m / 2 ^ n.toNat)) H) : rI (fun _ j => 0 ≤ j) (fun i j => .int (i / 2 ^ j.toNat)) (.int m) (.int n) H Q := ⟨m, n, rfl, rfl, h0, h⟩
theorem w_mul (h1 : -(2 ^ 200) < m) (h2 : m < 2 ^ 200) (h3 : -(2 ^ 200) < n) (h4 : n < 2 ^ 200) (h : Q (.int (m * n)) H) : rI CMulX (fun i j => .int (i * j)) (.int m) (.int n) H Q := ⟨m, n, rfl, rfl, cmulx_small h1 h2 h3 h4, h⟩
theorem w_shl1 (h1 : 0 ≤ n) (h2 : n ≤ 100000) (h : Q (.int (1 * 2 ^ n.toNat)) H) : rI CShl (fun i j => .int (i * 2 ^ j.toNat)) (.int 1) (.int n) H Q := ⟨1, n, rfl, rfl, cshl_one h1 h2, h⟩
theorem w_shl (h1 : -(2 ^ 200) < m) (h2 : m < 2 ^ 200) (h3 : 0 ≤ n) (h4 : n ≤ 100000) (h : Q (.int (m * 2 ^ n.toNat)) H) : rI CShl (fun i j => .int (i * 2 ^ j.toNat)) (.int m) (.int n) H Q := ⟨m, n, rfl, rfl, cshl_small h1 h2 h3 h4, h⟩
theorem w_pow (h0 : CPow m n) (h : Q (.int (m ^ n.toNat)) H) : rI CPow (fun i j => .int (i ^ j.toNat)) (.int m) (.int n) H Q := ⟨m, n, rfl, rfl, h0, h⟩
theorem w_rU {g : Int → V} (h : Q (g m) H) : rU g (.int m) H Q := ⟨m, rfl, h⟩
theorem dec_ii : decide (V.int m = V.int n) = decide (m = n) := by
  by_cases h : m = n
  · rw [h]; simp
  · simp [h]
theorem dec_bb {a b : Bool} : decide (V.bl a = V.bl b) = decide (a = b) := by cases a <;> cases b <;> decide
theorem dec_ss {a b : Str} : decide (V.str a = V.str b) = decide (a = b) := by
  by_cases h : a = b
  · rw [h]; simp
  · simp [h]
theorem w_eqI (h : Q (.bl (decide (m = n))) H) : rEq (.int m) (.int n) H Q := ⟨rfl, by rw [dec_ii]; exact h⟩
theorem w_eqB {a b : Bool} (h : Q (.bl (decide (a = b))) H) : rEq (.bl a) (.bl b) H Q := ⟨rfl, by rw [dec_bb]; exact h⟩
theorem w_eqS {a b : Str} (h : Q (.bl (decide (a = b))) H) : rEq (.str a) (.str b) H Q := ⟨rfl, by rw [dec_ss]; exact h⟩
theorem w_eqNI (h : Q (.bl false) H) : rEq .non (.int n) H Q := ⟨rfl, by rw [decide_eq_false (by simp)]; exact h⟩
theorem w_eqIN (h : Q (.bl false) H) : rEq (.int n) .non H Q := ⟨rfl, by rw [decide_eq_false (by simp)]; exact h⟩
theorem w_neI (h : Q (.bl (!decide (m = n))) H) : rNe (.int m) (.int n) H Q := ⟨rfl, by rw [dec_ii]; exact h⟩
theorem w_neB {a b : Bool} (h : Q (.bl (!decide (a = b))) H) : rNe (.bl a) (.bl b) H Q := ⟨rfl, by rw [dec_bb]; exact h⟩
theorem w_neS {a b : Str} (h : Q (.bl (!decide (a = b))) H) : rNe (.str a) (.str b) H Q := ⟨rfl, by rw [dec_ss]; exact h⟩
theorem w_ixL (hs : SqL K H p xs) (ha : atI xs m = some v) (h : Q v H) : rIxL K (.ref p) (.int m) H Q := ⟨p, xs, m, v, rfl, rfl, hs, ha, h⟩
theorem w_ixT (hs : SqT K H p xs) (ha : atI xs m = some v) (h : Q v H) : rIxT K (.ref p) (.int m) H Q := ⟨p, xs, m, v, rfl, rfl, hs, ha, h⟩
theorem w_ixl (hs : SqL K H p xs) (ha : atI xs m = some v) (h : Q v H) : rIx K (.ref p) (.int m) H Q := .inl ⟨p, xs, m, v, rfl, rfl, hs, ha, h⟩
theorem w_ixt (hs : SqT K H p xs) (ha : atI xs m = some v) (h : Q v H) : rIx K (.ref p) (.int m) H Q := .inr (.inl ⟨p, xs, m, v, rfl, rfl, hs, ha, h⟩)
theorem w_catE (h1 : LsE K H p xs) (h2 : LsE K H q ys) (hz : xs.length + ys.length ≤ sizeLine) (h : ∀ p, H p = none → Q (.ref p) (upd H p (.lst (xs ++ ys)))) : rCatE K (.ref p) (.ref q) H Q := ⟨p, q, xs, ys, rfl, rfl, h1, h2, hz, h⟩
theorem w_rep (h1 : H p = some (.lst xs)) (h2 : -(2 ^ 63) ≤ n) (h3 : n < 2 ^ 63) (h4 : xs.length * n.toNat ≤ sizeLine) (h : ∀ p, H p = none → Q (.ref p) (upd H p (.lst (List.replicate n.toNat xs).flatten))) : rRep (.ref p) (.int n) H Q := ⟨p, n, xs, rfl, rfl, h1, h2, h3, h4, h⟩
theorem w_test (h : te σ H fun x H' => ∃ k, x = .bl k ∧ QT k H') : tTest te σ H QT := h
theorem w_tB (h : te σ H fun x H' => ∃ k, x = .bl k ∧ QT k H') : tB te σ H QT := h
theorem w_bl {b : Bool} {R : Bool → Prop} (h : R b) : ∃ k, V.bl b = .bl k ∧ R k := ⟨b, rfl, h⟩
theorem w_and (h : t σ H fun c H1 => if c = true then u σ H1 QT else QT false H1) : tAnd t u σ H QT := h
theorem w_or (h : t σ H fun c H1 => if c = true then QT true H1 else u σ H1 QT) : tOr t u σ H QT := h
theorem w_not (h : t σ H fun c H1 => QT (!c) H1) : tNot t σ H QT := h
theorem w_andV (h : ta σ H fun x H1 => ∃ c, x = .bl c ∧ if c = true then tb σ H1 Q else Q (.bl false) H1) : tAndV ta tb σ H Q := h
theorem w_orV (h : ta σ H fun x H1 => ∃ c, x = .bl c ∧ if c = true then Q (.bl true) H1 else tb σ H1 Q) : tOrV ta tb σ H Q := h
theorem w_notV (h : ta σ H fun x H1 => ∃ c, x = .bl c ∧ Q (.bl (!c)) H1) : tNotV ta σ H Q := h
theorem w_ifE (h : t σ H fun c H1 => if c = true then ta σ H1 Q else tb σ H1 Q) : tIf t ta tb σ H Q := h
theorem w_asg (h : te σ H fun x H1 => g x σ H1 D.nx) : tAsg te g D σ H := h
theorem w_gn {R : L2.St → Hp → Prop} (h : R (σ.set i (some v)) H) : gName i v σ H R := h
theorem w_gt {R : L2.St → Hp → Prop} {k : Nat} (hs : SqT K H p xs) (hl : xs.length = k) (h : gs xs σ H R) : gTup K k gs (.ref p) σ H R := ⟨p, xs, rfl, hs, hl, h⟩
theorem w_gc {R : L2.St → Hp → Prop} (h : g v σ H fun σ' H' => gs xs σ' H' R) : gCons g gs (v :: xs) σ H R := ⟨v, xs, rfl, h⟩
theorem w_g0 {R : L2.St → Hp → Prop} (h : R σ H) : gNil [] σ H R := ⟨rfl, h⟩
theorem w_gs {R : L2.St → Hp → Prop} {tt : TSet} (h : ta σ H fun o H1 => tb σ H1 fun i H2 => tt o i v H2 fun H3 => R σ H3) : gSub ta tb tt v σ H R := h
theorem w_setL {R : Hp → Prop} (hp : H p = some (.lst xs)) (hj : ixN xs.length m = some j) (h : R (upd H p (.lst (xs.set j v)))) : rSetL (.ref p) (.int m) v H R := ⟨p, xs, m, j, rfl, rfl, hp, hj, h⟩
theorem w_drop (h : te σ H fun _ H1 => D.nx σ H1) : tDrop te D σ H := h
theorem w_ret (h : te σ H D.rt) : tRet te D σ H := h
theorem w_retN (h : D.rt .non H) : tRetN D σ H := h
theorem w_if (h : t σ H fun b H1 => if b = true then ts D σ H1 else us D σ H1) : tIfS t ts us D σ H := h
theorem w_break (h : D.bk σ H) : tBreak D σ H := h
theorem w_cont (h : D.ct σ H) : tCont D σ H := h
theorem w_aug {ti : TIp} (h : ∃ x, σ[i]? = some (some x) ∧ te σ H fun y H1 => ti x y H1 fun z H2 => D.nx (σ.set i (some z)) H2) : tAug i te ti D σ H := h
theorem w_ip {f : Int → Int → Int} (h : Q (.int (f m n)) H) : ipI f (.int m) (.int n) H Q := ⟨m, n, rfl, rfl, h⟩
theorem w_par (h : tl σ H fun vs H1 => ∃ v w, vs = [v, w] ∧ D.nx ((σ.set i (some v)).set j (some w)) H1) : tPar i j tl D σ H := h
theorem w_par2 {R : V → V → Prop} (h : R v x) : ∃ a b, [v, x] = [a, b] ∧ R a b := ⟨v, x, rfl, h⟩
theorem w_nil (h : QA [] H) : tNil σ H QA := h
theorem w_cons (h : ta σ H fun x H1 => tl σ H1 fun xs H2 => QA (x :: xs) H2) : tCons ta tl σ H QA := h
theorem w_call {sp : Sp} {E : XK} (h : tl σ H fun vs H1 => sp vs H1 Q E) : tCall sp [] E tl σ H Q := by
  unfold tCall
  simp only [List.append_nil]
  exact h
theorem w_cb {r : List V → Hp → VK → Prop} (h : tl σ H fun vs H1 => r vs H1 Q) : tCB r tl σ H Q := h
theorem w_tup (h : tl σ H fun xs H1 => xs.length ≤ sizeLine ∧ ∀ p, H1 p = none → Q (.ref p) (upd H1 p (.tup xs))) : tTup tl σ H Q := h
theorem w_lst (h : tl σ H fun xs H1 => xs.length ≤ sizeLine ∧ ∀ p, H1 p = none → Q (.ref p) (upd H1 p (.lst xs))) : tLst tl σ H Q := h
theorem w_sl {r : V → Option Int → Option Int → Hp → VK → Prop} {to tu : TO} (h : te σ H fun x H1 => to σ H1 fun l H2 => tu σ H2 fun u H3 => r x l u H3 Q) : tSl r te to tu σ H Q := h
theorem w_np {R : Option Int → Hp → Prop} (h : R none H) : tNoPart σ H R := h
theorem w_part {R : Option Int → Hp → Prop} (h : te σ H fun x H1 => ∃ i, x = .int i ∧ R (some i) H1) : tPart te σ H R := h
theorem w_partI {R : Int → Prop} (h : R m) : ∃ i, V.int m = .int i ∧ R i := ⟨m, rfl, h⟩
theorem w_slL {lo hi : Option Int} (hs : SqL K H p xs) (h : ∀ q, H q = none → Q (.ref q) (upd H q (.lst (cutV xs lo hi)))) : rSlL K (.ref p) lo hi H Q := ⟨p, xs, rfl, hs, h⟩
theorem w_bm {T : String} {r : V → List V → Hp → VK → Prop} (h : ta σ H fun x H1 => tyV K T x H1 ∧ tl σ H1 fun xs H2 => r x xs H2 Q) : tBM K T r ta tl σ H Q := h
theorem w_bm0 {T : String} {r : V → List V → Hp → VK → Prop} (h : ta σ H fun x H1 => tyV K T x H1 ∧ r x [] H1 Q) : tBM0 K T r ta σ H Q := h
theorem w_tyl {R : Prop} (hs : SqL K H p xs) (h : R) : tyV K "list" (.ref p) H ∧ R := ⟨.inl ⟨rfl, xs, hs⟩, h⟩
theorem w_app (hp : H p = some (.lst xs)) (hl : xs.length < sizeLine) (h : Q .non (upd H p (.lst (xs ++ [v])))) : rAppend (.ref p) [v] H Q := ⟨p, xs, v, rfl, rfl, hp, hl, h⟩
theorem w_rev (hp : H p = some (.lst xs)) (h : Q .non (upd H p (.lst xs.reverse))) : rReverse (.ref p) [] H Q := ⟨p, xs, rfl, rfl, hp, h⟩
theorem w_len {R : List V → Prop} (hs : SqL K H p xs) (h : R xs) : ∃ p' ys, [V.ref p] = [.ref p'] ∧ (SqL K H p' ys ∨ SqT K H p' ys) ∧ R ys := ⟨p, xs, rfl, .inl hs, h⟩
theorem w_lenT {R : List V → Prop} (hs : SqT K H p xs) (h : R xs) : ∃ p' ys, [V.ref p] = [.ref p'] ∧ (SqL K H p' ys ∨ SqT K H p' ys) ∧ R ys := ⟨p, xs, rfl, .inr hs, h⟩
theorem w_isi {s : String} {b : Bool} (hk : kitB "int" s = some b) (h : Q (.bl b) H) : rIsi K [.int m, .ty s] H Q := ⟨_, _, _, _, b, rfl, .ty _, .base (.int _), kit_ty hk, h⟩
theorem w_isb {k : Bool} {s : String} {b : Bool} (hk : kitB "bool" s = some b) (h : Q (.bl b) H) : rIsi K [.bl k, .ty s] H Q := ⟨_, _, _, _, b, rfl, .ty _, .base (.bl _), kit_ty hk, h⟩
theorem w_isn {s : String} {b : Bool} (hk : kitB "NoneType" s = some b) (h : Q (.bl b) H) : rIsi K [.non, .ty s] H Q := ⟨_, _, _, _, b, rfl, .ty _, .base .non, kit_ty hk, h⟩
theorem w_isl {s : String} {b : Bool} (hp : H p = some (.lst xs)) (hk : kitB "list" s = some b) (h : Q (.bl b) H) : rIsi K [.ref p, .ty s] H Q := ⟨_, _, _, _, b, rfl, .ty _, .base (.lst hp), kit_ty hk, h⟩
theorem w_ist {s : String} {b : Bool} (hp : H p = some (.tup xs)) (hk : kitB "tuple" s = some b) (h : Q (.bl b) H) : rIsi K [.ref p, .ty s] H Q := ⟨_, _, _, _, b, rfl, .ty _, .base (.tup hp), kit_ty hk, h⟩
theorem w_2i {R : Int → Int → Prop} (h : R m n) : ∃ i j, [V.int m, V.int n] = [.int i, .int j] ∧ R i j := ⟨m, n, rfl, h⟩
theorem w_1i {R : Int → Prop} (h : R m) : ∃ i, [V.int m] = [.int i] ∧ R i := ⟨m, rfl, h⟩
theorem w_int1 {R : Int → Prop} {S : Prop} (h : R m) : (∃ i, [V.int m] = [.int i] ∧ R i) ∨ S := .inl ⟨m, rfl, h⟩
theorem w_intb {b : Bool} {R : Bool → Prop} {S : Prop} (h : R b) : S ∨ ∃ k, [V.bl b] = [.bl k] ∧ R k := .inr ⟨b, rfl, h⟩
theorem w_isN {R : Prop} (h : R) : V.non = .non ∧ R := ⟨rfl, h⟩
theorem w_fld {v : V} {R : V → Prop} (hp : H p = some (.ins C dx fs)) (hc : Cls K C) (hn : NoAttr K C f) (hl : fs.lookup f = some v) (h : R v) : ∃ a C' dx' fs' v', V.ref p = .ref a ∧ H a = some (.ins C' dx' fs') ∧ Cls K C' ∧ NoAttr K C' f ∧ fs'.lookup f = some v' ∧ R v' := ⟨p, C, dx, fs, v, rfl, hp, hc, hn, hl, h⟩
theorem w_fl (h : ta σ H fun x H1 => ∃ a C dx fs v, x = .ref a ∧ H1 a = some (.ins C dx fs) ∧ Cls K C ∧ NoAttr K C f ∧ fs.lookup f = some v ∧ Q v H1) : tFld K ta f σ H Q := h
theorem w_for {wi : TI} {tu : TS} (h : wi σ H fun J H1 => ∃ W : Nat → Nat → L2.St → Hp → Prop, (∃ m, W 0 m σ H1) ∧ ∀ i m σ H, W i m σ H →
  (J.stop i H ∧ D.nx σ H) ∨ (J.go i H ∧ ∃ N : L2.St → Hp → Prop, (∀ σ' H', N σ' H' → ∃ m', m' < m ∧ W (i + 1) m' σ' H') ∧ ∀ x H', J.yld i H x H' → g x σ H' fun σ2 H2 => tu { D with nx := N, ct := N, bk := D.nx } σ2 H2)) : tFor wi g tu D σ H := h
theorem w_iL {R : It → Hp → Prop} (h : te σ H fun x H1 => ∃ a, x = .ref a ∧ (∃ xs, SqL K H1 a xs) ∧ R (Itl K a) H1) : iList K te σ H R := h
theorem w_iLq {R : Addr → Prop} (hs : SqL K H p xs) (h : R p) : ∃ a, V.ref p = .ref a ∧ (∃ xs, SqL K H a xs) ∧ R a := ⟨p, rfl, ⟨xs, hs⟩, h⟩
theorem w_iTu {R : It → Hp → Prop} (h : te σ H fun x H1 => ∃ a, x = .ref a ∧ (∃ xs, SqT K H1 a xs) ∧ R (Itt K a) H1) : iTup K te σ H R := h
theorem w_iTq {R : Addr → Prop} (hs : SqT K H p xs) (h : R p) : ∃ a, V.ref p = .ref a ∧ (∃ xs, SqT K H a xs) ∧ R a := ⟨p, rfl, ⟨xs, hs⟩, h⟩
theorem w_r1 {R : It → Hp → Prop} (h : tl σ H fun vs H1 => ∃ j : Int, vs = [.int j] ∧ -(2 ^ 62) ≤ j ∧ j < 2 ^ 62 ∧ R (Itr 0 j.toNat) H1) : iRng1 tl σ H R := h
theorem w_r1q {R : Int → Prop} (h1 : -(2 ^ 62) ≤ m) (h2 : m < 2 ^ 62) (h : R m) : ∃ j : Int, [V.int m] = [.int j] ∧ -(2 ^ 62) ≤ j ∧ j < 2 ^ 62 ∧ R j := ⟨m, rfl, h1, h2, h⟩
theorem w_r2 {R : It → Hp → Prop} (h : tl σ H fun vs H1 => ∃ i j : Int, vs = [.int i, .int j] ∧ (-(2 ^ 62) ≤ i ∧ i < 2 ^ 62 ∧ -(2 ^ 62) ≤ j ∧ j < 2 ^ 62) ∧ R (Itr i (j - i).toNat) H1) : iRng2 tl σ H R := h
theorem w_r2q {R : Int → Int → Prop} (h1 : -(2 ^ 62) ≤ m) (h2 : m < 2 ^ 62) (h3 : -(2 ^ 62) ≤ n) (h4 : n < 2 ^ 62) (h : R m n) : ∃ i j : Int, [V.int m, V.int n] = [.int i, .int j] ∧ (-(2 ^ 62) ≤ i ∧ i < 2 ^ 62 ∧ -(2 ^ 62) ≤ j ∧ j < 2 ^ 62) ∧ R i j := ⟨m, n, rfl, ⟨h1, h2, h3, h4⟩, h⟩
theorem w_len1 {R : Prop} (hl : Nat.ble xs.length 1000 = true) (h : R) : xs.length ≤ sizeLine ∧ R := ⟨szle hl, h⟩
end
theorem same_read {K : PySem.W.Frag} {H H' : Hp} {a : Addr} {xs : List V} (e : Same H H') (h : SqT K H a xs) : SqT K H' a xs := by
  rcases h with (h | ⟨o, h⟩) | h
  · exact .inl (.inl (e _ _ h))
  · exact .inl (.inr ⟨o, e _ _ h⟩)
  · exact .inr h
theorem w_iT {A B : Prop} (h : A) : if true = true then A else B := by rw [if_pos rfl]; exact h
theorem w_iF {A B : Prop} (h : B) : if false = true then A else B := by rw [if_neg Bool.false_ne_true]; exact h
theorem w_iNT {A B : Prop} (h : B) : if (!true) = true then A else B := by rw [Bool.not_true, if_neg Bool.false_ne_true]; exact h
theorem w_iNF {A B : Prop} (h : A) : if (!false) = true then A else B := by rw [Bool.not_false, if_pos rfl]; exact h
theorem w_iNN {A B : Prop} {b : Bool} (h : if b = true then A else B) : if (!!b) = true then A else B := by rw [Bool.not_not]; exact h

/-! ### data -/
mutual
theorem dpSame {K : PySem.W.Frag} {H H' : Hp} (e : Same H H') : ∀ (d : PyData) (v : V), Dp K H v d → Dp K H' v d
  | .none, _, h => by cases h; exact .non
  | .bool _, _, h => by cases h; exact .bl _
  | .int _, _, h => by cases h; exact .int _
  | .str _, _, h => by cases h; exact .str _
  | .list ds, _, h => by
    cases h with
    | lst hs ha => exact .lst (e.seq hs) (dpSameAll e ds _ ha)
  | .tuple ds, _, h => by
    cases h with
    | tup hs ha => exact .tup (same_read e hs) (dpSameAll e ds _ ha)
  | .dict _, _, h => by cases h
theorem dpSameAll {K : PySem.W.Frag} {H H' : Hp} (e : Same H H') : ∀ (ds : List PyData) (xs : List V), DpAll K H xs ds → DpAll K H' xs ds
  | [], _, h => by cases h; exact .nil
  | d :: ds, _, h => by
    cases h with
    | cons h1 h2 => exact .cons (dpSame e d _ h1) (dpSameAll e ds _ h2)
end
section
variable {K : PySem.W.Frag} {H H' : Hp} {xs ys : List V} {ds es : List PyData} {v : V} {d : PyData} {a : Addr}
theorem _root_.L2.Dp.same (e : Same H H') (h : Dp K H v d) : Dp K H' v d := dpSame e d v h
theorem _root_.L2.DpAll.same (e : Same H H') (h : DpAll K H xs ds) : DpAll K H' xs ds := dpSameAll e ds xs h
theorem dpaLen : ∀ {xs : List V} {ds : List PyData}, DpAll K H xs ds → xs.length = ds.length
  | _, _, .nil => rfl
  | _, _, .cons _ t => by rw [List.length_cons, List.length_cons, dpaLen t]
theorem dpaGet : ∀ {xs : List V} {ds : List PyData} {i : Nat} {d : PyData}, DpAll K H xs ds → ds[i]? = some d → ∃ v, xs[i]? = some v ∧ Dp K H v d
  | _, _, _, _, .nil, e => by simp at e
  | _, _, 0, _, .cons h _, e => by simp at e; subst e; exact ⟨_, rfl, h⟩
  | _, _, i + 1, _, .cons _ t, e => by
    obtain ⟨v, h1, h2⟩ := dpaGet (i := i) t (by simpa using e)
    exact ⟨v, by simpa using h1, h2⟩
theorem dpaApp : ∀ {xs ys : List V} {ds es : List PyData}, DpAll K H xs ds → DpAll K H ys es → DpAll K H (xs ++ ys) (ds ++ es)
  | _, _, _, _, .nil, h => h
  | _, _, _, _, .cons h t, s => .cons h (dpaApp t s)
theorem dpInts : ∀ ns : List Int, DpAll K H (ns.map V.int) (ns.map PyData.int)
  | [] => .nil
  | n :: r => .cons (.int n) (dpInts r)
theorem dpAll_ints : ∀ {ns : List Int} {xs : List V}, DpAll K H xs (ns.map PyData.int) → xs = ns.map V.int
  | [], _, h => by cases h; rfl
  | n :: r, _, h => by
    cases h with
    | cons h t => cases h; rw [dpAll_ints t]; rfl
theorem dpInt {i : Int} (h : Dp K H v (.int i)) : v = .int i := by cases h; rfl
theorem dpTup (h : Dp K H v (.tuple ds)) : ∃ a xs, v = .ref a ∧ SqT K H a xs ∧ DpAll K H xs ds := by cases h with | tup h1 h2 => exact ⟨_, _, rfl, h1, h2⟩
theorem dpLst (h : Dp K H v (.list ds)) : ∃ a xs, v = .ref a ∧ SqL K H a xs ∧ DpAll K H xs ds := by cases h with | lst h1 h2 => exact ⟨_, _, rfl, h1, h2⟩
theorem dpLstA (h : Dp K H (.ref a) (.list ds)) : ∃ xs, SqL K H a xs ∧ DpAll K H xs ds := by cases h with | lst h1 h2 => exact ⟨_, h1, h2⟩
theorem dpTupA (h : Dp K H (.ref a) (.tuple ds)) : ∃ xs, SqT K H a xs ∧ DpAll K H xs ds := by cases h with | tup h1 h2 => exact ⟨_, h1, h2⟩
end
/-- data that == serves: no dicts, no deeper than n -/
def Good (n : Nat) (d : PyData) : Prop := d.canLay0 = true ∧ d.depth ≤ n
theorem goodInt {n : Nat} {i : Int} : Good n (.int i) := ⟨rfl, Nat.zero_le _⟩
theorem goodBool {n : Nat} {b : Bool} : Good n (.bool b) := ⟨rfl, Nat.zero_le _⟩
theorem goodNone {n : Nat} : Good n .none := ⟨rfl, Nat.zero_le _⟩
theorem goodAll {n : Nat} : ∀ {ds : List PyData}, (∀ d ∈ ds, Good n d) → PyData.canLayAll0 ds = true ∧ PyData.depthAll ds ≤ n
  | [], _ => ⟨rfl, Nat.zero_le _⟩
  | d :: ds, h => by
    obtain ⟨h1, h2⟩ := h d List.mem_cons_self
    obtain ⟨h3, h4⟩ := goodAll fun e he => h e (List.mem_cons_of_mem _ he)
    exact ⟨by simp [PyData.canLayAll0, h1, h3], by simp only [PyData.depthAll]; omega⟩
theorem goodLst {n : Nat} {ds : List PyData} (h : ∀ d ∈ ds, Good n d) : Good (n + 1) (.list ds) := ⟨(goodAll h).1, Nat.succ_le_succ (goodAll h).2⟩
theorem goodTup {n : Nat} {ds : List PyData} (h : ∀ d ∈ ds, Good n d) : Good (n + 1) (.tuple ds) := ⟨(goodAll h).1, Nat.succ_le_succ (goodAll h).2⟩
theorem goodMap {α : Type} {n : Nat} {f : α → PyData} {xs : List α} (h : ∀ x, Good n (f x)) : ∀ d ∈ xs.map f, Good n d := by
  intro d hd
  obtain ⟨x, _, rfl⟩ := List.mem_map.mp hd
  exact h x
theorem Good.mono {n m : Nat} {d : PyData} (h : Good n d) (e : n ≤ m) : Good m d := ⟨h.1, Nat.le_trans h.2 e⟩
theorem Good.shaped {n : Nat} {d : PyData} (h : Good n d) (e : n ≤ 64) : SeqAt.shaped d = true := by
  unfold SeqAt.shaped
  rw [h.1, decide_eq_true (Nat.le_trans h.2 e)]
  rfl
theorem Good.eqv {n : Nat} {d : PyData} (h : Good n d) : PyData.eqv d d = true := SeqAt.eqv_refl d h.1
section
variable {K : PySem.W.Frag} {H : Hp} {x y : V} {d : PyData} {Q : VK} {n : Nat}
/-- two things of the same data are equal -/
theorem w_eqD (h1 : Dp K H x d) (h2 : Dp K H y d) (g : Good n d) (hn : n ≤ 64) (h : Q (.bl true) H) : rEqD K x y H Q := ⟨d, d, h1, h2, g.shaped hn, g.shaped hn, by rw [g.eqv]; exact h⟩
theorem w_neD (h1 : Dp K H x d) (h2 : Dp K H y d) (g : Good n d) (hn : n ≤ 64) (h : Q (.bl false) H) : rNeD K x y H Q := ⟨d, d, h1, h2, g.shaped hn, g.shaped hn, by rw [g.eqv]; exact h⟩
end
/-! ### xs[i] op= e -/
def rGetL (K : PySem.W.Frag) : V → V → Hp → VK → Prop := fun x y H Q => ∃ (p : Addr) (xs : List V) (j : Nat) (v : V), x = .ref p ∧ y = .int j ∧ SqL K H p xs ∧ xs[j]? = some v ∧ Q v H
theorem get_list {X : Cx} : PGet X (rGetL X.K) := by
  intro pins s σ H o i ov iv Q I ro ri h
  obtain ⟨p, xs, j, v, rfl, rfl, hq, he, q⟩ := h
  cases ro
  obtain ⟨t, rfl⟩ := ri
  obtain ⟨its, r, pl, hz⟩ := I.list hq
  obtain ⟨u, eu, ru⟩ := r.get he
  have hj : j < xs.length := (List.getElem?_eq_some_iff.mp he).1
  have hn := line63
  exact wpAny_getItem_list pl.isList (Int.natCast_nonneg j) (by omega) (by simpa using eu) ⟨v, H, I, ru, q⟩
theorem ps_augL {X : Cx} {o i e : Expr} {to ti te : TE} {tip : TIp} {op : Operator} {tpos pos : Pos} (ho : PE X o to) (hi : PE X i ti) (he : PE X e te) (hp : PIp X op tip)
    (ha : ∀ ov iv new, augStore i ov iv new = (do holding [new, ov, iv] (setItem ov iv new); release [new, ov, iv] []; pure .next) := by intros; rfl) : PS X (.AugAssign (.Subscript o i tpos) op e pos) (tAugS to ti te (rGetL X.K) tip rSetL) :=
  ps_augS ho hi get_list he hp set_list ha
section
variable {σ : L2.St} {H : Hp} {Q : VK} {D : Ends} {K : PySem.W.Frag} {p : Addr} {xs : List V} {v : V} {j : Nat}
theorem w_augS {to ti te : TE} {tget : V → V → Hp → VK → Prop} {tip : TIp} {tset : TSet} (h : to σ H fun o H1 => ti σ H1 fun i H2 => tget o i H2 fun x H3 => te σ H3 fun y H4 => tip x y H4 fun z H5 => tset o i z H5 fun H6 => D.nx σ H6) : tAugS to ti te tget tip tset D σ H := h
theorem w_getL (hs : SqL K H p xs) (he : xs[j]? = some v) (h : Q v H) : rGetL K (.ref p) (.int (j : Int)) H Q := ⟨p, xs, j, v, rfl, rfl, hs, he, h⟩
theorem ixN_nat {n j : Nat} (h : j < n) : ixN n (j : Int) = some j := by
  unfold ixN
  rw [if_pos (Int.natCast_nonneg j), if_pos (by omega)]
  simp
end
/-! ### range from nought -/
theorem for_r0 {m : Int} {n : Nat} {g : TG} {tb : TS} {D : Ends} {σ : L2.St} {H : Hp} (hm : m = n) (Pv : Nat → L2.St → Hp → Prop) (h0 : Pv 0 σ H)
    (hs : ∀ i σ H, i < n → Pv i σ H → g (.int (i : Nat)) σ H fun σ2 H2 => tb { D with nx := Pv (i + 1), ct := Pv (i + 1), bk := D.nx } σ2 H2) (hd : ∀ σ H, Pv n σ H → D.nx σ H) :
    ∃ W : Nat → Nat → L2.St → Hp → Prop, (∃ m, W 0 m σ H) ∧ ∀ i k σ H, W i k σ H →
      ((Itr 0 m.toNat).stop i H ∧ D.nx σ H) ∨ ((Itr 0 m.toNat).go i H ∧ ∃ N : L2.St → Hp → Prop, (∀ σ' H', N σ' H' → ∃ m', m' < k ∧ W (i + 1) m' σ' H') ∧ ∀ x H', (Itr 0 m.toNat).yld i H x H' → g x σ H' fun σ2 H2 => tb { D with nx := N, ct := N, bk := D.nx } σ2 H2) := by
  subst hm
  rw [Int.toNat_natCast]
  exact for_range (lo := 0) Pv h0 (fun i σ H hi hp => by rw [Int.zero_add]; exact hs i σ H hi hp) hd
/-! ### bits of numbers from nought on -/
theorem shr_nat (m k : Nat) : (m : Int) / 2 ^ (Int.toNat (k : Int)) = ((m >>> k : Nat) : Int) := by
  rw [Int.toNat_natCast, Nat.shiftRight_eq_div_pow]
  simp
theorem shl_nat (m k : Nat) : (m : Int) * 2 ^ (Int.toNat (k : Int)) = ((m <<< k : Nat) : Int) := by
  rw [Int.toNat_natCast, Nat.shiftLeft_eq]
  simp
theorem shl_one (k : Nat) : (1 : Int) * 2 ^ (Int.toNat (k : Int)) = ((2 ^ k : Nat) : Int) := by
  rw [Int.toNat_natCast, Int.one_mul]
  simp
theorem xor_nat (m n : Nat) : Builtin.bitXor (m : Int) (n : Int) = ((m ^^^ n : Nat) : Int) := by
  have h := Bits.bitXor_pp (x := (m : Int)) (y := (n : Int)) (Int.natCast_nonneg m) (Int.natCast_nonneg n)
  rw [Int.toNat_natCast, Int.toNat_natCast] at h
  exact h
theorem or_nat (m n : Nat) : Builtin.bitOr (m : Int) (n : Int) = ((m ||| n : Nat) : Int) := by
  have h := Bits.bitOr_pp (x := (m : Int)) (y := (n : Int)) (Int.natCast_nonneg m) (Int.natCast_nonneg n)
  rw [Int.toNat_natCast, Int.toNat_natCast] at h
  exact h
theorem and_one (m : Int) (h : 0 ≤ m) : Builtin.bitAnd m 1 = m % 2 := by
  have e := Bits.bitAnd_mask (x := m) 1 h
  simpa using e
theorem bit_nat (m k : Nat) : Builtin.bitAnd ((m : Int) / 2 ^ (Int.toNat (k : Int))) 1 = (((m.testBit k).toNat : Nat) : Int) := by
  rw [shr_nat, and_one _ (Int.natCast_nonneg _), Nat.testBit_eq_decide_div_mod_eq, Nat.shiftRight_eq_div_pow]
  have h : m / 2 ^ k % 2 < 2 := Nat.mod_lt _ (by decide)
  generalize m / 2 ^ k = z at h
  have e : z % 2 = 0 ∨ z % 2 = 1 := by omega
  rcases e with e | e
  · rw [e]; simp; omega
  · rw [e]; simp; omega
theorem bit_dec (m k : Nat) : decide (Builtin.bitAnd ((m : Int) / 2 ^ (Int.toNat (k : Int))) 1 = 1) = m.testBit k := by
  rw [bit_nat]
  cases m.testBit k <;> simp
/-! ### tables by number -/
theorem map_set {α : Type} {f : Nat → α} {m j : Nat} {y : α} : ((List.range m).map f).set j y = (List.range m).map fun r => if r = j then y else f r := by
  apply List.ext_getElem
  · simp
  · intro i h1 h2
    simp only [List.length_set, List.length_map, List.length_range] at h1
    simp only [List.getElem_set, List.getElem_map, List.getElem_range]
    by_cases e : j = i
    · subst e; simp
    · rw [if_neg e, if_neg (Ne.symm e)]
theorem map_at {α : Type} {f : Nat → α} {m j : Nat} (h : j < m) : ((List.range m).map f)[j]? = some (f j) := by
  rw [List.getElem?_map, List.getElem?_range h]
  rfl
theorem map_len {α : Type} {f : Nat → α} {m : Nat} : ((List.range m).map f).length = m := by simp
theorem map_setI {f : Nat → Int} {m j : Nat} {y : Int} : ((List.range m).map fun r => V.int (f r)).set j (V.int y) = (List.range m).map fun r => V.int (if r = j then y else f r) := by
  rw [map_set]
  congr 1
  funext r
  split <;> rfl
/-! ### comprehensions, slices -/
section
variable {σ σ' : L2.St} {H : Hp} {Q : VK} {QT : Bool → Hp → Prop}
theorem w_lc {wi : TI} {g : TG} {tt : TT} {te : TE} {vs : List Nat} (h : wi σ H fun J H1 => ∀ D, New H1 D → ∃ W : Nat → Nat → Hp → Prop, (∃ m, W 0 m (upd H1 D (.lst []))) ∧ ∀ i m H, W i m H →
  (J.stop i H ∧ Q (.ref D) H) ∨ (J.go i H ∧ ∃ Nx : Hp → Prop, (∀ H', Nx H' → ∃ m', m' < m ∧ W (i + 1) m' H') ∧ ∀ x H', J.yld i H x H' → g x (wipe σ vs) H' fun σ2 H2 => wipe σ2 vs = wipe σ vs ∧ tt σ2 H2 fun b H3 =>
    if b = true then te σ2 H3 fun y H4 => ∃ acc, H4 D = some (.lst acc) ∧ acc.length < sizeLine ∧ Nx (upd H4 D (.lst (acc ++ [y]))) else Nx H3)) : tLc wi g tt te vs σ H Q := h
theorem w_wipe {vs : List Nat} {R : Prop} (e : wipe σ vs = wipe σ' vs) (h : R) : wipe σ vs = wipe σ' vs ∧ R := ⟨e, h⟩
theorem w_yes (h : QT true H) : tYes σ H QT := h
theorem cutV_nat (xs : List V) (a b : Nat) : cutV xs (some (a : Int)) (some (b : Int)) = (xs.drop a).take (b - a) := by
  unfold cutV
  rw [HT.sIx_nat, HT.sIx_nat]
  apply List.ext_getElem?
  intro i
  simp only [List.getElem?_take, List.getElem?_drop]
  by_cases ha : a ≤ xs.length
  · rw [Nat.min_eq_left ha]
    by_cases h : i < b - a
    · by_cases h2 : i < min b xs.length - a
      · rw [if_pos h, if_pos h2]
      · rw [if_pos h, if_neg h2, List.getElem?_eq_none (by omega)]
    · rw [if_neg h, if_neg (by omega)]
  · rw [if_neg (by omega)]
    split
    · rw [List.getElem?_eq_none (by omega)]
    · rfl
theorem cutV_from (xs : List V) (a : Nat) : cutV xs (some (a : Int)) none = xs.drop a := by
  unfold cutV
  rw [HT.sIx_nat, HT.sIx_none]
  by_cases h : a ≤ xs.length
  · rw [Nat.min_eq_left h]
    exact List.take_of_length_le (by simp)
  · rw [Nat.min_eq_right (by omega), List.drop_of_length_le (Nat.le_refl _), List.drop_of_length_le (by omega), List.take_nil]
theorem cutV_to (xs : List V) (b : Nat) : cutV xs none (some (b : Int)) = xs.take b := by
  unfold cutV
  rw [HT.sIx_nat, HT.sIx_none, List.drop_zero, Nat.sub_zero]
  by_cases h : b ≤ xs.length
  · rw [Nat.min_eq_left h]
  · rw [Nat.min_eq_right (by omega), List.take_of_length_le (Nat.le_refl _), List.take_of_length_le (by omega)]
end
theorem w_list {K : PySem.W.Frag} {H : Hp} {p : Addr} {xs : List V} {R : List V → Prop} (hs : SqL K H p xs) (h : R xs) : ∃ p' ys, [V.ref p] = [.ref p'] ∧ (SqL K H p' ys ∨ SqT K H p' ys) ∧ R ys := ⟨p, xs, rfl, .inl hs, h⟩
/-! ### a heap without one place -/
def wo (H : Hp) (D : Addr) : Hp := fun b => if b = D then none else H b
section
variable {K : PySem.W.Frag} {H H' H2 : Hp} {D p : Addr} {o : HO} {xs : List V} {ds : List PyData} {v : V} {d : PyData}
theorem wo_same : Same (wo H D) H := fun b o h => by
  unfold wo at h
  split at h
  · cases h
  · exact h
theorem wo_new : New (wo H D) D := if_pos rfl
theorem wo_get (h : H p = some o) (n : p ≠ D) : wo H D p = some o := (if_neg n).trans h
theorem wo_eq : wo (upd H D o) D = wo H D := by
  funext b
  unfold wo
  split
  · rfl
  · rw [upd_ne (by assumption)]
theorem wo_mono (e : Same H H') : Same (wo H D) (wo H' D) := fun b o h => by
  unfold wo at h ⊢
  split at h
  · cases h
  · rw [if_neg (by assumption)]; exact e b o h
theorem same_wo (e : Same H H') (n : New H D) : Same H (wo H' D) := fun b o h => wo_get (e b o h) (ne_new h n)
theorem dpaPush (h : DpAll K (wo H D) xs ds) (e : Same H H2) (hv : Dp K (wo H2 D) v d) : DpAll K (wo (upd H2 D o) D) (xs ++ [v]) (ds ++ [d]) := by
  rw [wo_eq]
  exact dpaApp (h.same (wo_mono e)) (.cons hv .nil)
theorem dpaPushI (h : DpAll K (wo H D) xs ds) {i : Int} : DpAll K (wo (upd H D o) D) (xs ++ [.int i]) (ds ++ [.int i]) := dpaPush h (Same.refl _) (.int i)
end
/-! ### while -/
theorem w_wt {W : Nat → L2.St → Hp → Prop} {tb : TS} {D : Ends} {σ : L2.St} {H : Hp} {m : Nat} (h : tb { D with nx := fun σ' H' => ∃ m', m' < m ∧ W m' σ' H', ct := fun σ' H' => ∃ m', m' < m ∧ W m' σ' H', bk := D.nx } σ H) :
    ∃ N : L2.St → Hp → Prop, (∀ σ' H', N σ' H' → ∃ m', m' < m ∧ W m' σ' H') ∧ tb { D with nx := N, ct := N, bk := D.nx } σ H := ⟨_, fun _ _ h => h, h⟩
theorem and_nat (m n : Nat) : Builtin.bitAnd (m : Int) (n : Int) = ((m &&& n : Nat) : Int) := rfl
/-! ### two ways to read -/
theorem _root_.L2.PE.or {X : Cx} {e : Expr} {t t' : TE} (h : PE X e t) (h' : PE X e t') : PE X e (fun σ H Q => t σ H Q ∨ t' σ H Q) := ⟨fun pins s σ H Q I q => by
  rcases q with q | q
  · exact h.run pins s σ H Q I q
  · exact h'.run pins s σ H Q I q⟩
/-- the same, for an item of a comprehension -/
def tOrE (t t' : TE) : TE := fun σ H Q => t σ H Q ∨ t' σ H Q
theorem _root_.L2.PE.orD {X : Cx} {e : Expr} {t t' : TE} (h : PE X e t) (h' : PE X e t') : PE X e (tOrE t t') := PE.or h h'
theorem w_orE {t t' : TE} {σ : L2.St} {H : Hp} {Q : VK} (h : t σ H Q ∨ t' σ H Q) : tOrE t t' σ H Q := h
/-! ### classes by name -/
structure HasMk (P : Program) (w : World) (K : PySem.W.Frag) (mg : Str → Option Value) (base : Heap) (CX : CXT) (k : Nat) (x : Str) (C : Addr) (ps : List Str) (sp : Sp) : Prop where
  ex : ∃ f fd, FnOk P w K mg base CX k f fd ps sp ∧ Mk K C f ∧ mg x = some (.ref C) ∧ Binds K fd ps []
structure HasMeth (P : Program) (w : World) (K : PySem.W.Frag) (mg : Str → Option Value) (base : Heap) (CX : CXT) (k : Nat) (C : Addr) (m : Str) (ps : List Str) (sp : Sp) : Prop where
  ex : ∃ f fd, FnOk P w K mg base CX k f fd ps sp ∧ Cls K C ∧ Meth K C m f ∧ Binds K fd ps []
/-- a method's body, proved once for whatever class holds it -/
structure HasFn (P : Program) (w : World) (K : PySem.W.Frag) (mg : Str → Option Value) (base : Heap) (CX : CXT) (k : Nat) (f : Addr) (ps : List Str) (sp : Sp) : Prop where
  ex : ∃ fd, FnOk P w K mg base CX k f fd ps sp ∧ Binds K fd ps []
section
variable {P : Program} {w : World} {K : PySem.W.Frag} {mg : Str → Option Value} {base : Heap} {x qual : Str} {ps N : List Str} {sp : Sp} {k : Nat}
theorem HasFn.mk' {st : Stmt} {f : Addr} {fd : FuncData} (F : Fun K x qual st f fd) (b : Binds K fd ps []) (S : FnScope N ps (defScope st)) (len : ∀ vs H Q E, sp vs H Q E → vs.length = ps.length)
    (hbody : ∀ (cdv : Value) (A : Around) (outer : List Env) (s : Shared) (H : Hp) (vs : List V) (Q : VK) (E : XK), Room k (A.deeper (envOfC qual (defScope st) s.heap.objs.size f cdv)) → sp vs H Q E →
      ∃ t, PSs (cxOf CX0 P w K mg base N qual (defScope st) f cdv A outer s H E).nox (defBody st) t ∧ t { nx := fun _ H' => Q .non H', rt := Q } (start N vs) H) : HasFn P w K mg base CX0 (k + 1) f ps sp :=
  ⟨fd, F.ok S len hbody, b⟩
theorem HasFn.mkOf {CX : CXT} {f C : Addr} (h : HasFn P w K mg base CX k f ps sp) (M : Mk K C f) (g : mg x = some (.ref C)) : HasMk P w K mg base CX k x C ps sp := by
  obtain ⟨fd, F, b⟩ := h.ex
  exact ⟨f, fd, F, M, g, b⟩
theorem HasFn.meth {CX : CXT} {f C : Addr} {m : Str} (h : HasFn P w K mg base CX k f ps sp) (c : Cls K C) (M : Meth K C m f) : HasMeth P w K mg base CX k C m ps sp := by
  obtain ⟨fd, F, b⟩ := h.ex
  exact ⟨f, fd, F, c, M, b⟩
end
section
variable {X : Cx} {k : Nat} {ps : List Str} {sp : Sp} {x m : Str} {p pos apos : Pos} {e o : Expr} {es : List Expr} {t : TA} {ta : TE} {C : Addr}
theorem pe_mk (h : HasMk X.prog X.w X.K X.mg X.base CX0 k x C ps sp) (hr : Room (k + 1) X.A) (hg : Gl X x) (ha : PA X (e :: es) t) (hdb : (x == ("__debug__" : Str)) = false := by decide) (he : starEach (e :: es) X.env = (false, eval e X.env) :: starEach es X.env := by rfl) (hpl : (backTo pos (starEach es X.env)).any (·.1) = false := by rfl) :
    PE X (.Call (.Name x p) (e :: es) [] pos) (tMake C sp [] E0 t) := by
  obtain ⟨f, fd, F, M, g, b⟩ := h.ex
  exact pe_make M F hr hg g b .nil pass0 ha hdb he hpl
theorem pe_mt {pl : Sem Bool} (h : HasMeth X.prog X.w X.K X.mg X.base CX0 k C m ps sp) (he : PE X o ta) (hr : Room k X.A) (ha : PA X (e :: es) t)
    (hst : starEach (e :: es) X.env = (false, eval e X.env) :: starEach es X.env := by rfl) (hpl : (backTo pos (starEach es X.env)).any (·.1) = false := by rfl)
    (ht : eval (.Call (.Attribute o m apos) (e :: es) [] pos) X.env = (do
      let v ← eval o X.env
      standAt apos.atName
      let (f, first) ← holding [v] (getMethod v m pl)
      callWith pos f first (backTo pos (starEach (e :: es) X.env)) (backToKw pos (keywordEach [] X.env))) := by rfl) :
    PE X (.Call (.Attribute o m apos) (e :: es) [] pos) (tMeth C m sp [] E0 ta t) := by
  obtain ⟨f, fd, F, c, M, b⟩ := h.ex
  exact pe_meth he c M F hr b .nil pass0 ha hst hpl ht
theorem pe_mt0 {pl : Sem Bool} (h : HasMeth X.prog X.w X.K X.mg X.base CX0 k C m ps sp) (he : PE X o ta) (hr : Room k X.A)
    (ht : eval (.Call (.Attribute o m apos) [] [] pos) X.env = (do
      let v ← eval o X.env
      standAt apos.atName
      let (f, first) ← holding [v] (getMethod v m pl)
      callWith pos f first (backTo pos (starEach [] X.env)) (backToKw pos (keywordEach [] X.env))) := by rfl) :
    PE X (.Call (.Attribute o m apos) [] [] pos) (tMeth C m sp [] E0 ta tNil) := by
  obtain ⟨f, fd, F, c, M, b⟩ := h.ex
  exact pe_meth0 he c M F hr b .nil pass0 ht
end
section
variable {σ : L2.St} {H : Hp} {Q : VK} {D : Ends} {K : PySem.W.Frag} {ta tv : TE} {tl : TA} {sp : Sp} {E : XK} {C p dx : Addr} {fs : List (Str × V)} {f m : Str} {v : V}
theorem w_make (h : tl σ H fun vs H1 => ∀ x dx, New H1 x → New H1 dx → dx ≠ x → sp (.ref x :: vs) (upd (upd H1 dx (.own x)) x (.ins C dx [])) (fun v H2 => v = .non ∧ Q (.ref x) H2) E) : tMake C sp [] E tl σ H Q := by
  unfold tMake
  simp only [List.append_nil]
  exact h
theorem w_meth (h : ta σ H fun x H1 => ∃ a dx fs, x = .ref a ∧ H1 a = some (.ins C dx fs) ∧ fs.lookup m = none ∧ tl σ H1 fun vs H2 => sp (x :: vs) H2 Q E) : tMeth C m sp [] E ta tl σ H Q := by
  unfold tMeth
  simp only [List.append_nil]
  exact h
theorem w_methq {R : Prop} (hp : H p = some (.ins C dx fs)) (hl : fs.lookup m = none) (h : R) : ∃ a dx fs, V.ref p = .ref a ∧ H a = some (.ins C dx fs) ∧ fs.lookup m = none ∧ R := ⟨p, dx, fs, rfl, hp, hl, h⟩
theorem w_sf (h : tv σ H fun y H1 => ta σ H1 fun x H2 => ∃ a C dx fs, x = .ref a ∧ H2 a = some (.ins C dx fs) ∧ Cls K C ∧ NoAttr K C f ∧ fs.length < 1000 ∧ D.nx σ (upd H2 a (.ins C dx (putF f y fs)))) : sFld K ta tv f D σ H := h
theorem w_sfq {R : Addr → Addr → Addr → List (Str × V) → Prop} (hp : H p = some (.ins C dx fs)) (hc : Cls K C) (hn : NoAttr K C f) (hl : fs.length < 1000) (h : R p C dx fs) : ∃ a C' dx' fs', V.ref p = .ref a ∧ H a = some (.ins C' dx' fs') ∧ Cls K C' ∧ NoAttr K C' f ∧ fs'.length < 1000 ∧ R a C' dx' fs' := ⟨p, C, dx, fs, rfl, hp, hc, hn, hl, h⟩
end
/-! ### isinstance of an object -/
structure IsoK (K : PySem.W.Frag) (C : Addr) : Prop where
  cl : Cls K C
  oc : PySem.W.findIn K (.ref C) "__class__" = some (some (.builtin "object.__class__"))
  og : PySem.W.specialIn K (.builtin "object.__class__") "__get__" = some (some (.builtin "getset_descriptor.__get__"))
  ot : PySem.W.takesIn K (.builtin "object.__class__") = some true
  om : PySem.W.mroIn K C (.type "object") = some true
theorem w_iso {K : PySem.W.Frag} {H : Hp} {Q : VK} {p C D dx : Addr} {fs : List (Str × V)} {b : Bool} (hp : H p = some (.ins C dx fs)) (I : IsoK K C) (hk : PySem.W.kitOne K (.ref C) (.ref D) = some b) (h : Q (.bl b) H) : rIsi K [.ref p, .ref D] H Q :=
  ⟨_, _, _, _, b, rfl, .own D, .base (.ins hp I.cl I.oc I.og I.ot I.om), hk, h⟩
theorem w_isoN {K : PySem.W.Frag} {H : Hp} {Q : VK} {D : Addr} {b : Bool} (hk : PySem.W.kitOne K (.type "NoneType") (.ref D) = some b) (h : Q (.bl b) H) : rIsi K [.non, .ref D] H Q :=
  ⟨_, _, _, _, b, rfl, .own D, .base .non, hk, h⟩
theorem kit_own {K : PySem.W.Frag} {C D : Addr} {b : Bool} (h1 : PySem.W.isClsIn K D = true) (h2 : PySem.W.typeIn K (.ref D) = some (.type "type")) (h3 : PySem.W.subIn K (.ref C) (.ref D) = some b) (h4 : PySem.W.subIn K (.ref C) (.ref C) = some true) : PySem.W.kitOne K (.ref C) (.ref D) = some b := by
  unfold PySem.W.kitOne
  by_cases e : C = D
  · subst e
    rw [h4] at h3
    cases h3
    rw [if_pos (by simp)]
  · have hn : ¬ ((Value.ref C == Value.ref D) = true) := by
      intro z
      rw [beq_iff_eq] at z
      cases z
      exact e rfl
    rw [if_neg hn]
    unfold PySem.W.kitCls
    have h5 : (PySem.W.clsIn K D).isSome = true := h1
    show (if ((PySem.W.clsIn K D).isSome && PySem.W.typeIn K (.ref D) == some (.type "type")) = true then PySem.W.subIn K (.ref C) (.ref D) else none) = some b
    rw [h5, h2, if_pos (by simp)]
    exact h3
/-! ### range by steps -/
theorem w_r3 {σ : L2.St} {H : Hp} {ta : TA} {R : It → Hp → Prop} (h : ta σ H fun vs H1 => ∃ (i j c : Int) (n : Nat), vs = [.int i, .int j, .int c] ∧ RgC i j c n ∧ R (Itc i c n) H1) : iRng3 ta σ H R := h
theorem w_r3q {i j c : Int} {n : Nat} {R : Int → Int → Nat → Prop} (hc : RgC i j c n) (h : R i c n) : ∃ (i' j' c' : Int) (n' : Nat), [V.int i, V.int j, V.int c] = [.int i', .int j', .int c'] ∧ RgC i' j' c' n' ∧ R i' c' n' := ⟨i, j, c, n, rfl, hc, h⟩
/-! ### ways joined behind a statement -/
def tCutX (t u : TS) : TS := fun D σ H => ∃ M : L2.St → Hp → Prop, t { D with nx := M } σ H ∧ ∀ σ' H', M σ' H' → u D σ' H'
theorem pss_cutX {X : Cx} {st : Stmt} {more : List Stmt} {t u : TS} (h1 : PS X st t) (h2 : PSs X more u) : PSs X (st :: more) (tCutX t u) := ⟨fun pins s σ H D I h => by
  obtain ⟨M, hm, hu⟩ := h
  refine wpAny_execs_cons (thn (h1.run pins s σ H { D with nx := M } I hm) fun f s1 q => ?_)
  cases f with
  | next => obtain ⟨σ1, H1, I1, q1⟩ := q; exact h2.run pins s1 σ1 H1 D I1 (hu σ1 H1 q1)
  | ret v => exact q
  | brk => exact q
  | cont => exact q⟩
theorem w_cut {t u : TS} {D : Ends} {σ : L2.St} {H : Hp} (M : L2.St → Hp → Prop) (h : t { D with nx := M } σ H) (k : ∀ σ' H', M σ' H' → u D σ' H') : tCutX t u D σ H := ⟨M, h, k⟩
/-! ### dicts with number keys; heaps that grow -/
theorem _root_.L2.Same.add {G H : Hp} {q : Addr} {o : HO} (e : Same G H) (h : H q = some o) : Same (upd G q o) H := fun b u hb => by
  by_cases e2 : b = q
  · subst e2
    rw [upd_same] at hb
    rw [h]
    exact hb
  · rw [upd_ne e2] at hb
    exact e b u hb
theorem New.upd {G : Hp} {p q : Addr} {o : HO} (n : New G p) (h : p ≠ q) : New (upd G q o) p := (upd_ne h).trans n
theorem putK_len {kvs : List (Key × V)} {k : Key} {v : V} : (putK kvs k v).length ≤ kvs.length + 1 := by
  unfold putK
  split <;> simp
theorem w_put {σ : L2.St} {H : Hp} {D : Ends} {td ty tv : TE} (h : tv σ H fun v H1 => td σ H1 fun x H2 => ty σ H2 fun y H3 => ∃ a H4, x = .ref a ∧ DPut H3 a y v H4 ∧ D.nx σ H4) : sDPut td ty tv D σ H := h
theorem w_putI {H : Hp} {a : Addr} {kvs : List (Key × V)} {i : Int} {v : V} {R : Hp → Prop} (e : H a = some (.dK kvs)) (hl : kvs.length < sizeLine) (h : R (upd H a (.dK (putK kvs (.inl i) v)))) : ∃ a' H4, V.ref a = .ref a' ∧ DPut H a' (.int i) v H4 ∧ R H4 := ⟨a, _, rfl, DPut.k (k := .inl i) e hl, h⟩
theorem w_getI {H : Hp} {a : Addr} {kvs : List (Key × V)} {i : Int} {v : V} {R : V → Prop} (e : H a = some (.dK kvs)) (hv : valV kvs (.inl i) = some v) (h : R v) : ∃ a' v', V.ref a = .ref a' ∧ DGet H a' (.int i) (some v') ∧ R v' := ⟨a, v, rfl, by rw [← hv]; exact DGet.k (k := .inl i) e, h⟩
theorem w_inI {H : Hp} {a : Addr} {kvs : List (Key × V)} {i : Int} {R : Option V → Prop} (e : H a = some (.dK kvs)) (h : R (valV kvs (.inl i))) : ∃ a' o, V.ref a = .ref a' ∧ DGet H a' (.int i) o ∧ R o := ⟨a, _, rfl, DGet.k (k := .inl i) e, h⟩
theorem w_din {σ : L2.St} {H : Hp} {Q : VK} {td ty : TE} (h : ty σ H fun y H1 => td σ H1 fun x H2 => ∃ a o, x = .ref a ∧ DGet H2 a y o ∧ Q (.bl o.isSome) H2) : tDIn ty td σ H Q := h
theorem w_dni {σ : L2.St} {H : Hp} {Q : VK} {td ty : TE} (h : ty σ H fun y H1 => td σ H1 fun x H2 => ∃ a o, x = .ref a ∧ DGet H2 a y o ∧ Q (.bl (!o.isSome)) H2) : tDNotIn ty td σ H Q := h
theorem w_dg {σ : L2.St} {H : Hp} {Q : VK} {td ty : TE} (h : td σ H fun x H1 => ty σ H1 fun y H2 => ∃ a v, x = .ref a ∧ DGet H2 a y (some v) ∧ Q v H2) : tDGet td ty σ H Q := h
theorem w_dn {σ : L2.St} {H : Hp} {Q : VK} (h : ∀ p, New H p → Q (.ref p) (upd H p (.dK []))) : tDNewK σ H Q := h
/-- a dict with number keys: what it holds -/
def Holds (kvs : List (Key × V)) (S : List Nat) (g : Nat → V) : Prop := kvs.length ≤ S.length ∧ ∀ d : Nat, valV kvs (.inl (d : Int)) = if d ∈ S then some (g d) else none
theorem Holds.nil {g : Nat → V} : Holds [] [] g := ⟨Nat.le_refl _, fun d => by simp [valV]⟩
theorem Holds.put {kvs : List (Key × V)} {S : List Nat} {g : Nat → V} (h : Holds kvs S g) (x : Nat) : Holds (putK kvs (.inl (x : Int)) (g x)) (S ++ [x]) g := by
  refine ⟨by have := putK_len (kvs := kvs) (k := .inl (x : Int)) (v := g x); have := h.1; simp; omega, fun d => ?_⟩
  rw [valV_put, h.2]
  by_cases e : d = x
  · subst e; simp
  · have : ¬ ((.inl (d : Int) : Key) = .inl (x : Int)) := fun z => e (by have := Sum.inl.inj z; omega)
    rw [if_neg this]
    simp [e]
theorem lc_r0 {m : Int} {n : Nat} {g : TG} {tt : TT} {te : TE} {vs : List Nat} {σ : L2.St} {H1 : Hp} {D : Addr} {Qd : Hp → Prop} (hm : m = n) (Pv : Nat → Hp → Prop) (h0 : Pv 0 (upd H1 D (.lst [])))
    (hs : ∀ i H, i < n → Pv i H → g (.int (i : Nat)) (wipe σ vs) H fun σ2 H2 => wipe σ2 vs = wipe σ vs ∧ tt σ2 H2 fun b H3 =>
      if b = true then te σ2 H3 fun y H4 => ∃ acc, H4 D = some (.lst acc) ∧ acc.length < sizeLine ∧ Pv (i + 1) (upd H4 D (.lst (acc ++ [y]))) else Pv (i + 1) H3) (hd : ∀ H, Pv n H → Qd H) :
    ∃ W : Nat → Nat → Hp → Prop, (∃ m, W 0 m (upd H1 D (.lst []))) ∧ ∀ i k H, W i k H →
      ((Itr 0 m.toNat).stop i H ∧ Qd H) ∨ ((Itr 0 m.toNat).go i H ∧ ∃ Nx : Hp → Prop, (∀ H', Nx H' → ∃ m', m' < k ∧ W (i + 1) m' H') ∧ ∀ x H', (Itr 0 m.toNat).yld i H x H' → g x (wipe σ vs) H' fun σ2 H2 => wipe σ2 vs = wipe σ vs ∧ tt σ2 H2 fun b H3 =>
        if b = true then te σ2 H3 fun y H4 => ∃ acc, H4 D = some (.lst acc) ∧ acc.length < sizeLine ∧ Nx (upd H4 D (.lst (acc ++ [y]))) else Nx H3) := by
  subst hm
  rw [Int.toNat_natCast]
  exact lc_range (lo := 0) Pv h0 (fun i H hi hp => by rw [Int.zero_add]; exact hs i H hi hp) hd
theorem w_acc {H : Hp} {D : Addr} {acc : List V} {R : List V → Prop} (h1 : H D = some (.lst acc)) (h2 : acc.length < sizeLine) (h : R acc) : ∃ acc', H D = some (.lst acc') ∧ acc'.length < sizeLine ∧ R acc' := ⟨acc, h1, h2, h⟩
/-! ### enumerate -/
theorem for_enumX {K : PySem.W.Frag} {a : Addr} {xs : List V} {g : TG} {tb : TS} {D : Ends} {σ : L2.St} {H : Hp} (Pv : Nat → L2.St → Hp → Prop) (h0 : Pv 0 σ H) (hl : ∀ i σ H, i ≤ xs.length → Pv i σ H → SqL K H a xs)
    (hs : ∀ i x σ H p, xs[i]? = some x → Pv i σ H → New H p → g (.ref p) σ (upd H p (.tup [.int (i : Nat), x])) fun σ2 H2 => tb { D with nx := Pv (i + 1), ct := Pv (i + 1), bk := D.nx } σ2 H2) (hd : ∀ σ H, Pv xs.length σ H → D.nx σ H) :
    ∃ W : Nat → Nat → L2.St → Hp → Prop, (∃ m, W 0 m σ H) ∧ ∀ i m σ H, W i m σ H →
      ((Ite K a).stop i H ∧ D.nx σ H) ∨ ((Ite K a).go i H ∧ ∃ N : L2.St → Hp → Prop, (∀ σ' H', N σ' H' → ∃ m', m' < m ∧ W (i + 1) m' σ' H') ∧ ∀ x H', (Ite K a).yld i H x H' → g x σ H' fun σ2 H2 => tb { D with nx := N, ct := N, bk := D.nx } σ2 H2) := by
  refine ⟨fun i m σ H => i + m = xs.length ∧ Pv i σ H, ⟨xs.length, by omega, h0⟩, fun i m σ H hW => ?_⟩
  obtain ⟨e, p⟩ := hW
  have q := hl i σ H (by omega) p
  cases m with
  | zero =>
    have e2 : i = xs.length := by omega
    subst e2
    exact .inl ⟨⟨xs, q, Nat.le_refl _⟩, hd σ H p⟩
  | succ m =>
    have hi : i < xs.length := by omega
    refine .inr ⟨⟨xs, xs[i], q, List.getElem?_eq_getElem hi⟩, Pv (i + 1), fun σ' H' h => ⟨m, by omega, by omega, h⟩, fun x H' hy => ?_⟩
    obtain ⟨T, y, rfl, nT, rfl, hx⟩ := hy
    exact hs i y σ H T (hx xs q) p nT
theorem w_enum {σ : L2.St} {H : Hp} {K : PySem.W.Frag} {ta : TA} {R : It → Hp → Prop} (h : ta σ H fun vs H1 => ∃ a xs, vs = [.ref a] ∧ SqL K H1 a xs ∧ R (Ite K a) H1) : iEnum K ta σ H R := h
theorem w_enq {H : Hp} {K : PySem.W.Frag} {p : Addr} {xs : List V} {R : Addr → Prop} (hs : SqL K H p xs) (h : R p) : ∃ a xs, [V.ref p] = [.ref a] ∧ SqL K H a xs ∧ R a := ⟨p, xs, rfl, hs, h⟩

/-! ### rules that name the written part -/
section
variable {X : Cx}
theorem ix_listK (K : PySem.W.Frag) (hK : X.K = K := by rfl) : IxR X (rIxL K) := by subst hK; exact ix_list
theorem ix_tupK (K : PySem.W.Frag) (hK : X.K = K := by rfl) : IxR X (rIxT K) := by subst hK; exact ix_tup
theorem ix_seqK (K : PySem.W.Frag) (hK : X.K = K := by rfl) : IxR X (rIx K) := by subst hK; exact ix_seq
theorem sl_listK (K : PySem.W.Frag) (hK : X.K = K := by rfl) : SlR X (rSlL K) := by subst hK; exact sl_list
def rLenK (K : PySem.W.Frag) : List V → Hp → VK → Prop := fun xs H Q => ∃ p ys, xs = [.ref p] ∧ (SqL K H p ys ∨ SqT K H p ys) ∧ Q (.int ys.length) H
theorem call_lenK (K : PySem.W.Frag) (hK : X.K = K := by rfl) : CallR X (.builtin "len") (rLenK K) := by subst hK; exact call_len_seq
def rListK (K : PySem.W.Frag) : List V → Hp → VK → Prop := fun xs H Q => ∃ p ys, xs = [.ref p] ∧ (SqL K H p ys ∨ SqT K H p ys) ∧ ∀ l, H l = none → Q (.ref l) (upd H l (.lst ys))
theorem call_listK (K : PySem.W.Frag) (hK : X.K = K := by rfl) : CallR X (.type "list") (rListK K) := by subst hK; exact call_list_of
theorem call_isiK' (K : PySem.W.Frag) (hK : X.K = K := by rfl) : CallR X (.builtin "isinstance") (rIsi K) := by subst hK; exact call_isi
theorem cr_sumK (K : PySem.W.Frag) (hc : X.calm = true) (hK : X.K = K := by rfl) : CallR X (.builtin "sum") (rSum K) := by subst hK; exact cr_sum hc
theorem cr_maxK (K : PySem.W.Frag) (hc : X.calm = true) (hK : X.K = K := by rfl) : CallR X (.builtin "max") (rMax K) := by subst hK; exact cr_max hc
theorem cr_minK (K : PySem.W.Frag) (hc : X.calm = true) (hK : X.K = K := by rfl) : CallR X (.builtin "min") (rMin K) := by subst hK; exact cr_min hc
theorem cr_allK (K : PySem.W.Frag) (hc : X.calm = true) (hK : X.K = K := by rfl) : CallR X (.builtin "all") (rAll K) := by subst hK; exact cr_all hc
theorem cr_anyK (K : PySem.W.Frag) (hc : X.calm = true) (hK : X.K = K := by rfl) : CallR X (.builtin "any") (rAny K) := by subst hK; exact cr_any hc
theorem cr_sortedIK (K : PySem.W.Frag) (hK : X.K = K := by rfl) : CallR X (.builtin "sorted") (rSortedI K) := by subst hK; exact cr_sortedI
theorem op_eqDK (K : PySem.W.Frag) (hu : X.A.units + 64 < cLine) (hK : X.K = K := by rfl) : OpR X (compareOp .Eq) (rEqD K) := by subst hK; exact op_eqD hu
theorem op_neDK (K : PySem.W.Frag) (hu : X.A.units + 64 < cLine) (hK : X.K = K := by rfl) : OpR X (compareOp .NotEq) (rNeD K) := by subst hK; exact op_neD hu
theorem op_inK (K : PySem.W.Frag) (hK : X.K = K := by rfl) : OpR X (compareOp .In) (rIn K false) := by subst hK; exact op_in_seq
theorem op_notInK (K : PySem.W.Frag) (hK : X.K = K := by rfl) : OpR X (compareOp .NotIn) (rIn K true) := by subst hK; exact op_notIn_seq
theorem mt_indexK (K : PySem.W.Frag) (hK : X.K = K := by rfl) : MtR X "list.index" (rIndex K) := by subst hK; exact mt_index
theorem w_lenK {K : PySem.W.Frag} {H : Hp} {Q : VK} {p : Addr} {xs : List V} (hs : SqL K H p xs) (h : Q (.int xs.length) H) : rLenK K [.ref p] H Q := ⟨p, xs, rfl, .inl hs, h⟩
theorem w_lenTK {K : PySem.W.Frag} {H : Hp} {Q : VK} {p : Addr} {xs : List V} (hs : SqT K H p xs) (h : Q (.int xs.length) H) : rLenK K [.ref p] H Q := ⟨p, xs, rfl, .inr hs, h⟩
theorem w_listK {K : PySem.W.Frag} {H : Hp} {Q : VK} {p : Addr} {xs : List V} (hs : SqL K H p xs) (h : ∀ l, New H l → Q (.ref l) (upd H l (.lst xs))) : rListK K [.ref p] H Q := ⟨p, xs, rfl, .inl hs, h⟩
end
section
variable {X : Cx} {e o : Expr} {f name : Str} {pos apos cpos : Pos} {ta to : TE} {t : TA} {es : List Expr}
theorem pe_fldK (K : PySem.W.Frag) (he : PE X e ta) (hb : attributeBase e f X.env (eval e X.env) = eval e X.env) (hK : X.K = K := by rfl) : PE X (.Attribute e f pos) (tFld K ta f) := by subst hK; exact pe_fld he hb
theorem pe_bmK (K : PySem.W.Frag) {T : String} {r : V → List V → Hp → VK → Prop} (h : PE X (.Call (.Attribute o name apos) es [] cpos) (tBM X.K T r to t)) (hK : X.K = K := by rfl) : PE X (.Call (.Attribute o name apos) es [] cpos) (tBM K T r to t) := by subst hK; exact h
theorem pe_bm0K (K : PySem.W.Frag) {T : String} {r : V → List V → Hp → VK → Prop} (h : PE X (.Call (.Attribute o name apos) es [] cpos) (tBM0 X.K T r to)) (hK : X.K = K := by rfl) : PE X (.Call (.Attribute o name apos) es [] cpos) (tBM0 K T r to) := by subst hK; exact h
theorem pi_listK (K : PySem.W.Frag) {tg l : Expr} {tl : TE} (hl : PE X l tl) (hK : X.K = K := by rfl) : PI X tg l (iList K tl) := by subst hK; exact pi_list hl
theorem pi_tupK (K : PySem.W.Frag) {tg l : Expr} {tl : TE} (hl : PE X l tl) (hK : X.K = K := by rfl) : PI X tg l (iTup K tl) := by subst hK; exact pi_tup hl
theorem pg_tupK (K : PySem.W.Frag) {es : List Expr} {k n : Nat} {t : TGs} (hc : X.calm = true) (h : PGs X es t) (hn : (assignEach es X.env).length = n := by rfl) (hst : (assignEach es X.env).findIdx? (·.1) = none := by rfl) (hK : X.K = K := by rfl) : PG X (.Tuple es k pos) (gTup K n t) := by subst hK; exact pg_tup hc h hn hst
end
/-! ### list.insert -/
theorem w_ins {H : Hp} {p : Addr} {xs : List V} {m : Int} {v : V} {R : Addr → List V → Int → V → Prop} (hp : H p = some (.lst xs)) (hl : xs.length < sizeLine) (h0 : 0 ≤ m) (h1 : m < 2 ^ 63) (h : R p xs m v) :
    ∃ (l : Addr) (ys : List V) (i : Int) (y : V), V.ref p = .ref l ∧ [V.int m, v] = [.int i, y] ∧ H l = some (.lst ys) ∧ ys.length < sizeLine ∧ 0 ≤ i ∧ i < 2 ^ 63 ∧ R l ys i y := ⟨p, xs, m, v, rfl, rfl, hp, hl, h0, h1, h⟩

/-! ### exceptions -/
theorem Has.mkX {P : Program} {w : World} {K : PySem.W.Frag} {mg : Str → Option Value} {base : Heap} {x qual : Str} {ps N : List Str} {sp : Sp} {k : Nat} {f : Addr} {fd : FuncData} {st : Stmt} (F : Fun K x qual st f fd) (gf : mg x = some (.ref f)) (b : Binds K fd ps []) (S : FnScope N ps (defScope st)) (len : ∀ vs H Q E, sp vs H Q E → vs.length = ps.length)
    (hbody : ∀ (cdv : Value) (A : Around) (outer : List Env) (s : Shared) (H : Hp) (vs : List V) (Q : VK) (E : XK), Room k (A.deeper (envOfC qual (defScope st) s.heap.objs.size f cdv)) → sp vs H Q E →
      ∃ t, PSs (cxOf (L2.CX P w) P w K mg base N qual (defScope st) f cdv A outer s H E) (defBody st) t ∧ t { nx := fun _ H' => Q .non H', rt := Q } (start N vs) H) : Has P w K mg base (L2.CX P w) (k + 1) x ps sp :=
  ⟨f, fd, F.okX S len hbody, gf, F.kp, b⟩
theorem pe_fnS {X : Cx} {W : WX} {k : Nat} {ps : List Str} {sp : Sp} {x : Str} {p pos : Pos} {e : Expr} {es : List Expr} {t : TA} (tk : Takes X W) (h : Has X.prog X.w X.K X.mg X.base (L2.CX X.prog X.w) k x ps sp) (hr : Room k X.A) (hg : Gl X x) (ha : PA X (e :: es) t) (hdb : (x == ("__debug__" : Str)) = false := by decide)
    (he : starEach (e :: es) X.env = (false, eval e X.env) :: starEach es X.env := by rfl) (hpl : (backTo pos (starEach es X.env)).any (·.1) = false := by rfl) :
    PE X (.Call (.Name x p) (e :: es) [] pos) (tCallS sp (WE W) t) := by
  obtain ⟨f, fd, F, gf, kp, b⟩ := h.ex
  exact pe_callS F hr hg gf kp b (fun σ => passAt tk σ) ha hdb he hpl
theorem pe_fnL {X : Cx} {k : Nat} {ps : List Str} {sp : Sp} {x : Str} {p pos : Pos} {e : Expr} {es : List Expr} {t : TA} (h : Has X.prog X.w X.K X.mg X.base (L2.CX X.prog X.w) k x ps sp) (hr : Room k X.A) (hg : Gl X x) (ha : PA X (e :: es) t) (hdb : (x == ("__debug__" : Str)) = false := by decide)
    (he : starEach (e :: es) X.env = (false, eval e X.env) :: starEach es X.env := by rfl) (hpl : (backTo pos (starEach es X.env)).any (·.1) = false := by rfl) :
    PE X (.Call (.Name x p) (e :: es) [] pos) (tCall sp [] E0 t) := by
  obtain ⟨f, fd, F, gf, kp, b⟩ := h.ex
  exact pe_call F hr hg gf kp b .nil passL ha hdb he hpl
theorem w_callS {σ : L2.St} {H : Hp} {Q : VK} {tl : TA} {sp : Sp} {E : L2.St → XK} (h : tl σ H fun vs H1 => sp vs H1 Q (E σ)) : tCallS sp E tl σ H Q := h
/-- facts of an exception class of the program's own -/
structure ExF (K : PySem.W.Frag) (C : Addr) : Prop where
  kp : PySem.W.keepIn K (.ref C) = true
  be : PySem.W.subIn K (.ref C) (.type "BaseException") = some true
  ty : PySem.W.typeIn K (.ref C) = some (.type "type")
  cl : PySem.W.isClsIn K C = true
  hd : PySem.W.hasDictIn K C = true
  ga : PySem.W.findIn K (.ref C) "__getattribute__" = some (some (.builtin "BaseException.__getattribute__"))
  gg : PySem.W.findIn K (.ref C) "__getattr__" = some none
  oc : PySem.W.findIn K (.ref C) "__class__" = some (some (.builtin "object.__class__"))
  om : PySem.W.mroIn K C (.type "object") = some true
  sv : PySem.W.subIn K (.ref C) (.type "ValueError") = some true
  ss : PySem.W.subIn K (.ref C) (.ref C) = some true
  og : PySem.W.specialIn K (.builtin "object.__class__") "__get__" = some (some (.builtin "getset_descriptor.__get__"))
  ot : PySem.W.takesIn K (.builtin "object.__class__") = some true
theorem ExF.exm {K : PySem.W.Frag} {C D : Addr} {b : Bool} (F : ExF K D) (h : PySem.W.subIn K (.ref C) (.ref D) = some b) : PySem.W.exmOne K (.ref C) (.ref D) = some b := PySem.W.exm_ref F.be F.hd F.ty h
theorem ExF.kit {K : PySem.W.Frag} {C D : Addr} {b : Bool} (F : ExF K C) (G : ExF K D) (h : PySem.W.subIn K (.ref C) (.ref D) = some b) : PySem.W.kitOne K (.ref C) (.ref D) = some b := kit_own G.cl G.ty h F.ss
theorem ExF.kitV {K : PySem.W.Frag} {C : Addr} (F : ExF K C) : PySem.W.kitOne K (.ref C) (.type "ValueError") = some true := by
  unfold PySem.W.kitOne
  rw [if_neg (by intro z; rw [beq_iff_eq] at z; cases z)]
  show (if PySem.W.kitMeta "ValueError" = true then PySem.W.subIn K (.ref C) (.type "ValueError") else none) = some true
  rw [if_pos (by decide +kernel), F.sv]
theorem ExF.xf {K : PySem.W.Frag} {C : Addr} (F : ExF K C) : XfC K C := ⟨F.ga, F.gg, F.be, F.hd⟩
/-- isinstance(e, c), e the exception that the suite holds, with its dict or without -/
def rIsX (K : PySem.W.Frag) (a : Addr) (cls : Value) (d : Option Addr) : List V → Hp → VK → Prop := fun xs H Q => ∃ (D : Addr) (c : V) (cv : Value) (b : Bool), cls = .ref D ∧ ExF K D ∧ (d = none ∨ ∃ dd fs, d = some dd ∧ H dd = some (.xd fs)) ∧ xs = [.ref a, c] ∧ (∀ u, RelV c u → u = cv) ∧ PySem.W.kitOne K (.ref D) cv = some b ∧ Q (.bl b) H
theorem call_isX {X : Cx} {a : Addr} {cls : Value} {d : Option Addr} {oe : Obj} {pn : List (Addr × Obj)} (K : PySem.W.Frag) (hz : Zc cls d oe) (hf : ∃ vs, oe.data = .fields vs) (hK : X.K = K := by rfl) : CallR (X.suite a ((a, oe) :: pn)) (.builtin "isinstance") (rIsX K a cls d) := by
  subst hK
  intro pins s σ H xs us Q I r h
  obtain ⟨D, c, cv, b, rfl, F, hd, rfl, hcv, e, q⟩ := h
  obtain _ | ⟨rx, rr⟩ := r
  obtain _ | ⟨rt, rr⟩ := rr
  cases rr
  cases rx
  have ec := hcv _ rt
  subst ec
  have hget := (I.pin (a, oe) (List.mem_append.mpr (.inl List.mem_cons_self))).1
  obtain ⟨vs, hv⟩ := hf
  have hcl : (PySem.W.clsIn X.K D).isSome = true := F.cl
  have J : ∃ od, PySem.W.InstAt s.heap a oe D od := by
    rcases hd with rfl | ⟨dd, fs, rfl, hdd⟩
    · exact ⟨none, hget, hz.1, by unfold PySem.W.notCls; rw [hv] <;> rfl, by rw [hz.2]; trivial⟩
    · obtain ⟨mA, hns, _⟩ : ObjOk X.prog X.w H s.heap dd (.xd fs) := I.hok dd _ hdd
      obtain ⟨od, ho, _⟩ := lookIn_ns hns
      exact ⟨some od, hget, hz.1, by unfold PySem.W.notCls; rw [hv] <;> rfl, by rw [hz.2]; exact ho⟩
  obtain ⟨od, J⟩ := J
  exact PySem.W.kia_one (PySem.W.kitx_exc hcl F.ga F.gg F.be F.oc F.og F.ot F.om) I.kIn J e (fun z => nomatch z) fun tk => ⟨.bl b, H, I.kept (t' := tk) fun _ _ z => z, rfl, q⟩
theorem w_isX {K : PySem.W.Frag} {H : Hp} {Q : VK} {a D E : Addr} {d : Option Addr} {b : Bool} (F : ExF K D) (G : ExF K E) (hs : PySem.W.subIn K (.ref D) (.ref E) = some b) (hd : d = none ∨ ∃ dd fs, d = some dd ∧ H dd = some (.xd fs)) (h : Q (.bl b) H) : rIsX K a (.ref D) d [.ref a, .ref E] H Q :=
  ⟨D, .ref E, .ref E, b, rfl, F, hd, rfl, fun _ r => r, F.kit G hs, h⟩
theorem w_isXV {K : PySem.W.Frag} {H : Hp} {Q : VK} {a D : Addr} {d : Option Addr} (F : ExF K D) (hd : d = none ∨ ∃ dd fs, d = some dd ∧ H dd = some (.xd fs)) (h : Q (.bl true) H) : rIsX K a (.ref D) d [.ref a, .ty "ValueError"] H Q :=
  ⟨D, .ty "ValueError", .type "ValueError", true, rfl, F, hd, rfl, fun _ r => r, F.kitV, h⟩
/-- an exception class whose __init__ is a def -/
structure HasXM (P : Program) (w : World) (K : PySem.W.Frag) (mg : Str → Option Value) (base : Heap) (k : Nat) (x : Str) (C : Addr) (ps : List Str) (sp : Sp) : Prop where
  oex : OexC K C
  ex : ∃ f fd, FnOk P w K mg base CX0 k f fd ps sp ∧ PySem.W.findIn K (.ref C) "__init__" = some (some (.ref f)) ∧ PySem.W.typeIn K (.ref f) = some (.type "function") ∧ mg x = some (.ref C) ∧ Binds K fd ps []
theorem pmk_xm {X : Cx} {x : Str} {C : Addr} {k : Nat} {ps : List Str} {sp : Sp} {e : Expr} {es : List Expr} {ta : TA} {p pos : Pos} (h : HasXM X.prog X.w X.K X.mg X.base k x C ps sp) (hr : Room (k + 1) X.A) (hg : Gl X x) (ha : PA X (e :: es) ta)
    (hdb : (x == ("__debug__" : Str)) = false := by decide) (he : starEach (e :: es) X.env = (false, eval e X.env) :: starEach es X.env := by rfl) (hpl : (backTo pos (starEach es X.env)).any (·.1) = false := by rfl) :
    PMk X (.Call (.Name x p) (e :: es) [] pos) (tMkO C sp [] ta) := by
  obtain ⟨f, fd, F, iC, tI, hm, b⟩ := h.ex
  exact pmk_oex h.oex iC tI F hr b .nil pass0 hg hm ha hdb he hpl
/-- the promise of an __init__ that keeps its argument as the field f -/
def spKeep (K : PySem.W.Frag) (C : Addr) : Sp := fun vs H Q _ => ∃ (a : Addr) (v : V), vs = [.ref a, v] ∧ OexC K C ∧ PySem.W.findIn K (.ref C) "at" = some none ∧ H a = some (exo a C none) ∧ ∀ d, H d = none → d ≠ a → Q .non (upd (upd H d (exd d [("at", v)])) a (exo a C (some d)))
/-- the raise of such an exception: its dict is new -/
theorem w_raiseK {K : PySem.W.Frag} {H : Hp} {C : Addr} {v : V} {Q : XK} (T : OexC K C) (n : PySem.W.findIn K (.ref C) "at" = some none) (h : ∀ d, New H d → Q (.ref C) (some d) (upd H d (.xd [("at", v)]))) :
    [v].length ≤ 1000 ∧ ∀ a, H a = none → spKeep K C (.ref a :: ([v] ++ [])) (upd H a (exo a C none)) (fun u H2 => u = .non ∧ ∃ (d : Addr) (fs : List (Str × V)), H2 a = some (exo a C (some d)) ∧ H2 d = some (exd d fs) ∧ H d = none ∧ Q (.ref C) (some d) (upd (del H2 a) d (.xd fs))) (fun _ _ _ => False) := by
  refine ⟨by show 1 ≤ 1000; decide, fun a na => ⟨a, v, rfl, T, n, upd_same, fun d nd hda => ⟨rfl, d, _, upd_same, by rw [upd_ne hda, upd_same], ?_, ?_⟩⟩⟩
  · rw [upd_ne hda] at nd
    exact nd
  · have nd' : H d = none := by rw [upd_ne hda] at nd; exact nd
    have e : upd (del (upd (upd (upd H a (exo a C none)) d (exd d [("at", v)])) a (exo a C (some d))) a) d (.xd [("at", v)]) = upd H d (.xd [("at", v)]) := by
      funext b
      by_cases hb : b = d
      · subst hb; rw [upd_same, upd_same]
      · rw [upd_ne hb, upd_ne hb]
        by_cases ha : b = a
        · subst ha; rw [del_same, na]
        · rw [del_ne ha, upd_ne ha, upd_ne hb, upd_ne ha]
    rw [e]
    exact h d nd'
theorem w_ost {K : PySem.W.Frag} {σ : L2.St} {H : Hp} {D : Ends} {to te : TE} {f : Str} (h : te σ H fun y H1 => to σ H1 fun x H2 => ∃ a C : Addr, x = .ref a ∧ OexC K C ∧ PySem.W.findIn K (.ref C) f = some none ∧
  ((H2 a = some (exo a C none) ∧ ∀ dx, H2 dx = none → dx ≠ a → D.nx σ (upd (upd H2 dx (exd dx [(f, y)])) a (exo a C (some dx)))) ∨
    ∃ (dx : Addr) (fs : List (Str × V)), H2 a = some (exo a C (some dx)) ∧ H2 dx = some (exd dx fs) ∧ fs.length ≤ 900 ∧ D.nx σ (upd H2 dx (exd dx ((f, y) :: fs))))) : tOst K f to te D σ H := h
theorem w_xf {σ : L2.St} {H : Hp} {Q : VK} {a C : Addr} {cls : Value} {d : Option Addr} {f : Str} {te : TE} (h : te σ H fun x H1 => x = .ref a ∧ cls = .ref C ∧ ∃ (dd : Addr) (fs : List (Str × V)) (v : V), d = some dd ∧ H1 dd = some (.xd fs) ∧ fs.lookup f = some v ∧ Q v H1) : tXf a cls d C f te σ H Q := h
theorem w_mko {σ : L2.St} {H : Hp} {C : Addr} {sp : Sp} {ta : TA} {Q : XK} (h : ta σ H fun vs H1 => vs.length ≤ 1000 ∧ ∀ a, H1 a = none → sp (.ref a :: (vs ++ [])) (upd H1 a (exo a C none))
  (fun v H2 => v = .non ∧ ∃ (d : Addr) (fs : List (Str × V)), H2 a = some (exo a C (some d)) ∧ H2 d = some (exd d fs) ∧ H1 d = none ∧ Q (.ref C) (some d) (upd (del H2 a) d (.xd fs))) (fun _ _ _ => False)) : tMkO C sp [] ta σ H Q := h

/-! ### an exception that is kept behind its suite: try: body, except x as n: .. found = n -/
/-- at a: a caught exception, of the class cls, its dict d -/
def exk (a : Addr) (cls : Value) (d : Option Addr) : HO := .ext fun h => ∃ (oe : Obj) (vs : Array Value), h.get? a = some oe ∧ Zc cls d oe ∧ oe.data = .fields vs
theorem exk_ok {P : Program} {w : World} {H : Hp} {h : Heap} {a : Addr} {cls : Value} {d : Option Addr} {oe : Obj} {vs : Array Value} (e : h.get? a = some oe) (z : Zc cls d oe) (dd : oe.data = .fields vs) : ObjOk P w H h a (exk a cls d) :=
  ⟨⟨oe, vs, e, z, dd⟩, ⟨oe, e⟩, fun _ _ ⟨o, v, q, r⟩ k => ⟨o, v, k o q, r⟩⟩
theorem exk_at {P : Program} {w : World} {H : Hp} {h : Heap} {a : Addr} {cls : Value} {d : Option Addr} (hok : HOk P w H h) (he : H a = some (exk a cls d)) : ∃ (oe : Obj) (vs : Array Value), h.get? a = some oe ∧ Zc cls d oe ∧ oe.data = .fields vs := by
  have x : ObjOk P w H h a (.ext fun h => ∃ (oe : Obj) (vs : Array Value), h.get? a = some oe ∧ Zc cls d oe ∧ oe.data = .fields vs) := hok a _ he
  exact x.1
section
variable {X : Cx} {pins : List (Addr × Obj)} {σ : L2.St} {H : Hp} {s : Shared}
/-- an object that is there, of ours, is tracked from now on -/
theorem Inv.track {a : Addr} {o : HO} (I : Inv X pins σ H s) (na : H a = none) (hx : ∀ ob, X.s_0.heap.get? a = some ob → a ∈ X.ex) (nL : a ≠ X.env.locals) (hc : ∀ x c, X.env.cells.lookup x = some c → c ≠ a) (hp : ∀ p ∈ X.pn ++ pins, p.1 ≠ a) (new : ObjOk X.prog X.w (upd H a o) s.heap a o) :
    Inv X pins σ (upd H a o) s :=
  ⟨I.ok, I.os, I.bare,
    ⟨I.base.keep, I.base.slot, fun b ob e n hb => by
      have nb : b ≠ a := fun z => by subst z; exact hb (hx ob e)
      rw [upd_ne nb]; exact I.base.free b ob e n hb, I.base.there,
      fun b xs q => by rw [upd_ne (ne_of_none (I.base.tups b xs q) na)]; exact I.base.tups b xs q,
      fun b ob u q => by rw [upd_ne (ne_of_none (I.base.frzs b ob u q) na)]; exact I.base.frzs b ob u q,
      fun b ps q => by
        obtain ⟨m, e⟩ := I.base.tbls b ps q
        exact ⟨m, by rw [upd_ne (ne_of_none e na)]; exact e⟩⟩,
    I.loc, I.cell, by rw [upd_ne nL.symm]; exact I.free, fun x c e => by rw [upd_ne (hc x c e)]; exact I.freeC x c e,
    fun p hq => by
      obtain ⟨h1, h2, h3⟩ := I.pin p hq
      exact ⟨h1, by rw [upd_ne (hp p hq)]; exact h2, h3⟩,
    fun b u e => by
      by_cases hb : b = a
      · subst hb; rw [upd_same] at e; cases e; exact new
      · rw [upd_ne hb] at e
        exact (I.hok b u e).stay (fun c v _ q => q) (fun c q => by rw [upd_ne (ne_of_none q na)]; exact q) fun c xs q => by rw [upd_ne (ne_of_none q na)]; exact q,
    I.len⟩
end
/-- what 'except x as n: suite' wishes, the exception kept behind -/
def wKeep (K : PySem.W.Frag) (c : Value) (i : Nat) (ts : Addr → Value → Option Addr → TS) (Wout : WX) (D : Ends) : WX := fun cls d σ H =>
  ∃ b, PySem.W.exmOne K cls c = some b ∧ (b = true → ∀ a, H a = none → ts a cls d { nx := fun σ' H' => H' a = none → D.nx (σ'.set i none) (upd H' a (exk a cls d)), rt := fun _ _ => False, bk := fun _ _ => False, ct := fun _ _ => False } (σ.set i (some (.ref a))) H) ∧
    (b = false → Wout cls d σ H)
section
variable {X : Cx} {x n : Str} {c : Value} {i : Nat} {body suite : List Stmt} {b₀ : Stmt} {np pos pos' : Pos} {tb : WX → TS} {ts : Addr → Value → Option Addr → TS} {Wout : WX}
theorem ps_try_keep (hs : X.stack = X.env :: X.outer) (hf : X.env.frame = some X.env.locals) (hN : X.N.Nodup) (hi : X.N[i]? = some n) (hln : X.env.kindOf n = some .local) (hc : Names X x c) (tk : Takes X Wout)
    (hb : ∀ (W : WX) (pn : List (Addr × Obj)) (xe : Value → Shared → Prop), Takes (X.tr pn xe) W → PassesOwn (model X.prog X.w) X.A X.env xe → PSs (X.tr pn xe) body (tb W))
    (hsu : ∀ (a : Addr) (oe : Obj) (cls : Value) (d : Option Addr) (pn : List (Addr × Obj)), Zc cls d oe → (∃ vs, oe.data = .fields vs) → PSs (X.suite a ((a, oe) :: pn)) (b₀ :: suite) (ts a cls d)) :
    PS X (.Try body [.ExceptHandler (some (.Name x np)) (some n) (b₀ :: suite) pos'] [] [] pos) (fun D σ H => tb (wKeep X.K c i ts Wout D) D σ H) := by
  refine ⟨fun pins s σ H D I h => ?_⟩
  have ok := I.ok
  have hfr : X.A.frames = some (X.env :: X.outer) := by rw [ok.frames, hs]
  refine wpAny_Try_except ?_
  refine wpAny_mono ((hb (wKeep X.K c i ts Wout D) (X.pn ++ pins) (fun e s₁ => wpAny (model X.prog X.w) X.A (noteFrame e X.env) (fun _ s₂ => wpAny (model X.prog X.w) X.A (setFlight e none) (fun _ s₃ =>
    wpAny (model X.prog X.w) X.A (handleBy e X.env [.ExceptHandler (some (.Name x np)) (some n) (b₀ :: suite) pos']) (SP X pins D) X.xe s₃) X.xe s₂) X.xe s₁) (fun u s' xx => ?_) PassesOwn.looking).run [] s σ H D (I.toTry _) h) (fun f s1 hsp => ?_) (fun e s1 he => he)
  · obtain ⟨a, B, sI, pins', σ', H', cls, d, rfl, J', nb, up, sky, na, os, ag, b, hb1, hyes, hno⟩ := xx
    have J : Inv X pins σ' H' sI := J'.ofTry ok
    have sky' : Sky B (X.env :: X.outer) a (Zc cls d) X.env.locals s'.heap := by rw [← hs]; exact sky
    show wpAny (model X.prog X.w) X.A (noteFrame (.ref a) X.env) _ _ _
    refine Sky.land Zc.steady hfr hf sky' fun h3 fl3 up3 => ?_
    have J3 : Inv X pins σ' H' { s' with heap := h3 } := J.landed nb fl3.1 (up.trans up3) os ag
    obtain ⟨oe3, vs3, he3, hz3, hd3⟩ := fl3.there
    have nfr : a ∉ frs (X.env :: X.outer) := fun hm => by
      obtain ⟨_, o', e', hnf⟩ := fl3.2.2.1.mem hm
      rw [he3] at e'; cases e'
      exact hnf _ hd3
    have nL : a ≠ X.env.locals := fun z => nfr (List.mem_filterMap.mpr ⟨X.env, List.mem_cons_self, by rw [hf, z]⟩)
    have nF : a ∉ X.fs := fun hm => by
      obtain ⟨e, he, q⟩ := List.mem_filterMap.mp hm
      exact nfr (List.mem_filterMap.mpr ⟨e, List.mem_cons_of_mem _ he, q⟩)
    have nI : sI.heap.get? a = none := by
      cases q : sI.heap.get? a with
      | none => rfl
      | some o =>
        have z := nb a o q (by rw [hs]; exact nfr)
        rw [fl3.2.1] at z
        cases z
    have S3 := J3.suite he3 hd3 na nL nF
    refine wpAny_handleBy_cons (codeAny_handlers_test ?_) (by intro q; cases q)
    have LT : PySem.W.Looks (model X.prog X.w) h3 (typeOf (.ref a)) cls := fun A Q E s k q => wpAny_typeOf_ref (k _ _ he3) (by rw [hz3.1]; exact q)
    have LM := PySem.W.exm_one (M := model X.prog X.w) (J3.kIn) LT hb1
    have test : ∀ {Q : Value → Shared → Prop} {E : Value → Shared → Prop}, Q c { s' with heap := h3 } → wpAny (model X.prog X.w) (X.A.mark (some (.ref a))) (eval (.Name x np) X.env) Q E { s' with heap := h3 } := fun {Q E} q => by
      obtain ⟨hg, hdbg, hm | ⟨hm, hv, hnn⟩⟩ := hc
      · exact ld_glob (X := X.suite a ((a, oe3) :: (X.pn ++ pins))) S3 hg hm q hdbg
      · exact ld_blt (X := X.suite a ((a, oe3) :: (X.pn ++ pins))) S3 hg hm hv q hnn hdbg
    refine test (LM.here ?_)
    cases b with
    | true =>
      refine codeAny_handlers_suite_as ?_
      refine HandSPX.lands_againZ fl3 fun h4 fl4 up4 => ?_
      have J4 : Inv X pins σ' H' { s' with heap := h4 } := J.landed nb fl4.1 ((up.trans up3).trans up4) os ag
      obtain ⟨oe4, vs4, he4, hz4, hd4⟩ := fl4.there
      have S4 := J4.suite he4 hd4 na nL nF
      refine store_ok (X := X.suite a ((a, oe4) :: (X.pn ++ pins))) (v := .ref a) S4 hN hi (.inl hln) rfl (fun s5 S5 => ?_) (.inr hln)
      refine wpAny_mono ((hsu a oe4 cls d (X.pn ++ pins) hz4 ⟨_, hd4⟩).run [] s5 _ H' _ S5 (hyes rfl a na)) (fun f s6 hsp => ?_) (fun _ _ z => False.elim z)
      cases f with
      | next =>
        obtain ⟨σ6, H6, S6, q6⟩ := hsp
        obtain ⟨g6, n6, _⟩ := S6.pin (a, oe4) (List.mem_append_left _ List.mem_cons_self)
        have T6 : Inv X pins σ6 (upd H6 a (exk a cls d)) s6 := Inv.track (S6.unsuite ok) n6
          (fun ob e => by
            refine Classical.byContradiction fun hx => ?_
            obtain ⟨o', e'⟩ := J.base.there a ob e hx
            rw [nI] at e'
            cases e')
          nL (fun y c' e z => by
            obtain ⟨v, hv⟩ := J.cell y c' e
            obtain ⟨o', e', _⟩ := hv
            rw [z, nI] at e'
            cases e')
          (fun p hp z => by
            have q := (J.pin p hp).1
            rw [z, nI] at q
            cases q)
          (exk_ok g6 hz4 hd4)
        exact gone_ok T6 hN hi hln fun s7 J7 => ⟨_, _, J7, q6 n6⟩
      | brk =>
        obtain ⟨_, _, _, q6⟩ := hsp
        exact False.elim q6
      | cont =>
        obtain ⟨_, _, _, q6⟩ := hsp
        exact False.elim q6
      | ret u =>
        obtain ⟨_, _, _, _, _, q6⟩ := hsp
        exact False.elim q6
    | false =>
      show wpAny _ X.A (handleBy (.ref a) X.env []) _ _ _
      refine wpAny_handleBy_nil ?_
      obtain ⟨k1, k2, k3, oe, vs, T, oT, ts', he, hz, hd, h1, hr⟩ := id fl3
      unfold PySem.passOn
      refine wpAny_bind (wpAny_field he hd h1 ?_)
      rw [if_neg (show ¬ ((Value.ref T == Value.none) = true) from by simp)]
      have fin : wpAny (model X.prog X.w) X.A (setFlight (.ref a) X.env.frame) (fun _ s4 => wpAny (model X.prog X.w) X.A (throw (.ref a) : Sem Flow) (SP X pins D) X.xe s4) X.xe { s' with heap := h3 } := by
        rw [hf]
        refine HandSPX.setFlight_upZ fl3 fun h4 hh4 up4 => wpAny_throw (tk _ _ ?_)
        exact ⟨a, B, sI, pins, σ', H', cls, d, rfl, J, nb, (up.trans up3).trans up4, .inr (.inr (by rw [hs]; exact hh4)), na, os, ag, hno rfl⟩
      first
        | exact wpAny_bind (wpAny_pure (wpAny_bind fin))
        | exact wpAny_bind fin
  · cases f with
    | next =>
      obtain ⟨σ', H', J', q⟩ := hsp
      exact wpAny_execs_nil ⟨σ', H', J'.ofTry ok, q⟩
    | brk =>
      obtain ⟨σ', H', J', q⟩ := hsp
      exact ⟨σ', H', J'.ofTry ok, q⟩
    | cont =>
      obtain ⟨σ', H', J', q⟩ := hsp
      exact ⟨σ', H', J'.ofTry ok, q⟩
    | ret u =>
      obtain ⟨v, σ', H', J', r, q⟩ := hsp
      exact ⟨v, σ', H', J'.ofTry ok, r, q⟩
end
/-- what is known of a kept exception -/
def Kept (K : PySem.W.Frag) (H : Hp) (a D : Addr) (d : Option Addr) : Prop := H a = some (exk a (.ref D) d) ∧ (d = none ∨ ∃ dd fs, d = some dd ∧ H dd = some (.xd fs))
theorem Kept.inst {X : Cx} {pins : List (Addr × Obj)} {σ : L2.St} {H : Hp} {s : Shared} {a D : Addr} {d : Option Addr} (I : Inv X pins σ H s) (k : Kept X.K H a D d) : ∃ oe od, PySem.W.InstAt s.heap a oe D od := by
  obtain ⟨ha, hd⟩ := k
  obtain ⟨oe, vs, hget, hz, hv⟩ := exk_at I.hok ha
  rcases hd with rfl | ⟨dd, fs, rfl, hdd⟩
  · exact ⟨oe, none, hget, hz.1, by unfold PySem.W.notCls; rw [hv] <;> rfl, by rw [hz.2]; trivial⟩
  · obtain ⟨mA, hns, _⟩ : ObjOk X.prog X.w H s.heap dd (.xd fs) := I.hok dd _ hdd
    obtain ⟨od, ho, _⟩ := lookIn_ns hns
    exact ⟨oe, some od, hget, hz.1, by unfold PySem.W.notCls; rw [hv] <;> rfl, by rw [hz.2]; exact ho⟩
/-- isinstance(x, c), x a kept exception or None -/
def rIsKp (K : PySem.W.Frag) : List V → Hp → VK → Prop := fun xs H Q =>
  (∃ (a D : Addr) (d : Option Addr) (c : V) (cv : Value) (b : Bool), ExF K D ∧ Kept K H a D d ∧ xs = [.ref a, c] ∧ (∀ u, RelV c u → u = cv) ∧ PySem.W.kitOne K (.ref D) cv = some b ∧ Q (.bl b) H)
theorem call_isKp {X : Cx} (K : PySem.W.Frag) (hK : X.K = K := by rfl) : CallR X (.builtin "isinstance") (rIsKp K) := by
  subst hK
  intro pins s σ H xs us Q I r h
  obtain ⟨a, D, d, c, cv, b, F, hk, rfl, hcv, e, q⟩ := h
  obtain _ | ⟨rx, rr⟩ := r
  obtain _ | ⟨rt, rr⟩ := rr
  cases rr
  cases rx
  have ec := hcv _ rt
  subst ec
  have hcl : (PySem.W.clsIn X.K D).isSome = true := F.cl
  obtain ⟨oe, od, J⟩ := hk.inst I
  exact PySem.W.kia_one (PySem.W.kitx_exc hcl F.ga F.gg F.be F.oc F.og F.ot F.om) I.kIn J e (fun z => nomatch z) fun tk => ⟨.bl b, H, I.kept (t' := tk) fun _ _ z => z, rfl, q⟩
theorem w_isKp {K : PySem.W.Frag} {H : Hp} {Q : VK} {a D E : Addr} {d : Option Addr} {b : Bool} (F : ExF K D) (G : ExF K E) (hs : PySem.W.subIn K (.ref D) (.ref E) = some b) (hk : Kept K H a D d) (h : Q (.bl b) H) : rIsKp K [.ref a, .ref E] H Q :=
  ⟨a, D, d, .ref E, .ref E, b, F, hk, rfl, fun _ r => r, F.kit G hs, h⟩
theorem w_isKpV {K : PySem.W.Frag} {H : Hp} {Q : VK} {a D : Addr} {d : Option Addr} (F : ExF K D) (hk : Kept K H a D d) (h : Q (.bl true) H) : rIsKp K [.ref a, .ty "ValueError"] H Q :=
  ⟨a, D, d, .ty "ValueError", .type "ValueError", true, F, hk, rfl, fun _ r => r, F.kitV, h⟩
theorem Kept.same {K : PySem.W.Frag} {H H' : Hp} {a D : Addr} {d : Option Addr} (k : Kept K H a D d) (e : Same H H') : Kept K H' a D d :=
  ⟨e _ _ k.1, k.2.imp_right fun ⟨dd, fs, h1, h2⟩ => ⟨dd, fs, h1, e _ _ h2⟩⟩
/-- found.f -/
def tXk (K : PySem.W.Frag) (f : Str) (te : TE) : TE := fun σ H Q => te σ H fun x H1 => ∃ (a C dd : Addr) (fs : List (Str × V)) (v : V), x = .ref a ∧ XfC K C ∧ PySem.W.findIn K (.ref C) f = some none ∧ H1 a = some (exk a (.ref C) (some dd)) ∧ H1 dd = some (.xd fs) ∧ fs.lookup f = some v ∧ Q v H1
theorem pe_xk {X : Cx} {e : Expr} {te : TE} {pos : Pos} {f : Str} (K : PySem.W.Frag) (he : PE X e te) (hb : attributeBase e f X.env (eval e X.env) = eval e X.env := by rfl) (hK : X.K = K := by rfl) : PE X (.Attribute e f pos) (tXk K f te) := by
  subst hK
  refine ⟨fun pins s σ H Q I h => ?_⟩
  refine attr_of hb (thn (he.run pins s σ H _ I h) fun u s1 hh => ?_)
  obtain ⟨x, H1, I1, rx, a, C, dd, fs, v, ex, T, hno, ha, ea, l, q⟩ := hh
  subst ex
  obtain rfl : u = Value.ref a := rx
  obtain ⟨oe, vs, hget, hz, hv⟩ := exk_at I1.hok ha
  have hx : ObjOk X.prog X.w H1 s1.heap dd (.xd fs) := I1.hok dd _ ea
  obtain ⟨mA, hns, hr⟩ := hx
  obtain ⟨od, ho, hl⟩ := lookIn_ns hns
  obtain ⟨u, hu, ru⟩ := RelO.some_of (v := v) (o := mA f) (by rw [← l]; exact hr f)
  have J : PySem.W.InstAt s1.heap a oe C (some od) := ⟨hget, hz.1, by unfold PySem.W.notCls; rw [hv] <;> rfl, by rw [hz.2]; exact ho⟩
  exact HandSPX.exc_get I1.kIn J T.ga T.gg T.exC (PySem.W.findObj_own T.hdC hno rfl (by rw [hl, hu])) (handed_of ru) ⟨v, H1, I1.tok _, ru, q⟩
theorem w_xk {K : PySem.W.Frag} {σ : L2.St} {H : Hp} {Q : VK} {f : Str} {te : TE} (h : te σ H fun x H1 => ∃ (a C dd : Addr) (fs : List (Str × V)) (v : V), x = .ref a ∧ XfC K C ∧ PySem.W.findIn K (.ref C) f = some none ∧ H1 a = some (exk a (.ref C) (some dd)) ∧ H1 dd = some (.xd fs) ∧ fs.lookup f = some v ∧ Q v H1) : tXk K f te σ H Q := h
/-! ### objects whose __init__ may raise -/
theorem HasFn.mkX {P : Program} {w : World} {K : PySem.W.Frag} {mg : Str → Option Value} {base : Heap} {x qual : Str} {ps N : List Str} {sp : Sp} {k : Nat} {st : Stmt} {f : Addr} {fd : FuncData} (F : Fun K x qual st f fd) (b : Binds K fd ps []) (S : FnScope N ps (defScope st)) (len : ∀ vs H Q E, sp vs H Q E → vs.length = ps.length)
    (hbody : ∀ (cdv : Value) (A : Around) (outer : List Env) (s : Shared) (H : Hp) (vs : List V) (Q : VK) (E : XK), Room k (A.deeper (envOfC qual (defScope st) s.heap.objs.size f cdv)) → sp vs H Q E →
      ∃ t, PSs (cxOf (L2.CX P w) P w K mg base N qual (defScope st) f cdv A outer s H E) (defBody st) t ∧ t { nx := fun _ H' => Q .non H', rt := Q } (start N vs) H) : HasFn P w K mg base (L2.CX P w) (k + 1) f ps sp :=
  ⟨fd, F.okX S len hbody, b⟩
section
variable {X : Cx} {k : Nat} {ps : List Str} {sp : Sp} {x : Str} {p pos : Pos} {e : Expr} {es : List Expr} {t : TA} {C : Addr} {E : XK}
theorem pe_mkX (tk : Takes X (fun cls d _ H => E cls d H)) (h : HasMk X.prog X.w X.K X.mg X.base (L2.CX X.prog X.w) k x C ps sp) (hr : Room (k + 1) X.A) (hg : Gl X x) (ha : PA X (e :: es) t) (hdb : (x == ("__debug__" : Str)) = false := by decide) (he : starEach (e :: es) X.env = (false, eval e X.env) :: starEach es X.env := by rfl) (hpl : (backTo pos (starEach es X.env)).any (·.1) = false := by rfl) :
    PE X (.Call (.Name x p) (e :: es) [] pos) (tMake C sp [] E t) := by
  obtain ⟨f, fd, F, M, g, b⟩ := h.ex
  exact pe_make M F hr hg g b .nil (passes_call tk fun _ _ _ _ h => h) ha hdb he hpl
theorem pe_mkL (h : HasMk X.prog X.w X.K X.mg X.base (L2.CX X.prog X.w) k x C ps sp) (hr : Room (k + 1) X.A) (hg : Gl X x) (ha : PA X (e :: es) t) (hdb : (x == ("__debug__" : Str)) = false := by decide) (he : starEach (e :: es) X.env = (false, eval e X.env) :: starEach es X.env := by rfl) (hpl : (backTo pos (starEach es X.env)).any (·.1) = false := by rfl) :
    PE X (.Call (.Name x p) (e :: es) [] pos) (tMake C sp [] E0 t) := by
  obtain ⟨f, fd, F, M, g, b⟩ := h.ex
  exact pe_make M F hr hg g b .nil passL ha hdb he hpl
end
/-- X(), X an own exception class without own __init__ -/
theorem pmk_own0 {X : Cx} {C : Addr} {bmB : List Value} {B newId initId : String} {x : Str} {p pos : Pos} (F : ExcBaseFacts B newId initId bmB) (q : PySem.W.excIn X.K C bmB newId = true) (gC : X.mg x = some (.ref C)) (kC : PySem.W.keepIn X.K (.ref C) = true) (r : Raises X (.ref C)) (hg : Gl X x)
    (hdb : (x == ("__debug__" : Str)) = false := by decide) : PMk X (.Call (.Name x p) [] [] pos) (fun _ H Q => Q (.ref C) none H) := by
  intro pins s σ H Q I h
  refine wpAny_Call_Name_kw (ld_glob I hg gC ?_ hdb)
  refine PySem.W.callWith_K0 I.kIn kC ?_
  obtain ⟨bm, N, nm, qn, bs, hdct, sn, sub, ab, col, dd, k0, k1, k2, k3, k5, mN, hC, hN, hni, T⟩ := exc_obj I.kIn q
  refine wpAny_call_exc_subT F T hC hN hni (fun h1 e hm => ?_) (by first | exact Nat.zero_le _ | decide)
  exact mk_of I hm r h (I.hok.gone hm.new)

/-! ### steps of the reading -/
local macro_rules | `(tactic| walk_at "len") => `(tactic| (intro vs H Q E h; first | (obtain ⟨e, _⟩ := h; subst e; rfl) | (obtain ⟨_, e, _⟩ := h; subst e; rfl) | (obtain ⟨_, _, e, _⟩ := h; subst e; rfl) | (obtain ⟨_, _, _, e, _⟩ := h; subst e; rfl) | (obtain ⟨_, _, _, _, e, _⟩ := h; subst e; rfl) | (obtain ⟨_, _, _, _, _, e, _⟩ := h; subst e; rfl) | (obtain ⟨_, _, _, _, _, _, e, _⟩ := h; subst e; rfl) | (obtain ⟨_, _, _, _, _, _, _, e, _⟩ := h; subst e; rfl) | (obtain ⟨_, _, _, _, _, _, _, _, e, _⟩ := h; subst e; rfl) | (obtain ⟨_, _, _, _, _, _, _, _, _, e, _⟩ := h; subst e; rfl) | (obtain ⟨_, _, _, _, _, _, _, _, _, _, e, _⟩ := h; subst e; rfl) | (obtain ⟨_, _, _, _, _, _, _, _, _, _, _, e, _⟩ := h; subst e; rfl)))
/-- p ≠ q -/
local macro_rules | `(tactic| walk_at "ne1") => `(tactic| (refine ne_new (H := ?H) (o := ?o) ?a ?b; (case b => assumption); (case a => walk_at "hp")))
local macro_rules | `(tactic| walk_at "ne") => `(tactic| first
  | assumption | (apply Ne.symm; assumption) | walk_at "ne1" | (apply Ne.symm; walk_at "ne1") | fail)
/-- H p = some o -/
local macro_rules | `(tactic| walk_at "hp") => `(tactic| first
  | assumption
  | exact upd_same
  | (refine (upd_ne ?n).trans ?h; (case n => walk_at "ne"); (case h => walk_at "hp"))
  | (refine Same.get (H := ?H) ?s ?h; (case s => assumption); (case h => assumption)) | fail)
local macro_rules | `(tactic| walk_at "sq") => `(tactic| first
  | assumption
  | exact SqL.of (by walk_at "hp") | exact SqT.of (by walk_at "hp")
  | (refine Same.seq (H := ?H) ?s ?h; (case h => assumption); (case s => walk_at "same"))
  | (refine same_read (H := ?H) ?s ?h; (case h => assumption); (case s => walk_at "same")) | fail)
/-- a later new object was free ahead -/
local macro_rules | `(tactic| walk_at "fr") => `(tactic| first | assumption | (refine New.of (H' := ?H) ?n ?s; (case n => assumption); (case s => walk_at "same")) | fail)
/-- what was tracked stays -/
local macro_rules | `(tactic| walk_at "same") => `(tactic| first | assumption | exact Same.refl _ | (refine Same.new ?_ (by assumption); walk_at "same") | (refine Same.mut ?s ?n; (case n => walk_at "fr"); (case s => walk_at "same")) | (refine Same.trans (H1 := ?H1) ?a ?b; (case b => assumption); (case a => walk_at "same")) | fail)
local macro_rules | `(tactic| walk_at "side") => `(tactic| first | decide | omega | (with_reducible assumption) | fail)
local macro_rules | `(tactic| walk_at "at") => `(tactic| first | rfl | assumption | exact atI_nat (by assumption) | fail)
local macro_rules | `(tactic| walk_at "ll") => `(tactic| first | omega | (simp only [List.length_append, List.length_cons, List.length_nil, List.length_map, List.length_range, List.length_set, List.length_replicate]; omega) | (simp only [List.length_append, List.length_cons, List.length_nil, List.length_map, List.length_range, List.length_set, List.length_replicate] at *; omega) | (simp; done) | (simp; omega) | fail)
local macro_rules | `(tactic| walk_at "ix") => `(tactic| first | assumption | (refine ixN_nat ?_; walk_at "ll") | rfl | fail)
local macro_rules | `(tactic| walk_at "szlt") => `(tactic| first | assumption | (refine szlt ?_; walk_at "ll") | fail)
local macro_rules | `(tactic| walk_at "szk") => `(tactic| first | assumption | (refine szlt ?_; omega) | fail)
/-- one step -/
local macro_rules | `(tactic| walk_at "st") => `(tactic| first
  | with_reducible refine w_iT ?_
  | with_reducible refine w_iF ?_
  | with_reducible refine w_iNT ?_
  | with_reducible refine w_iNF ?_
  | with_reducible refine w_iNN ?_
  | with_reducible refine w_seq ?_
  | with_reducible refine w_asg ?_
  | with_reducible refine w_gn ?_
  | with_reducible refine w_c ?_
  | with_reducible refine w_op ?_
  | with_reducible refine w_ret ?_
  | with_reducible refine w_if ?_
  | with_reducible refine w_test ?_
  | with_reducible refine w_rI0 ?_
  | with_reducible refine w_cons ?_
  | with_reducible refine w_nil ?_
  | with_reducible refine w_call ?_
  | with_reducible refine w_cb ?_
  | with_reducible refine w_drop ?_
  | with_reducible refine w_next ?_
  | with_reducible refine w_eqI ?_
  | with_reducible refine w_neI ?_
  | ((with_reducible refine w_var ?_); refine ⟨_, rfl, ?_⟩)
  | ((with_reducible refine w_aug ?_); refine ⟨_, rfl, ?_⟩)
  | with_reducible refine w_eqB ?_
  | with_reducible refine w_neB ?_
  | with_reducible refine w_tB ?_
  | with_reducible refine w_bl ?_
  | with_reducible refine w_and ?_
  | with_reducible refine w_or ?_
  | with_reducible refine w_not ?_
  | with_reducible refine w_andV ?_
  | with_reducible refine w_orV ?_
  | with_reducible refine w_notV ?_
  | with_reducible refine w_ifE ?_
  | with_reducible refine w_un ?_
  | with_reducible refine w_rU ?_
  | with_reducible refine w_ip ?_
  | with_reducible refine w_gc ?_
  | with_reducible refine w_g0 ?_
  | with_reducible refine w_gs ?_
  | with_reducible refine w_tup ?_
  | with_reducible refine w_lst ?_
  | with_reducible refine w_sl ?_
  | with_reducible refine w_np ?_
  | with_reducible refine w_part ?_
  | with_reducible refine w_partI ?_
  | with_reducible refine w_bm ?_
  | with_reducible refine w_bm0 ?_
  | with_reducible refine w_for ?_
  | with_reducible refine w_lc ?_
  | with_reducible refine w_yes ?_
  | with_reducible refine w_make ?_
  | with_reducible refine w_meth ?_
  | with_reducible refine w_sf ?_
  | with_reducible refine w_r3 ?_
  | with_reducible refine w_din ?_
  | with_reducible refine w_dni ?_
  | with_reducible refine w_dg ?_
  | with_reducible refine w_put ?_
  | with_reducible refine w_dn ?_
  | with_reducible refine w_enum ?_
  | with_reducible refine w_iL ?_
  | with_reducible refine w_iTu ?_
  | with_reducible refine w_r1 ?_
  | with_reducible refine w_r2 ?_
  | with_reducible refine w_int1 ?_
  | with_reducible refine w_intb ?_
  | with_reducible refine w_fl ?_
  | with_reducible refine w_retN ?_
  | with_reducible refine w_break ?_
  | with_reducible refine w_cont ?_
  | with_reducible refine w_par ?_
  | with_reducible refine w_par2 ?_
  | with_reducible refine w_eqS ?_
  | with_reducible refine w_neS ?_
  | with_reducible refine w_eqNI ?_
  | with_reducible refine w_eqIN ?_
  | with_reducible refine w_callS ?_
  | with_reducible refine w_ost ?_
  | with_reducible refine w_xf ?_
  | with_reducible refine w_mko ?_
  | ((with_reducible refine w_mod ?s0 ?_); (case s0 => walk_at "side"))
  | ((with_reducible refine w_div ?s0 ?s1 ?_); (case s0 => walk_at "side"); (case s1 => walk_at "side"))
  | ((with_reducible refine w_shr ?s0 ?_); (case s0 => walk_at "side"))
  | ((with_reducible refine w_shl1 ?s0 ?s1 ?_); (case s0 => walk_at "side"); (case s1 => walk_at "side"))
  | ((with_reducible refine w_mul ?s0 ?s1 ?s2 ?s3 ?_); (case s0 => walk_at "side"); (case s1 => walk_at "side"); (case s2 => walk_at "side"); (case s3 => walk_at "side"))
  | ((with_reducible refine w_shl ?s0 ?s1 ?s2 ?s3 ?_); (case s0 => walk_at "side"); (case s1 => walk_at "side"); (case s2 => walk_at "side"); (case s3 => walk_at "side"))
  | ((with_reducible refine w_r1q ?s0 ?s1 ?_); (case s0 => walk_at "side"); (case s1 => walk_at "side"))
  | ((with_reducible refine w_r2q ?s0 ?s1 ?s2 ?s3 ?_); (case s0 => walk_at "side"); (case s1 => walk_at "side"); (case s2 => walk_at "side"); (case s3 => walk_at "side"))
  | ((with_reducible refine w_ixL (xs := ?xs) (v := ?v) ?s0 ?s1 ?_); (case s0 => walk_at "sq"); (case s1 => walk_at "at"))
  | ((with_reducible refine w_ixT (xs := ?xs) (v := ?v) ?s0 ?s1 ?_); (case s0 => walk_at "sq"); (case s1 => walk_at "at"))
  | ((with_reducible refine w_ixl (xs := ?xs) (v := ?v) ?s0 ?s1 ?_); (case s0 => walk_at "sq"); (case s1 => walk_at "at"))
  | ((with_reducible refine w_ixt (xs := ?xs) (v := ?v) ?s0 ?s1 ?_); (case s0 => walk_at "sq"); (case s1 => walk_at "at"))
  | ((with_reducible refine w_lenK (xs := ?xs) ?s0 ?_); (case s0 => walk_at "sq"))
  | ((with_reducible refine w_lenTK (xs := ?xs) ?s0 ?_); (case s0 => walk_at "sq"))
  | ((with_reducible refine w_listK (xs := ?xs) ?s0 ?_); (case s0 => walk_at "sq"))
  | ((with_reducible refine w_len (xs := ?xs) ?s0 ?_); (case s0 => walk_at "sq"))
  | ((with_reducible refine w_lenT (xs := ?xs) ?s0 ?_); (case s0 => walk_at "sq"))
  | ((with_reducible refine w_iLq (xs := ?xs) ?s0 ?_); (case s0 => walk_at "sq"))
  | ((with_reducible refine w_iTq (xs := ?xs) ?s0 ?_); (case s0 => walk_at "sq"))
  | ((with_reducible refine w_tyl (xs := ?xs) ?s0 ?_); (case s0 => walk_at "sq"))
  | ((with_reducible refine w_slL (xs := ?xs) ?s0 ?_); (case s0 => walk_at "sq"))
  | ((with_reducible refine w_gt (xs := ?xs) ?s0 ?s1 ?_); (case s0 => walk_at "sq"); (case s1 => rfl))
  | ((with_reducible refine w_setL (xs := ?xs) (j := ?j) ?s0 ?s1 ?_); (case s0 => walk_at "hp"); (case s1 => walk_at "ix"))
  | ((with_reducible refine w_app (xs := ?xs) ?s0 ?s1 ?_); (case s0 => walk_at "hp"); (case s1 => walk_at "szlt"))
  | ((with_reducible refine w_rev (xs := ?xs) ?s0 ?_); (case s0 => walk_at "hp"))
  | with_reducible refine w_isi kb_ii ?_
  | with_reducible refine w_isi kb_ib ?_
  | with_reducible refine w_isb kb_bb ?_
  | with_reducible refine w_isb kb_bi ?_
  | with_reducible refine w_isn kb_ni ?_
  | with_reducible refine w_isn kb_nb ?_
  | ((with_reducible refine w_isl (xs := ?xs) ?s0 kb_ll ?_); (case s0 => walk_at "hp"))
  | ((with_reducible refine w_isl (xs := ?xs) ?s0 kb_lt ?_); (case s0 => walk_at "hp"))
  | ((with_reducible refine w_ist (xs := ?xs) ?s0 kb_tt ?_); (case s0 => walk_at "hp"))
  | ((with_reducible refine w_ist (xs := ?xs) ?s0 kb_tl ?_); (case s0 => walk_at "hp"))
  | with_reducible refine w_len1 rfl ?_
  | with_reducible refine w_isN ?_
  | with_reducible refine w_2i ?_
  | with_reducible refine w_1i ?_
  | with_reducible refine w_augS ?_
  | ((with_reducible refine w_getL (xs := ?xs) (v := ?v) ?s0 ?s1 ?_); (case s0 => walk_at "sq"); (case s1 => assumption))
  | ((with_reducible refine w_wipe ?s0 ?_); (case s0 => rfl))
  | ((with_reducible refine w_inI (kvs := ?kvs) ?s0 ?_); (case s0 => walk_at "hp"))
  | ((with_reducible refine w_putI (kvs := ?kvs) ?s0 ?s1 ?_); (case s0 => walk_at "hp"); (case s1 => walk_at "szk"))
  | ((with_reducible refine w_ins (xs := ?xs) ?s0 ?s1 ?s2 ?s3 ?_); (case s0 => walk_at "hp"); (case s1 => walk_at "szlt"); (case s2 => walk_at "side"); (case s3 => walk_at "side"))
  | ((with_reducible refine w_pow ?s0 ?_); (case s0 => exact ⟨by decide, by decide, by decide⟩))
  | ((with_reducible refine ifd (fun h => ?c) (fun _ => ?_)); (case c => exfalso; omega))
  | ((with_reducible refine ifd (fun _ => ?_) (fun h => ?c)); (case c => exfalso; omega))
  | ((with_reducible refine ifnd (fun h => ?c) (fun _ => ?_)); (case c => exfalso; omega))
  | ((with_reducible refine ifnd (fun _ => ?_) (fun h => ?c)); (case c => exfalso; omega))
  | fail)
local macro_rules | `(tactic| walk_at "sts") => `(tactic| repeat (walk_at "st"))

def topS (i : Nat) : Stmt := PySem.Challenge.pw_spinfloor_k05_refusals_apart.main.body.getD i (.Pass ⟨0, 0, 0, 0⟩)
abbrev s_BadText___init__ : Stmt := inClass (topS 6) 0
theorem sc_BadText___init__ : FnScope ["self", "at"] ["self", "at"] (defScope s_BadText___init__) := ⟨rfl, rfl, rfl, by decide +kernel, rfl, by decide +kernel, by decide +kernel⟩
abbrev s_NoLaying___init__ : Stmt := inClass (topS 7) 0
theorem sc_NoLaying___init__ : FnScope ["self", "at"] ["self", "at"] (defScope s_NoLaying___init__) := ⟨rfl, rfl, rfl, by decide +kernel, rfl, by decide +kernel, by decide +kernel⟩
abbrev s_law_raise_bare : Stmt := topS 16
theorem sc_law_raise_bare : FnScope ["which"] ["which"] (defScope s_law_raise_bare) := ⟨rfl, rfl, rfl, by decide +kernel, rfl, by decide +kernel, by decide +kernel⟩
abbrev s_law_raise_words : Stmt := topS 17
theorem sc_law_raise_words : FnScope ["which", "words"] ["which", "words"] (defScope s_law_raise_words) := ⟨rfl, rfl, rfl, by decide +kernel, rfl, by decide +kernel, by decide +kernel⟩
abbrev s_law_raise : Stmt := topS 18
theorem sc_law_raise : FnScope ["which", "number"] ["which", "number"] (defScope s_law_raise) := ⟨rfl, rfl, rfl, by decide +kernel, rfl, by decide +kernel, by decide +kernel⟩
abbrev s_law_kinds : Stmt := topS 19
theorem sc_law_kinds : FnScope ["error", "first"] ["error"] (defScope s_law_kinds) := ⟨rfl, rfl, rfl, by decide +kernel, rfl, by decide +kernel, by decide +kernel⟩
abbrev s_law_number_kept : Stmt := topS 20
theorem sc_law_number_kept : FnScope ["error", "number", "told"] ["error", "number"] (defScope s_law_number_kept) := ⟨rfl, rfl, rfl, by decide +kernel, rfl, by decide +kernel, by decide +kernel⟩
abbrev s_law : Stmt := topS 21
theorem sc_law : FnScope ["script", "cell", "which", "number", "found", "e", "k"] ["script"] (defScope s_law) := ⟨rfl, rfl, rfl, by decide +kernel, rfl, by decide +kernel, by decide +kernel⟩
structure Bl (mg : Str → Option Value) : Prop where
  isinstance : mg "isinstance" = none
  int : mg "int" = none
  bool : mg "bool" = none
  ValueError : mg "ValueError" = none
  range : mg "range" = none
structure Txt (K : PySem.W.Frag) (mg : Str → Option Value) (C_BadDeed C_FloorError C_BadTie C_BadTurns C_Parted C_NotFlat C_OddMarks C_TooRough C_TooMany C_TooWide C_BadOrder C_BadStrip C_BadText C_NoLaying : Addr) : Prop where
  g_BadDeed : mg "BadDeed" = some (.ref C_BadDeed)
  g_FloorError : mg "FloorError" = some (.ref C_FloorError)
  g_BadTie : mg "BadTie" = some (.ref C_BadTie)
  g_BadTurns : mg "BadTurns" = some (.ref C_BadTurns)
  g_Parted : mg "Parted" = some (.ref C_Parted)
  g_NotFlat : mg "NotFlat" = some (.ref C_NotFlat)
  g_OddMarks : mg "OddMarks" = some (.ref C_OddMarks)
  g_TooRough : mg "TooRough" = some (.ref C_TooRough)
  g_TooMany : mg "TooMany" = some (.ref C_TooMany)
  g_TooWide : mg "TooWide" = some (.ref C_TooWide)
  g_BadOrder : mg "BadOrder" = some (.ref C_BadOrder)
  g_BadStrip : mg "BadStrip" = some (.ref C_BadStrip)
  g_BadText : mg "BadText" = some (.ref C_BadText)
  g_NoLaying : mg "NoLaying" = some (.ref C_NoLaying)
  og : PySem.W.specialIn K (.builtin "object.__class__") "__get__" = some (some (.builtin "getset_descriptor.__get__"))
  ot : PySem.W.takesIn K (.builtin "object.__class__") = some true
  kp_BadDeed : PySem.W.keepIn K (.ref C_BadDeed) = true
  be_BadDeed : PySem.W.subIn K (.ref C_BadDeed) (.type "BaseException") = some true
  ty_BadDeed : PySem.W.typeIn K (.ref C_BadDeed) = some (.type "type")
  cl_BadDeed : PySem.W.isClsIn K C_BadDeed = true
  hd_BadDeed : PySem.W.hasDictIn K C_BadDeed = true
  ga_BadDeed : PySem.W.findIn K (.ref C_BadDeed) "__getattribute__" = some (some (.builtin "BaseException.__getattribute__"))
  gg_BadDeed : PySem.W.findIn K (.ref C_BadDeed) "__getattr__" = some none
  oc_BadDeed : PySem.W.findIn K (.ref C_BadDeed) "__class__" = some (some (.builtin "object.__class__"))
  om_BadDeed : PySem.W.mroIn K C_BadDeed (.type "object") = some true
  sv_BadDeed : PySem.W.subIn K (.ref C_BadDeed) (.type "ValueError") = some true
  sb_BadDeed_BadDeed : PySem.W.subIn K (.ref C_BadDeed) (.ref C_BadDeed) = some true
  kp_FloorError : PySem.W.keepIn K (.ref C_FloorError) = true
  be_FloorError : PySem.W.subIn K (.ref C_FloorError) (.type "BaseException") = some true
  ty_FloorError : PySem.W.typeIn K (.ref C_FloorError) = some (.type "type")
  cl_FloorError : PySem.W.isClsIn K C_FloorError = true
  hd_FloorError : PySem.W.hasDictIn K C_FloorError = true
  ga_FloorError : PySem.W.findIn K (.ref C_FloorError) "__getattribute__" = some (some (.builtin "BaseException.__getattribute__"))
  gg_FloorError : PySem.W.findIn K (.ref C_FloorError) "__getattr__" = some none
  oc_FloorError : PySem.W.findIn K (.ref C_FloorError) "__class__" = some (some (.builtin "object.__class__"))
  om_FloorError : PySem.W.mroIn K C_FloorError (.type "object") = some true
  sv_FloorError : PySem.W.subIn K (.ref C_FloorError) (.type "ValueError") = some true
  sb_FloorError_FloorError : PySem.W.subIn K (.ref C_FloorError) (.ref C_FloorError) = some true
  kp_BadTie : PySem.W.keepIn K (.ref C_BadTie) = true
  be_BadTie : PySem.W.subIn K (.ref C_BadTie) (.type "BaseException") = some true
  ty_BadTie : PySem.W.typeIn K (.ref C_BadTie) = some (.type "type")
  cl_BadTie : PySem.W.isClsIn K C_BadTie = true
  hd_BadTie : PySem.W.hasDictIn K C_BadTie = true
  ga_BadTie : PySem.W.findIn K (.ref C_BadTie) "__getattribute__" = some (some (.builtin "BaseException.__getattribute__"))
  gg_BadTie : PySem.W.findIn K (.ref C_BadTie) "__getattr__" = some none
  oc_BadTie : PySem.W.findIn K (.ref C_BadTie) "__class__" = some (some (.builtin "object.__class__"))
  om_BadTie : PySem.W.mroIn K C_BadTie (.type "object") = some true
  sv_BadTie : PySem.W.subIn K (.ref C_BadTie) (.type "ValueError") = some true
  sb_BadTie_BadTie : PySem.W.subIn K (.ref C_BadTie) (.ref C_BadTie) = some true
  kp_BadTurns : PySem.W.keepIn K (.ref C_BadTurns) = true
  be_BadTurns : PySem.W.subIn K (.ref C_BadTurns) (.type "BaseException") = some true
  ty_BadTurns : PySem.W.typeIn K (.ref C_BadTurns) = some (.type "type")
  cl_BadTurns : PySem.W.isClsIn K C_BadTurns = true
  hd_BadTurns : PySem.W.hasDictIn K C_BadTurns = true
  ga_BadTurns : PySem.W.findIn K (.ref C_BadTurns) "__getattribute__" = some (some (.builtin "BaseException.__getattribute__"))
  gg_BadTurns : PySem.W.findIn K (.ref C_BadTurns) "__getattr__" = some none
  oc_BadTurns : PySem.W.findIn K (.ref C_BadTurns) "__class__" = some (some (.builtin "object.__class__"))
  om_BadTurns : PySem.W.mroIn K C_BadTurns (.type "object") = some true
  sv_BadTurns : PySem.W.subIn K (.ref C_BadTurns) (.type "ValueError") = some true
  sb_BadTurns_BadTurns : PySem.W.subIn K (.ref C_BadTurns) (.ref C_BadTurns) = some true
  kp_Parted : PySem.W.keepIn K (.ref C_Parted) = true
  be_Parted : PySem.W.subIn K (.ref C_Parted) (.type "BaseException") = some true
  ty_Parted : PySem.W.typeIn K (.ref C_Parted) = some (.type "type")
  cl_Parted : PySem.W.isClsIn K C_Parted = true
  hd_Parted : PySem.W.hasDictIn K C_Parted = true
  ga_Parted : PySem.W.findIn K (.ref C_Parted) "__getattribute__" = some (some (.builtin "BaseException.__getattribute__"))
  gg_Parted : PySem.W.findIn K (.ref C_Parted) "__getattr__" = some none
  oc_Parted : PySem.W.findIn K (.ref C_Parted) "__class__" = some (some (.builtin "object.__class__"))
  om_Parted : PySem.W.mroIn K C_Parted (.type "object") = some true
  sv_Parted : PySem.W.subIn K (.ref C_Parted) (.type "ValueError") = some true
  sb_Parted_Parted : PySem.W.subIn K (.ref C_Parted) (.ref C_Parted) = some true
  kp_NotFlat : PySem.W.keepIn K (.ref C_NotFlat) = true
  be_NotFlat : PySem.W.subIn K (.ref C_NotFlat) (.type "BaseException") = some true
  ty_NotFlat : PySem.W.typeIn K (.ref C_NotFlat) = some (.type "type")
  cl_NotFlat : PySem.W.isClsIn K C_NotFlat = true
  hd_NotFlat : PySem.W.hasDictIn K C_NotFlat = true
  ga_NotFlat : PySem.W.findIn K (.ref C_NotFlat) "__getattribute__" = some (some (.builtin "BaseException.__getattribute__"))
  gg_NotFlat : PySem.W.findIn K (.ref C_NotFlat) "__getattr__" = some none
  oc_NotFlat : PySem.W.findIn K (.ref C_NotFlat) "__class__" = some (some (.builtin "object.__class__"))
  om_NotFlat : PySem.W.mroIn K C_NotFlat (.type "object") = some true
  sv_NotFlat : PySem.W.subIn K (.ref C_NotFlat) (.type "ValueError") = some true
  sb_NotFlat_NotFlat : PySem.W.subIn K (.ref C_NotFlat) (.ref C_NotFlat) = some true
  kp_OddMarks : PySem.W.keepIn K (.ref C_OddMarks) = true
  be_OddMarks : PySem.W.subIn K (.ref C_OddMarks) (.type "BaseException") = some true
  ty_OddMarks : PySem.W.typeIn K (.ref C_OddMarks) = some (.type "type")
  cl_OddMarks : PySem.W.isClsIn K C_OddMarks = true
  hd_OddMarks : PySem.W.hasDictIn K C_OddMarks = true
  ga_OddMarks : PySem.W.findIn K (.ref C_OddMarks) "__getattribute__" = some (some (.builtin "BaseException.__getattribute__"))
  gg_OddMarks : PySem.W.findIn K (.ref C_OddMarks) "__getattr__" = some none
  oc_OddMarks : PySem.W.findIn K (.ref C_OddMarks) "__class__" = some (some (.builtin "object.__class__"))
  om_OddMarks : PySem.W.mroIn K C_OddMarks (.type "object") = some true
  sv_OddMarks : PySem.W.subIn K (.ref C_OddMarks) (.type "ValueError") = some true
  sb_OddMarks_OddMarks : PySem.W.subIn K (.ref C_OddMarks) (.ref C_OddMarks) = some true
  kp_TooRough : PySem.W.keepIn K (.ref C_TooRough) = true
  be_TooRough : PySem.W.subIn K (.ref C_TooRough) (.type "BaseException") = some true
  ty_TooRough : PySem.W.typeIn K (.ref C_TooRough) = some (.type "type")
  cl_TooRough : PySem.W.isClsIn K C_TooRough = true
  hd_TooRough : PySem.W.hasDictIn K C_TooRough = true
  ga_TooRough : PySem.W.findIn K (.ref C_TooRough) "__getattribute__" = some (some (.builtin "BaseException.__getattribute__"))
  gg_TooRough : PySem.W.findIn K (.ref C_TooRough) "__getattr__" = some none
  oc_TooRough : PySem.W.findIn K (.ref C_TooRough) "__class__" = some (some (.builtin "object.__class__"))
  om_TooRough : PySem.W.mroIn K C_TooRough (.type "object") = some true
  sv_TooRough : PySem.W.subIn K (.ref C_TooRough) (.type "ValueError") = some true
  sb_TooRough_TooRough : PySem.W.subIn K (.ref C_TooRough) (.ref C_TooRough) = some true
  kp_TooMany : PySem.W.keepIn K (.ref C_TooMany) = true
  be_TooMany : PySem.W.subIn K (.ref C_TooMany) (.type "BaseException") = some true
  ty_TooMany : PySem.W.typeIn K (.ref C_TooMany) = some (.type "type")
  cl_TooMany : PySem.W.isClsIn K C_TooMany = true
  hd_TooMany : PySem.W.hasDictIn K C_TooMany = true
  ga_TooMany : PySem.W.findIn K (.ref C_TooMany) "__getattribute__" = some (some (.builtin "BaseException.__getattribute__"))
  gg_TooMany : PySem.W.findIn K (.ref C_TooMany) "__getattr__" = some none
  oc_TooMany : PySem.W.findIn K (.ref C_TooMany) "__class__" = some (some (.builtin "object.__class__"))
  om_TooMany : PySem.W.mroIn K C_TooMany (.type "object") = some true
  sv_TooMany : PySem.W.subIn K (.ref C_TooMany) (.type "ValueError") = some true
  sb_TooMany_TooMany : PySem.W.subIn K (.ref C_TooMany) (.ref C_TooMany) = some true
  kp_TooWide : PySem.W.keepIn K (.ref C_TooWide) = true
  be_TooWide : PySem.W.subIn K (.ref C_TooWide) (.type "BaseException") = some true
  ty_TooWide : PySem.W.typeIn K (.ref C_TooWide) = some (.type "type")
  cl_TooWide : PySem.W.isClsIn K C_TooWide = true
  hd_TooWide : PySem.W.hasDictIn K C_TooWide = true
  ga_TooWide : PySem.W.findIn K (.ref C_TooWide) "__getattribute__" = some (some (.builtin "BaseException.__getattribute__"))
  gg_TooWide : PySem.W.findIn K (.ref C_TooWide) "__getattr__" = some none
  oc_TooWide : PySem.W.findIn K (.ref C_TooWide) "__class__" = some (some (.builtin "object.__class__"))
  om_TooWide : PySem.W.mroIn K C_TooWide (.type "object") = some true
  sv_TooWide : PySem.W.subIn K (.ref C_TooWide) (.type "ValueError") = some true
  sb_TooWide_TooWide : PySem.W.subIn K (.ref C_TooWide) (.ref C_TooWide) = some true
  kp_BadOrder : PySem.W.keepIn K (.ref C_BadOrder) = true
  be_BadOrder : PySem.W.subIn K (.ref C_BadOrder) (.type "BaseException") = some true
  ty_BadOrder : PySem.W.typeIn K (.ref C_BadOrder) = some (.type "type")
  cl_BadOrder : PySem.W.isClsIn K C_BadOrder = true
  hd_BadOrder : PySem.W.hasDictIn K C_BadOrder = true
  ga_BadOrder : PySem.W.findIn K (.ref C_BadOrder) "__getattribute__" = some (some (.builtin "BaseException.__getattribute__"))
  gg_BadOrder : PySem.W.findIn K (.ref C_BadOrder) "__getattr__" = some none
  oc_BadOrder : PySem.W.findIn K (.ref C_BadOrder) "__class__" = some (some (.builtin "object.__class__"))
  om_BadOrder : PySem.W.mroIn K C_BadOrder (.type "object") = some true
  sv_BadOrder : PySem.W.subIn K (.ref C_BadOrder) (.type "ValueError") = some true
  sb_BadOrder_BadOrder : PySem.W.subIn K (.ref C_BadOrder) (.ref C_BadOrder) = some true
  kp_BadStrip : PySem.W.keepIn K (.ref C_BadStrip) = true
  be_BadStrip : PySem.W.subIn K (.ref C_BadStrip) (.type "BaseException") = some true
  ty_BadStrip : PySem.W.typeIn K (.ref C_BadStrip) = some (.type "type")
  cl_BadStrip : PySem.W.isClsIn K C_BadStrip = true
  hd_BadStrip : PySem.W.hasDictIn K C_BadStrip = true
  ga_BadStrip : PySem.W.findIn K (.ref C_BadStrip) "__getattribute__" = some (some (.builtin "BaseException.__getattribute__"))
  gg_BadStrip : PySem.W.findIn K (.ref C_BadStrip) "__getattr__" = some none
  oc_BadStrip : PySem.W.findIn K (.ref C_BadStrip) "__class__" = some (some (.builtin "object.__class__"))
  om_BadStrip : PySem.W.mroIn K C_BadStrip (.type "object") = some true
  sv_BadStrip : PySem.W.subIn K (.ref C_BadStrip) (.type "ValueError") = some true
  sb_BadStrip_BadStrip : PySem.W.subIn K (.ref C_BadStrip) (.ref C_BadStrip) = some true
  kp_BadText : PySem.W.keepIn K (.ref C_BadText) = true
  be_BadText : PySem.W.subIn K (.ref C_BadText) (.type "BaseException") = some true
  ty_BadText : PySem.W.typeIn K (.ref C_BadText) = some (.type "type")
  cl_BadText : PySem.W.isClsIn K C_BadText = true
  hd_BadText : PySem.W.hasDictIn K C_BadText = true
  ga_BadText : PySem.W.findIn K (.ref C_BadText) "__getattribute__" = some (some (.builtin "BaseException.__getattribute__"))
  gg_BadText : PySem.W.findIn K (.ref C_BadText) "__getattr__" = some none
  oc_BadText : PySem.W.findIn K (.ref C_BadText) "__class__" = some (some (.builtin "object.__class__"))
  om_BadText : PySem.W.mroIn K C_BadText (.type "object") = some true
  sv_BadText : PySem.W.subIn K (.ref C_BadText) (.type "ValueError") = some true
  sb_BadText_BadText : PySem.W.subIn K (.ref C_BadText) (.ref C_BadText) = some true
  kp_NoLaying : PySem.W.keepIn K (.ref C_NoLaying) = true
  be_NoLaying : PySem.W.subIn K (.ref C_NoLaying) (.type "BaseException") = some true
  ty_NoLaying : PySem.W.typeIn K (.ref C_NoLaying) = some (.type "type")
  cl_NoLaying : PySem.W.isClsIn K C_NoLaying = true
  hd_NoLaying : PySem.W.hasDictIn K C_NoLaying = true
  ga_NoLaying : PySem.W.findIn K (.ref C_NoLaying) "__getattribute__" = some (some (.builtin "BaseException.__getattribute__"))
  gg_NoLaying : PySem.W.findIn K (.ref C_NoLaying) "__getattr__" = some none
  oc_NoLaying : PySem.W.findIn K (.ref C_NoLaying) "__class__" = some (some (.builtin "object.__class__"))
  om_NoLaying : PySem.W.mroIn K C_NoLaying (.type "object") = some true
  sv_NoLaying : PySem.W.subIn K (.ref C_NoLaying) (.type "ValueError") = some true
  sb_NoLaying_NoLaying : PySem.W.subIn K (.ref C_NoLaying) (.ref C_NoLaying) = some true
  xn_BadDeed : PySem.W.excIn K C_BadDeed [.type "ValueError", .type "Exception", .type "BaseException", .type "object"] "ValueError.__new__" = true
  sb_BadDeed_BadTie : PySem.W.subIn K (.ref C_BadDeed) (.ref C_BadTie) = some false
  sb_BadDeed_BadTurns : PySem.W.subIn K (.ref C_BadDeed) (.ref C_BadTurns) = some false
  sb_BadDeed_Parted : PySem.W.subIn K (.ref C_BadDeed) (.ref C_Parted) = some false
  sb_BadDeed_NotFlat : PySem.W.subIn K (.ref C_BadDeed) (.ref C_NotFlat) = some false
  sb_BadDeed_OddMarks : PySem.W.subIn K (.ref C_BadDeed) (.ref C_OddMarks) = some false
  sb_BadDeed_TooRough : PySem.W.subIn K (.ref C_BadDeed) (.ref C_TooRough) = some false
  sb_BadDeed_TooMany : PySem.W.subIn K (.ref C_BadDeed) (.ref C_TooMany) = some false
  sb_BadDeed_TooWide : PySem.W.subIn K (.ref C_BadDeed) (.ref C_TooWide) = some false
  sb_BadDeed_BadOrder : PySem.W.subIn K (.ref C_BadDeed) (.ref C_BadOrder) = some false
  sb_BadDeed_BadStrip : PySem.W.subIn K (.ref C_BadDeed) (.ref C_BadStrip) = some false
  sb_BadDeed_BadText : PySem.W.subIn K (.ref C_BadDeed) (.ref C_BadText) = some false
  sb_BadDeed_NoLaying : PySem.W.subIn K (.ref C_BadDeed) (.ref C_NoLaying) = some false
  sb_BadDeed_FloorError : PySem.W.subIn K (.ref C_BadDeed) (.ref C_FloorError) = some true
  xn_FloorError : PySem.W.excIn K C_FloorError [.type "ValueError", .type "Exception", .type "BaseException", .type "object"] "ValueError.__new__" = true
  sb_FloorError_BadTie : PySem.W.subIn K (.ref C_FloorError) (.ref C_BadTie) = some false
  sb_FloorError_BadTurns : PySem.W.subIn K (.ref C_FloorError) (.ref C_BadTurns) = some false
  sb_FloorError_Parted : PySem.W.subIn K (.ref C_FloorError) (.ref C_Parted) = some false
  sb_FloorError_NotFlat : PySem.W.subIn K (.ref C_FloorError) (.ref C_NotFlat) = some false
  sb_FloorError_OddMarks : PySem.W.subIn K (.ref C_FloorError) (.ref C_OddMarks) = some false
  sb_FloorError_TooRough : PySem.W.subIn K (.ref C_FloorError) (.ref C_TooRough) = some false
  sb_FloorError_TooMany : PySem.W.subIn K (.ref C_FloorError) (.ref C_TooMany) = some false
  sb_FloorError_TooWide : PySem.W.subIn K (.ref C_FloorError) (.ref C_TooWide) = some false
  sb_FloorError_BadOrder : PySem.W.subIn K (.ref C_FloorError) (.ref C_BadOrder) = some false
  sb_FloorError_BadStrip : PySem.W.subIn K (.ref C_FloorError) (.ref C_BadStrip) = some false
  sb_FloorError_BadDeed : PySem.W.subIn K (.ref C_FloorError) (.ref C_BadDeed) = some false
  sb_FloorError_BadText : PySem.W.subIn K (.ref C_FloorError) (.ref C_BadText) = some false
  sb_FloorError_NoLaying : PySem.W.subIn K (.ref C_FloorError) (.ref C_NoLaying) = some false
  xn_BadTie : PySem.W.excIn K C_BadTie [.type "ValueError", .type "Exception", .type "BaseException", .type "object"] "ValueError.__new__" = true
  sb_BadTie_BadTurns : PySem.W.subIn K (.ref C_BadTie) (.ref C_BadTurns) = some false
  sb_BadTie_Parted : PySem.W.subIn K (.ref C_BadTie) (.ref C_Parted) = some false
  sb_BadTie_NotFlat : PySem.W.subIn K (.ref C_BadTie) (.ref C_NotFlat) = some false
  sb_BadTie_OddMarks : PySem.W.subIn K (.ref C_BadTie) (.ref C_OddMarks) = some false
  sb_BadTie_TooRough : PySem.W.subIn K (.ref C_BadTie) (.ref C_TooRough) = some false
  sb_BadTie_TooMany : PySem.W.subIn K (.ref C_BadTie) (.ref C_TooMany) = some false
  sb_BadTie_TooWide : PySem.W.subIn K (.ref C_BadTie) (.ref C_TooWide) = some false
  sb_BadTie_BadOrder : PySem.W.subIn K (.ref C_BadTie) (.ref C_BadOrder) = some false
  sb_BadTie_BadStrip : PySem.W.subIn K (.ref C_BadTie) (.ref C_BadStrip) = some false
  sb_BadTie_BadDeed : PySem.W.subIn K (.ref C_BadTie) (.ref C_BadDeed) = some false
  sb_BadTie_BadText : PySem.W.subIn K (.ref C_BadTie) (.ref C_BadText) = some false
  sb_BadTie_NoLaying : PySem.W.subIn K (.ref C_BadTie) (.ref C_NoLaying) = some false
  sb_BadTie_FloorError : PySem.W.subIn K (.ref C_BadTie) (.ref C_FloorError) = some true
  xn_BadTurns : PySem.W.excIn K C_BadTurns [.type "ValueError", .type "Exception", .type "BaseException", .type "object"] "ValueError.__new__" = true
  sb_BadTurns_BadTie : PySem.W.subIn K (.ref C_BadTurns) (.ref C_BadTie) = some false
  sb_BadTurns_Parted : PySem.W.subIn K (.ref C_BadTurns) (.ref C_Parted) = some false
  sb_BadTurns_NotFlat : PySem.W.subIn K (.ref C_BadTurns) (.ref C_NotFlat) = some false
  sb_BadTurns_OddMarks : PySem.W.subIn K (.ref C_BadTurns) (.ref C_OddMarks) = some false
  sb_BadTurns_TooRough : PySem.W.subIn K (.ref C_BadTurns) (.ref C_TooRough) = some false
  sb_BadTurns_TooMany : PySem.W.subIn K (.ref C_BadTurns) (.ref C_TooMany) = some false
  sb_BadTurns_TooWide : PySem.W.subIn K (.ref C_BadTurns) (.ref C_TooWide) = some false
  sb_BadTurns_BadOrder : PySem.W.subIn K (.ref C_BadTurns) (.ref C_BadOrder) = some false
  sb_BadTurns_BadStrip : PySem.W.subIn K (.ref C_BadTurns) (.ref C_BadStrip) = some false
  sb_BadTurns_BadDeed : PySem.W.subIn K (.ref C_BadTurns) (.ref C_BadDeed) = some false
  sb_BadTurns_BadText : PySem.W.subIn K (.ref C_BadTurns) (.ref C_BadText) = some false
  sb_BadTurns_NoLaying : PySem.W.subIn K (.ref C_BadTurns) (.ref C_NoLaying) = some false
  sb_BadTurns_FloorError : PySem.W.subIn K (.ref C_BadTurns) (.ref C_FloorError) = some true
  xn_Parted : PySem.W.excIn K C_Parted [.type "ValueError", .type "Exception", .type "BaseException", .type "object"] "ValueError.__new__" = true
  sb_Parted_BadTie : PySem.W.subIn K (.ref C_Parted) (.ref C_BadTie) = some false
  sb_Parted_BadTurns : PySem.W.subIn K (.ref C_Parted) (.ref C_BadTurns) = some false
  sb_Parted_NotFlat : PySem.W.subIn K (.ref C_Parted) (.ref C_NotFlat) = some false
  sb_Parted_OddMarks : PySem.W.subIn K (.ref C_Parted) (.ref C_OddMarks) = some false
  sb_Parted_TooRough : PySem.W.subIn K (.ref C_Parted) (.ref C_TooRough) = some false
  sb_Parted_TooMany : PySem.W.subIn K (.ref C_Parted) (.ref C_TooMany) = some false
  sb_Parted_TooWide : PySem.W.subIn K (.ref C_Parted) (.ref C_TooWide) = some false
  sb_Parted_BadOrder : PySem.W.subIn K (.ref C_Parted) (.ref C_BadOrder) = some false
  sb_Parted_BadStrip : PySem.W.subIn K (.ref C_Parted) (.ref C_BadStrip) = some false
  sb_Parted_BadDeed : PySem.W.subIn K (.ref C_Parted) (.ref C_BadDeed) = some false
  sb_Parted_BadText : PySem.W.subIn K (.ref C_Parted) (.ref C_BadText) = some false
  sb_Parted_NoLaying : PySem.W.subIn K (.ref C_Parted) (.ref C_NoLaying) = some false
  sb_Parted_FloorError : PySem.W.subIn K (.ref C_Parted) (.ref C_FloorError) = some true
  xn_NotFlat : PySem.W.excIn K C_NotFlat [.type "ValueError", .type "Exception", .type "BaseException", .type "object"] "ValueError.__new__" = true
  sb_NotFlat_BadTie : PySem.W.subIn K (.ref C_NotFlat) (.ref C_BadTie) = some false
  sb_NotFlat_BadTurns : PySem.W.subIn K (.ref C_NotFlat) (.ref C_BadTurns) = some false
  sb_NotFlat_Parted : PySem.W.subIn K (.ref C_NotFlat) (.ref C_Parted) = some false
  sb_NotFlat_OddMarks : PySem.W.subIn K (.ref C_NotFlat) (.ref C_OddMarks) = some false
  sb_NotFlat_TooRough : PySem.W.subIn K (.ref C_NotFlat) (.ref C_TooRough) = some false
  sb_NotFlat_TooMany : PySem.W.subIn K (.ref C_NotFlat) (.ref C_TooMany) = some false
  sb_NotFlat_TooWide : PySem.W.subIn K (.ref C_NotFlat) (.ref C_TooWide) = some false
  sb_NotFlat_BadOrder : PySem.W.subIn K (.ref C_NotFlat) (.ref C_BadOrder) = some false
  sb_NotFlat_BadStrip : PySem.W.subIn K (.ref C_NotFlat) (.ref C_BadStrip) = some false
  sb_NotFlat_BadDeed : PySem.W.subIn K (.ref C_NotFlat) (.ref C_BadDeed) = some false
  sb_NotFlat_BadText : PySem.W.subIn K (.ref C_NotFlat) (.ref C_BadText) = some false
  sb_NotFlat_NoLaying : PySem.W.subIn K (.ref C_NotFlat) (.ref C_NoLaying) = some false
  sb_NotFlat_FloorError : PySem.W.subIn K (.ref C_NotFlat) (.ref C_FloorError) = some true
  xn_OddMarks : PySem.W.excIn K C_OddMarks [.type "ValueError", .type "Exception", .type "BaseException", .type "object"] "ValueError.__new__" = true
  sb_OddMarks_BadTie : PySem.W.subIn K (.ref C_OddMarks) (.ref C_BadTie) = some false
  sb_OddMarks_BadTurns : PySem.W.subIn K (.ref C_OddMarks) (.ref C_BadTurns) = some false
  sb_OddMarks_Parted : PySem.W.subIn K (.ref C_OddMarks) (.ref C_Parted) = some false
  sb_OddMarks_NotFlat : PySem.W.subIn K (.ref C_OddMarks) (.ref C_NotFlat) = some false
  sb_OddMarks_TooRough : PySem.W.subIn K (.ref C_OddMarks) (.ref C_TooRough) = some false
  sb_OddMarks_TooMany : PySem.W.subIn K (.ref C_OddMarks) (.ref C_TooMany) = some false
  sb_OddMarks_TooWide : PySem.W.subIn K (.ref C_OddMarks) (.ref C_TooWide) = some false
  sb_OddMarks_BadOrder : PySem.W.subIn K (.ref C_OddMarks) (.ref C_BadOrder) = some false
  sb_OddMarks_BadStrip : PySem.W.subIn K (.ref C_OddMarks) (.ref C_BadStrip) = some false
  sb_OddMarks_BadDeed : PySem.W.subIn K (.ref C_OddMarks) (.ref C_BadDeed) = some false
  sb_OddMarks_BadText : PySem.W.subIn K (.ref C_OddMarks) (.ref C_BadText) = some false
  sb_OddMarks_NoLaying : PySem.W.subIn K (.ref C_OddMarks) (.ref C_NoLaying) = some false
  sb_OddMarks_FloorError : PySem.W.subIn K (.ref C_OddMarks) (.ref C_FloorError) = some true
  xn_TooRough : PySem.W.excIn K C_TooRough [.type "ValueError", .type "Exception", .type "BaseException", .type "object"] "ValueError.__new__" = true
  sb_TooRough_BadTie : PySem.W.subIn K (.ref C_TooRough) (.ref C_BadTie) = some false
  sb_TooRough_BadTurns : PySem.W.subIn K (.ref C_TooRough) (.ref C_BadTurns) = some false
  sb_TooRough_Parted : PySem.W.subIn K (.ref C_TooRough) (.ref C_Parted) = some false
  sb_TooRough_NotFlat : PySem.W.subIn K (.ref C_TooRough) (.ref C_NotFlat) = some false
  sb_TooRough_OddMarks : PySem.W.subIn K (.ref C_TooRough) (.ref C_OddMarks) = some false
  sb_TooRough_TooMany : PySem.W.subIn K (.ref C_TooRough) (.ref C_TooMany) = some false
  sb_TooRough_TooWide : PySem.W.subIn K (.ref C_TooRough) (.ref C_TooWide) = some false
  sb_TooRough_BadOrder : PySem.W.subIn K (.ref C_TooRough) (.ref C_BadOrder) = some false
  sb_TooRough_BadStrip : PySem.W.subIn K (.ref C_TooRough) (.ref C_BadStrip) = some false
  sb_TooRough_BadDeed : PySem.W.subIn K (.ref C_TooRough) (.ref C_BadDeed) = some false
  sb_TooRough_BadText : PySem.W.subIn K (.ref C_TooRough) (.ref C_BadText) = some false
  sb_TooRough_NoLaying : PySem.W.subIn K (.ref C_TooRough) (.ref C_NoLaying) = some false
  sb_TooRough_FloorError : PySem.W.subIn K (.ref C_TooRough) (.ref C_FloorError) = some true
  xn_TooMany : PySem.W.excIn K C_TooMany [.type "ValueError", .type "Exception", .type "BaseException", .type "object"] "ValueError.__new__" = true
  sb_TooMany_BadTie : PySem.W.subIn K (.ref C_TooMany) (.ref C_BadTie) = some false
  sb_TooMany_BadTurns : PySem.W.subIn K (.ref C_TooMany) (.ref C_BadTurns) = some false
  sb_TooMany_Parted : PySem.W.subIn K (.ref C_TooMany) (.ref C_Parted) = some false
  sb_TooMany_NotFlat : PySem.W.subIn K (.ref C_TooMany) (.ref C_NotFlat) = some false
  sb_TooMany_OddMarks : PySem.W.subIn K (.ref C_TooMany) (.ref C_OddMarks) = some false
  sb_TooMany_TooRough : PySem.W.subIn K (.ref C_TooMany) (.ref C_TooRough) = some false
  sb_TooMany_TooWide : PySem.W.subIn K (.ref C_TooMany) (.ref C_TooWide) = some false
  sb_TooMany_BadOrder : PySem.W.subIn K (.ref C_TooMany) (.ref C_BadOrder) = some false
  sb_TooMany_BadStrip : PySem.W.subIn K (.ref C_TooMany) (.ref C_BadStrip) = some false
  sb_TooMany_BadDeed : PySem.W.subIn K (.ref C_TooMany) (.ref C_BadDeed) = some false
  sb_TooMany_BadText : PySem.W.subIn K (.ref C_TooMany) (.ref C_BadText) = some false
  sb_TooMany_NoLaying : PySem.W.subIn K (.ref C_TooMany) (.ref C_NoLaying) = some false
  sb_TooMany_FloorError : PySem.W.subIn K (.ref C_TooMany) (.ref C_FloorError) = some true
  xn_TooWide : PySem.W.excIn K C_TooWide [.type "ValueError", .type "Exception", .type "BaseException", .type "object"] "ValueError.__new__" = true
  sb_TooWide_BadTie : PySem.W.subIn K (.ref C_TooWide) (.ref C_BadTie) = some false
  sb_TooWide_BadTurns : PySem.W.subIn K (.ref C_TooWide) (.ref C_BadTurns) = some false
  sb_TooWide_Parted : PySem.W.subIn K (.ref C_TooWide) (.ref C_Parted) = some false
  sb_TooWide_NotFlat : PySem.W.subIn K (.ref C_TooWide) (.ref C_NotFlat) = some false
  sb_TooWide_OddMarks : PySem.W.subIn K (.ref C_TooWide) (.ref C_OddMarks) = some false
  sb_TooWide_TooRough : PySem.W.subIn K (.ref C_TooWide) (.ref C_TooRough) = some false
  sb_TooWide_TooMany : PySem.W.subIn K (.ref C_TooWide) (.ref C_TooMany) = some false
  sb_TooWide_BadOrder : PySem.W.subIn K (.ref C_TooWide) (.ref C_BadOrder) = some false
  sb_TooWide_BadStrip : PySem.W.subIn K (.ref C_TooWide) (.ref C_BadStrip) = some false
  sb_TooWide_BadDeed : PySem.W.subIn K (.ref C_TooWide) (.ref C_BadDeed) = some false
  sb_TooWide_BadText : PySem.W.subIn K (.ref C_TooWide) (.ref C_BadText) = some false
  sb_TooWide_NoLaying : PySem.W.subIn K (.ref C_TooWide) (.ref C_NoLaying) = some false
  sb_TooWide_FloorError : PySem.W.subIn K (.ref C_TooWide) (.ref C_FloorError) = some true
  xn_BadOrder : PySem.W.excIn K C_BadOrder [.type "ValueError", .type "Exception", .type "BaseException", .type "object"] "ValueError.__new__" = true
  sb_BadOrder_BadTie : PySem.W.subIn K (.ref C_BadOrder) (.ref C_BadTie) = some false
  sb_BadOrder_BadTurns : PySem.W.subIn K (.ref C_BadOrder) (.ref C_BadTurns) = some false
  sb_BadOrder_Parted : PySem.W.subIn K (.ref C_BadOrder) (.ref C_Parted) = some false
  sb_BadOrder_NotFlat : PySem.W.subIn K (.ref C_BadOrder) (.ref C_NotFlat) = some false
  sb_BadOrder_OddMarks : PySem.W.subIn K (.ref C_BadOrder) (.ref C_OddMarks) = some false
  sb_BadOrder_TooRough : PySem.W.subIn K (.ref C_BadOrder) (.ref C_TooRough) = some false
  sb_BadOrder_TooMany : PySem.W.subIn K (.ref C_BadOrder) (.ref C_TooMany) = some false
  sb_BadOrder_TooWide : PySem.W.subIn K (.ref C_BadOrder) (.ref C_TooWide) = some false
  sb_BadOrder_BadStrip : PySem.W.subIn K (.ref C_BadOrder) (.ref C_BadStrip) = some false
  sb_BadOrder_BadDeed : PySem.W.subIn K (.ref C_BadOrder) (.ref C_BadDeed) = some false
  sb_BadOrder_BadText : PySem.W.subIn K (.ref C_BadOrder) (.ref C_BadText) = some false
  sb_BadOrder_NoLaying : PySem.W.subIn K (.ref C_BadOrder) (.ref C_NoLaying) = some false
  sb_BadOrder_FloorError : PySem.W.subIn K (.ref C_BadOrder) (.ref C_FloorError) = some true
  xn_BadStrip : PySem.W.excIn K C_BadStrip [.type "ValueError", .type "Exception", .type "BaseException", .type "object"] "ValueError.__new__" = true
  sb_BadStrip_BadTie : PySem.W.subIn K (.ref C_BadStrip) (.ref C_BadTie) = some false
  sb_BadStrip_BadTurns : PySem.W.subIn K (.ref C_BadStrip) (.ref C_BadTurns) = some false
  sb_BadStrip_Parted : PySem.W.subIn K (.ref C_BadStrip) (.ref C_Parted) = some false
  sb_BadStrip_NotFlat : PySem.W.subIn K (.ref C_BadStrip) (.ref C_NotFlat) = some false
  sb_BadStrip_OddMarks : PySem.W.subIn K (.ref C_BadStrip) (.ref C_OddMarks) = some false
  sb_BadStrip_TooRough : PySem.W.subIn K (.ref C_BadStrip) (.ref C_TooRough) = some false
  sb_BadStrip_TooMany : PySem.W.subIn K (.ref C_BadStrip) (.ref C_TooMany) = some false
  sb_BadStrip_TooWide : PySem.W.subIn K (.ref C_BadStrip) (.ref C_TooWide) = some false
  sb_BadStrip_BadOrder : PySem.W.subIn K (.ref C_BadStrip) (.ref C_BadOrder) = some false
  sb_BadStrip_BadDeed : PySem.W.subIn K (.ref C_BadStrip) (.ref C_BadDeed) = some false
  sb_BadStrip_BadText : PySem.W.subIn K (.ref C_BadStrip) (.ref C_BadText) = some false
  sb_BadStrip_NoLaying : PySem.W.subIn K (.ref C_BadStrip) (.ref C_NoLaying) = some false
  sb_BadStrip_FloorError : PySem.W.subIn K (.ref C_BadStrip) (.ref C_FloorError) = some true
  sb_BadText_BadTie : PySem.W.subIn K (.ref C_BadText) (.ref C_BadTie) = some false
  sb_BadText_BadTurns : PySem.W.subIn K (.ref C_BadText) (.ref C_BadTurns) = some false
  sb_BadText_Parted : PySem.W.subIn K (.ref C_BadText) (.ref C_Parted) = some false
  sb_BadText_NotFlat : PySem.W.subIn K (.ref C_BadText) (.ref C_NotFlat) = some false
  sb_BadText_OddMarks : PySem.W.subIn K (.ref C_BadText) (.ref C_OddMarks) = some false
  sb_BadText_TooRough : PySem.W.subIn K (.ref C_BadText) (.ref C_TooRough) = some false
  sb_BadText_TooMany : PySem.W.subIn K (.ref C_BadText) (.ref C_TooMany) = some false
  sb_BadText_TooWide : PySem.W.subIn K (.ref C_BadText) (.ref C_TooWide) = some false
  sb_BadText_BadOrder : PySem.W.subIn K (.ref C_BadText) (.ref C_BadOrder) = some false
  sb_BadText_BadStrip : PySem.W.subIn K (.ref C_BadText) (.ref C_BadStrip) = some false
  sb_BadText_BadDeed : PySem.W.subIn K (.ref C_BadText) (.ref C_BadDeed) = some false
  sb_BadText_NoLaying : PySem.W.subIn K (.ref C_BadText) (.ref C_NoLaying) = some false
  sb_BadText_FloorError : PySem.W.subIn K (.ref C_BadText) (.ref C_FloorError) = some true
  sb_NoLaying_BadTie : PySem.W.subIn K (.ref C_NoLaying) (.ref C_BadTie) = some false
  sb_NoLaying_BadTurns : PySem.W.subIn K (.ref C_NoLaying) (.ref C_BadTurns) = some false
  sb_NoLaying_Parted : PySem.W.subIn K (.ref C_NoLaying) (.ref C_Parted) = some false
  sb_NoLaying_NotFlat : PySem.W.subIn K (.ref C_NoLaying) (.ref C_NotFlat) = some false
  sb_NoLaying_OddMarks : PySem.W.subIn K (.ref C_NoLaying) (.ref C_OddMarks) = some false
  sb_NoLaying_TooRough : PySem.W.subIn K (.ref C_NoLaying) (.ref C_TooRough) = some false
  sb_NoLaying_TooMany : PySem.W.subIn K (.ref C_NoLaying) (.ref C_TooMany) = some false
  sb_NoLaying_TooWide : PySem.W.subIn K (.ref C_NoLaying) (.ref C_TooWide) = some false
  sb_NoLaying_BadOrder : PySem.W.subIn K (.ref C_NoLaying) (.ref C_BadOrder) = some false
  sb_NoLaying_BadStrip : PySem.W.subIn K (.ref C_NoLaying) (.ref C_BadStrip) = some false
  sb_NoLaying_BadDeed : PySem.W.subIn K (.ref C_NoLaying) (.ref C_BadDeed) = some false
  sb_NoLaying_BadText : PySem.W.subIn K (.ref C_NoLaying) (.ref C_BadText) = some false
  sb_NoLaying_FloorError : PySem.W.subIn K (.ref C_NoLaying) (.ref C_FloorError) = some true
  ox_BadText : OexC K C_BadText
  na_BadText : PySem.W.findIn K (.ref C_BadText) "at" = some none
  ox_NoLaying : OexC K C_NoLaying
  na_NoLaying : PySem.W.findIn K (.ref C_NoLaying) "at" = some none
theorem Txt.xf_BadDeed {K : PySem.W.Frag} {mg : Str → Option Value} {C_BadDeed C_FloorError C_BadTie C_BadTurns C_Parted C_NotFlat C_OddMarks C_TooRough C_TooMany C_TooWide C_BadOrder C_BadStrip C_BadText C_NoLaying : Addr} (T : Txt K mg C_BadDeed C_FloorError C_BadTie C_BadTurns C_Parted C_NotFlat C_OddMarks C_TooRough C_TooMany C_TooWide C_BadOrder C_BadStrip C_BadText C_NoLaying) : ExF K C_BadDeed := ⟨T.kp_BadDeed, T.be_BadDeed, T.ty_BadDeed, T.cl_BadDeed, T.hd_BadDeed, T.ga_BadDeed, T.gg_BadDeed, T.oc_BadDeed, T.om_BadDeed, T.sv_BadDeed, T.sb_BadDeed_BadDeed, T.og, T.ot⟩
theorem Txt.xf_FloorError {K : PySem.W.Frag} {mg : Str → Option Value} {C_BadDeed C_FloorError C_BadTie C_BadTurns C_Parted C_NotFlat C_OddMarks C_TooRough C_TooMany C_TooWide C_BadOrder C_BadStrip C_BadText C_NoLaying : Addr} (T : Txt K mg C_BadDeed C_FloorError C_BadTie C_BadTurns C_Parted C_NotFlat C_OddMarks C_TooRough C_TooMany C_TooWide C_BadOrder C_BadStrip C_BadText C_NoLaying) : ExF K C_FloorError := ⟨T.kp_FloorError, T.be_FloorError, T.ty_FloorError, T.cl_FloorError, T.hd_FloorError, T.ga_FloorError, T.gg_FloorError, T.oc_FloorError, T.om_FloorError, T.sv_FloorError, T.sb_FloorError_FloorError, T.og, T.ot⟩
theorem Txt.xf_BadTie {K : PySem.W.Frag} {mg : Str → Option Value} {C_BadDeed C_FloorError C_BadTie C_BadTurns C_Parted C_NotFlat C_OddMarks C_TooRough C_TooMany C_TooWide C_BadOrder C_BadStrip C_BadText C_NoLaying : Addr} (T : Txt K mg C_BadDeed C_FloorError C_BadTie C_BadTurns C_Parted C_NotFlat C_OddMarks C_TooRough C_TooMany C_TooWide C_BadOrder C_BadStrip C_BadText C_NoLaying) : ExF K C_BadTie := ⟨T.kp_BadTie, T.be_BadTie, T.ty_BadTie, T.cl_BadTie, T.hd_BadTie, T.ga_BadTie, T.gg_BadTie, T.oc_BadTie, T.om_BadTie, T.sv_BadTie, T.sb_BadTie_BadTie, T.og, T.ot⟩
theorem Txt.xf_BadTurns {K : PySem.W.Frag} {mg : Str → Option Value} {C_BadDeed C_FloorError C_BadTie C_BadTurns C_Parted C_NotFlat C_OddMarks C_TooRough C_TooMany C_TooWide C_BadOrder C_BadStrip C_BadText C_NoLaying : Addr} (T : Txt K mg C_BadDeed C_FloorError C_BadTie C_BadTurns C_Parted C_NotFlat C_OddMarks C_TooRough C_TooMany C_TooWide C_BadOrder C_BadStrip C_BadText C_NoLaying) : ExF K C_BadTurns := ⟨T.kp_BadTurns, T.be_BadTurns, T.ty_BadTurns, T.cl_BadTurns, T.hd_BadTurns, T.ga_BadTurns, T.gg_BadTurns, T.oc_BadTurns, T.om_BadTurns, T.sv_BadTurns, T.sb_BadTurns_BadTurns, T.og, T.ot⟩
theorem Txt.xf_Parted {K : PySem.W.Frag} {mg : Str → Option Value} {C_BadDeed C_FloorError C_BadTie C_BadTurns C_Parted C_NotFlat C_OddMarks C_TooRough C_TooMany C_TooWide C_BadOrder C_BadStrip C_BadText C_NoLaying : Addr} (T : Txt K mg C_BadDeed C_FloorError C_BadTie C_BadTurns C_Parted C_NotFlat C_OddMarks C_TooRough C_TooMany C_TooWide C_BadOrder C_BadStrip C_BadText C_NoLaying) : ExF K C_Parted := ⟨T.kp_Parted, T.be_Parted, T.ty_Parted, T.cl_Parted, T.hd_Parted, T.ga_Parted, T.gg_Parted, T.oc_Parted, T.om_Parted, T.sv_Parted, T.sb_Parted_Parted, T.og, T.ot⟩
theorem Txt.xf_NotFlat {K : PySem.W.Frag} {mg : Str → Option Value} {C_BadDeed C_FloorError C_BadTie C_BadTurns C_Parted C_NotFlat C_OddMarks C_TooRough C_TooMany C_TooWide C_BadOrder C_BadStrip C_BadText C_NoLaying : Addr} (T : Txt K mg C_BadDeed C_FloorError C_BadTie C_BadTurns C_Parted C_NotFlat C_OddMarks C_TooRough C_TooMany C_TooWide C_BadOrder C_BadStrip C_BadText C_NoLaying) : ExF K C_NotFlat := ⟨T.kp_NotFlat, T.be_NotFlat, T.ty_NotFlat, T.cl_NotFlat, T.hd_NotFlat, T.ga_NotFlat, T.gg_NotFlat, T.oc_NotFlat, T.om_NotFlat, T.sv_NotFlat, T.sb_NotFlat_NotFlat, T.og, T.ot⟩
theorem Txt.xf_OddMarks {K : PySem.W.Frag} {mg : Str → Option Value} {C_BadDeed C_FloorError C_BadTie C_BadTurns C_Parted C_NotFlat C_OddMarks C_TooRough C_TooMany C_TooWide C_BadOrder C_BadStrip C_BadText C_NoLaying : Addr} (T : Txt K mg C_BadDeed C_FloorError C_BadTie C_BadTurns C_Parted C_NotFlat C_OddMarks C_TooRough C_TooMany C_TooWide C_BadOrder C_BadStrip C_BadText C_NoLaying) : ExF K C_OddMarks := ⟨T.kp_OddMarks, T.be_OddMarks, T.ty_OddMarks, T.cl_OddMarks, T.hd_OddMarks, T.ga_OddMarks, T.gg_OddMarks, T.oc_OddMarks, T.om_OddMarks, T.sv_OddMarks, T.sb_OddMarks_OddMarks, T.og, T.ot⟩
theorem Txt.xf_TooRough {K : PySem.W.Frag} {mg : Str → Option Value} {C_BadDeed C_FloorError C_BadTie C_BadTurns C_Parted C_NotFlat C_OddMarks C_TooRough C_TooMany C_TooWide C_BadOrder C_BadStrip C_BadText C_NoLaying : Addr} (T : Txt K mg C_BadDeed C_FloorError C_BadTie C_BadTurns C_Parted C_NotFlat C_OddMarks C_TooRough C_TooMany C_TooWide C_BadOrder C_BadStrip C_BadText C_NoLaying) : ExF K C_TooRough := ⟨T.kp_TooRough, T.be_TooRough, T.ty_TooRough, T.cl_TooRough, T.hd_TooRough, T.ga_TooRough, T.gg_TooRough, T.oc_TooRough, T.om_TooRough, T.sv_TooRough, T.sb_TooRough_TooRough, T.og, T.ot⟩
theorem Txt.xf_TooMany {K : PySem.W.Frag} {mg : Str → Option Value} {C_BadDeed C_FloorError C_BadTie C_BadTurns C_Parted C_NotFlat C_OddMarks C_TooRough C_TooMany C_TooWide C_BadOrder C_BadStrip C_BadText C_NoLaying : Addr} (T : Txt K mg C_BadDeed C_FloorError C_BadTie C_BadTurns C_Parted C_NotFlat C_OddMarks C_TooRough C_TooMany C_TooWide C_BadOrder C_BadStrip C_BadText C_NoLaying) : ExF K C_TooMany := ⟨T.kp_TooMany, T.be_TooMany, T.ty_TooMany, T.cl_TooMany, T.hd_TooMany, T.ga_TooMany, T.gg_TooMany, T.oc_TooMany, T.om_TooMany, T.sv_TooMany, T.sb_TooMany_TooMany, T.og, T.ot⟩
theorem Txt.xf_TooWide {K : PySem.W.Frag} {mg : Str → Option Value} {C_BadDeed C_FloorError C_BadTie C_BadTurns C_Parted C_NotFlat C_OddMarks C_TooRough C_TooMany C_TooWide C_BadOrder C_BadStrip C_BadText C_NoLaying : Addr} (T : Txt K mg C_BadDeed C_FloorError C_BadTie C_BadTurns C_Parted C_NotFlat C_OddMarks C_TooRough C_TooMany C_TooWide C_BadOrder C_BadStrip C_BadText C_NoLaying) : ExF K C_TooWide := ⟨T.kp_TooWide, T.be_TooWide, T.ty_TooWide, T.cl_TooWide, T.hd_TooWide, T.ga_TooWide, T.gg_TooWide, T.oc_TooWide, T.om_TooWide, T.sv_TooWide, T.sb_TooWide_TooWide, T.og, T.ot⟩
theorem Txt.xf_BadOrder {K : PySem.W.Frag} {mg : Str → Option Value} {C_BadDeed C_FloorError C_BadTie C_BadTurns C_Parted C_NotFlat C_OddMarks C_TooRough C_TooMany C_TooWide C_BadOrder C_BadStrip C_BadText C_NoLaying : Addr} (T : Txt K mg C_BadDeed C_FloorError C_BadTie C_BadTurns C_Parted C_NotFlat C_OddMarks C_TooRough C_TooMany C_TooWide C_BadOrder C_BadStrip C_BadText C_NoLaying) : ExF K C_BadOrder := ⟨T.kp_BadOrder, T.be_BadOrder, T.ty_BadOrder, T.cl_BadOrder, T.hd_BadOrder, T.ga_BadOrder, T.gg_BadOrder, T.oc_BadOrder, T.om_BadOrder, T.sv_BadOrder, T.sb_BadOrder_BadOrder, T.og, T.ot⟩
theorem Txt.xf_BadStrip {K : PySem.W.Frag} {mg : Str → Option Value} {C_BadDeed C_FloorError C_BadTie C_BadTurns C_Parted C_NotFlat C_OddMarks C_TooRough C_TooMany C_TooWide C_BadOrder C_BadStrip C_BadText C_NoLaying : Addr} (T : Txt K mg C_BadDeed C_FloorError C_BadTie C_BadTurns C_Parted C_NotFlat C_OddMarks C_TooRough C_TooMany C_TooWide C_BadOrder C_BadStrip C_BadText C_NoLaying) : ExF K C_BadStrip := ⟨T.kp_BadStrip, T.be_BadStrip, T.ty_BadStrip, T.cl_BadStrip, T.hd_BadStrip, T.ga_BadStrip, T.gg_BadStrip, T.oc_BadStrip, T.om_BadStrip, T.sv_BadStrip, T.sb_BadStrip_BadStrip, T.og, T.ot⟩
theorem Txt.xf_BadText {K : PySem.W.Frag} {mg : Str → Option Value} {C_BadDeed C_FloorError C_BadTie C_BadTurns C_Parted C_NotFlat C_OddMarks C_TooRough C_TooMany C_TooWide C_BadOrder C_BadStrip C_BadText C_NoLaying : Addr} (T : Txt K mg C_BadDeed C_FloorError C_BadTie C_BadTurns C_Parted C_NotFlat C_OddMarks C_TooRough C_TooMany C_TooWide C_BadOrder C_BadStrip C_BadText C_NoLaying) : ExF K C_BadText := ⟨T.kp_BadText, T.be_BadText, T.ty_BadText, T.cl_BadText, T.hd_BadText, T.ga_BadText, T.gg_BadText, T.oc_BadText, T.om_BadText, T.sv_BadText, T.sb_BadText_BadText, T.og, T.ot⟩
theorem Txt.xf_NoLaying {K : PySem.W.Frag} {mg : Str → Option Value} {C_BadDeed C_FloorError C_BadTie C_BadTurns C_Parted C_NotFlat C_OddMarks C_TooRough C_TooMany C_TooWide C_BadOrder C_BadStrip C_BadText C_NoLaying : Addr} (T : Txt K mg C_BadDeed C_FloorError C_BadTie C_BadTurns C_Parted C_NotFlat C_OddMarks C_TooRough C_TooMany C_TooWide C_BadOrder C_BadStrip C_BadText C_NoLaying) : ExF K C_NoLaying := ⟨T.kp_NoLaying, T.be_NoLaying, T.ty_NoLaying, T.cl_NoLaying, T.hd_NoLaying, T.ga_NoLaying, T.gg_NoLaying, T.oc_NoLaying, T.om_NoLaying, T.sv_NoLaying, T.sb_NoLaying_NoLaying, T.og, T.ot⟩
section
variable {P : Program} {w : World} {K : PySem.W.Frag} {mg : Str → Option Value} {base : Heap} {C_BadDeed C_FloorError C_BadTie C_BadTurns C_Parted C_NotFlat C_OddMarks C_TooRough C_TooMany C_TooWide C_BadOrder C_BadStrip C_BadText C_NoLaying : Addr}
theorem ok_BadText___init__ {f : Addr} {fd : FuncData} (F : Fun K "__init__" "BadText.__init__" s_BadText___init__ f fd) (B : Bl mg) {C_BadDeed C_FloorError C_BadTie C_BadTurns C_Parted C_NotFlat C_OddMarks C_TooRough C_TooMany C_TooWide C_BadOrder C_BadStrip C_BadText C_NoLaying : Addr} (T : Txt K mg C_BadDeed C_FloorError C_BadTie C_BadTurns C_Parted C_NotFlat C_OddMarks C_TooRough C_TooMany C_TooWide C_BadOrder C_BadStrip C_BadText C_NoLaying) : HasFn P w K mg base CX0 1 f ["self", "at"] (spKeep K C_BadText) := by
  refine HasFn.mk' F (F.binds (ps := ["self", "at"]) fun _ _ _ _ _ _ us hl => match us, hl with | [_, _], _ => rfl) sc_BadText___init__ (by walk_at "len") (fun cdv A outer s H vs Q E hr h => ?_)
  obtain ⟨a, v, rfl, hT, hn, ha, q⟩ := h
  refine ⟨_, (pss_one (ps_ost (pv 0) (pv 1))), ?_⟩
  walk_at "sts"
  exact ⟨a, C_BadText, rfl, hT, hn, .inl ⟨ha, fun dx h1 h2 => q dx h1 h2⟩⟩
theorem ok_NoLaying___init__ {f : Addr} {fd : FuncData} (F : Fun K "__init__" "NoLaying.__init__" s_NoLaying___init__ f fd) (B : Bl mg) {C_BadDeed C_FloorError C_BadTie C_BadTurns C_Parted C_NotFlat C_OddMarks C_TooRough C_TooMany C_TooWide C_BadOrder C_BadStrip C_BadText C_NoLaying : Addr} (T : Txt K mg C_BadDeed C_FloorError C_BadTie C_BadTurns C_Parted C_NotFlat C_OddMarks C_TooRough C_TooMany C_TooWide C_BadOrder C_BadStrip C_BadText C_NoLaying) : HasFn P w K mg base CX0 1 f ["self", "at"] (spKeep K C_NoLaying) := by
  refine HasFn.mk' F (F.binds (ps := ["self", "at"]) fun _ _ _ _ _ _ us hl => match us, hl with | [_, _], _ => rfl) sc_NoLaying___init__ (by walk_at "len") (fun cdv A outer s H vs Q E hr h => ?_)
  obtain ⟨a, v, rfl, hT, hn, ha, q⟩ := h
  refine ⟨_, (pss_one (ps_ost (pv 0) (pv 1))), ?_⟩
  walk_at "sts"
  exact ⟨a, C_NoLaying, rfl, hT, hn, .inl ⟨ha, fun dx h1 h2 => q dx h1 h2⟩⟩
def spBare (cs : List Addr) : Sp := fun vs H Q E => ∃ (k : Nat) (C : Addr), vs = [.int k] ∧ cs[k]? = some C ∧ E (.ref C) none H
theorem ok_law_raise_bare {f : Addr} {fd : FuncData} (F : Fun K "_law_raise_bare" "_law_raise_bare" s_law_raise_bare f fd) (gf : mg "_law_raise_bare" = some (.ref f)) (B : Bl mg) {C_BadDeed C_FloorError C_BadTie C_BadTurns C_Parted C_NotFlat C_OddMarks C_TooRough C_TooMany C_TooWide C_BadOrder C_BadStrip C_BadText C_NoLaying : Addr} (T : Txt K mg C_BadDeed C_FloorError C_BadTie C_BadTurns C_Parted C_NotFlat C_OddMarks C_TooRough C_TooMany C_TooWide C_BadOrder C_BadStrip C_BadText C_NoLaying) : Has P w K mg base (L2.CX P w) 1 "_law_raise_bare" ["which"] (spBare [C_FloorError, C_BadTie, C_BadTurns, C_Parted, C_NotFlat, C_OddMarks, C_TooRough, C_TooMany, C_TooWide, C_BadOrder, C_BadStrip, C_BadDeed]) := by
  refine Has.mkX F gf (F.binds (ps := ["which"]) fun _ _ _ _ _ _ us hl => match us, hl with | [_], _ => rfl) sc_law_raise_bare (by walk_at "len") (fun cdv A outer s H vs Q E hr h => ?_)
  obtain ⟨k, C, rfl, hC, q⟩ := h
  refine ⟨_, (pss_cons (ps_if (pt_cmpR op_eq (pv 0) pe_int (nomark _)) (pss_one (ps_raise rfl (takes_of rfl rfl rfl rfl) (pmk_own0 PySem.F.excBase_ValueError T.xn_FloorError T.g_FloorError T.xf_FloorError.kp (raises_own T.xf_FloorError.be T.xf_FloorError.ty) (by exact rfl)))) pss_nil)
 (pss_cons (ps_if (pt_cmpR op_eq (pv 0) pe_int (nomark _)) (pss_one (ps_raise rfl (takes_of rfl rfl rfl rfl) (pmk_own0 PySem.F.excBase_ValueError T.xn_BadTie T.g_BadTie T.xf_BadTie.kp (raises_own T.xf_BadTie.be T.xf_BadTie.ty) (by exact rfl)))) pss_nil)
 (pss_cons (ps_if (pt_cmpR op_eq (pv 0) pe_int (nomark _)) (pss_one (ps_raise rfl (takes_of rfl rfl rfl rfl) (pmk_own0 PySem.F.excBase_ValueError T.xn_BadTurns T.g_BadTurns T.xf_BadTurns.kp (raises_own T.xf_BadTurns.be T.xf_BadTurns.ty) (by exact rfl)))) pss_nil)
 (pss_cons (ps_if (pt_cmpR op_eq (pv 0) pe_int (nomark _)) (pss_one (ps_raise rfl (takes_of rfl rfl rfl rfl) (pmk_own0 PySem.F.excBase_ValueError T.xn_Parted T.g_Parted T.xf_Parted.kp (raises_own T.xf_Parted.be T.xf_Parted.ty) (by exact rfl)))) pss_nil)
 (pss_cons (ps_if (pt_cmpR op_eq (pv 0) pe_int (nomark _)) (pss_one (ps_raise rfl (takes_of rfl rfl rfl rfl) (pmk_own0 PySem.F.excBase_ValueError T.xn_NotFlat T.g_NotFlat T.xf_NotFlat.kp (raises_own T.xf_NotFlat.be T.xf_NotFlat.ty) (by exact rfl)))) pss_nil)
 (pss_cons (ps_if (pt_cmpR op_eq (pv 0) pe_int (nomark _)) (pss_one (ps_raise rfl (takes_of rfl rfl rfl rfl) (pmk_own0 PySem.F.excBase_ValueError T.xn_OddMarks T.g_OddMarks T.xf_OddMarks.kp (raises_own T.xf_OddMarks.be T.xf_OddMarks.ty) (by exact rfl)))) pss_nil)
 (pss_cons (ps_if (pt_cmpR op_eq (pv 0) pe_int (nomark _)) (pss_one (ps_raise rfl (takes_of rfl rfl rfl rfl) (pmk_own0 PySem.F.excBase_ValueError T.xn_TooRough T.g_TooRough T.xf_TooRough.kp (raises_own T.xf_TooRough.be T.xf_TooRough.ty) (by exact rfl)))) pss_nil)
 (pss_cons (ps_if (pt_cmpR op_eq (pv 0) pe_int (nomark _)) (pss_one (ps_raise rfl (takes_of rfl rfl rfl rfl) (pmk_own0 PySem.F.excBase_ValueError T.xn_TooMany T.g_TooMany T.xf_TooMany.kp (raises_own T.xf_TooMany.be T.xf_TooMany.ty) (by exact rfl)))) pss_nil)
 (pss_cons (ps_if (pt_cmpR op_eq (pv 0) pe_int (nomark _)) (pss_one (ps_raise rfl (takes_of rfl rfl rfl rfl) (pmk_own0 PySem.F.excBase_ValueError T.xn_TooWide T.g_TooWide T.xf_TooWide.kp (raises_own T.xf_TooWide.be T.xf_TooWide.ty) (by exact rfl)))) pss_nil)
 (pss_cons (ps_if (pt_cmpR op_eq (pv 0) pe_int (nomark _)) (pss_one (ps_raise rfl (takes_of rfl rfl rfl rfl) (pmk_own0 PySem.F.excBase_ValueError T.xn_BadOrder T.g_BadOrder T.xf_BadOrder.kp (raises_own T.xf_BadOrder.be T.xf_BadOrder.ty) (by exact rfl)))) pss_nil)
 (pss_cons (ps_if (pt_cmpR op_eq (pv 0) pe_int (nomark _)) (pss_one (ps_raise rfl (takes_of rfl rfl rfl rfl) (pmk_own0 PySem.F.excBase_ValueError T.xn_BadStrip T.g_BadStrip T.xf_BadStrip.kp (raises_own T.xf_BadStrip.be T.xf_BadStrip.ty) (by exact rfl)))) pss_nil)
 (pss_one (ps_raise rfl (takes_of rfl rfl rfl rfl) (pmk_own0 PySem.F.excBase_ValueError T.xn_BadDeed T.g_BadDeed T.xf_BadDeed.kp (raises_own T.xf_BadDeed.be T.xf_BadDeed.ty) (by exact rfl))))))))))))))), ?_⟩
  obtain ⟨hk, _⟩ := List.getElem?_eq_some_iff.mp hC
  have hk2 : k < 12 := hk
  rcases (by omega : k = 0 ∨ k = 1 ∨ k = 2 ∨ k = 3 ∨ k = 4 ∨ k = 5 ∨ k = 6 ∨ k = 7 ∨ k = 8 ∨ k = 9 ∨ k = 10 ∨ k = 11) with rfl | rfl | rfl | rfl | rfl | rfl | rfl | rfl | rfl | rfl | rfl | rfl
  all_goals
    cases hC
    walk_at "sts"
    exact q
def spWords (cs : List Addr) : Sp := fun vs H Q E => ∃ (k : Nat) (C : Addr) (t : Str), vs = [.int k, .str t] ∧ cs[k]? = some C ∧ E (.ref C) none H
theorem ok_law_raise_words {f : Addr} {fd : FuncData} (F : Fun K "_law_raise_words" "_law_raise_words" s_law_raise_words f fd) (gf : mg "_law_raise_words" = some (.ref f)) (B : Bl mg) {C_BadDeed C_FloorError C_BadTie C_BadTurns C_Parted C_NotFlat C_OddMarks C_TooRough C_TooMany C_TooWide C_BadOrder C_BadStrip C_BadText C_NoLaying : Addr} (T : Txt K mg C_BadDeed C_FloorError C_BadTie C_BadTurns C_Parted C_NotFlat C_OddMarks C_TooRough C_TooMany C_TooWide C_BadOrder C_BadStrip C_BadText C_NoLaying) : Has P w K mg base (L2.CX P w) 1 "_law_raise_words" ["which", "words"] (spWords [C_FloorError, C_BadTie, C_BadTurns, C_Parted, C_NotFlat, C_OddMarks, C_TooRough, C_TooMany, C_TooWide, C_BadOrder, C_BadStrip, C_BadDeed]) := by
  refine Has.mkX F gf (F.binds (ps := ["which", "words"]) fun _ _ _ _ _ _ us hl => match us, hl with | [_, _], _ => rfl) sc_law_raise_words (by walk_at "len") (fun cdv A outer s H vs Q E hr h => ?_)
  obtain ⟨k, C, t, rfl, hC, q⟩ := h
  refine ⟨_, (pss_cons (ps_if (pt_cmpR op_eq (pv 0) pe_int (nomark _)) (pss_one (ps_raise rfl (takes_of rfl rfl rfl rfl) (pmk_ownA PySem.F.excBase_ValueError T.xn_FloorError T.g_FloorError T.xf_FloorError.kp (raises_own T.xf_FloorError.be T.xf_FloorError.ty) (by exact rfl) (pa_cons (pv 1) pa_nil)))) pss_nil)
 (pss_cons (ps_if (pt_cmpR op_eq (pv 0) pe_int (nomark _)) (pss_one (ps_raise rfl (takes_of rfl rfl rfl rfl) (pmk_ownA PySem.F.excBase_ValueError T.xn_BadTie T.g_BadTie T.xf_BadTie.kp (raises_own T.xf_BadTie.be T.xf_BadTie.ty) (by exact rfl) (pa_cons (pv 1) pa_nil)))) pss_nil)
 (pss_cons (ps_if (pt_cmpR op_eq (pv 0) pe_int (nomark _)) (pss_one (ps_raise rfl (takes_of rfl rfl rfl rfl) (pmk_ownA PySem.F.excBase_ValueError T.xn_BadTurns T.g_BadTurns T.xf_BadTurns.kp (raises_own T.xf_BadTurns.be T.xf_BadTurns.ty) (by exact rfl) (pa_cons (pv 1) pa_nil)))) pss_nil)
 (pss_cons (ps_if (pt_cmpR op_eq (pv 0) pe_int (nomark _)) (pss_one (ps_raise rfl (takes_of rfl rfl rfl rfl) (pmk_ownA PySem.F.excBase_ValueError T.xn_Parted T.g_Parted T.xf_Parted.kp (raises_own T.xf_Parted.be T.xf_Parted.ty) (by exact rfl) (pa_cons (pv 1) pa_nil)))) pss_nil)
 (pss_cons (ps_if (pt_cmpR op_eq (pv 0) pe_int (nomark _)) (pss_one (ps_raise rfl (takes_of rfl rfl rfl rfl) (pmk_ownA PySem.F.excBase_ValueError T.xn_NotFlat T.g_NotFlat T.xf_NotFlat.kp (raises_own T.xf_NotFlat.be T.xf_NotFlat.ty) (by exact rfl) (pa_cons (pv 1) pa_nil)))) pss_nil)
 (pss_cons (ps_if (pt_cmpR op_eq (pv 0) pe_int (nomark _)) (pss_one (ps_raise rfl (takes_of rfl rfl rfl rfl) (pmk_ownA PySem.F.excBase_ValueError T.xn_OddMarks T.g_OddMarks T.xf_OddMarks.kp (raises_own T.xf_OddMarks.be T.xf_OddMarks.ty) (by exact rfl) (pa_cons (pv 1) pa_nil)))) pss_nil)
 (pss_cons (ps_if (pt_cmpR op_eq (pv 0) pe_int (nomark _)) (pss_one (ps_raise rfl (takes_of rfl rfl rfl rfl) (pmk_ownA PySem.F.excBase_ValueError T.xn_TooRough T.g_TooRough T.xf_TooRough.kp (raises_own T.xf_TooRough.be T.xf_TooRough.ty) (by exact rfl) (pa_cons (pv 1) pa_nil)))) pss_nil)
 (pss_cons (ps_if (pt_cmpR op_eq (pv 0) pe_int (nomark _)) (pss_one (ps_raise rfl (takes_of rfl rfl rfl rfl) (pmk_ownA PySem.F.excBase_ValueError T.xn_TooMany T.g_TooMany T.xf_TooMany.kp (raises_own T.xf_TooMany.be T.xf_TooMany.ty) (by exact rfl) (pa_cons (pv 1) pa_nil)))) pss_nil)
 (pss_cons (ps_if (pt_cmpR op_eq (pv 0) pe_int (nomark _)) (pss_one (ps_raise rfl (takes_of rfl rfl rfl rfl) (pmk_ownA PySem.F.excBase_ValueError T.xn_TooWide T.g_TooWide T.xf_TooWide.kp (raises_own T.xf_TooWide.be T.xf_TooWide.ty) (by exact rfl) (pa_cons (pv 1) pa_nil)))) pss_nil)
 (pss_cons (ps_if (pt_cmpR op_eq (pv 0) pe_int (nomark _)) (pss_one (ps_raise rfl (takes_of rfl rfl rfl rfl) (pmk_ownA PySem.F.excBase_ValueError T.xn_BadOrder T.g_BadOrder T.xf_BadOrder.kp (raises_own T.xf_BadOrder.be T.xf_BadOrder.ty) (by exact rfl) (pa_cons (pv 1) pa_nil)))) pss_nil)
 (pss_cons (ps_if (pt_cmpR op_eq (pv 0) pe_int (nomark _)) (pss_one (ps_raise rfl (takes_of rfl rfl rfl rfl) (pmk_ownA PySem.F.excBase_ValueError T.xn_BadStrip T.g_BadStrip T.xf_BadStrip.kp (raises_own T.xf_BadStrip.be T.xf_BadStrip.ty) (by exact rfl) (pa_cons (pv 1) pa_nil)))) pss_nil)
 (pss_one (ps_raise rfl (takes_of rfl rfl rfl rfl) (pmk_ownA PySem.F.excBase_ValueError T.xn_BadDeed T.g_BadDeed T.xf_BadDeed.kp (raises_own T.xf_BadDeed.be T.xf_BadDeed.ty) (by exact rfl) (pa_cons (pv 1) pa_nil))))))))))))))), ?_⟩
  obtain ⟨hk, _⟩ := List.getElem?_eq_some_iff.mp hC
  have hk2 : k < 12 := hk
  rcases (by omega : k = 0 ∨ k = 1 ∨ k = 2 ∨ k = 3 ∨ k = 4 ∨ k = 5 ∨ k = 6 ∨ k = 7 ∨ k = 8 ∨ k = 9 ∨ k = 10 ∨ k = 11) with rfl | rfl | rfl | rfl | rfl | rfl | rfl | rfl | rfl | rfl | rfl | rfl
  all_goals
    cases hC
    walk_at "sts"
    exact q
def spRaise (cs : List Addr) (CT CN : Addr) : Sp := fun vs H Q E => ∃ (k : Nat) (n : Int), vs = [.int k, .int n] ∧ k < 14 ∧ (∀ C, cs[k]? = some C → E (.ref C) none H) ∧ (∀ C, (k = 12 ∧ C = CT ∨ k = 13 ∧ C = CN) → ∀ d, New H d → E (.ref C) (some d) (upd H d (.xd [("at", .int n)])))
theorem ok_law_raise {f : Addr} {fd : FuncData} (F : Fun K "_law_raise" "_law_raise" s_law_raise f fd) (gf : mg "_law_raise" = some (.ref f)) (B : Bl mg) {C_BadDeed C_FloorError C_BadTie C_BadTurns C_Parted C_NotFlat C_OddMarks C_TooRough C_TooMany C_TooWide C_BadOrder C_BadStrip C_BadText C_NoLaying : Addr} (T : Txt K mg C_BadDeed C_FloorError C_BadTie C_BadTurns C_Parted C_NotFlat C_OddMarks C_TooRough C_TooMany C_TooWide C_BadOrder C_BadStrip C_BadText C_NoLaying) (h_law_raise_words : Has P w K mg base (L2.CX P w) 1 "_law_raise_words" ["which", "words"] (spWords [C_FloorError, C_BadTie, C_BadTurns, C_Parted, C_NotFlat, C_OddMarks, C_TooRough, C_TooMany, C_TooWide, C_BadOrder, C_BadStrip, C_BadDeed])) (h_law_raise_bare : Has P w K mg base (L2.CX P w) 1 "_law_raise_bare" ["which"] (spBare [C_FloorError, C_BadTie, C_BadTurns, C_Parted, C_NotFlat, C_OddMarks, C_TooRough, C_TooMany, C_TooWide, C_BadOrder, C_BadStrip, C_BadDeed])) (h_xm_BadText : HasXM P w K mg base 1 "BadText" C_BadText ["self", "at"] (spKeep K C_BadText)) (h_xm_NoLaying : HasXM P w K mg base 1 "NoLaying" C_NoLaying ["self", "at"] (spKeep K C_NoLaying)) : Has P w K mg base (L2.CX P w) 3 "_law_raise" ["which", "number"] (spRaise [C_FloorError, C_BadTie, C_BadTurns, C_Parted, C_NotFlat, C_OddMarks, C_TooRough, C_TooMany, C_TooWide, C_BadOrder, C_BadStrip, C_BadDeed] C_BadText C_NoLaying) := by
  refine Has.mkX F gf (F.binds (ps := ["which", "number"]) fun _ _ _ _ _ _ us hl => match us, hl with | [_, _], _ => rfl) sc_law_raise (by walk_at "len") (fun cdv A outer s H vs Q E hr h => ?_)
  obtain ⟨k, n, rfl, hk, q1, q2⟩ := h
  refine ⟨_, (pss_cons (ps_if (pt_cmpR op_eq (pv 0) pe_int (nomark _)) (pss_one (ps_raise rfl (takes_of rfl rfl rfl rfl) (pmk_xm h_xm_BadText (hr.mono (by decide)) (by rfl) (pa_cons (pv 1) pa_nil)))) pss_nil)
 (pss_cons (ps_if (pt_cmpR op_eq (pv 0) pe_int (nomark _)) (pss_one (ps_raise rfl (takes_of rfl rfl rfl rfl) (pmk_xm h_xm_NoLaying (hr.mono (by decide)) (by rfl) (pa_cons (pv 1) pa_nil)))) pss_nil)
 (pss_cons (ps_if (pt_cmpR op_eq (pe_op op_mod (pv 1) pe_int) pe_int (nomark _)) (pss_one (ps_expr (pe_fnS (takes_of rfl rfl rfl rfl) h_law_raise_bare (hr.mono (by decide)) (by rfl) (pa_cons (pv 0) pa_nil)))) pss_nil)
 (pss_one (ps_expr (pe_fnS (takes_of rfl rfl rfl rfl) h_law_raise_words (hr.mono (by decide)) (by rfl) (pa_cons (pv 0) (pa_cons pe_str pa_nil)))))))), ?_⟩
  by_cases h12 : k = 12
  · walk_at "sts"
    exact w_raiseK T.ox_BadText T.na_BadText fun d nd => q2 _ (.inl ⟨h12, rfl⟩) d nd
  by_cases h13 : k = 13
  · walk_at "sts"
    exact w_raiseK T.ox_NoLaying T.na_NoLaying fun d nd => q2 _ (.inr ⟨h13, rfl⟩) d nd
  have hC := List.getElem?_eq_getElem (l := [C_FloorError, C_BadTie, C_BadTurns, C_Parted, C_NotFlat, C_OddMarks, C_TooRough, C_TooMany, C_TooWide, C_BadOrder, C_BadStrip, C_BadDeed]) (i := k) (by show k < 12; omega)
  walk_at "sts"
  refine ifd (fun he => ?_) (fun he => ?_)
  · walk_at "sts"
    refine ⟨k, _, rfl, hC, q1 _ hC⟩
  · walk_at "sts"
    refine ⟨k, _, _, rfl, hC, q1 _ hC⟩
end
section
variable {P : Program} {w : World} {K : PySem.W.Frag} {mg : Str → Option Value} {base : Heap} {C_BadDeed C_FloorError C_BadTie C_BadTurns C_Parted C_NotFlat C_OddMarks C_TooRough C_TooMany C_TooWide C_BadOrder C_BadStrip C_BadText C_NoLaying : Addr}
/-- the truth of isinstance, class by class -/
def KindsOf (K : PySem.W.Frag) (D : Addr) (cs : List Addr) (bs : List Bool) : Prop := bs.length = cs.length ∧ ∀ (i : Nat) (C : Addr) (b : Bool), cs[i]? = some C → bs[i]? = some b → PySem.W.subIn K (.ref D) (.ref C) = some b
def spKinds (K : PySem.W.Frag) (cs : List Addr) : Sp := fun vs H Q _ => ∃ (e D : Addr) (d : Option Addr) (bs : List Bool), vs = [.ref e] ∧ ExF K D ∧ Kept K H e D d ∧ KindsOf K D cs bs ∧ ∀ l H', Same H H' → New H l → H' l = some (.lst (bs.map V.bl)) → Q (.ref l) H'
theorem ok_law_kinds {f : Addr} {fd : FuncData} (F : Fun K "_law_kinds" "_law_kinds" s_law_kinds f fd) (gf : mg "_law_kinds" = some (.ref f)) (B : Bl mg) {C_BadDeed C_FloorError C_BadTie C_BadTurns C_Parted C_NotFlat C_OddMarks C_TooRough C_TooMany C_TooWide C_BadOrder C_BadStrip C_BadText C_NoLaying : Addr} (T : Txt K mg C_BadDeed C_FloorError C_BadTie C_BadTurns C_Parted C_NotFlat C_OddMarks C_TooRough C_TooMany C_TooWide C_BadOrder C_BadStrip C_BadText C_NoLaying) : Has P w K mg base CX0 1 "_law_kinds" ["error"] (spKinds K [C_BadTie, C_BadTurns, C_Parted, C_NotFlat, C_OddMarks, C_TooRough, C_TooMany, C_TooWide, C_BadOrder, C_BadStrip, C_BadDeed, C_BadText, C_NoLaying]) := by
  refine Has.mk' F gf (F.binds (ps := ["error"]) fun _ _ _ _ _ _ us hl => match us, hl with | [_], _ => rfl) sc_law_kinds (by walk_at "len") (fun cdv A outer s H vs Q E hr h => ?_)
  obtain ⟨e, D, d, bs, rfl, F, hk, ⟨hl, hb⟩, q⟩ := h
  refine ⟨_, (pss_cons (ps_set (i := 1) sc_law_kinds.nd rfl (.inl rfl) (pe_lst (pa_cons (pe_callB (call_isKp K) (by rfl) B.isinstance (by decide +kernel) (pa_cons (pv 0) (pa_cons (pe_glob (v := .ref C_BadTie) (by rfl) T.g_BadTie rfl) pa_nil))) (pa_cons (pe_callB (call_isKp K) (by rfl) B.isinstance (by decide +kernel) (pa_cons (pv 0) (pa_cons (pe_glob (v := .ref C_BadTurns) (by rfl) T.g_BadTurns rfl) pa_nil))) (pa_cons (pe_callB (call_isKp K) (by rfl) B.isinstance (by decide +kernel) (pa_cons (pv 0) (pa_cons (pe_glob (v := .ref C_Parted) (by rfl) T.g_Parted rfl) pa_nil))) pa_nil)))))
 (pss_cons (ps_expr (pe_bmK K (pe_bm PySem.F.plainAttrs_list PySem.F.slot_list_append PySem.F.type_list_append mt_append (pv 1) (pa_cons (pe_callB (call_isKp K) (by rfl) B.isinstance (by decide +kernel) (pa_cons (pv 0) (pa_cons (pe_glob (v := .ref C_NotFlat) (by rfl) T.g_NotFlat rfl) pa_nil))) pa_nil))))
 (pss_cons (ps_expr (pe_bmK K (pe_bm PySem.F.plainAttrs_list PySem.F.slot_list_append PySem.F.type_list_append mt_append (pv 1) (pa_cons (pe_callB (call_isKp K) (by rfl) B.isinstance (by decide +kernel) (pa_cons (pv 0) (pa_cons (pe_glob (v := .ref C_OddMarks) (by rfl) T.g_OddMarks rfl) pa_nil))) pa_nil))))
 (pss_cons (ps_expr (pe_bmK K (pe_bm PySem.F.plainAttrs_list PySem.F.slot_list_append PySem.F.type_list_append mt_append (pv 1) (pa_cons (pe_callB (call_isKp K) (by rfl) B.isinstance (by decide +kernel) (pa_cons (pv 0) (pa_cons (pe_glob (v := .ref C_TooRough) (by rfl) T.g_TooRough rfl) pa_nil))) pa_nil))))
 (pss_cons (ps_expr (pe_bmK K (pe_bm PySem.F.plainAttrs_list PySem.F.slot_list_append PySem.F.type_list_append mt_append (pv 1) (pa_cons (pe_callB (call_isKp K) (by rfl) B.isinstance (by decide +kernel) (pa_cons (pv 0) (pa_cons (pe_glob (v := .ref C_TooMany) (by rfl) T.g_TooMany rfl) pa_nil))) pa_nil))))
 (pss_cons (ps_expr (pe_bmK K (pe_bm PySem.F.plainAttrs_list PySem.F.slot_list_append PySem.F.type_list_append mt_append (pv 1) (pa_cons (pe_callB (call_isKp K) (by rfl) B.isinstance (by decide +kernel) (pa_cons (pv 0) (pa_cons (pe_glob (v := .ref C_TooWide) (by rfl) T.g_TooWide rfl) pa_nil))) pa_nil))))
 (pss_cons (ps_expr (pe_bmK K (pe_bm PySem.F.plainAttrs_list PySem.F.slot_list_append PySem.F.type_list_append mt_append (pv 1) (pa_cons (pe_callB (call_isKp K) (by rfl) B.isinstance (by decide +kernel) (pa_cons (pv 0) (pa_cons (pe_glob (v := .ref C_BadOrder) (by rfl) T.g_BadOrder rfl) pa_nil))) pa_nil))))
 (pss_cons (ps_expr (pe_bmK K (pe_bm PySem.F.plainAttrs_list PySem.F.slot_list_append PySem.F.type_list_append mt_append (pv 1) (pa_cons (pe_callB (call_isKp K) (by rfl) B.isinstance (by decide +kernel) (pa_cons (pv 0) (pa_cons (pe_glob (v := .ref C_BadStrip) (by rfl) T.g_BadStrip rfl) pa_nil))) pa_nil))))
 (pss_cons (ps_expr (pe_bmK K (pe_bm PySem.F.plainAttrs_list PySem.F.slot_list_append PySem.F.type_list_append mt_append (pv 1) (pa_cons (pe_callB (call_isKp K) (by rfl) B.isinstance (by decide +kernel) (pa_cons (pv 0) (pa_cons (pe_glob (v := .ref C_BadDeed) (by rfl) T.g_BadDeed rfl) pa_nil))) pa_nil))))
 (pss_cons (ps_expr (pe_bmK K (pe_bm PySem.F.plainAttrs_list PySem.F.slot_list_append PySem.F.type_list_append mt_append (pv 1) (pa_cons (pe_callB (call_isKp K) (by rfl) B.isinstance (by decide +kernel) (pa_cons (pv 0) (pa_cons (pe_glob (v := .ref C_BadText) (by rfl) T.g_BadText rfl) pa_nil))) pa_nil))))
 (pss_cons (ps_expr (pe_bmK K (pe_bm PySem.F.plainAttrs_list PySem.F.slot_list_append PySem.F.type_list_append mt_append (pv 1) (pa_cons (pe_callB (call_isKp K) (by rfl) B.isinstance (by decide +kernel) (pa_cons (pv 0) (pa_cons (pe_glob (v := .ref C_NoLaying) (by rfl) T.g_NoLaying rfl) pa_nil))) pa_nil))))
 (pss_one (ps_ret (pv 1)))))))))))))), ?_⟩
  obtain ⟨b0, b1, b2, b3, b4, b5, b6, b7, b8, b9, b10, b11, b12, rfl⟩ : ∃ b0 b1 b2 b3 b4 b5 b6 b7 b8 b9 b10 b11 b12 : Bool, bs = [b0, b1, b2, b3, b4, b5, b6, b7, b8, b9, b10, b11, b12] := by
    match bs, hl with
    | [b0, b1, b2, b3, b4, b5, b6, b7, b8, b9, b10, b11, b12], _ => exact ⟨_, _, _, _, _, _, _, _, _, _, _, _, _, rfl⟩
  walk_at "sts"
  refine w_isKp F T.xf_BadTie (hb 0 _ _ rfl rfl) hk ?_
  walk_at "sts"
  refine w_isKp F T.xf_BadTurns (hb 1 _ _ rfl rfl) hk ?_
  walk_at "sts"
  refine w_isKp F T.xf_Parted (hb 2 _ _ rfl rfl) hk ?_
  walk_at "sts"
  refine w_new fun p np => ?_
  walk_at "sts"
  refine w_isKp F T.xf_NotFlat (hb 3 _ _ rfl rfl) (hk.same (by walk_at "same")) ?_
  walk_at "sts"
  refine w_isKp F T.xf_OddMarks (hb 4 _ _ rfl rfl) (hk.same (by walk_at "same")) ?_
  walk_at "sts"
  refine w_isKp F T.xf_TooRough (hb 5 _ _ rfl rfl) (hk.same (by walk_at "same")) ?_
  walk_at "sts"
  refine w_isKp F T.xf_TooMany (hb 6 _ _ rfl rfl) (hk.same (by walk_at "same")) ?_
  walk_at "sts"
  refine w_isKp F T.xf_TooWide (hb 7 _ _ rfl rfl) (hk.same (by walk_at "same")) ?_
  walk_at "sts"
  refine w_isKp F T.xf_BadOrder (hb 8 _ _ rfl rfl) (hk.same (by walk_at "same")) ?_
  walk_at "sts"
  refine w_isKp F T.xf_BadStrip (hb 9 _ _ rfl rfl) (hk.same (by walk_at "same")) ?_
  walk_at "sts"
  refine w_isKp F T.xf_BadDeed (hb 10 _ _ rfl rfl) (hk.same (by walk_at "same")) ?_
  walk_at "sts"
  refine w_isKp F T.xf_BadText (hb 11 _ _ rfl rfl) (hk.same (by walk_at "same")) ?_
  walk_at "sts"
  refine w_isKp F T.xf_NoLaying (hb 12 _ _ rfl rfl) (hk.same (by walk_at "same")) ?_
  walk_at "sts"
  exact q p _ (by walk_at "same") np upd_same
def spKept (K : PySem.W.Frag) : Sp := fun vs H Q _ => ∃ (e D dd : Addr) (n : Int), vs = [.ref e, .int n] ∧ XfC K D ∧ PySem.W.findIn K (.ref D) "at" = some none ∧ H e = some (exk e (.ref D) (some dd)) ∧ H dd = some (.xd [("at", .int n)]) ∧ Q (.bl true) H
theorem ok_law_number_kept {f : Addr} {fd : FuncData} (F : Fun K "_law_number_kept" "_law_number_kept" s_law_number_kept f fd) (gf : mg "_law_number_kept" = some (.ref f)) (B : Bl mg) {C_BadDeed C_FloorError C_BadTie C_BadTurns C_Parted C_NotFlat C_OddMarks C_TooRough C_TooMany C_TooWide C_BadOrder C_BadStrip C_BadText C_NoLaying : Addr} (T : Txt K mg C_BadDeed C_FloorError C_BadTie C_BadTurns C_Parted C_NotFlat C_OddMarks C_TooRough C_TooMany C_TooWide C_BadOrder C_BadStrip C_BadText C_NoLaying) : Has P w K mg base CX0 1 "_law_number_kept" ["error", "number"] (spKept K) := by
  refine Has.mk' F gf (F.binds (ps := ["error", "number"]) fun _ _ _ _ _ _ us hl => match us, hl with | [_, _], _ => rfl) sc_law_number_kept (by walk_at "len") (fun cdv A outer s H vs Q E hr h => ?_)
  obtain ⟨e, D, dd, n, rfl, F, hn, he, hd, q⟩ := h
  refine ⟨_, (pss_cons (ps_set (i := 2) sc_law_number_kept.nd rfl (.inl rfl) (pe_xk K (pv 0) rfl))
 (pss_one (ps_ret (pe_and (pe_callB (call_isiK' K) (by rfl) B.isinstance (by decide +kernel) (pa_cons (pv 2) (pa_cons (pe_bltn (v := .ty "int") (by rfl) B.int (by decide +kernel) rfl) pa_nil))) (pe_and (pe_not (pe_callB (call_isiK' K) (by rfl) B.isinstance (by decide +kernel) (pa_cons (pv 2) (pa_cons (pe_bltn (v := .ty "bool") (by rfl) B.bool (by decide +kernel) rfl) pa_nil)))) (pe_one (pe_cmpR op_eq (pv 2) (pv 1) (nomark _)))))))), ?_⟩
  walk_at "sts"
  refine w_xk ?_
  walk_at "sts"
  refine ⟨e, D, dd, _, .int n, rfl, F, hn, he, hd, rfl, ?_⟩
  walk_at "sts"
  rw [decide_eq_true rfl]
  exact q
end
section
variable {P : Program} {w : World} {K : PySem.W.Frag} {mg : Str → Option Value} {base : Heap} {C_BadDeed C_FloorError C_BadTie C_BadTurns C_Parted C_NotFlat C_OddMarks C_TooRough C_TooMany C_TooWide C_BadOrder C_BadStrip C_BadText C_NoLaying : Addr}
def kindsAt (k : Nat) : List Bool := (List.range 13).map fun j => decide (j + 1 = k)
theorem dpBools {K : PySem.W.Frag} {H : Hp} : ∀ bs : List Bool, DpAll K H (bs.map V.bl) (bs.map PyData.bool)
  | [] => .nil
  | b :: r => .cons (.bl b) (dpBools r)
theorem Txt.tab {K : PySem.W.Frag} {mg : Str → Option Value} {C_BadDeed C_FloorError C_BadTie C_BadTurns C_Parted C_NotFlat C_OddMarks C_TooRough C_TooMany C_TooWide C_BadOrder C_BadStrip C_BadText C_NoLaying : Addr} (T : Txt K mg C_BadDeed C_FloorError C_BadTie C_BadTurns C_Parted C_NotFlat C_OddMarks C_TooRough C_TooMany C_TooWide C_BadOrder C_BadStrip C_BadText C_NoLaying) (k : Nat) (hk : k < 14) (C : Addr) (hC : [C_FloorError, C_BadTie, C_BadTurns, C_Parted, C_NotFlat, C_OddMarks, C_TooRough, C_TooMany, C_TooWide, C_BadOrder, C_BadStrip, C_BadDeed, C_BadText, C_NoLaying][k]? = some C) : ExF K C ∧ PySem.W.subIn K (.ref C) (.ref C_FloorError) = some true ∧ KindsOf K C ([C_FloorError, C_BadTie, C_BadTurns, C_Parted, C_NotFlat, C_OddMarks, C_TooRough, C_TooMany, C_TooWide, C_BadOrder, C_BadStrip, C_BadDeed, C_BadText, C_NoLaying].tail) (kindsAt k) := by
  rcases (by omega : k = 0 ∨ k = 1 ∨ k = 2 ∨ k = 3 ∨ k = 4 ∨ k = 5 ∨ k = 6 ∨ k = 7 ∨ k = 8 ∨ k = 9 ∨ k = 10 ∨ k = 11 ∨ k = 12 ∨ k = 13) with rfl | rfl | rfl | rfl | rfl | rfl | rfl | rfl | rfl | rfl | rfl | rfl | rfl | rfl
  · cases hC
    refine ⟨T.xf_FloorError, T.sb_FloorError_FloorError, rfl, fun i D b h1 h2 => ?_⟩
    exact match i, h1, h2 with
      | 0, rfl, rfl => T.sb_FloorError_BadTie
      | 1, rfl, rfl => T.sb_FloorError_BadTurns
      | 2, rfl, rfl => T.sb_FloorError_Parted
      | 3, rfl, rfl => T.sb_FloorError_NotFlat
      | 4, rfl, rfl => T.sb_FloorError_OddMarks
      | 5, rfl, rfl => T.sb_FloorError_TooRough
      | 6, rfl, rfl => T.sb_FloorError_TooMany
      | 7, rfl, rfl => T.sb_FloorError_TooWide
      | 8, rfl, rfl => T.sb_FloorError_BadOrder
      | 9, rfl, rfl => T.sb_FloorError_BadStrip
      | 10, rfl, rfl => T.sb_FloorError_BadDeed
      | 11, rfl, rfl => T.sb_FloorError_BadText
      | 12, rfl, rfl => T.sb_FloorError_NoLaying
      | (i + 13), h1, _ => by exact absurd h1 (by intro z; cases z)
  · cases hC
    refine ⟨T.xf_BadTie, T.sb_BadTie_FloorError, rfl, fun i D b h1 h2 => ?_⟩
    exact match i, h1, h2 with
      | 0, rfl, rfl => T.sb_BadTie_BadTie
      | 1, rfl, rfl => T.sb_BadTie_BadTurns
      | 2, rfl, rfl => T.sb_BadTie_Parted
      | 3, rfl, rfl => T.sb_BadTie_NotFlat
      | 4, rfl, rfl => T.sb_BadTie_OddMarks
      | 5, rfl, rfl => T.sb_BadTie_TooRough
      | 6, rfl, rfl => T.sb_BadTie_TooMany
      | 7, rfl, rfl => T.sb_BadTie_TooWide
      | 8, rfl, rfl => T.sb_BadTie_BadOrder
      | 9, rfl, rfl => T.sb_BadTie_BadStrip
      | 10, rfl, rfl => T.sb_BadTie_BadDeed
      | 11, rfl, rfl => T.sb_BadTie_BadText
      | 12, rfl, rfl => T.sb_BadTie_NoLaying
      | (i + 13), h1, _ => by exact absurd h1 (by intro z; cases z)
  · cases hC
    refine ⟨T.xf_BadTurns, T.sb_BadTurns_FloorError, rfl, fun i D b h1 h2 => ?_⟩
    exact match i, h1, h2 with
      | 0, rfl, rfl => T.sb_BadTurns_BadTie
      | 1, rfl, rfl => T.sb_BadTurns_BadTurns
      | 2, rfl, rfl => T.sb_BadTurns_Parted
      | 3, rfl, rfl => T.sb_BadTurns_NotFlat
      | 4, rfl, rfl => T.sb_BadTurns_OddMarks
      | 5, rfl, rfl => T.sb_BadTurns_TooRough
      | 6, rfl, rfl => T.sb_BadTurns_TooMany
      | 7, rfl, rfl => T.sb_BadTurns_TooWide
      | 8, rfl, rfl => T.sb_BadTurns_BadOrder
      | 9, rfl, rfl => T.sb_BadTurns_BadStrip
      | 10, rfl, rfl => T.sb_BadTurns_BadDeed
      | 11, rfl, rfl => T.sb_BadTurns_BadText
      | 12, rfl, rfl => T.sb_BadTurns_NoLaying
      | (i + 13), h1, _ => by exact absurd h1 (by intro z; cases z)
  · cases hC
    refine ⟨T.xf_Parted, T.sb_Parted_FloorError, rfl, fun i D b h1 h2 => ?_⟩
    exact match i, h1, h2 with
      | 0, rfl, rfl => T.sb_Parted_BadTie
      | 1, rfl, rfl => T.sb_Parted_BadTurns
      | 2, rfl, rfl => T.sb_Parted_Parted
      | 3, rfl, rfl => T.sb_Parted_NotFlat
      | 4, rfl, rfl => T.sb_Parted_OddMarks
      | 5, rfl, rfl => T.sb_Parted_TooRough
      | 6, rfl, rfl => T.sb_Parted_TooMany
      | 7, rfl, rfl => T.sb_Parted_TooWide
      | 8, rfl, rfl => T.sb_Parted_BadOrder
      | 9, rfl, rfl => T.sb_Parted_BadStrip
      | 10, rfl, rfl => T.sb_Parted_BadDeed
      | 11, rfl, rfl => T.sb_Parted_BadText
      | 12, rfl, rfl => T.sb_Parted_NoLaying
      | (i + 13), h1, _ => by exact absurd h1 (by intro z; cases z)
  · cases hC
    refine ⟨T.xf_NotFlat, T.sb_NotFlat_FloorError, rfl, fun i D b h1 h2 => ?_⟩
    exact match i, h1, h2 with
      | 0, rfl, rfl => T.sb_NotFlat_BadTie
      | 1, rfl, rfl => T.sb_NotFlat_BadTurns
      | 2, rfl, rfl => T.sb_NotFlat_Parted
      | 3, rfl, rfl => T.sb_NotFlat_NotFlat
      | 4, rfl, rfl => T.sb_NotFlat_OddMarks
      | 5, rfl, rfl => T.sb_NotFlat_TooRough
      | 6, rfl, rfl => T.sb_NotFlat_TooMany
      | 7, rfl, rfl => T.sb_NotFlat_TooWide
      | 8, rfl, rfl => T.sb_NotFlat_BadOrder
      | 9, rfl, rfl => T.sb_NotFlat_BadStrip
      | 10, rfl, rfl => T.sb_NotFlat_BadDeed
      | 11, rfl, rfl => T.sb_NotFlat_BadText
      | 12, rfl, rfl => T.sb_NotFlat_NoLaying
      | (i + 13), h1, _ => by exact absurd h1 (by intro z; cases z)
  · cases hC
    refine ⟨T.xf_OddMarks, T.sb_OddMarks_FloorError, rfl, fun i D b h1 h2 => ?_⟩
    exact match i, h1, h2 with
      | 0, rfl, rfl => T.sb_OddMarks_BadTie
      | 1, rfl, rfl => T.sb_OddMarks_BadTurns
      | 2, rfl, rfl => T.sb_OddMarks_Parted
      | 3, rfl, rfl => T.sb_OddMarks_NotFlat
      | 4, rfl, rfl => T.sb_OddMarks_OddMarks
      | 5, rfl, rfl => T.sb_OddMarks_TooRough
      | 6, rfl, rfl => T.sb_OddMarks_TooMany
      | 7, rfl, rfl => T.sb_OddMarks_TooWide
      | 8, rfl, rfl => T.sb_OddMarks_BadOrder
      | 9, rfl, rfl => T.sb_OddMarks_BadStrip
      | 10, rfl, rfl => T.sb_OddMarks_BadDeed
      | 11, rfl, rfl => T.sb_OddMarks_BadText
      | 12, rfl, rfl => T.sb_OddMarks_NoLaying
      | (i + 13), h1, _ => by exact absurd h1 (by intro z; cases z)
  · cases hC
    refine ⟨T.xf_TooRough, T.sb_TooRough_FloorError, rfl, fun i D b h1 h2 => ?_⟩
    exact match i, h1, h2 with
      | 0, rfl, rfl => T.sb_TooRough_BadTie
      | 1, rfl, rfl => T.sb_TooRough_BadTurns
      | 2, rfl, rfl => T.sb_TooRough_Parted
      | 3, rfl, rfl => T.sb_TooRough_NotFlat
      | 4, rfl, rfl => T.sb_TooRough_OddMarks
      | 5, rfl, rfl => T.sb_TooRough_TooRough
      | 6, rfl, rfl => T.sb_TooRough_TooMany
      | 7, rfl, rfl => T.sb_TooRough_TooWide
      | 8, rfl, rfl => T.sb_TooRough_BadOrder
      | 9, rfl, rfl => T.sb_TooRough_BadStrip
      | 10, rfl, rfl => T.sb_TooRough_BadDeed
      | 11, rfl, rfl => T.sb_TooRough_BadText
      | 12, rfl, rfl => T.sb_TooRough_NoLaying
      | (i + 13), h1, _ => by exact absurd h1 (by intro z; cases z)
  · cases hC
    refine ⟨T.xf_TooMany, T.sb_TooMany_FloorError, rfl, fun i D b h1 h2 => ?_⟩
    exact match i, h1, h2 with
      | 0, rfl, rfl => T.sb_TooMany_BadTie
      | 1, rfl, rfl => T.sb_TooMany_BadTurns
      | 2, rfl, rfl => T.sb_TooMany_Parted
      | 3, rfl, rfl => T.sb_TooMany_NotFlat
      | 4, rfl, rfl => T.sb_TooMany_OddMarks
      | 5, rfl, rfl => T.sb_TooMany_TooRough
      | 6, rfl, rfl => T.sb_TooMany_TooMany
      | 7, rfl, rfl => T.sb_TooMany_TooWide
      | 8, rfl, rfl => T.sb_TooMany_BadOrder
      | 9, rfl, rfl => T.sb_TooMany_BadStrip
      | 10, rfl, rfl => T.sb_TooMany_BadDeed
      | 11, rfl, rfl => T.sb_TooMany_BadText
      | 12, rfl, rfl => T.sb_TooMany_NoLaying
      | (i + 13), h1, _ => by exact absurd h1 (by intro z; cases z)
  · cases hC
    refine ⟨T.xf_TooWide, T.sb_TooWide_FloorError, rfl, fun i D b h1 h2 => ?_⟩
    exact match i, h1, h2 with
      | 0, rfl, rfl => T.sb_TooWide_BadTie
      | 1, rfl, rfl => T.sb_TooWide_BadTurns
      | 2, rfl, rfl => T.sb_TooWide_Parted
      | 3, rfl, rfl => T.sb_TooWide_NotFlat
      | 4, rfl, rfl => T.sb_TooWide_OddMarks
      | 5, rfl, rfl => T.sb_TooWide_TooRough
      | 6, rfl, rfl => T.sb_TooWide_TooMany
      | 7, rfl, rfl => T.sb_TooWide_TooWide
      | 8, rfl, rfl => T.sb_TooWide_BadOrder
      | 9, rfl, rfl => T.sb_TooWide_BadStrip
      | 10, rfl, rfl => T.sb_TooWide_BadDeed
      | 11, rfl, rfl => T.sb_TooWide_BadText
      | 12, rfl, rfl => T.sb_TooWide_NoLaying
      | (i + 13), h1, _ => by exact absurd h1 (by intro z; cases z)
  · cases hC
    refine ⟨T.xf_BadOrder, T.sb_BadOrder_FloorError, rfl, fun i D b h1 h2 => ?_⟩
    exact match i, h1, h2 with
      | 0, rfl, rfl => T.sb_BadOrder_BadTie
      | 1, rfl, rfl => T.sb_BadOrder_BadTurns
      | 2, rfl, rfl => T.sb_BadOrder_Parted
      | 3, rfl, rfl => T.sb_BadOrder_NotFlat
      | 4, rfl, rfl => T.sb_BadOrder_OddMarks
      | 5, rfl, rfl => T.sb_BadOrder_TooRough
      | 6, rfl, rfl => T.sb_BadOrder_TooMany
      | 7, rfl, rfl => T.sb_BadOrder_TooWide
      | 8, rfl, rfl => T.sb_BadOrder_BadOrder
      | 9, rfl, rfl => T.sb_BadOrder_BadStrip
      | 10, rfl, rfl => T.sb_BadOrder_BadDeed
      | 11, rfl, rfl => T.sb_BadOrder_BadText
      | 12, rfl, rfl => T.sb_BadOrder_NoLaying
      | (i + 13), h1, _ => by exact absurd h1 (by intro z; cases z)
  · cases hC
    refine ⟨T.xf_BadStrip, T.sb_BadStrip_FloorError, rfl, fun i D b h1 h2 => ?_⟩
    exact match i, h1, h2 with
      | 0, rfl, rfl => T.sb_BadStrip_BadTie
      | 1, rfl, rfl => T.sb_BadStrip_BadTurns
      | 2, rfl, rfl => T.sb_BadStrip_Parted
      | 3, rfl, rfl => T.sb_BadStrip_NotFlat
      | 4, rfl, rfl => T.sb_BadStrip_OddMarks
      | 5, rfl, rfl => T.sb_BadStrip_TooRough
      | 6, rfl, rfl => T.sb_BadStrip_TooMany
      | 7, rfl, rfl => T.sb_BadStrip_TooWide
      | 8, rfl, rfl => T.sb_BadStrip_BadOrder
      | 9, rfl, rfl => T.sb_BadStrip_BadStrip
      | 10, rfl, rfl => T.sb_BadStrip_BadDeed
      | 11, rfl, rfl => T.sb_BadStrip_BadText
      | 12, rfl, rfl => T.sb_BadStrip_NoLaying
      | (i + 13), h1, _ => by exact absurd h1 (by intro z; cases z)
  · cases hC
    refine ⟨T.xf_BadDeed, T.sb_BadDeed_FloorError, rfl, fun i D b h1 h2 => ?_⟩
    exact match i, h1, h2 with
      | 0, rfl, rfl => T.sb_BadDeed_BadTie
      | 1, rfl, rfl => T.sb_BadDeed_BadTurns
      | 2, rfl, rfl => T.sb_BadDeed_Parted
      | 3, rfl, rfl => T.sb_BadDeed_NotFlat
      | 4, rfl, rfl => T.sb_BadDeed_OddMarks
      | 5, rfl, rfl => T.sb_BadDeed_TooRough
      | 6, rfl, rfl => T.sb_BadDeed_TooMany
      | 7, rfl, rfl => T.sb_BadDeed_TooWide
      | 8, rfl, rfl => T.sb_BadDeed_BadOrder
      | 9, rfl, rfl => T.sb_BadDeed_BadStrip
      | 10, rfl, rfl => T.sb_BadDeed_BadDeed
      | 11, rfl, rfl => T.sb_BadDeed_BadText
      | 12, rfl, rfl => T.sb_BadDeed_NoLaying
      | (i + 13), h1, _ => by exact absurd h1 (by intro z; cases z)
  · cases hC
    refine ⟨T.xf_BadText, T.sb_BadText_FloorError, rfl, fun i D b h1 h2 => ?_⟩
    exact match i, h1, h2 with
      | 0, rfl, rfl => T.sb_BadText_BadTie
      | 1, rfl, rfl => T.sb_BadText_BadTurns
      | 2, rfl, rfl => T.sb_BadText_Parted
      | 3, rfl, rfl => T.sb_BadText_NotFlat
      | 4, rfl, rfl => T.sb_BadText_OddMarks
      | 5, rfl, rfl => T.sb_BadText_TooRough
      | 6, rfl, rfl => T.sb_BadText_TooMany
      | 7, rfl, rfl => T.sb_BadText_TooWide
      | 8, rfl, rfl => T.sb_BadText_BadOrder
      | 9, rfl, rfl => T.sb_BadText_BadStrip
      | 10, rfl, rfl => T.sb_BadText_BadDeed
      | 11, rfl, rfl => T.sb_BadText_BadText
      | 12, rfl, rfl => T.sb_BadText_NoLaying
      | (i + 13), h1, _ => by exact absurd h1 (by intro z; cases z)
  · cases hC
    refine ⟨T.xf_NoLaying, T.sb_NoLaying_FloorError, rfl, fun i D b h1 h2 => ?_⟩
    exact match i, h1, h2 with
      | 0, rfl, rfl => T.sb_NoLaying_BadTie
      | 1, rfl, rfl => T.sb_NoLaying_BadTurns
      | 2, rfl, rfl => T.sb_NoLaying_Parted
      | 3, rfl, rfl => T.sb_NoLaying_NotFlat
      | 4, rfl, rfl => T.sb_NoLaying_OddMarks
      | 5, rfl, rfl => T.sb_NoLaying_TooRough
      | 6, rfl, rfl => T.sb_NoLaying_TooMany
      | 7, rfl, rfl => T.sb_NoLaying_TooWide
      | 8, rfl, rfl => T.sb_NoLaying_BadOrder
      | 9, rfl, rfl => T.sb_NoLaying_BadStrip
      | 10, rfl, rfl => T.sb_NoLaying_BadDeed
      | 11, rfl, rfl => T.sb_NoLaying_BadText
      | 12, rfl, rfl => T.sb_NoLaying_NoLaying
      | (i + 13), h1, _ => by exact absurd h1 (by intro z; cases z)
end
section
variable {P : Program} {w : World} {K : PySem.W.Frag} {mg : Str → Option Value} {base : Heap} {C_BadDeed C_FloorError C_BadTie C_BadTurns C_Parted C_NotFlat C_OddMarks C_TooRough C_TooMany C_TooWide C_BadOrder C_BadStrip C_BadText C_NoLaying : Addr}
def spLaw (K : PySem.W.Frag) : Sp := fun vs H Q _ => ∃ (a : Addr) (ns : List Int), vs = [.ref a] ∧ LsE K H a (ns.map V.int) ∧ ns.length ≤ 63 ∧ (∀ z ∈ ns, Builtin.Int.intBits z ≤ 1048576) ∧ ∀ H', Q (.bl true) H'
theorem ok_law {f : Addr} {fd : FuncData} (F : Fun K "law" "law" s_law f fd) (B : Bl mg) {C_BadDeed C_FloorError C_BadTie C_BadTurns C_Parted C_NotFlat C_OddMarks C_TooRough C_TooMany C_TooWide C_BadOrder C_BadStrip C_BadText C_NoLaying : Addr} (T : Txt K mg C_BadDeed C_FloorError C_BadTie C_BadTurns C_Parted C_NotFlat C_OddMarks C_TooRough C_TooMany C_TooWide C_BadOrder C_BadStrip C_BadText C_NoLaying) (h_law_raise : Has P w K mg base (L2.CX P w) 3 "_law_raise" ["which", "number"] (spRaise [C_FloorError, C_BadTie, C_BadTurns, C_Parted, C_NotFlat, C_OddMarks, C_TooRough, C_TooMany, C_TooWide, C_BadOrder, C_BadStrip, C_BadDeed] C_BadText C_NoLaying)) (h_law_kinds : Has P w K mg base CX0 1 "_law_kinds" ["error"] (spKinds K [C_BadTie, C_BadTurns, C_Parted, C_NotFlat, C_OddMarks, C_TooRough, C_TooMany, C_TooWide, C_BadOrder, C_BadStrip, C_BadDeed, C_BadText, C_NoLaying])) (h_law_number_kept : Has P w K mg base CX0 1 "_law_number_kept" ["error", "number"] (spKept K)) : FnOk P w K mg base CX0 4 f fd ["script"] (spLaw K) := by
  refine F.ok sc_law (by walk_at "len") (fun cdv A outer s H vs Q E hr h => ?_)
  obtain ⟨a, ns, rfl, hS, hlen, _, q⟩ := h
  have hS0 := hS.sq
  refine ⟨_, (pss_cons (ps_for PassesOwn.never rfl (pi_listK K (pv 0)) (pg_name (i := 1) sc_law.nd rfl (.inl rfl)) (pss_cons (ps_set (i := 2) sc_law.nd rfl (.inr rfl) (pe_op op_mod (pv 1) pe_int))
 (pss_cons (ps_set (i := 3) sc_law.nd rfl (.inl rfl) (pe_op op_mod (pe_op op_fdivW (pv 1) pe_int) (pe_op op_add (pe_op op_pow pe_int pe_int) pe_int)))
 (pss_cons (ps_set (i := 4) sc_law.nd rfl (.inl rfl) pe_non)
 (pss_cutX (ps_try_keep (i := 5) rfl rfl sc_law.nd rfl rfl ⟨rfl, by decide, .inl T.g_FloorError⟩ takes0 (fun W pn xe tk pw => (pss_one (ps_expr (pe_fnS tk h_law_raise (hr.mono (by decide)) (by rfl) (pa_cons (pv 2) (pa_cons (pv 3) pa_nil)))))) (fun a oe cls d pn hz hf => (pss_one (ps_set (i := 4) sc_law.nd rfl (.inl rfl) (pv 5)))))
 (pss_cons (ps_if (PW.pt (pw_or (pt_not (pt_val (pe_callB (call_isKp K) (by rfl) B.isinstance (by decide +kernel) (pa_cons (pv 4) (pa_cons (pe_glob (v := .ref C_FloorError) (by rfl) T.g_FloorError rfl) pa_nil))))) (pw_or1 (pt_not (pt_val (pe_callB (call_isKp K) (by rfl) B.isinstance (by decide +kernel) (pa_cons (pv 4) (pa_cons (pe_bltn (v := .ty "ValueError") (by rfl) B.ValueError (by decide +kernel) rfl) pa_nil)))))))) (pss_one (ps_ret pe_bl)) pss_nil)
 (pss_cons (ps_if (pt_cmpR (op_neDK K hr.units) (pe_fn h_law_kinds (hr.mono (by decide)) (by rfl) (pa_cons (pv 4) pa_nil)) (pe_lc (own := [("k", 6)]) rfl sc_law.nd (pi_range1 (by rfl) B.range (pa_cons pe_int pa_nil)) (blkOk_by (own := [("k", 6)]) (N := ["script", "cell", "which", "number", "found", "e", "k"]) (sc := defScope s_law) (by decide +kernel)) (fun _ _ _ _ _ => pg_name (i := 6) sc_law.nd rfl (Or.inl rfl)) (fun _ _ _ _ _ => pts_nil) (fun _ _ _ _ _ => (pe_cmpR op_eq (pe_op op_add (pv 6) pe_int) (pv 2) (nomark _)))) (nomark _)) (pss_one (ps_ret pe_bl)) pss_nil)
 (pss_one (ps_if (PW.pt (pw_and (pt_cmpR op_gt (pv 2) pe_int (nomark _)) (pw_and1 (pt_not (pt_val (pe_fn h_law_number_kept (hr.mono (by decide)) (by rfl) (pa_cons (pv 4) (pa_cons (pv 3) pa_nil)))))))) (pss_one (ps_ret pe_bl)) pss_nil)))))))))
 (pss_one (ps_ret pe_bl))), ?_⟩
  walk_at "sts"
  refine for_list (xs := ns.map V.int) (fun i σ H' => ∃ (y1 y2 y3 y4 y5 y6 : Option V), σ = [some (.ref a), y1, y2, y3, y4, y5, y6] ∧ Same H H') ?_ ?_ ?_ ?_
  · exact ⟨_, _, _, _, _, _, rfl, Same.refl _⟩
  · rintro i σ H' _ ⟨_, _, _, _, _, _, rfl, s1⟩
    exact s1.seq hS0
  · rintro i v σ H' hv ⟨y1, y2, y3, y4, y5, y6, rfl, s1⟩
    rw [List.getElem?_map] at hv
    obtain ⟨cell, hc, rfl⟩ := Option.map_eq_some_iff.mp hv
    walk_at "sts"
    rw [show (10 : Int) ^ Int.toNat 30 + 1 = 1000000000000000000000000000001 by decide]
    walk_at "sts"
    obtain ⟨k, hk, hk14⟩ : ∃ k : Nat, cell % 14 = (k : Int) ∧ k < 14 := ⟨(cell % 14).toNat, by omega, by omega⟩
    generalize cell / 14 % 1000000000000000000000000000001 = n
    rw [hk]
    dsimp only
    refine w_cut (fun σ' H2 => ∃ (e C : Addr) (d : Option Addr) (y5 : Option V), σ' = [some (.ref a), some (.int cell), some (.int (k : Nat)), some (.int n), some (.ref e), y5, y6] ∧ Same H' H2 ∧ Kept K H2 e C d ∧ [C_FloorError, C_BadTie, C_BadTurns, C_Parted, C_NotFlat, C_OddMarks, C_TooRough, C_TooMany, C_TooWide, C_BadOrder, C_BadStrip, C_BadDeed, C_BadText, C_NoLaying][k]? = some C ∧ (11 < k → ∃ dd, d = some dd ∧ H2 dd = some (.xd [("at", .int n)]))) ?_ ?_
    · walk_at "sts"
      refine ⟨k, n, rfl, hk14, fun C hC => ?_, fun C hC d nd => ?_⟩
      · have hA : [C_FloorError, C_BadTie, C_BadTurns, C_Parted, C_NotFlat, C_OddMarks, C_TooRough, C_TooMany, C_TooWide, C_BadOrder, C_BadStrip, C_BadDeed, C_BadText, C_NoLaying][k]? = some C := by
          rw [show [C_FloorError, C_BadTie, C_BadTurns, C_Parted, C_NotFlat, C_OddMarks, C_TooRough, C_TooMany, C_TooWide, C_BadOrder, C_BadStrip, C_BadDeed, C_BadText, C_NoLaying] = [C_FloorError, C_BadTie, C_BadTurns, C_Parted, C_NotFlat, C_OddMarks, C_TooRough, C_TooMany, C_TooWide, C_BadOrder, C_BadStrip, C_BadDeed] ++ [C_BadText, C_NoLaying] from rfl, List.getElem?_append_left (List.getElem?_eq_some_iff.mp hC).1]
          exact hC
        obtain ⟨F1, F2, _⟩ := T.tab k hk14 C hA
        refine ⟨true, T.xf_FloorError.exm F2, fun _ x nx => ?_, fun z => by cases z⟩
        walk_at "sts"
        refine fun nx' => ?_
        walk_at "sts"
        refine ⟨x, C, none, _, rfl, same_upd nx', ⟨upd_same, .inl rfl⟩, hA, fun h => ?_⟩
        have := (List.getElem?_eq_some_iff.mp hC).1
        exact absurd (show k < 12 from this) (by omega)
      · have hA : [C_FloorError, C_BadTie, C_BadTurns, C_Parted, C_NotFlat, C_OddMarks, C_TooRough, C_TooMany, C_TooWide, C_BadOrder, C_BadStrip, C_BadDeed, C_BadText, C_NoLaying][k]? = some C := by
          rcases hC with ⟨rfl, rfl⟩ | ⟨rfl, rfl⟩ <;> rfl
        obtain ⟨F1, F2, _⟩ := T.tab k hk14 C hA
        refine ⟨true, T.xf_FloorError.exm F2, fun _ x nx => ?_, fun z => by cases z⟩
        walk_at "sts"
        refine fun nx' => ?_
        walk_at "sts"
        have td := same_upd (o := .xd [("at", .int n)]) nd
        have ld : upd H' d (.xd [("at", .int n)]) d = some (.xd [("at", .int n)]) := upd_same
        have tx := same_upd (o := exk x (.ref C) (some d)) nx'
        exact ⟨x, C, some d, _, rfl, td.trans tx, ⟨upd_same, .inr ⟨d, _, rfl, tx _ _ ld⟩⟩, hA, fun _ => ⟨d, rfl, tx _ _ ld⟩⟩
    rintro σ' H2 ⟨e, C, d, y5, rfl, s2, hK, hA, hd⟩
    obtain ⟨F1, F2, F3⟩ := T.tab k hk14 C hA
    walk_at "sts"
    refine w_isKp F1 T.xf_FloorError F2 hK ?_
    walk_at "sts"
    refine w_isKpV F1 hK ?_
    walk_at "sts"
    refine ⟨e, C, d, _, rfl, F1, hK, F3, fun l H3 s3 nl hl => ?_⟩
    walk_at "sts"
    intro D nD
    refine lc_r0 (n := 13) rfl (fun j H' => H' D = some (.lst ((List.range j).map fun j => V.bl (decide (j + 1 = k)))) ∧ Same H3 H') ?_ ?_ ?_
    · exact ⟨upd_same, same_upd nD⟩
    · rintro j H4 hj ⟨l1, s4⟩
      walk_at "sts"
      refine ⟨_, l1, szlt (by rw [List.length_map, List.length_range]; omega), ?_, s4.mut nD⟩
      rw [upd_same, List.range_succ, List.map_append, show decide (((j : Nat) : Int) + 1 = (k : Nat)) = decide (j + 1 = k) from decide_eq_decide.mpr (by omega)]
      rfl
    rintro H4 ⟨l4, s4⟩
    have hl4 := s4 _ _ hl
    have l5 : H4 D = some (.lst ((kindsAt k).map V.bl)) := by rw [l4, kindsAt, List.map_map]; rfl
    walk_at "sts"
    refine w_neD (.lst (SqL.of hl4) (dpBools _)) (.lst (SqL.of l5) (dpBools _)) (goodLst (n := 0) (goodMap fun _ => goodBool)) (by decide) ?_
    walk_at "sts"
    refine ifd (fun h11 => ?_) (fun h11 => ?_)
    · obtain ⟨dd, rfl, hdd⟩ := hd (by omega)
      walk_at "sts"
      refine ⟨e, C, dd, n, rfl, F1.xf, ?_, (s3.trans s4) _ _ hK.1, (s3.trans s4) _ _ hdd, ?_⟩
      · rcases (by omega : k = 12 ∨ k = 13) with rfl | rfl
        · cases hA; exact T.na_BadText
        · cases hA; exact T.na_NoLaying
      walk_at "sts"
      exact ⟨_, _, _, _, _, _, rfl, s1.trans (s2.trans (s3.trans s4))⟩
    · walk_at "sts"
      exact ⟨_, _, _, _, _, _, rfl, s1.trans (s2.trans (s3.trans s4))⟩
  · rintro σ H1 ⟨_, _, _, _, _, _, rfl, s1⟩
    walk_at "sts"
    exact q _
end
theorem all_mk {l : PySem.W.OpenLaw} {w : World} {K : PySem.W.Frag} {h : Heap} {mg : Str → Option Value} {fa f0 f1 f2 f3 f4 f5 f6 f7 C_BadDeed C_FloorError C_BadTie C_BadTurns C_Parted C_NotFlat C_OddMarks C_TooRough C_TooMany C_TooWide C_BadOrder C_BadStrip C_BadText C_NoLaying : Addr} (X : K.In h) (G : h.Ns mainGlobals mg) (hfa : mg "law" = some (.ref fa))
    {nm_BadText q_BadText : Str} {N_BadText : Addr} {bs_BadText : List Value} {sn_BadText : List Str} {su_BadText : List Value} {ab_BadText : Bool} {col_BadText : Option Bool} {dd_BadText : Option Addr} {m0_BadText m1_BadText m2_BadText m3_BadText m5_BadText : Option Value}
    {nm_NoLaying q_NoLaying : Str} {N_NoLaying : Addr} {bs_NoLaying : List Value} {sn_NoLaying : List Str} {su_NoLaying : List Value} {ab_NoLaying : Bool} {col_NoLaying : Option Bool} {dd_NoLaying : Option Addr} {m0_NoLaying m1_NoLaying m2_NoLaying m3_NoLaying m5_NoLaying : Option Value}
    {od0 an0 od1 an1 od2 an2 od3 an3 od4 an4 od5 an5 od6 an6 od7 an7 : Option Addr} {sl0 sl1 sl2 sl3 sl4 sl5 sl6 sl7 : Array (Option Value)} {oc0 kV0 dc0 pm0 cd0 ct0 oc1 kV1 dc1 pm1 cd1 ct1 oc2 kV2 dc2 pm2 cd2 ct2 oc3 kV3 dc3 pm3 cd3 ct3 oc4 kV4 dc4 pm4 cd4 ct4 oc5 kV5 dc5 pm5 cd5 ct5 oc6 kV6 dc6 pm6 cd6 ct6 oc7 kV7 dc7 pm7 cd7 ct7 : Value}
    (g_BadDeed : PySem.W.nsIn K mainGlobals "BadDeed" = some (some (.ref C_BadDeed)))
    (g_FloorError : PySem.W.nsIn K mainGlobals "FloorError" = some (some (.ref C_FloorError)))
    (g_BadTie : PySem.W.nsIn K mainGlobals "BadTie" = some (some (.ref C_BadTie)))
    (g_BadTurns : PySem.W.nsIn K mainGlobals "BadTurns" = some (some (.ref C_BadTurns)))
    (g_Parted : PySem.W.nsIn K mainGlobals "Parted" = some (some (.ref C_Parted)))
    (g_NotFlat : PySem.W.nsIn K mainGlobals "NotFlat" = some (some (.ref C_NotFlat)))
    (g_OddMarks : PySem.W.nsIn K mainGlobals "OddMarks" = some (some (.ref C_OddMarks)))
    (g_TooRough : PySem.W.nsIn K mainGlobals "TooRough" = some (some (.ref C_TooRough)))
    (g_TooMany : PySem.W.nsIn K mainGlobals "TooMany" = some (some (.ref C_TooMany)))
    (g_TooWide : PySem.W.nsIn K mainGlobals "TooWide" = some (some (.ref C_TooWide)))
    (g_BadOrder : PySem.W.nsIn K mainGlobals "BadOrder" = some (some (.ref C_BadOrder)))
    (g_BadStrip : PySem.W.nsIn K mainGlobals "BadStrip" = some (some (.ref C_BadStrip)))
    (g_BadText : PySem.W.nsIn K mainGlobals "BadText" = some (some (.ref C_BadText)))
    (g_NoLaying : PySem.W.nsIn K mainGlobals "NoLaying" = some (some (.ref C_NoLaying)))
    (r0_BadText : PySem.W.findIn K (.ref C_BadText) "__init__" = some (some (.ref f0)))
    (ti0_BadText : PySem.W.typeIn K (.ref f0) = some (.type "function"))
    (xL_BadText : K.lookup C_BadText = some (excClassObj nm_BadText q_BadText C_BadText N_BadText bs_BadText [.ref C_FloorError, .type "ValueError", .type "Exception", .type "BaseException", .type "object"] true sn_BadText su_BadText ab_BadText col_BadText dd_BadText m0_BadText m1_BadText m2_BadText m3_BadText m5_BadText "ValueError.__new__"))
    (sa_BadText : PySem.W.findIn K (.ref C_BadText) "__setattr__" = some (some (.builtin "object.__setattr__")))
    (na_BadText : PySem.W.findIn K (.ref C_BadText) "at" = some none)
    (i0 : PySem.W.isFn K (.ref f0) = true)
    (l0 : K.lookup f0 = some ⟨oc0, od0, .func (PySem.W.fnOf "__init__" "BadText.__init__" (defArgs s_BadText___init__) (defBody s_BadText___init__) (defScope s_BadText___init__) .none kV0 dc0 pm0 an0 cd0 ct0), sl0⟩)
    (c0 : PySem.W.codeIn K cd0 "BadText.__init__" = true)
    (k0 : PySem.W.keepIn K (.ref f0) = true)
    (r1_NoLaying : PySem.W.findIn K (.ref C_NoLaying) "__init__" = some (some (.ref f1)))
    (ti1_NoLaying : PySem.W.typeIn K (.ref f1) = some (.type "function"))
    (xL_NoLaying : K.lookup C_NoLaying = some (excClassObj nm_NoLaying q_NoLaying C_NoLaying N_NoLaying bs_NoLaying [.ref C_FloorError, .type "ValueError", .type "Exception", .type "BaseException", .type "object"] true sn_NoLaying su_NoLaying ab_NoLaying col_NoLaying dd_NoLaying m0_NoLaying m1_NoLaying m2_NoLaying m3_NoLaying m5_NoLaying "ValueError.__new__"))
    (sa_NoLaying : PySem.W.findIn K (.ref C_NoLaying) "__setattr__" = some (some (.builtin "object.__setattr__")))
    (na_NoLaying : PySem.W.findIn K (.ref C_NoLaying) "at" = some none)
    (i1 : PySem.W.isFn K (.ref f1) = true)
    (l1 : K.lookup f1 = some ⟨oc1, od1, .func (PySem.W.fnOf "__init__" "NoLaying.__init__" (defArgs s_NoLaying___init__) (defBody s_NoLaying___init__) (defScope s_NoLaying___init__) .none kV1 dc1 pm1 an1 cd1 ct1), sl1⟩)
    (c1 : PySem.W.codeIn K cd1 "NoLaying.__init__" = true)
    (k1 : PySem.W.keepIn K (.ref f1) = true)
    (a2 : PySem.W.nsIn K mainGlobals "_law_raise_bare" = some (some (.ref f2)))
    (l2 : K.lookup f2 = some ⟨oc2, od2, .func (PySem.W.fnOf "_law_raise_bare" "_law_raise_bare" (defArgs s_law_raise_bare) (defBody s_law_raise_bare) (defScope s_law_raise_bare) .none kV2 dc2 pm2 an2 cd2 ct2), sl2⟩)
    (c2 : PySem.W.codeIn K cd2 "_law_raise_bare" = true)
    (k2 : PySem.W.keepIn K (.ref f2) = true)
    (a3 : PySem.W.nsIn K mainGlobals "_law_raise_words" = some (some (.ref f3)))
    (l3 : K.lookup f3 = some ⟨oc3, od3, .func (PySem.W.fnOf "_law_raise_words" "_law_raise_words" (defArgs s_law_raise_words) (defBody s_law_raise_words) (defScope s_law_raise_words) .none kV3 dc3 pm3 an3 cd3 ct3), sl3⟩)
    (c3 : PySem.W.codeIn K cd3 "_law_raise_words" = true)
    (k3 : PySem.W.keepIn K (.ref f3) = true)
    (a4 : PySem.W.nsIn K mainGlobals "_law_raise" = some (some (.ref f4)))
    (l4 : K.lookup f4 = some ⟨oc4, od4, .func (PySem.W.fnOf "_law_raise" "_law_raise" (defArgs s_law_raise) (defBody s_law_raise) (defScope s_law_raise) .none kV4 dc4 pm4 an4 cd4 ct4), sl4⟩)
    (c4 : PySem.W.codeIn K cd4 "_law_raise" = true)
    (k4 : PySem.W.keepIn K (.ref f4) = true)
    (a5 : PySem.W.nsIn K mainGlobals "_law_kinds" = some (some (.ref f5)))
    (l5 : K.lookup f5 = some ⟨oc5, od5, .func (PySem.W.fnOf "_law_kinds" "_law_kinds" (defArgs s_law_kinds) (defBody s_law_kinds) (defScope s_law_kinds) .none kV5 dc5 pm5 an5 cd5 ct5), sl5⟩)
    (c5 : PySem.W.codeIn K cd5 "_law_kinds" = true)
    (k5 : PySem.W.keepIn K (.ref f5) = true)
    (a6 : PySem.W.nsIn K mainGlobals "_law_number_kept" = some (some (.ref f6)))
    (l6 : K.lookup f6 = some ⟨oc6, od6, .func (PySem.W.fnOf "_law_number_kept" "_law_number_kept" (defArgs s_law_number_kept) (defBody s_law_number_kept) (defScope s_law_number_kept) .none kV6 dc6 pm6 an6 cd6 ct6), sl6⟩)
    (c6 : PySem.W.codeIn K cd6 "_law_number_kept" = true)
    (k6 : PySem.W.keepIn K (.ref f6) = true)
    (a7 : PySem.W.nsIn K mainGlobals "law" = some (some (.ref f7)))
    (l7 : K.lookup f7 = some ⟨oc7, od7, .func (PySem.W.fnOf "law" "law" (defArgs s_law) (defBody s_law) (defScope s_law) .none kV7 dc7 pm7 an7 cd7 ct7), sl7⟩)
    (c7 : PySem.W.codeIn K cd7 "law" = true)
    (k7 : PySem.W.keepIn K (.ref f7) = true)
    (z_isinstance : PySem.W.nsIn K mainGlobals "isinstance" = some none)
    (z_int : PySem.W.nsIn K mainGlobals "int" = some none)
    (z_bool : PySem.W.nsIn K mainGlobals "bool" = some none)
    (z_ValueError : PySem.W.nsIn K mainGlobals "ValueError" = some none)
    (z_range : PySem.W.nsIn K mainGlobals "range" = some none)
    (x_og : PySem.W.specialIn K (.builtin "object.__class__") "__get__" = some (some (.builtin "getset_descriptor.__get__")))
    (x_ot : PySem.W.takesIn K (.builtin "object.__class__") = some true)
    (x_kp_BadDeed : PySem.W.keepIn K (.ref C_BadDeed) = true)
    (x_be_BadDeed : PySem.W.subIn K (.ref C_BadDeed) (.type "BaseException") = some true)
    (x_ty_BadDeed : PySem.W.typeIn K (.ref C_BadDeed) = some (.type "type"))
    (x_cl_BadDeed : PySem.W.isClsIn K C_BadDeed = true)
    (x_hd_BadDeed : PySem.W.hasDictIn K C_BadDeed = true)
    (x_ga_BadDeed : PySem.W.findIn K (.ref C_BadDeed) "__getattribute__" = some (some (.builtin "BaseException.__getattribute__")))
    (x_gg_BadDeed : PySem.W.findIn K (.ref C_BadDeed) "__getattr__" = some none)
    (x_oc_BadDeed : PySem.W.findIn K (.ref C_BadDeed) "__class__" = some (some (.builtin "object.__class__")))
    (x_om_BadDeed : PySem.W.mroIn K C_BadDeed (.type "object") = some true)
    (x_sv_BadDeed : PySem.W.subIn K (.ref C_BadDeed) (.type "ValueError") = some true)
    (x_sb_BadDeed_BadDeed : PySem.W.subIn K (.ref C_BadDeed) (.ref C_BadDeed) = some true)
    (x_kp_FloorError : PySem.W.keepIn K (.ref C_FloorError) = true)
    (x_be_FloorError : PySem.W.subIn K (.ref C_FloorError) (.type "BaseException") = some true)
    (x_ty_FloorError : PySem.W.typeIn K (.ref C_FloorError) = some (.type "type"))
    (x_cl_FloorError : PySem.W.isClsIn K C_FloorError = true)
    (x_hd_FloorError : PySem.W.hasDictIn K C_FloorError = true)
    (x_ga_FloorError : PySem.W.findIn K (.ref C_FloorError) "__getattribute__" = some (some (.builtin "BaseException.__getattribute__")))
    (x_gg_FloorError : PySem.W.findIn K (.ref C_FloorError) "__getattr__" = some none)
    (x_oc_FloorError : PySem.W.findIn K (.ref C_FloorError) "__class__" = some (some (.builtin "object.__class__")))
    (x_om_FloorError : PySem.W.mroIn K C_FloorError (.type "object") = some true)
    (x_sv_FloorError : PySem.W.subIn K (.ref C_FloorError) (.type "ValueError") = some true)
    (x_sb_FloorError_FloorError : PySem.W.subIn K (.ref C_FloorError) (.ref C_FloorError) = some true)
    (x_kp_BadTie : PySem.W.keepIn K (.ref C_BadTie) = true)
    (x_be_BadTie : PySem.W.subIn K (.ref C_BadTie) (.type "BaseException") = some true)
    (x_ty_BadTie : PySem.W.typeIn K (.ref C_BadTie) = some (.type "type"))
    (x_cl_BadTie : PySem.W.isClsIn K C_BadTie = true)
    (x_hd_BadTie : PySem.W.hasDictIn K C_BadTie = true)
    (x_ga_BadTie : PySem.W.findIn K (.ref C_BadTie) "__getattribute__" = some (some (.builtin "BaseException.__getattribute__")))
    (x_gg_BadTie : PySem.W.findIn K (.ref C_BadTie) "__getattr__" = some none)
    (x_oc_BadTie : PySem.W.findIn K (.ref C_BadTie) "__class__" = some (some (.builtin "object.__class__")))
    (x_om_BadTie : PySem.W.mroIn K C_BadTie (.type "object") = some true)
    (x_sv_BadTie : PySem.W.subIn K (.ref C_BadTie) (.type "ValueError") = some true)
    (x_sb_BadTie_BadTie : PySem.W.subIn K (.ref C_BadTie) (.ref C_BadTie) = some true)
    (x_kp_BadTurns : PySem.W.keepIn K (.ref C_BadTurns) = true)
    (x_be_BadTurns : PySem.W.subIn K (.ref C_BadTurns) (.type "BaseException") = some true)
    (x_ty_BadTurns : PySem.W.typeIn K (.ref C_BadTurns) = some (.type "type"))
    (x_cl_BadTurns : PySem.W.isClsIn K C_BadTurns = true)
    (x_hd_BadTurns : PySem.W.hasDictIn K C_BadTurns = true)
    (x_ga_BadTurns : PySem.W.findIn K (.ref C_BadTurns) "__getattribute__" = some (some (.builtin "BaseException.__getattribute__")))
    (x_gg_BadTurns : PySem.W.findIn K (.ref C_BadTurns) "__getattr__" = some none)
    (x_oc_BadTurns : PySem.W.findIn K (.ref C_BadTurns) "__class__" = some (some (.builtin "object.__class__")))
    (x_om_BadTurns : PySem.W.mroIn K C_BadTurns (.type "object") = some true)
    (x_sv_BadTurns : PySem.W.subIn K (.ref C_BadTurns) (.type "ValueError") = some true)
    (x_sb_BadTurns_BadTurns : PySem.W.subIn K (.ref C_BadTurns) (.ref C_BadTurns) = some true)
    (x_kp_Parted : PySem.W.keepIn K (.ref C_Parted) = true)
    (x_be_Parted : PySem.W.subIn K (.ref C_Parted) (.type "BaseException") = some true)
    (x_ty_Parted : PySem.W.typeIn K (.ref C_Parted) = some (.type "type"))
    (x_cl_Parted : PySem.W.isClsIn K C_Parted = true)
    (x_hd_Parted : PySem.W.hasDictIn K C_Parted = true)
    (x_ga_Parted : PySem.W.findIn K (.ref C_Parted) "__getattribute__" = some (some (.builtin "BaseException.__getattribute__")))
    (x_gg_Parted : PySem.W.findIn K (.ref C_Parted) "__getattr__" = some none)
    (x_oc_Parted : PySem.W.findIn K (.ref C_Parted) "__class__" = some (some (.builtin "object.__class__")))
    (x_om_Parted : PySem.W.mroIn K C_Parted (.type "object") = some true)
    (x_sv_Parted : PySem.W.subIn K (.ref C_Parted) (.type "ValueError") = some true)
    (x_sb_Parted_Parted : PySem.W.subIn K (.ref C_Parted) (.ref C_Parted) = some true)
    (x_kp_NotFlat : PySem.W.keepIn K (.ref C_NotFlat) = true)
    (x_be_NotFlat : PySem.W.subIn K (.ref C_NotFlat) (.type "BaseException") = some true)
    (x_ty_NotFlat : PySem.W.typeIn K (.ref C_NotFlat) = some (.type "type"))
    (x_cl_NotFlat : PySem.W.isClsIn K C_NotFlat = true)
    (x_hd_NotFlat : PySem.W.hasDictIn K C_NotFlat = true)
    (x_ga_NotFlat : PySem.W.findIn K (.ref C_NotFlat) "__getattribute__" = some (some (.builtin "BaseException.__getattribute__")))
    (x_gg_NotFlat : PySem.W.findIn K (.ref C_NotFlat) "__getattr__" = some none)
    (x_oc_NotFlat : PySem.W.findIn K (.ref C_NotFlat) "__class__" = some (some (.builtin "object.__class__")))
    (x_om_NotFlat : PySem.W.mroIn K C_NotFlat (.type "object") = some true)
    (x_sv_NotFlat : PySem.W.subIn K (.ref C_NotFlat) (.type "ValueError") = some true)
    (x_sb_NotFlat_NotFlat : PySem.W.subIn K (.ref C_NotFlat) (.ref C_NotFlat) = some true)
    (x_kp_OddMarks : PySem.W.keepIn K (.ref C_OddMarks) = true)
    (x_be_OddMarks : PySem.W.subIn K (.ref C_OddMarks) (.type "BaseException") = some true)
    (x_ty_OddMarks : PySem.W.typeIn K (.ref C_OddMarks) = some (.type "type"))
    (x_cl_OddMarks : PySem.W.isClsIn K C_OddMarks = true)
    (x_hd_OddMarks : PySem.W.hasDictIn K C_OddMarks = true)
    (x_ga_OddMarks : PySem.W.findIn K (.ref C_OddMarks) "__getattribute__" = some (some (.builtin "BaseException.__getattribute__")))
    (x_gg_OddMarks : PySem.W.findIn K (.ref C_OddMarks) "__getattr__" = some none)
    (x_oc_OddMarks : PySem.W.findIn K (.ref C_OddMarks) "__class__" = some (some (.builtin "object.__class__")))
    (x_om_OddMarks : PySem.W.mroIn K C_OddMarks (.type "object") = some true)
    (x_sv_OddMarks : PySem.W.subIn K (.ref C_OddMarks) (.type "ValueError") = some true)
    (x_sb_OddMarks_OddMarks : PySem.W.subIn K (.ref C_OddMarks) (.ref C_OddMarks) = some true)
    (x_kp_TooRough : PySem.W.keepIn K (.ref C_TooRough) = true)
    (x_be_TooRough : PySem.W.subIn K (.ref C_TooRough) (.type "BaseException") = some true)
    (x_ty_TooRough : PySem.W.typeIn K (.ref C_TooRough) = some (.type "type"))
    (x_cl_TooRough : PySem.W.isClsIn K C_TooRough = true)
    (x_hd_TooRough : PySem.W.hasDictIn K C_TooRough = true)
    (x_ga_TooRough : PySem.W.findIn K (.ref C_TooRough) "__getattribute__" = some (some (.builtin "BaseException.__getattribute__")))
    (x_gg_TooRough : PySem.W.findIn K (.ref C_TooRough) "__getattr__" = some none)
    (x_oc_TooRough : PySem.W.findIn K (.ref C_TooRough) "__class__" = some (some (.builtin "object.__class__")))
    (x_om_TooRough : PySem.W.mroIn K C_TooRough (.type "object") = some true)
    (x_sv_TooRough : PySem.W.subIn K (.ref C_TooRough) (.type "ValueError") = some true)
    (x_sb_TooRough_TooRough : PySem.W.subIn K (.ref C_TooRough) (.ref C_TooRough) = some true)
    (x_kp_TooMany : PySem.W.keepIn K (.ref C_TooMany) = true)
    (x_be_TooMany : PySem.W.subIn K (.ref C_TooMany) (.type "BaseException") = some true)
    (x_ty_TooMany : PySem.W.typeIn K (.ref C_TooMany) = some (.type "type"))
    (x_cl_TooMany : PySem.W.isClsIn K C_TooMany = true)
    (x_hd_TooMany : PySem.W.hasDictIn K C_TooMany = true)
    (x_ga_TooMany : PySem.W.findIn K (.ref C_TooMany) "__getattribute__" = some (some (.builtin "BaseException.__getattribute__")))
    (x_gg_TooMany : PySem.W.findIn K (.ref C_TooMany) "__getattr__" = some none)
    (x_oc_TooMany : PySem.W.findIn K (.ref C_TooMany) "__class__" = some (some (.builtin "object.__class__")))
    (x_om_TooMany : PySem.W.mroIn K C_TooMany (.type "object") = some true)
    (x_sv_TooMany : PySem.W.subIn K (.ref C_TooMany) (.type "ValueError") = some true)
    (x_sb_TooMany_TooMany : PySem.W.subIn K (.ref C_TooMany) (.ref C_TooMany) = some true)
    (x_kp_TooWide : PySem.W.keepIn K (.ref C_TooWide) = true)
    (x_be_TooWide : PySem.W.subIn K (.ref C_TooWide) (.type "BaseException") = some true)
    (x_ty_TooWide : PySem.W.typeIn K (.ref C_TooWide) = some (.type "type"))
    (x_cl_TooWide : PySem.W.isClsIn K C_TooWide = true)
    (x_hd_TooWide : PySem.W.hasDictIn K C_TooWide = true)
    (x_ga_TooWide : PySem.W.findIn K (.ref C_TooWide) "__getattribute__" = some (some (.builtin "BaseException.__getattribute__")))
    (x_gg_TooWide : PySem.W.findIn K (.ref C_TooWide) "__getattr__" = some none)
    (x_oc_TooWide : PySem.W.findIn K (.ref C_TooWide) "__class__" = some (some (.builtin "object.__class__")))
    (x_om_TooWide : PySem.W.mroIn K C_TooWide (.type "object") = some true)
    (x_sv_TooWide : PySem.W.subIn K (.ref C_TooWide) (.type "ValueError") = some true)
    (x_sb_TooWide_TooWide : PySem.W.subIn K (.ref C_TooWide) (.ref C_TooWide) = some true)
    (x_kp_BadOrder : PySem.W.keepIn K (.ref C_BadOrder) = true)
    (x_be_BadOrder : PySem.W.subIn K (.ref C_BadOrder) (.type "BaseException") = some true)
    (x_ty_BadOrder : PySem.W.typeIn K (.ref C_BadOrder) = some (.type "type"))
    (x_cl_BadOrder : PySem.W.isClsIn K C_BadOrder = true)
    (x_hd_BadOrder : PySem.W.hasDictIn K C_BadOrder = true)
    (x_ga_BadOrder : PySem.W.findIn K (.ref C_BadOrder) "__getattribute__" = some (some (.builtin "BaseException.__getattribute__")))
    (x_gg_BadOrder : PySem.W.findIn K (.ref C_BadOrder) "__getattr__" = some none)
    (x_oc_BadOrder : PySem.W.findIn K (.ref C_BadOrder) "__class__" = some (some (.builtin "object.__class__")))
    (x_om_BadOrder : PySem.W.mroIn K C_BadOrder (.type "object") = some true)
    (x_sv_BadOrder : PySem.W.subIn K (.ref C_BadOrder) (.type "ValueError") = some true)
    (x_sb_BadOrder_BadOrder : PySem.W.subIn K (.ref C_BadOrder) (.ref C_BadOrder) = some true)
    (x_kp_BadStrip : PySem.W.keepIn K (.ref C_BadStrip) = true)
    (x_be_BadStrip : PySem.W.subIn K (.ref C_BadStrip) (.type "BaseException") = some true)
    (x_ty_BadStrip : PySem.W.typeIn K (.ref C_BadStrip) = some (.type "type"))
    (x_cl_BadStrip : PySem.W.isClsIn K C_BadStrip = true)
    (x_hd_BadStrip : PySem.W.hasDictIn K C_BadStrip = true)
    (x_ga_BadStrip : PySem.W.findIn K (.ref C_BadStrip) "__getattribute__" = some (some (.builtin "BaseException.__getattribute__")))
    (x_gg_BadStrip : PySem.W.findIn K (.ref C_BadStrip) "__getattr__" = some none)
    (x_oc_BadStrip : PySem.W.findIn K (.ref C_BadStrip) "__class__" = some (some (.builtin "object.__class__")))
    (x_om_BadStrip : PySem.W.mroIn K C_BadStrip (.type "object") = some true)
    (x_sv_BadStrip : PySem.W.subIn K (.ref C_BadStrip) (.type "ValueError") = some true)
    (x_sb_BadStrip_BadStrip : PySem.W.subIn K (.ref C_BadStrip) (.ref C_BadStrip) = some true)
    (x_kp_BadText : PySem.W.keepIn K (.ref C_BadText) = true)
    (x_be_BadText : PySem.W.subIn K (.ref C_BadText) (.type "BaseException") = some true)
    (x_ty_BadText : PySem.W.typeIn K (.ref C_BadText) = some (.type "type"))
    (x_cl_BadText : PySem.W.isClsIn K C_BadText = true)
    (x_hd_BadText : PySem.W.hasDictIn K C_BadText = true)
    (x_ga_BadText : PySem.W.findIn K (.ref C_BadText) "__getattribute__" = some (some (.builtin "BaseException.__getattribute__")))
    (x_gg_BadText : PySem.W.findIn K (.ref C_BadText) "__getattr__" = some none)
    (x_oc_BadText : PySem.W.findIn K (.ref C_BadText) "__class__" = some (some (.builtin "object.__class__")))
    (x_om_BadText : PySem.W.mroIn K C_BadText (.type "object") = some true)
    (x_sv_BadText : PySem.W.subIn K (.ref C_BadText) (.type "ValueError") = some true)
    (x_sb_BadText_BadText : PySem.W.subIn K (.ref C_BadText) (.ref C_BadText) = some true)
    (x_kp_NoLaying : PySem.W.keepIn K (.ref C_NoLaying) = true)
    (x_be_NoLaying : PySem.W.subIn K (.ref C_NoLaying) (.type "BaseException") = some true)
    (x_ty_NoLaying : PySem.W.typeIn K (.ref C_NoLaying) = some (.type "type"))
    (x_cl_NoLaying : PySem.W.isClsIn K C_NoLaying = true)
    (x_hd_NoLaying : PySem.W.hasDictIn K C_NoLaying = true)
    (x_ga_NoLaying : PySem.W.findIn K (.ref C_NoLaying) "__getattribute__" = some (some (.builtin "BaseException.__getattribute__")))
    (x_gg_NoLaying : PySem.W.findIn K (.ref C_NoLaying) "__getattr__" = some none)
    (x_oc_NoLaying : PySem.W.findIn K (.ref C_NoLaying) "__class__" = some (some (.builtin "object.__class__")))
    (x_om_NoLaying : PySem.W.mroIn K C_NoLaying (.type "object") = some true)
    (x_sv_NoLaying : PySem.W.subIn K (.ref C_NoLaying) (.type "ValueError") = some true)
    (x_sb_NoLaying_NoLaying : PySem.W.subIn K (.ref C_NoLaying) (.ref C_NoLaying) = some true)
    (x_xn_BadDeed : PySem.W.excIn K C_BadDeed [.type "ValueError", .type "Exception", .type "BaseException", .type "object"] "ValueError.__new__" = true)
    (x_sb_BadDeed_BadTie : PySem.W.subIn K (.ref C_BadDeed) (.ref C_BadTie) = some false)
    (x_sb_BadDeed_BadTurns : PySem.W.subIn K (.ref C_BadDeed) (.ref C_BadTurns) = some false)
    (x_sb_BadDeed_Parted : PySem.W.subIn K (.ref C_BadDeed) (.ref C_Parted) = some false)
    (x_sb_BadDeed_NotFlat : PySem.W.subIn K (.ref C_BadDeed) (.ref C_NotFlat) = some false)
    (x_sb_BadDeed_OddMarks : PySem.W.subIn K (.ref C_BadDeed) (.ref C_OddMarks) = some false)
    (x_sb_BadDeed_TooRough : PySem.W.subIn K (.ref C_BadDeed) (.ref C_TooRough) = some false)
    (x_sb_BadDeed_TooMany : PySem.W.subIn K (.ref C_BadDeed) (.ref C_TooMany) = some false)
    (x_sb_BadDeed_TooWide : PySem.W.subIn K (.ref C_BadDeed) (.ref C_TooWide) = some false)
    (x_sb_BadDeed_BadOrder : PySem.W.subIn K (.ref C_BadDeed) (.ref C_BadOrder) = some false)
    (x_sb_BadDeed_BadStrip : PySem.W.subIn K (.ref C_BadDeed) (.ref C_BadStrip) = some false)
    (x_sb_BadDeed_BadText : PySem.W.subIn K (.ref C_BadDeed) (.ref C_BadText) = some false)
    (x_sb_BadDeed_NoLaying : PySem.W.subIn K (.ref C_BadDeed) (.ref C_NoLaying) = some false)
    (x_sb_BadDeed_FloorError : PySem.W.subIn K (.ref C_BadDeed) (.ref C_FloorError) = some true)
    (x_xn_FloorError : PySem.W.excIn K C_FloorError [.type "ValueError", .type "Exception", .type "BaseException", .type "object"] "ValueError.__new__" = true)
    (x_sb_FloorError_BadTie : PySem.W.subIn K (.ref C_FloorError) (.ref C_BadTie) = some false)
    (x_sb_FloorError_BadTurns : PySem.W.subIn K (.ref C_FloorError) (.ref C_BadTurns) = some false)
    (x_sb_FloorError_Parted : PySem.W.subIn K (.ref C_FloorError) (.ref C_Parted) = some false)
    (x_sb_FloorError_NotFlat : PySem.W.subIn K (.ref C_FloorError) (.ref C_NotFlat) = some false)
    (x_sb_FloorError_OddMarks : PySem.W.subIn K (.ref C_FloorError) (.ref C_OddMarks) = some false)
    (x_sb_FloorError_TooRough : PySem.W.subIn K (.ref C_FloorError) (.ref C_TooRough) = some false)
    (x_sb_FloorError_TooMany : PySem.W.subIn K (.ref C_FloorError) (.ref C_TooMany) = some false)
    (x_sb_FloorError_TooWide : PySem.W.subIn K (.ref C_FloorError) (.ref C_TooWide) = some false)
    (x_sb_FloorError_BadOrder : PySem.W.subIn K (.ref C_FloorError) (.ref C_BadOrder) = some false)
    (x_sb_FloorError_BadStrip : PySem.W.subIn K (.ref C_FloorError) (.ref C_BadStrip) = some false)
    (x_sb_FloorError_BadDeed : PySem.W.subIn K (.ref C_FloorError) (.ref C_BadDeed) = some false)
    (x_sb_FloorError_BadText : PySem.W.subIn K (.ref C_FloorError) (.ref C_BadText) = some false)
    (x_sb_FloorError_NoLaying : PySem.W.subIn K (.ref C_FloorError) (.ref C_NoLaying) = some false)
    (x_xn_BadTie : PySem.W.excIn K C_BadTie [.type "ValueError", .type "Exception", .type "BaseException", .type "object"] "ValueError.__new__" = true)
    (x_sb_BadTie_BadTurns : PySem.W.subIn K (.ref C_BadTie) (.ref C_BadTurns) = some false)
    (x_sb_BadTie_Parted : PySem.W.subIn K (.ref C_BadTie) (.ref C_Parted) = some false)
    (x_sb_BadTie_NotFlat : PySem.W.subIn K (.ref C_BadTie) (.ref C_NotFlat) = some false)
    (x_sb_BadTie_OddMarks : PySem.W.subIn K (.ref C_BadTie) (.ref C_OddMarks) = some false)
    (x_sb_BadTie_TooRough : PySem.W.subIn K (.ref C_BadTie) (.ref C_TooRough) = some false)
    (x_sb_BadTie_TooMany : PySem.W.subIn K (.ref C_BadTie) (.ref C_TooMany) = some false)
    (x_sb_BadTie_TooWide : PySem.W.subIn K (.ref C_BadTie) (.ref C_TooWide) = some false)
    (x_sb_BadTie_BadOrder : PySem.W.subIn K (.ref C_BadTie) (.ref C_BadOrder) = some false)
    (x_sb_BadTie_BadStrip : PySem.W.subIn K (.ref C_BadTie) (.ref C_BadStrip) = some false)
    (x_sb_BadTie_BadDeed : PySem.W.subIn K (.ref C_BadTie) (.ref C_BadDeed) = some false)
    (x_sb_BadTie_BadText : PySem.W.subIn K (.ref C_BadTie) (.ref C_BadText) = some false)
    (x_sb_BadTie_NoLaying : PySem.W.subIn K (.ref C_BadTie) (.ref C_NoLaying) = some false)
    (x_sb_BadTie_FloorError : PySem.W.subIn K (.ref C_BadTie) (.ref C_FloorError) = some true)
    (x_xn_BadTurns : PySem.W.excIn K C_BadTurns [.type "ValueError", .type "Exception", .type "BaseException", .type "object"] "ValueError.__new__" = true)
    (x_sb_BadTurns_BadTie : PySem.W.subIn K (.ref C_BadTurns) (.ref C_BadTie) = some false)
    (x_sb_BadTurns_Parted : PySem.W.subIn K (.ref C_BadTurns) (.ref C_Parted) = some false)
    (x_sb_BadTurns_NotFlat : PySem.W.subIn K (.ref C_BadTurns) (.ref C_NotFlat) = some false)
    (x_sb_BadTurns_OddMarks : PySem.W.subIn K (.ref C_BadTurns) (.ref C_OddMarks) = some false)
    (x_sb_BadTurns_TooRough : PySem.W.subIn K (.ref C_BadTurns) (.ref C_TooRough) = some false)
    (x_sb_BadTurns_TooMany : PySem.W.subIn K (.ref C_BadTurns) (.ref C_TooMany) = some false)
    (x_sb_BadTurns_TooWide : PySem.W.subIn K (.ref C_BadTurns) (.ref C_TooWide) = some false)
    (x_sb_BadTurns_BadOrder : PySem.W.subIn K (.ref C_BadTurns) (.ref C_BadOrder) = some false)
    (x_sb_BadTurns_BadStrip : PySem.W.subIn K (.ref C_BadTurns) (.ref C_BadStrip) = some false)
    (x_sb_BadTurns_BadDeed : PySem.W.subIn K (.ref C_BadTurns) (.ref C_BadDeed) = some false)
    (x_sb_BadTurns_BadText : PySem.W.subIn K (.ref C_BadTurns) (.ref C_BadText) = some false)
    (x_sb_BadTurns_NoLaying : PySem.W.subIn K (.ref C_BadTurns) (.ref C_NoLaying) = some false)
    (x_sb_BadTurns_FloorError : PySem.W.subIn K (.ref C_BadTurns) (.ref C_FloorError) = some true)
    (x_xn_Parted : PySem.W.excIn K C_Parted [.type "ValueError", .type "Exception", .type "BaseException", .type "object"] "ValueError.__new__" = true)
    (x_sb_Parted_BadTie : PySem.W.subIn K (.ref C_Parted) (.ref C_BadTie) = some false)
    (x_sb_Parted_BadTurns : PySem.W.subIn K (.ref C_Parted) (.ref C_BadTurns) = some false)
    (x_sb_Parted_NotFlat : PySem.W.subIn K (.ref C_Parted) (.ref C_NotFlat) = some false)
    (x_sb_Parted_OddMarks : PySem.W.subIn K (.ref C_Parted) (.ref C_OddMarks) = some false)
    (x_sb_Parted_TooRough : PySem.W.subIn K (.ref C_Parted) (.ref C_TooRough) = some false)
    (x_sb_Parted_TooMany : PySem.W.subIn K (.ref C_Parted) (.ref C_TooMany) = some false)
    (x_sb_Parted_TooWide : PySem.W.subIn K (.ref C_Parted) (.ref C_TooWide) = some false)
    (x_sb_Parted_BadOrder : PySem.W.subIn K (.ref C_Parted) (.ref C_BadOrder) = some false)
    (x_sb_Parted_BadStrip : PySem.W.subIn K (.ref C_Parted) (.ref C_BadStrip) = some false)
    (x_sb_Parted_BadDeed : PySem.W.subIn K (.ref C_Parted) (.ref C_BadDeed) = some false)
    (x_sb_Parted_BadText : PySem.W.subIn K (.ref C_Parted) (.ref C_BadText) = some false)
    (x_sb_Parted_NoLaying : PySem.W.subIn K (.ref C_Parted) (.ref C_NoLaying) = some false)
    (x_sb_Parted_FloorError : PySem.W.subIn K (.ref C_Parted) (.ref C_FloorError) = some true)
    (x_xn_NotFlat : PySem.W.excIn K C_NotFlat [.type "ValueError", .type "Exception", .type "BaseException", .type "object"] "ValueError.__new__" = true)
    (x_sb_NotFlat_BadTie : PySem.W.subIn K (.ref C_NotFlat) (.ref C_BadTie) = some false)
    (x_sb_NotFlat_BadTurns : PySem.W.subIn K (.ref C_NotFlat) (.ref C_BadTurns) = some false)
    (x_sb_NotFlat_Parted : PySem.W.subIn K (.ref C_NotFlat) (.ref C_Parted) = some false)
    (x_sb_NotFlat_OddMarks : PySem.W.subIn K (.ref C_NotFlat) (.ref C_OddMarks) = some false)
    (x_sb_NotFlat_TooRough : PySem.W.subIn K (.ref C_NotFlat) (.ref C_TooRough) = some false)
    (x_sb_NotFlat_TooMany : PySem.W.subIn K (.ref C_NotFlat) (.ref C_TooMany) = some false)
    (x_sb_NotFlat_TooWide : PySem.W.subIn K (.ref C_NotFlat) (.ref C_TooWide) = some false)
    (x_sb_NotFlat_BadOrder : PySem.W.subIn K (.ref C_NotFlat) (.ref C_BadOrder) = some false)
    (x_sb_NotFlat_BadStrip : PySem.W.subIn K (.ref C_NotFlat) (.ref C_BadStrip) = some false)
    (x_sb_NotFlat_BadDeed : PySem.W.subIn K (.ref C_NotFlat) (.ref C_BadDeed) = some false)
    (x_sb_NotFlat_BadText : PySem.W.subIn K (.ref C_NotFlat) (.ref C_BadText) = some false)
    (x_sb_NotFlat_NoLaying : PySem.W.subIn K (.ref C_NotFlat) (.ref C_NoLaying) = some false)
    (x_sb_NotFlat_FloorError : PySem.W.subIn K (.ref C_NotFlat) (.ref C_FloorError) = some true)
    (x_xn_OddMarks : PySem.W.excIn K C_OddMarks [.type "ValueError", .type "Exception", .type "BaseException", .type "object"] "ValueError.__new__" = true)
    (x_sb_OddMarks_BadTie : PySem.W.subIn K (.ref C_OddMarks) (.ref C_BadTie) = some false)
    (x_sb_OddMarks_BadTurns : PySem.W.subIn K (.ref C_OddMarks) (.ref C_BadTurns) = some false)
    (x_sb_OddMarks_Parted : PySem.W.subIn K (.ref C_OddMarks) (.ref C_Parted) = some false)
    (x_sb_OddMarks_NotFlat : PySem.W.subIn K (.ref C_OddMarks) (.ref C_NotFlat) = some false)
    (x_sb_OddMarks_TooRough : PySem.W.subIn K (.ref C_OddMarks) (.ref C_TooRough) = some false)
    (x_sb_OddMarks_TooMany : PySem.W.subIn K (.ref C_OddMarks) (.ref C_TooMany) = some false)
    (x_sb_OddMarks_TooWide : PySem.W.subIn K (.ref C_OddMarks) (.ref C_TooWide) = some false)
    (x_sb_OddMarks_BadOrder : PySem.W.subIn K (.ref C_OddMarks) (.ref C_BadOrder) = some false)
    (x_sb_OddMarks_BadStrip : PySem.W.subIn K (.ref C_OddMarks) (.ref C_BadStrip) = some false)
    (x_sb_OddMarks_BadDeed : PySem.W.subIn K (.ref C_OddMarks) (.ref C_BadDeed) = some false)
    (x_sb_OddMarks_BadText : PySem.W.subIn K (.ref C_OddMarks) (.ref C_BadText) = some false)
    (x_sb_OddMarks_NoLaying : PySem.W.subIn K (.ref C_OddMarks) (.ref C_NoLaying) = some false)
    (x_sb_OddMarks_FloorError : PySem.W.subIn K (.ref C_OddMarks) (.ref C_FloorError) = some true)
    (x_xn_TooRough : PySem.W.excIn K C_TooRough [.type "ValueError", .type "Exception", .type "BaseException", .type "object"] "ValueError.__new__" = true)
    (x_sb_TooRough_BadTie : PySem.W.subIn K (.ref C_TooRough) (.ref C_BadTie) = some false)
    (x_sb_TooRough_BadTurns : PySem.W.subIn K (.ref C_TooRough) (.ref C_BadTurns) = some false)
    (x_sb_TooRough_Parted : PySem.W.subIn K (.ref C_TooRough) (.ref C_Parted) = some false)
    (x_sb_TooRough_NotFlat : PySem.W.subIn K (.ref C_TooRough) (.ref C_NotFlat) = some false)
    (x_sb_TooRough_OddMarks : PySem.W.subIn K (.ref C_TooRough) (.ref C_OddMarks) = some false)
    (x_sb_TooRough_TooMany : PySem.W.subIn K (.ref C_TooRough) (.ref C_TooMany) = some false)
    (x_sb_TooRough_TooWide : PySem.W.subIn K (.ref C_TooRough) (.ref C_TooWide) = some false)
    (x_sb_TooRough_BadOrder : PySem.W.subIn K (.ref C_TooRough) (.ref C_BadOrder) = some false)
    (x_sb_TooRough_BadStrip : PySem.W.subIn K (.ref C_TooRough) (.ref C_BadStrip) = some false)
    (x_sb_TooRough_BadDeed : PySem.W.subIn K (.ref C_TooRough) (.ref C_BadDeed) = some false)
    (x_sb_TooRough_BadText : PySem.W.subIn K (.ref C_TooRough) (.ref C_BadText) = some false)
    (x_sb_TooRough_NoLaying : PySem.W.subIn K (.ref C_TooRough) (.ref C_NoLaying) = some false)
    (x_sb_TooRough_FloorError : PySem.W.subIn K (.ref C_TooRough) (.ref C_FloorError) = some true)
    (x_xn_TooMany : PySem.W.excIn K C_TooMany [.type "ValueError", .type "Exception", .type "BaseException", .type "object"] "ValueError.__new__" = true)
    (x_sb_TooMany_BadTie : PySem.W.subIn K (.ref C_TooMany) (.ref C_BadTie) = some false)
    (x_sb_TooMany_BadTurns : PySem.W.subIn K (.ref C_TooMany) (.ref C_BadTurns) = some false)
    (x_sb_TooMany_Parted : PySem.W.subIn K (.ref C_TooMany) (.ref C_Parted) = some false)
    (x_sb_TooMany_NotFlat : PySem.W.subIn K (.ref C_TooMany) (.ref C_NotFlat) = some false)
    (x_sb_TooMany_OddMarks : PySem.W.subIn K (.ref C_TooMany) (.ref C_OddMarks) = some false)
    (x_sb_TooMany_TooRough : PySem.W.subIn K (.ref C_TooMany) (.ref C_TooRough) = some false)
    (x_sb_TooMany_TooWide : PySem.W.subIn K (.ref C_TooMany) (.ref C_TooWide) = some false)
    (x_sb_TooMany_BadOrder : PySem.W.subIn K (.ref C_TooMany) (.ref C_BadOrder) = some false)
    (x_sb_TooMany_BadStrip : PySem.W.subIn K (.ref C_TooMany) (.ref C_BadStrip) = some false)
    (x_sb_TooMany_BadDeed : PySem.W.subIn K (.ref C_TooMany) (.ref C_BadDeed) = some false)
    (x_sb_TooMany_BadText : PySem.W.subIn K (.ref C_TooMany) (.ref C_BadText) = some false)
    (x_sb_TooMany_NoLaying : PySem.W.subIn K (.ref C_TooMany) (.ref C_NoLaying) = some false)
    (x_sb_TooMany_FloorError : PySem.W.subIn K (.ref C_TooMany) (.ref C_FloorError) = some true)
    (x_xn_TooWide : PySem.W.excIn K C_TooWide [.type "ValueError", .type "Exception", .type "BaseException", .type "object"] "ValueError.__new__" = true)
    (x_sb_TooWide_BadTie : PySem.W.subIn K (.ref C_TooWide) (.ref C_BadTie) = some false)
    (x_sb_TooWide_BadTurns : PySem.W.subIn K (.ref C_TooWide) (.ref C_BadTurns) = some false)
    (x_sb_TooWide_Parted : PySem.W.subIn K (.ref C_TooWide) (.ref C_Parted) = some false)
    (x_sb_TooWide_NotFlat : PySem.W.subIn K (.ref C_TooWide) (.ref C_NotFlat) = some false)
    (x_sb_TooWide_OddMarks : PySem.W.subIn K (.ref C_TooWide) (.ref C_OddMarks) = some false)
    (x_sb_TooWide_TooRough : PySem.W.subIn K (.ref C_TooWide) (.ref C_TooRough) = some false)
    (x_sb_TooWide_TooMany : PySem.W.subIn K (.ref C_TooWide) (.ref C_TooMany) = some false)
    (x_sb_TooWide_BadOrder : PySem.W.subIn K (.ref C_TooWide) (.ref C_BadOrder) = some false)
    (x_sb_TooWide_BadStrip : PySem.W.subIn K (.ref C_TooWide) (.ref C_BadStrip) = some false)
    (x_sb_TooWide_BadDeed : PySem.W.subIn K (.ref C_TooWide) (.ref C_BadDeed) = some false)
    (x_sb_TooWide_BadText : PySem.W.subIn K (.ref C_TooWide) (.ref C_BadText) = some false)
    (x_sb_TooWide_NoLaying : PySem.W.subIn K (.ref C_TooWide) (.ref C_NoLaying) = some false)
    (x_sb_TooWide_FloorError : PySem.W.subIn K (.ref C_TooWide) (.ref C_FloorError) = some true)
    (x_xn_BadOrder : PySem.W.excIn K C_BadOrder [.type "ValueError", .type "Exception", .type "BaseException", .type "object"] "ValueError.__new__" = true)
    (x_sb_BadOrder_BadTie : PySem.W.subIn K (.ref C_BadOrder) (.ref C_BadTie) = some false)
    (x_sb_BadOrder_BadTurns : PySem.W.subIn K (.ref C_BadOrder) (.ref C_BadTurns) = some false)
    (x_sb_BadOrder_Parted : PySem.W.subIn K (.ref C_BadOrder) (.ref C_Parted) = some false)
    (x_sb_BadOrder_NotFlat : PySem.W.subIn K (.ref C_BadOrder) (.ref C_NotFlat) = some false)
    (x_sb_BadOrder_OddMarks : PySem.W.subIn K (.ref C_BadOrder) (.ref C_OddMarks) = some false)
    (x_sb_BadOrder_TooRough : PySem.W.subIn K (.ref C_BadOrder) (.ref C_TooRough) = some false)
    (x_sb_BadOrder_TooMany : PySem.W.subIn K (.ref C_BadOrder) (.ref C_TooMany) = some false)
    (x_sb_BadOrder_TooWide : PySem.W.subIn K (.ref C_BadOrder) (.ref C_TooWide) = some false)
    (x_sb_BadOrder_BadStrip : PySem.W.subIn K (.ref C_BadOrder) (.ref C_BadStrip) = some false)
    (x_sb_BadOrder_BadDeed : PySem.W.subIn K (.ref C_BadOrder) (.ref C_BadDeed) = some false)
    (x_sb_BadOrder_BadText : PySem.W.subIn K (.ref C_BadOrder) (.ref C_BadText) = some false)
    (x_sb_BadOrder_NoLaying : PySem.W.subIn K (.ref C_BadOrder) (.ref C_NoLaying) = some false)
    (x_sb_BadOrder_FloorError : PySem.W.subIn K (.ref C_BadOrder) (.ref C_FloorError) = some true)
    (x_xn_BadStrip : PySem.W.excIn K C_BadStrip [.type "ValueError", .type "Exception", .type "BaseException", .type "object"] "ValueError.__new__" = true)
    (x_sb_BadStrip_BadTie : PySem.W.subIn K (.ref C_BadStrip) (.ref C_BadTie) = some false)
    (x_sb_BadStrip_BadTurns : PySem.W.subIn K (.ref C_BadStrip) (.ref C_BadTurns) = some false)
    (x_sb_BadStrip_Parted : PySem.W.subIn K (.ref C_BadStrip) (.ref C_Parted) = some false)
    (x_sb_BadStrip_NotFlat : PySem.W.subIn K (.ref C_BadStrip) (.ref C_NotFlat) = some false)
    (x_sb_BadStrip_OddMarks : PySem.W.subIn K (.ref C_BadStrip) (.ref C_OddMarks) = some false)
    (x_sb_BadStrip_TooRough : PySem.W.subIn K (.ref C_BadStrip) (.ref C_TooRough) = some false)
    (x_sb_BadStrip_TooMany : PySem.W.subIn K (.ref C_BadStrip) (.ref C_TooMany) = some false)
    (x_sb_BadStrip_TooWide : PySem.W.subIn K (.ref C_BadStrip) (.ref C_TooWide) = some false)
    (x_sb_BadStrip_BadOrder : PySem.W.subIn K (.ref C_BadStrip) (.ref C_BadOrder) = some false)
    (x_sb_BadStrip_BadDeed : PySem.W.subIn K (.ref C_BadStrip) (.ref C_BadDeed) = some false)
    (x_sb_BadStrip_BadText : PySem.W.subIn K (.ref C_BadStrip) (.ref C_BadText) = some false)
    (x_sb_BadStrip_NoLaying : PySem.W.subIn K (.ref C_BadStrip) (.ref C_NoLaying) = some false)
    (x_sb_BadStrip_FloorError : PySem.W.subIn K (.ref C_BadStrip) (.ref C_FloorError) = some true)
    (x_sb_BadText_BadTie : PySem.W.subIn K (.ref C_BadText) (.ref C_BadTie) = some false)
    (x_sb_BadText_BadTurns : PySem.W.subIn K (.ref C_BadText) (.ref C_BadTurns) = some false)
    (x_sb_BadText_Parted : PySem.W.subIn K (.ref C_BadText) (.ref C_Parted) = some false)
    (x_sb_BadText_NotFlat : PySem.W.subIn K (.ref C_BadText) (.ref C_NotFlat) = some false)
    (x_sb_BadText_OddMarks : PySem.W.subIn K (.ref C_BadText) (.ref C_OddMarks) = some false)
    (x_sb_BadText_TooRough : PySem.W.subIn K (.ref C_BadText) (.ref C_TooRough) = some false)
    (x_sb_BadText_TooMany : PySem.W.subIn K (.ref C_BadText) (.ref C_TooMany) = some false)
    (x_sb_BadText_TooWide : PySem.W.subIn K (.ref C_BadText) (.ref C_TooWide) = some false)
    (x_sb_BadText_BadOrder : PySem.W.subIn K (.ref C_BadText) (.ref C_BadOrder) = some false)
    (x_sb_BadText_BadStrip : PySem.W.subIn K (.ref C_BadText) (.ref C_BadStrip) = some false)
    (x_sb_BadText_BadDeed : PySem.W.subIn K (.ref C_BadText) (.ref C_BadDeed) = some false)
    (x_sb_BadText_NoLaying : PySem.W.subIn K (.ref C_BadText) (.ref C_NoLaying) = some false)
    (x_sb_BadText_FloorError : PySem.W.subIn K (.ref C_BadText) (.ref C_FloorError) = some true)
    (x_sb_NoLaying_BadTie : PySem.W.subIn K (.ref C_NoLaying) (.ref C_BadTie) = some false)
    (x_sb_NoLaying_BadTurns : PySem.W.subIn K (.ref C_NoLaying) (.ref C_BadTurns) = some false)
    (x_sb_NoLaying_Parted : PySem.W.subIn K (.ref C_NoLaying) (.ref C_Parted) = some false)
    (x_sb_NoLaying_NotFlat : PySem.W.subIn K (.ref C_NoLaying) (.ref C_NotFlat) = some false)
    (x_sb_NoLaying_OddMarks : PySem.W.subIn K (.ref C_NoLaying) (.ref C_OddMarks) = some false)
    (x_sb_NoLaying_TooRough : PySem.W.subIn K (.ref C_NoLaying) (.ref C_TooRough) = some false)
    (x_sb_NoLaying_TooMany : PySem.W.subIn K (.ref C_NoLaying) (.ref C_TooMany) = some false)
    (x_sb_NoLaying_TooWide : PySem.W.subIn K (.ref C_NoLaying) (.ref C_TooWide) = some false)
    (x_sb_NoLaying_BadOrder : PySem.W.subIn K (.ref C_NoLaying) (.ref C_BadOrder) = some false)
    (x_sb_NoLaying_BadStrip : PySem.W.subIn K (.ref C_NoLaying) (.ref C_BadStrip) = some false)
    (x_sb_NoLaying_BadDeed : PySem.W.subIn K (.ref C_NoLaying) (.ref C_BadDeed) = some false)
    (x_sb_NoLaying_BadText : PySem.W.subIn K (.ref C_NoLaying) (.ref C_BadText) = some false)
    (x_sb_NoLaying_FloorError : PySem.W.subIn K (.ref C_NoLaying) (.ref C_FloorError) = some true)
    : ∃ fd : FuncData, (∀ (s : Shared) (v : Value), BindsTo s fd ⟨[v], []⟩ [("script", v)]) ∧ ∀ base : Heap, K.In base → base.Ns mainGlobals mg → FnOk l.prog w K mg base CX0 4 fa fd ["script"] (spLaw K) := by
  have e := hfa.symm.trans (PySem.W.mg_of X G a7)
  cases e
  have B : Bl mg := ⟨PySem.W.mg_none_of X G z_isinstance, PySem.W.mg_none_of X G z_int, PySem.W.mg_none_of X G z_bool, PySem.W.mg_none_of X G z_ValueError, PySem.W.mg_none_of X G z_range⟩
  have T : Txt K mg C_BadDeed C_FloorError C_BadTie C_BadTurns C_Parted C_NotFlat C_OddMarks C_TooRough C_TooMany C_TooWide C_BadOrder C_BadStrip C_BadText C_NoLaying := ⟨PySem.W.mg_of X G g_BadDeed, PySem.W.mg_of X G g_FloorError, PySem.W.mg_of X G g_BadTie, PySem.W.mg_of X G g_BadTurns, PySem.W.mg_of X G g_Parted, PySem.W.mg_of X G g_NotFlat, PySem.W.mg_of X G g_OddMarks, PySem.W.mg_of X G g_TooRough, PySem.W.mg_of X G g_TooMany, PySem.W.mg_of X G g_TooWide, PySem.W.mg_of X G g_BadOrder, PySem.W.mg_of X G g_BadStrip, PySem.W.mg_of X G g_BadText, PySem.W.mg_of X G g_NoLaying, x_og, x_ot, x_kp_BadDeed, x_be_BadDeed, x_ty_BadDeed, x_cl_BadDeed, x_hd_BadDeed, x_ga_BadDeed, x_gg_BadDeed, x_oc_BadDeed, x_om_BadDeed, x_sv_BadDeed, x_sb_BadDeed_BadDeed, x_kp_FloorError, x_be_FloorError, x_ty_FloorError, x_cl_FloorError, x_hd_FloorError, x_ga_FloorError, x_gg_FloorError, x_oc_FloorError, x_om_FloorError, x_sv_FloorError, x_sb_FloorError_FloorError, x_kp_BadTie, x_be_BadTie, x_ty_BadTie, x_cl_BadTie, x_hd_BadTie, x_ga_BadTie, x_gg_BadTie, x_oc_BadTie, x_om_BadTie, x_sv_BadTie, x_sb_BadTie_BadTie, x_kp_BadTurns, x_be_BadTurns, x_ty_BadTurns, x_cl_BadTurns, x_hd_BadTurns, x_ga_BadTurns, x_gg_BadTurns, x_oc_BadTurns, x_om_BadTurns, x_sv_BadTurns, x_sb_BadTurns_BadTurns, x_kp_Parted, x_be_Parted, x_ty_Parted, x_cl_Parted, x_hd_Parted, x_ga_Parted, x_gg_Parted, x_oc_Parted, x_om_Parted, x_sv_Parted, x_sb_Parted_Parted, x_kp_NotFlat, x_be_NotFlat, x_ty_NotFlat, x_cl_NotFlat, x_hd_NotFlat, x_ga_NotFlat, x_gg_NotFlat, x_oc_NotFlat, x_om_NotFlat, x_sv_NotFlat, x_sb_NotFlat_NotFlat, x_kp_OddMarks, x_be_OddMarks, x_ty_OddMarks, x_cl_OddMarks, x_hd_OddMarks, x_ga_OddMarks, x_gg_OddMarks, x_oc_OddMarks, x_om_OddMarks, x_sv_OddMarks, x_sb_OddMarks_OddMarks, x_kp_TooRough, x_be_TooRough, x_ty_TooRough, x_cl_TooRough, x_hd_TooRough, x_ga_TooRough, x_gg_TooRough, x_oc_TooRough, x_om_TooRough, x_sv_TooRough, x_sb_TooRough_TooRough, x_kp_TooMany, x_be_TooMany, x_ty_TooMany, x_cl_TooMany, x_hd_TooMany, x_ga_TooMany, x_gg_TooMany, x_oc_TooMany, x_om_TooMany, x_sv_TooMany, x_sb_TooMany_TooMany, x_kp_TooWide, x_be_TooWide, x_ty_TooWide, x_cl_TooWide, x_hd_TooWide, x_ga_TooWide, x_gg_TooWide, x_oc_TooWide, x_om_TooWide, x_sv_TooWide, x_sb_TooWide_TooWide, x_kp_BadOrder, x_be_BadOrder, x_ty_BadOrder, x_cl_BadOrder, x_hd_BadOrder, x_ga_BadOrder, x_gg_BadOrder, x_oc_BadOrder, x_om_BadOrder, x_sv_BadOrder, x_sb_BadOrder_BadOrder, x_kp_BadStrip, x_be_BadStrip, x_ty_BadStrip, x_cl_BadStrip, x_hd_BadStrip, x_ga_BadStrip, x_gg_BadStrip, x_oc_BadStrip, x_om_BadStrip, x_sv_BadStrip, x_sb_BadStrip_BadStrip, x_kp_BadText, x_be_BadText, x_ty_BadText, x_cl_BadText, x_hd_BadText, x_ga_BadText, x_gg_BadText, x_oc_BadText, x_om_BadText, x_sv_BadText, x_sb_BadText_BadText, x_kp_NoLaying, x_be_NoLaying, x_ty_NoLaying, x_cl_NoLaying, x_hd_NoLaying, x_ga_NoLaying, x_gg_NoLaying, x_oc_NoLaying, x_om_NoLaying, x_sv_NoLaying, x_sb_NoLaying_NoLaying, x_xn_BadDeed, x_sb_BadDeed_BadTie, x_sb_BadDeed_BadTurns, x_sb_BadDeed_Parted, x_sb_BadDeed_NotFlat, x_sb_BadDeed_OddMarks, x_sb_BadDeed_TooRough, x_sb_BadDeed_TooMany, x_sb_BadDeed_TooWide, x_sb_BadDeed_BadOrder, x_sb_BadDeed_BadStrip, x_sb_BadDeed_BadText, x_sb_BadDeed_NoLaying, x_sb_BadDeed_FloorError, x_xn_FloorError, x_sb_FloorError_BadTie, x_sb_FloorError_BadTurns, x_sb_FloorError_Parted, x_sb_FloorError_NotFlat, x_sb_FloorError_OddMarks, x_sb_FloorError_TooRough, x_sb_FloorError_TooMany, x_sb_FloorError_TooWide, x_sb_FloorError_BadOrder, x_sb_FloorError_BadStrip, x_sb_FloorError_BadDeed, x_sb_FloorError_BadText, x_sb_FloorError_NoLaying, x_xn_BadTie, x_sb_BadTie_BadTurns, x_sb_BadTie_Parted, x_sb_BadTie_NotFlat, x_sb_BadTie_OddMarks, x_sb_BadTie_TooRough, x_sb_BadTie_TooMany, x_sb_BadTie_TooWide, x_sb_BadTie_BadOrder, x_sb_BadTie_BadStrip, x_sb_BadTie_BadDeed, x_sb_BadTie_BadText, x_sb_BadTie_NoLaying, x_sb_BadTie_FloorError, x_xn_BadTurns, x_sb_BadTurns_BadTie, x_sb_BadTurns_Parted, x_sb_BadTurns_NotFlat, x_sb_BadTurns_OddMarks, x_sb_BadTurns_TooRough, x_sb_BadTurns_TooMany, x_sb_BadTurns_TooWide, x_sb_BadTurns_BadOrder, x_sb_BadTurns_BadStrip, x_sb_BadTurns_BadDeed, x_sb_BadTurns_BadText, x_sb_BadTurns_NoLaying, x_sb_BadTurns_FloorError, x_xn_Parted, x_sb_Parted_BadTie, x_sb_Parted_BadTurns, x_sb_Parted_NotFlat, x_sb_Parted_OddMarks, x_sb_Parted_TooRough, x_sb_Parted_TooMany, x_sb_Parted_TooWide, x_sb_Parted_BadOrder, x_sb_Parted_BadStrip, x_sb_Parted_BadDeed, x_sb_Parted_BadText, x_sb_Parted_NoLaying, x_sb_Parted_FloorError, x_xn_NotFlat, x_sb_NotFlat_BadTie, x_sb_NotFlat_BadTurns, x_sb_NotFlat_Parted, x_sb_NotFlat_OddMarks, x_sb_NotFlat_TooRough, x_sb_NotFlat_TooMany, x_sb_NotFlat_TooWide, x_sb_NotFlat_BadOrder, x_sb_NotFlat_BadStrip, x_sb_NotFlat_BadDeed, x_sb_NotFlat_BadText, x_sb_NotFlat_NoLaying, x_sb_NotFlat_FloorError, x_xn_OddMarks, x_sb_OddMarks_BadTie, x_sb_OddMarks_BadTurns, x_sb_OddMarks_Parted, x_sb_OddMarks_NotFlat, x_sb_OddMarks_TooRough, x_sb_OddMarks_TooMany, x_sb_OddMarks_TooWide, x_sb_OddMarks_BadOrder, x_sb_OddMarks_BadStrip, x_sb_OddMarks_BadDeed, x_sb_OddMarks_BadText, x_sb_OddMarks_NoLaying, x_sb_OddMarks_FloorError, x_xn_TooRough, x_sb_TooRough_BadTie, x_sb_TooRough_BadTurns, x_sb_TooRough_Parted, x_sb_TooRough_NotFlat, x_sb_TooRough_OddMarks, x_sb_TooRough_TooMany, x_sb_TooRough_TooWide, x_sb_TooRough_BadOrder, x_sb_TooRough_BadStrip, x_sb_TooRough_BadDeed, x_sb_TooRough_BadText, x_sb_TooRough_NoLaying, x_sb_TooRough_FloorError, x_xn_TooMany, x_sb_TooMany_BadTie, x_sb_TooMany_BadTurns, x_sb_TooMany_Parted, x_sb_TooMany_NotFlat, x_sb_TooMany_OddMarks, x_sb_TooMany_TooRough, x_sb_TooMany_TooWide, x_sb_TooMany_BadOrder, x_sb_TooMany_BadStrip, x_sb_TooMany_BadDeed, x_sb_TooMany_BadText, x_sb_TooMany_NoLaying, x_sb_TooMany_FloorError, x_xn_TooWide, x_sb_TooWide_BadTie, x_sb_TooWide_BadTurns, x_sb_TooWide_Parted, x_sb_TooWide_NotFlat, x_sb_TooWide_OddMarks, x_sb_TooWide_TooRough, x_sb_TooWide_TooMany, x_sb_TooWide_BadOrder, x_sb_TooWide_BadStrip, x_sb_TooWide_BadDeed, x_sb_TooWide_BadText, x_sb_TooWide_NoLaying, x_sb_TooWide_FloorError, x_xn_BadOrder, x_sb_BadOrder_BadTie, x_sb_BadOrder_BadTurns, x_sb_BadOrder_Parted, x_sb_BadOrder_NotFlat, x_sb_BadOrder_OddMarks, x_sb_BadOrder_TooRough, x_sb_BadOrder_TooMany, x_sb_BadOrder_TooWide, x_sb_BadOrder_BadStrip, x_sb_BadOrder_BadDeed, x_sb_BadOrder_BadText, x_sb_BadOrder_NoLaying, x_sb_BadOrder_FloorError, x_xn_BadStrip, x_sb_BadStrip_BadTie, x_sb_BadStrip_BadTurns, x_sb_BadStrip_Parted, x_sb_BadStrip_NotFlat, x_sb_BadStrip_OddMarks, x_sb_BadStrip_TooRough, x_sb_BadStrip_TooMany, x_sb_BadStrip_TooWide, x_sb_BadStrip_BadOrder, x_sb_BadStrip_BadDeed, x_sb_BadStrip_BadText, x_sb_BadStrip_NoLaying, x_sb_BadStrip_FloorError, x_sb_BadText_BadTie, x_sb_BadText_BadTurns, x_sb_BadText_Parted, x_sb_BadText_NotFlat, x_sb_BadText_OddMarks, x_sb_BadText_TooRough, x_sb_BadText_TooMany, x_sb_BadText_TooWide, x_sb_BadText_BadOrder, x_sb_BadText_BadStrip, x_sb_BadText_BadDeed, x_sb_BadText_NoLaying, x_sb_BadText_FloorError, x_sb_NoLaying_BadTie, x_sb_NoLaying_BadTurns, x_sb_NoLaying_Parted, x_sb_NoLaying_NotFlat, x_sb_NoLaying_OddMarks, x_sb_NoLaying_TooRough, x_sb_NoLaying_TooMany, x_sb_NoLaying_TooWide, x_sb_NoLaying_BadOrder, x_sb_NoLaying_BadStrip, x_sb_NoLaying_BadDeed, x_sb_NoLaying_BadText, x_sb_NoLaying_FloorError, ⟨⟨nm_BadText, q_BadText, N_BadText, bs_BadText, _, sn_BadText, su_BadText, ab_BadText, col_BadText, dd_BadText, m0_BadText, m1_BadText, m2_BadText, m3_BadText, m5_BadText, xL_BadText, by rfl⟩, sa_BadText, x_be_BadText, x_ty_BadText, x_kp_BadText⟩, na_BadText, ⟨⟨nm_NoLaying, q_NoLaying, N_NoLaying, bs_NoLaying, _, sn_NoLaying, su_NoLaying, ab_NoLaying, col_NoLaying, dd_NoLaying, m0_NoLaying, m1_NoLaying, m2_NoLaying, m3_NoLaying, m5_NoLaying, xL_NoLaying, by rfl⟩, sa_NoLaying, x_be_NoLaying, x_ty_NoLaying, x_kp_NoLaying⟩, na_NoLaying⟩
  refine ⟨PySem.W.fnOf "law" "law" (defArgs s_law) (defBody s_law) (defScope s_law) .none kV7 dc7 pm7 an7 cd7 ct7, fun s v => .of_eq rfl, fun base _ _ => ?_⟩
  have hf_BadText___init__ := ok_BadText___init__ (P := l.prog) (w := w) (base := base) (fun_mk (st := s_BadText___init__) l0 c0 k0) B T 
  have h_xm_BadText : HasXM l.prog w K mg base 1 "BadText" C_BadText ["self", "at"] (spKeep K C_BadText) := ⟨T.ox_BadText, f0, hf_BadText___init__.ex.choose, hf_BadText___init__.ex.choose_spec.1, r0_BadText, ti0_BadText, PySem.W.mg_of X G g_BadText, hf_BadText___init__.ex.choose_spec.2⟩
  have hf_NoLaying___init__ := ok_NoLaying___init__ (P := l.prog) (w := w) (base := base) (fun_mk (st := s_NoLaying___init__) l1 c1 k1) B T 
  have h_xm_NoLaying : HasXM l.prog w K mg base 1 "NoLaying" C_NoLaying ["self", "at"] (spKeep K C_NoLaying) := ⟨T.ox_NoLaying, f1, hf_NoLaying___init__.ex.choose, hf_NoLaying___init__.ex.choose_spec.1, r1_NoLaying, ti1_NoLaying, PySem.W.mg_of X G g_NoLaying, hf_NoLaying___init__.ex.choose_spec.2⟩
  have h_law_raise_bare := ok_law_raise_bare (P := l.prog) (w := w) (base := base) (fun_mk (st := s_law_raise_bare) l2 c2 k2) (PySem.W.mg_of X G a2) B T 
  have h_law_raise_words := ok_law_raise_words (P := l.prog) (w := w) (base := base) (fun_mk (st := s_law_raise_words) l3 c3 k3) (PySem.W.mg_of X G a3) B T 
  have h_law_raise := ok_law_raise (P := l.prog) (w := w) (base := base) (fun_mk (st := s_law_raise) l4 c4 k4) (PySem.W.mg_of X G a4) B T h_law_raise_words h_law_raise_bare h_xm_BadText h_xm_NoLaying
  have h_law_kinds := ok_law_kinds (P := l.prog) (w := w) (base := base) (fun_mk (st := s_law_kinds) l5 c5 k5) (PySem.W.mg_of X G a5) B T 
  have h_law_number_kept := ok_law_number_kept (P := l.prog) (w := w) (base := base) (fun_mk (st := s_law_number_kept) l6 c6 k6) (PySem.W.mg_of X G a6) B T 
  exact ok_law (P := l.prog) (w := w) (base := base) (fun_mk (st := s_law) l7 c7 k7) B T h_law_raise h_law_kinds h_law_number_kept
end Sf
open PySem PySem.W PyProof.Rows
set_option maxRecDepth 100000 in
set_option maxHeartbeats 0 in
theorem PySem.Challenge.cw_spinfloor_k05_refusals_apart_holds : PySem.Challenge.rw_spinfloor_k05_refusals_apart.Holds := by
  w_on; o_law; k_head; (case hw => w_witness2)
  k_fill
  refine Sf.walk_ofE (l := PySem.Challenge.rw_spinfloor_k05_refusals_apart) (n := 63) (k := 4) (sp := Sf.spLaw) rfl (by decide) rfl ⟨rfl, by decide, by decide⟩ (fun w h Y => PySem.W.kIn_of Y) ?F (fun _ _ a ns hl hb hS => ⟨a, ns, rfl, hS, hl, hb, fun _ => rfl⟩)
  case F =>
    intro w mg fa h KX G hmg
    refine' Sf.all_mk KX G hmg ?g_BadDeed ?g_FloorError ?g_BadTie ?g_BadTurns ?g_Parted ?g_NotFlat ?g_OddMarks ?g_TooRough ?g_TooMany ?g_TooWide ?g_BadOrder ?g_BadStrip ?g_BadText ?g_NoLaying ?r0_BadText ?ti0_BadText ?xL_BadText ?sa_BadText ?na_BadText ?i0 ?l0 ?c0 ?k0 ?r1_NoLaying ?ti1_NoLaying ?xL_NoLaying ?sa_NoLaying ?na_NoLaying ?i1 ?l1 ?c1 ?k1 ?a2 ?l2 ?c2 ?k2 ?a3 ?l3 ?c3 ?k3 ?a4 ?l4 ?c4 ?k4 ?a5 ?l5 ?c5 ?k5 ?a6 ?l6 ?c6 ?k6 ?a7 ?l7 ?c7 ?k7 ?z_isinstance ?z_int ?z_bool ?z_ValueError ?z_range ?x_og ?x_ot ?x_kp_BadDeed ?x_be_BadDeed ?x_ty_BadDeed ?x_cl_BadDeed ?x_hd_BadDeed ?x_ga_BadDeed ?x_gg_BadDeed ?x_oc_BadDeed ?x_om_BadDeed ?x_sv_BadDeed ?x_sb_BadDeed_BadDeed ?x_kp_FloorError ?x_be_FloorError ?x_ty_FloorError ?x_cl_FloorError ?x_hd_FloorError ?x_ga_FloorError ?x_gg_FloorError ?x_oc_FloorError ?x_om_FloorError ?x_sv_FloorError ?x_sb_FloorError_FloorError ?x_kp_BadTie ?x_be_BadTie ?x_ty_BadTie ?x_cl_BadTie ?x_hd_BadTie ?x_ga_BadTie ?x_gg_BadTie ?x_oc_BadTie ?x_om_BadTie ?x_sv_BadTie ?x_sb_BadTie_BadTie ?x_kp_BadTurns ?x_be_BadTurns ?x_ty_BadTurns ?x_cl_BadTurns ?x_hd_BadTurns ?x_ga_BadTurns ?x_gg_BadTurns ?x_oc_BadTurns ?x_om_BadTurns ?x_sv_BadTurns ?x_sb_BadTurns_BadTurns ?x_kp_Parted ?x_be_Parted ?x_ty_Parted ?x_cl_Parted ?x_hd_Parted ?x_ga_Parted ?x_gg_Parted ?x_oc_Parted ?x_om_Parted ?x_sv_Parted ?x_sb_Parted_Parted ?x_kp_NotFlat ?x_be_NotFlat ?x_ty_NotFlat ?x_cl_NotFlat ?x_hd_NotFlat ?x_ga_NotFlat ?x_gg_NotFlat ?x_oc_NotFlat ?x_om_NotFlat ?x_sv_NotFlat ?x_sb_NotFlat_NotFlat ?x_kp_OddMarks ?x_be_OddMarks ?x_ty_OddMarks ?x_cl_OddMarks ?x_hd_OddMarks ?x_ga_OddMarks ?x_gg_OddMarks ?x_oc_OddMarks ?x_om_OddMarks ?x_sv_OddMarks ?x_sb_OddMarks_OddMarks ?x_kp_TooRough ?x_be_TooRough ?x_ty_TooRough ?x_cl_TooRough ?x_hd_TooRough ?x_ga_TooRough ?x_gg_TooRough ?x_oc_TooRough ?x_om_TooRough ?x_sv_TooRough ?x_sb_TooRough_TooRough ?x_kp_TooMany ?x_be_TooMany ?x_ty_TooMany ?x_cl_TooMany ?x_hd_TooMany ?x_ga_TooMany ?x_gg_TooMany ?x_oc_TooMany ?x_om_TooMany ?x_sv_TooMany ?x_sb_TooMany_TooMany ?x_kp_TooWide ?x_be_TooWide ?x_ty_TooWide ?x_cl_TooWide ?x_hd_TooWide ?x_ga_TooWide ?x_gg_TooWide ?x_oc_TooWide ?x_om_TooWide ?x_sv_TooWide ?x_sb_TooWide_TooWide ?x_kp_BadOrder ?x_be_BadOrder ?x_ty_BadOrder ?x_cl_BadOrder ?x_hd_BadOrder ?x_ga_BadOrder ?x_gg_BadOrder ?x_oc_BadOrder ?x_om_BadOrder ?x_sv_BadOrder ?x_sb_BadOrder_BadOrder ?x_kp_BadStrip ?x_be_BadStrip ?x_ty_BadStrip ?x_cl_BadStrip ?x_hd_BadStrip ?x_ga_BadStrip ?x_gg_BadStrip ?x_oc_BadStrip ?x_om_BadStrip ?x_sv_BadStrip ?x_sb_BadStrip_BadStrip ?x_kp_BadText ?x_be_BadText ?x_ty_BadText ?x_cl_BadText ?x_hd_BadText ?x_ga_BadText ?x_gg_BadText ?x_oc_BadText ?x_om_BadText ?x_sv_BadText ?x_sb_BadText_BadText ?x_kp_NoLaying ?x_be_NoLaying ?x_ty_NoLaying ?x_cl_NoLaying ?x_hd_NoLaying ?x_ga_NoLaying ?x_gg_NoLaying ?x_oc_NoLaying ?x_om_NoLaying ?x_sv_NoLaying ?x_sb_NoLaying_NoLaying ?x_xn_BadDeed ?x_sb_BadDeed_BadTie ?x_sb_BadDeed_BadTurns ?x_sb_BadDeed_Parted ?x_sb_BadDeed_NotFlat ?x_sb_BadDeed_OddMarks ?x_sb_BadDeed_TooRough ?x_sb_BadDeed_TooMany ?x_sb_BadDeed_TooWide ?x_sb_BadDeed_BadOrder ?x_sb_BadDeed_BadStrip ?x_sb_BadDeed_BadText ?x_sb_BadDeed_NoLaying ?x_sb_BadDeed_FloorError ?x_xn_FloorError ?x_sb_FloorError_BadTie ?x_sb_FloorError_BadTurns ?x_sb_FloorError_Parted ?x_sb_FloorError_NotFlat ?x_sb_FloorError_OddMarks ?x_sb_FloorError_TooRough ?x_sb_FloorError_TooMany ?x_sb_FloorError_TooWide ?x_sb_FloorError_BadOrder ?x_sb_FloorError_BadStrip ?x_sb_FloorError_BadDeed ?x_sb_FloorError_BadText ?x_sb_FloorError_NoLaying ?x_xn_BadTie ?x_sb_BadTie_BadTurns ?x_sb_BadTie_Parted ?x_sb_BadTie_NotFlat ?x_sb_BadTie_OddMarks ?x_sb_BadTie_TooRough ?x_sb_BadTie_TooMany ?x_sb_BadTie_TooWide ?x_sb_BadTie_BadOrder ?x_sb_BadTie_BadStrip ?x_sb_BadTie_BadDeed ?x_sb_BadTie_BadText ?x_sb_BadTie_NoLaying ?x_sb_BadTie_FloorError ?x_xn_BadTurns ?x_sb_BadTurns_BadTie ?x_sb_BadTurns_Parted ?x_sb_BadTurns_NotFlat ?x_sb_BadTurns_OddMarks ?x_sb_BadTurns_TooRough ?x_sb_BadTurns_TooMany ?x_sb_BadTurns_TooWide ?x_sb_BadTurns_BadOrder ?x_sb_BadTurns_BadStrip ?x_sb_BadTurns_BadDeed ?x_sb_BadTurns_BadText ?x_sb_BadTurns_NoLaying ?x_sb_BadTurns_FloorError ?x_xn_Parted ?x_sb_Parted_BadTie ?x_sb_Parted_BadTurns ?x_sb_Parted_NotFlat ?x_sb_Parted_OddMarks ?x_sb_Parted_TooRough ?x_sb_Parted_TooMany ?x_sb_Parted_TooWide ?x_sb_Parted_BadOrder ?x_sb_Parted_BadStrip ?x_sb_Parted_BadDeed ?x_sb_Parted_BadText ?x_sb_Parted_NoLaying ?x_sb_Parted_FloorError ?x_xn_NotFlat ?x_sb_NotFlat_BadTie ?x_sb_NotFlat_BadTurns ?x_sb_NotFlat_Parted ?x_sb_NotFlat_OddMarks ?x_sb_NotFlat_TooRough ?x_sb_NotFlat_TooMany ?x_sb_NotFlat_TooWide ?x_sb_NotFlat_BadOrder ?x_sb_NotFlat_BadStrip ?x_sb_NotFlat_BadDeed ?x_sb_NotFlat_BadText ?x_sb_NotFlat_NoLaying ?x_sb_NotFlat_FloorError ?x_xn_OddMarks ?x_sb_OddMarks_BadTie ?x_sb_OddMarks_BadTurns ?x_sb_OddMarks_Parted ?x_sb_OddMarks_NotFlat ?x_sb_OddMarks_TooRough ?x_sb_OddMarks_TooMany ?x_sb_OddMarks_TooWide ?x_sb_OddMarks_BadOrder ?x_sb_OddMarks_BadStrip ?x_sb_OddMarks_BadDeed ?x_sb_OddMarks_BadText ?x_sb_OddMarks_NoLaying ?x_sb_OddMarks_FloorError ?x_xn_TooRough ?x_sb_TooRough_BadTie ?x_sb_TooRough_BadTurns ?x_sb_TooRough_Parted ?x_sb_TooRough_NotFlat ?x_sb_TooRough_OddMarks ?x_sb_TooRough_TooMany ?x_sb_TooRough_TooWide ?x_sb_TooRough_BadOrder ?x_sb_TooRough_BadStrip ?x_sb_TooRough_BadDeed ?x_sb_TooRough_BadText ?x_sb_TooRough_NoLaying ?x_sb_TooRough_FloorError ?x_xn_TooMany ?x_sb_TooMany_BadTie ?x_sb_TooMany_BadTurns ?x_sb_TooMany_Parted ?x_sb_TooMany_NotFlat ?x_sb_TooMany_OddMarks ?x_sb_TooMany_TooRough ?x_sb_TooMany_TooWide ?x_sb_TooMany_BadOrder ?x_sb_TooMany_BadStrip ?x_sb_TooMany_BadDeed ?x_sb_TooMany_BadText ?x_sb_TooMany_NoLaying ?x_sb_TooMany_FloorError ?x_xn_TooWide ?x_sb_TooWide_BadTie ?x_sb_TooWide_BadTurns ?x_sb_TooWide_Parted ?x_sb_TooWide_NotFlat ?x_sb_TooWide_OddMarks ?x_sb_TooWide_TooRough ?x_sb_TooWide_TooMany ?x_sb_TooWide_BadOrder ?x_sb_TooWide_BadStrip ?x_sb_TooWide_BadDeed ?x_sb_TooWide_BadText ?x_sb_TooWide_NoLaying ?x_sb_TooWide_FloorError ?x_xn_BadOrder ?x_sb_BadOrder_BadTie ?x_sb_BadOrder_BadTurns ?x_sb_BadOrder_Parted ?x_sb_BadOrder_NotFlat ?x_sb_BadOrder_OddMarks ?x_sb_BadOrder_TooRough ?x_sb_BadOrder_TooMany ?x_sb_BadOrder_TooWide ?x_sb_BadOrder_BadStrip ?x_sb_BadOrder_BadDeed ?x_sb_BadOrder_BadText ?x_sb_BadOrder_NoLaying ?x_sb_BadOrder_FloorError ?x_xn_BadStrip ?x_sb_BadStrip_BadTie ?x_sb_BadStrip_BadTurns ?x_sb_BadStrip_Parted ?x_sb_BadStrip_NotFlat ?x_sb_BadStrip_OddMarks ?x_sb_BadStrip_TooRough ?x_sb_BadStrip_TooMany ?x_sb_BadStrip_TooWide ?x_sb_BadStrip_BadOrder ?x_sb_BadStrip_BadDeed ?x_sb_BadStrip_BadText ?x_sb_BadStrip_NoLaying ?x_sb_BadStrip_FloorError ?x_sb_BadText_BadTie ?x_sb_BadText_BadTurns ?x_sb_BadText_Parted ?x_sb_BadText_NotFlat ?x_sb_BadText_OddMarks ?x_sb_BadText_TooRough ?x_sb_BadText_TooMany ?x_sb_BadText_TooWide ?x_sb_BadText_BadOrder ?x_sb_BadText_BadStrip ?x_sb_BadText_BadDeed ?x_sb_BadText_NoLaying ?x_sb_BadText_FloorError ?x_sb_NoLaying_BadTie ?x_sb_NoLaying_BadTurns ?x_sb_NoLaying_Parted ?x_sb_NoLaying_NotFlat ?x_sb_NoLaying_OddMarks ?x_sb_NoLaying_TooRough ?x_sb_NoLaying_TooMany ?x_sb_NoLaying_TooWide ?x_sb_NoLaying_BadOrder ?x_sb_NoLaying_BadStrip ?x_sb_NoLaying_BadDeed ?x_sb_NoLaying_BadText ?x_sb_NoLaying_FloorError
    (case g_BadDeed => k_is); (case g_FloorError => k_is); (case g_BadTie => k_is); (case g_BadTurns => k_is); (case g_Parted => k_is); (case g_NotFlat => k_is); (case g_OddMarks => k_is); (case g_TooRough => k_is); (case g_TooMany => k_is); (case g_TooWide => k_is); (case g_BadOrder => k_is); (case g_BadStrip => k_is); (case g_BadText => k_is); (case g_NoLaying => k_is); (case r0_BadText => k_is); (case ti0_BadText => k_is); (case xL_BadText => k_is); (case sa_BadText => k_is); (case na_BadText => k_is); (case i0 => k_is); (case l0 => k_is); (case c0 => k_is); (case k0 => k_is); (case r1_NoLaying => k_is); (case ti1_NoLaying => k_is); (case xL_NoLaying => k_is); (case sa_NoLaying => k_is); (case na_NoLaying => k_is); (case i1 => k_is); (case l1 => k_is); (case c1 => k_is); (case k1 => k_is); (case a2 => k_is); (case l2 => k_is); (case c2 => k_is); (case k2 => k_is); (case a3 => k_is); (case l3 => k_is); (case c3 => k_is); (case k3 => k_is); (case a4 => k_is); (case l4 => k_is); (case c4 => k_is); (case k4 => k_is); (case a5 => k_is); (case l5 => k_is); (case c5 => k_is); (case k5 => k_is); (case a6 => k_is); (case l6 => k_is); (case c6 => k_is); (case k6 => k_is); (case a7 => k_is); (case l7 => k_is); (case c7 => k_is); (case k7 => k_is); (case z_isinstance => k_is); (case z_int => k_is); (case z_bool => k_is); (case z_ValueError => k_is); (case z_range => k_is); (case x_og => k_is); (case x_ot => k_is); (case x_kp_BadDeed => k_is); (case x_be_BadDeed => k_is); (case x_ty_BadDeed => k_is); (case x_cl_BadDeed => k_is); (case x_hd_BadDeed => k_is); (case x_ga_BadDeed => k_is); (case x_gg_BadDeed => k_is); (case x_oc_BadDeed => k_is); (case x_om_BadDeed => k_is); (case x_sv_BadDeed => k_is); (case x_sb_BadDeed_BadDeed => first | rfl | k_is); (case x_kp_FloorError => k_is); (case x_be_FloorError => k_is); (case x_ty_FloorError => k_is); (case x_cl_FloorError => k_is); (case x_hd_FloorError => k_is); (case x_ga_FloorError => k_is); (case x_gg_FloorError => k_is); (case x_oc_FloorError => k_is); (case x_om_FloorError => k_is); (case x_sv_FloorError => k_is); (case x_sb_FloorError_FloorError => first | rfl | k_is); (case x_kp_BadTie => k_is); (case x_be_BadTie => k_is); (case x_ty_BadTie => k_is); (case x_cl_BadTie => k_is); (case x_hd_BadTie => k_is); (case x_ga_BadTie => k_is); (case x_gg_BadTie => k_is); (case x_oc_BadTie => k_is); (case x_om_BadTie => k_is); (case x_sv_BadTie => k_is); (case x_sb_BadTie_BadTie => first | rfl | k_is); (case x_kp_BadTurns => k_is); (case x_be_BadTurns => k_is); (case x_ty_BadTurns => k_is); (case x_cl_BadTurns => k_is); (case x_hd_BadTurns => k_is); (case x_ga_BadTurns => k_is); (case x_gg_BadTurns => k_is); (case x_oc_BadTurns => k_is); (case x_om_BadTurns => k_is); (case x_sv_BadTurns => k_is); (case x_sb_BadTurns_BadTurns => first | rfl | k_is); (case x_kp_Parted => k_is); (case x_be_Parted => k_is); (case x_ty_Parted => k_is); (case x_cl_Parted => k_is); (case x_hd_Parted => k_is); (case x_ga_Parted => k_is); (case x_gg_Parted => k_is); (case x_oc_Parted => k_is); (case x_om_Parted => k_is); (case x_sv_Parted => k_is); (case x_sb_Parted_Parted => first | rfl | k_is); (case x_kp_NotFlat => k_is); (case x_be_NotFlat => k_is); (case x_ty_NotFlat => k_is); (case x_cl_NotFlat => k_is); (case x_hd_NotFlat => k_is); (case x_ga_NotFlat => k_is); (case x_gg_NotFlat => k_is); (case x_oc_NotFlat => k_is); (case x_om_NotFlat => k_is); (case x_sv_NotFlat => k_is); (case x_sb_NotFlat_NotFlat => first | rfl | k_is); (case x_kp_OddMarks => k_is); (case x_be_OddMarks => k_is); (case x_ty_OddMarks => k_is); (case x_cl_OddMarks => k_is); (case x_hd_OddMarks => k_is); (case x_ga_OddMarks => k_is); (case x_gg_OddMarks => k_is); (case x_oc_OddMarks => k_is); (case x_om_OddMarks => k_is); (case x_sv_OddMarks => k_is); (case x_sb_OddMarks_OddMarks => first | rfl | k_is); (case x_kp_TooRough => k_is); (case x_be_TooRough => k_is); (case x_ty_TooRough => k_is); (case x_cl_TooRough => k_is); (case x_hd_TooRough => k_is); (case x_ga_TooRough => k_is); (case x_gg_TooRough => k_is); (case x_oc_TooRough => k_is); (case x_om_TooRough => k_is); (case x_sv_TooRough => k_is); (case x_sb_TooRough_TooRough => first | rfl | k_is); (case x_kp_TooMany => k_is); (case x_be_TooMany => k_is); (case x_ty_TooMany => k_is); (case x_cl_TooMany => k_is); (case x_hd_TooMany => k_is); (case x_ga_TooMany => k_is); (case x_gg_TooMany => k_is); (case x_oc_TooMany => k_is); (case x_om_TooMany => k_is); (case x_sv_TooMany => k_is); (case x_sb_TooMany_TooMany => first | rfl | k_is); (case x_kp_TooWide => k_is); (case x_be_TooWide => k_is); (case x_ty_TooWide => k_is); (case x_cl_TooWide => k_is); (case x_hd_TooWide => k_is); (case x_ga_TooWide => k_is); (case x_gg_TooWide => k_is); (case x_oc_TooWide => k_is); (case x_om_TooWide => k_is); (case x_sv_TooWide => k_is); (case x_sb_TooWide_TooWide => first | rfl | k_is); (case x_kp_BadOrder => k_is); (case x_be_BadOrder => k_is); (case x_ty_BadOrder => k_is); (case x_cl_BadOrder => k_is); (case x_hd_BadOrder => k_is); (case x_ga_BadOrder => k_is); (case x_gg_BadOrder => k_is); (case x_oc_BadOrder => k_is); (case x_om_BadOrder => k_is); (case x_sv_BadOrder => k_is); (case x_sb_BadOrder_BadOrder => first | rfl | k_is); (case x_kp_BadStrip => k_is); (case x_be_BadStrip => k_is); (case x_ty_BadStrip => k_is); (case x_cl_BadStrip => k_is); (case x_hd_BadStrip => k_is); (case x_ga_BadStrip => k_is); (case x_gg_BadStrip => k_is); (case x_oc_BadStrip => k_is); (case x_om_BadStrip => k_is); (case x_sv_BadStrip => k_is); (case x_sb_BadStrip_BadStrip => first | rfl | k_is); (case x_kp_BadText => k_is); (case x_be_BadText => k_is); (case x_ty_BadText => k_is); (case x_cl_BadText => k_is); (case x_hd_BadText => k_is); (case x_ga_BadText => k_is); (case x_gg_BadText => k_is); (case x_oc_BadText => k_is); (case x_om_BadText => k_is); (case x_sv_BadText => k_is); (case x_sb_BadText_BadText => first | rfl | k_is); (case x_kp_NoLaying => k_is); (case x_be_NoLaying => k_is); (case x_ty_NoLaying => k_is); (case x_cl_NoLaying => k_is); (case x_hd_NoLaying => k_is); (case x_ga_NoLaying => k_is); (case x_gg_NoLaying => k_is); (case x_oc_NoLaying => k_is); (case x_om_NoLaying => k_is); (case x_sv_NoLaying => k_is); (case x_sb_NoLaying_NoLaying => first | rfl | k_is); (case x_xn_BadDeed => k_exc); (case x_sb_BadDeed_BadTie => first | rfl | k_is); (case x_sb_BadDeed_BadTurns => first | rfl | k_is); (case x_sb_BadDeed_Parted => first | rfl | k_is); (case x_sb_BadDeed_NotFlat => first | rfl | k_is); (case x_sb_BadDeed_OddMarks => first | rfl | k_is); (case x_sb_BadDeed_TooRough => first | rfl | k_is); (case x_sb_BadDeed_TooMany => first | rfl | k_is); (case x_sb_BadDeed_TooWide => first | rfl | k_is); (case x_sb_BadDeed_BadOrder => first | rfl | k_is); (case x_sb_BadDeed_BadStrip => first | rfl | k_is); (case x_sb_BadDeed_BadText => first | rfl | k_is); (case x_sb_BadDeed_NoLaying => first | rfl | k_is); (case x_sb_BadDeed_FloorError => first | rfl | k_is); (case x_xn_FloorError => k_exc); (case x_sb_FloorError_BadTie => first | rfl | k_is); (case x_sb_FloorError_BadTurns => first | rfl | k_is); (case x_sb_FloorError_Parted => first | rfl | k_is); (case x_sb_FloorError_NotFlat => first | rfl | k_is); (case x_sb_FloorError_OddMarks => first | rfl | k_is); (case x_sb_FloorError_TooRough => first | rfl | k_is); (case x_sb_FloorError_TooMany => first | rfl | k_is); (case x_sb_FloorError_TooWide => first | rfl | k_is); (case x_sb_FloorError_BadOrder => first | rfl | k_is); (case x_sb_FloorError_BadStrip => first | rfl | k_is); (case x_sb_FloorError_BadDeed => first | rfl | k_is); (case x_sb_FloorError_BadText => first | rfl | k_is); (case x_sb_FloorError_NoLaying => first | rfl | k_is); (case x_xn_BadTie => k_exc); (case x_sb_BadTie_BadTurns => first | rfl | k_is); (case x_sb_BadTie_Parted => first | rfl | k_is); (case x_sb_BadTie_NotFlat => first | rfl | k_is); (case x_sb_BadTie_OddMarks => first | rfl | k_is); (case x_sb_BadTie_TooRough => first | rfl | k_is); (case x_sb_BadTie_TooMany => first | rfl | k_is); (case x_sb_BadTie_TooWide => first | rfl | k_is); (case x_sb_BadTie_BadOrder => first | rfl | k_is); (case x_sb_BadTie_BadStrip => first | rfl | k_is); (case x_sb_BadTie_BadDeed => first | rfl | k_is); (case x_sb_BadTie_BadText => first | rfl | k_is); (case x_sb_BadTie_NoLaying => first | rfl | k_is); (case x_sb_BadTie_FloorError => first | rfl | k_is); (case x_xn_BadTurns => k_exc); (case x_sb_BadTurns_BadTie => first | rfl | k_is); (case x_sb_BadTurns_Parted => first | rfl | k_is); (case x_sb_BadTurns_NotFlat => first | rfl | k_is); (case x_sb_BadTurns_OddMarks => first | rfl | k_is); (case x_sb_BadTurns_TooRough => first | rfl | k_is); (case x_sb_BadTurns_TooMany => first | rfl | k_is); (case x_sb_BadTurns_TooWide => first | rfl | k_is); (case x_sb_BadTurns_BadOrder => first | rfl | k_is); (case x_sb_BadTurns_BadStrip => first | rfl | k_is); (case x_sb_BadTurns_BadDeed => first | rfl | k_is); (case x_sb_BadTurns_BadText => first | rfl | k_is); (case x_sb_BadTurns_NoLaying => first | rfl | k_is); (case x_sb_BadTurns_FloorError => first | rfl | k_is); (case x_xn_Parted => k_exc); (case x_sb_Parted_BadTie => first | rfl | k_is); (case x_sb_Parted_BadTurns => first | rfl | k_is); (case x_sb_Parted_NotFlat => first | rfl | k_is); (case x_sb_Parted_OddMarks => first | rfl | k_is); (case x_sb_Parted_TooRough => first | rfl | k_is); (case x_sb_Parted_TooMany => first | rfl | k_is); (case x_sb_Parted_TooWide => first | rfl | k_is); (case x_sb_Parted_BadOrder => first | rfl | k_is); (case x_sb_Parted_BadStrip => first | rfl | k_is); (case x_sb_Parted_BadDeed => first | rfl | k_is); (case x_sb_Parted_BadText => first | rfl | k_is); (case x_sb_Parted_NoLaying => first | rfl | k_is); (case x_sb_Parted_FloorError => first | rfl | k_is); (case x_xn_NotFlat => k_exc); (case x_sb_NotFlat_BadTie => first | rfl | k_is); (case x_sb_NotFlat_BadTurns => first | rfl | k_is); (case x_sb_NotFlat_Parted => first | rfl | k_is); (case x_sb_NotFlat_OddMarks => first | rfl | k_is); (case x_sb_NotFlat_TooRough => first | rfl | k_is); (case x_sb_NotFlat_TooMany => first | rfl | k_is); (case x_sb_NotFlat_TooWide => first | rfl | k_is); (case x_sb_NotFlat_BadOrder => first | rfl | k_is); (case x_sb_NotFlat_BadStrip => first | rfl | k_is); (case x_sb_NotFlat_BadDeed => first | rfl | k_is); (case x_sb_NotFlat_BadText => first | rfl | k_is); (case x_sb_NotFlat_NoLaying => first | rfl | k_is); (case x_sb_NotFlat_FloorError => first | rfl | k_is); (case x_xn_OddMarks => k_exc); (case x_sb_OddMarks_BadTie => first | rfl | k_is); (case x_sb_OddMarks_BadTurns => first | rfl | k_is); (case x_sb_OddMarks_Parted => first | rfl | k_is); (case x_sb_OddMarks_NotFlat => first | rfl | k_is); (case x_sb_OddMarks_TooRough => first | rfl | k_is); (case x_sb_OddMarks_TooMany => first | rfl | k_is); (case x_sb_OddMarks_TooWide => first | rfl | k_is); (case x_sb_OddMarks_BadOrder => first | rfl | k_is); (case x_sb_OddMarks_BadStrip => first | rfl | k_is); (case x_sb_OddMarks_BadDeed => first | rfl | k_is); (case x_sb_OddMarks_BadText => first | rfl | k_is); (case x_sb_OddMarks_NoLaying => first | rfl | k_is); (case x_sb_OddMarks_FloorError => first | rfl | k_is); (case x_xn_TooRough => k_exc); (case x_sb_TooRough_BadTie => first | rfl | k_is); (case x_sb_TooRough_BadTurns => first | rfl | k_is); (case x_sb_TooRough_Parted => first | rfl | k_is); (case x_sb_TooRough_NotFlat => first | rfl | k_is); (case x_sb_TooRough_OddMarks => first | rfl | k_is); (case x_sb_TooRough_TooMany => first | rfl | k_is); (case x_sb_TooRough_TooWide => first | rfl | k_is); (case x_sb_TooRough_BadOrder => first | rfl | k_is); (case x_sb_TooRough_BadStrip => first | rfl | k_is); (case x_sb_TooRough_BadDeed => first | rfl | k_is); (case x_sb_TooRough_BadText => first | rfl | k_is); (case x_sb_TooRough_NoLaying => first | rfl | k_is); (case x_sb_TooRough_FloorError => first | rfl | k_is); (case x_xn_TooMany => k_exc); (case x_sb_TooMany_BadTie => first | rfl | k_is); (case x_sb_TooMany_BadTurns => first | rfl | k_is); (case x_sb_TooMany_Parted => first | rfl | k_is); (case x_sb_TooMany_NotFlat => first | rfl | k_is); (case x_sb_TooMany_OddMarks => first | rfl | k_is); (case x_sb_TooMany_TooRough => first | rfl | k_is); (case x_sb_TooMany_TooWide => first | rfl | k_is); (case x_sb_TooMany_BadOrder => first | rfl | k_is); (case x_sb_TooMany_BadStrip => first | rfl | k_is); (case x_sb_TooMany_BadDeed => first | rfl | k_is); (case x_sb_TooMany_BadText => first | rfl | k_is); (case x_sb_TooMany_NoLaying => first | rfl | k_is); (case x_sb_TooMany_FloorError => first | rfl | k_is); (case x_xn_TooWide => k_exc); (case x_sb_TooWide_BadTie => first | rfl | k_is); (case x_sb_TooWide_BadTurns => first | rfl | k_is); (case x_sb_TooWide_Parted => first | rfl | k_is); (case x_sb_TooWide_NotFlat => first | rfl | k_is); (case x_sb_TooWide_OddMarks => first | rfl | k_is); (case x_sb_TooWide_TooRough => first | rfl | k_is); (case x_sb_TooWide_TooMany => first | rfl | k_is); (case x_sb_TooWide_BadOrder => first | rfl | k_is); (case x_sb_TooWide_BadStrip => first | rfl | k_is); (case x_sb_TooWide_BadDeed => first | rfl | k_is); (case x_sb_TooWide_BadText => first | rfl | k_is); (case x_sb_TooWide_NoLaying => first | rfl | k_is); (case x_sb_TooWide_FloorError => first | rfl | k_is); (case x_xn_BadOrder => k_exc); (case x_sb_BadOrder_BadTie => first | rfl | k_is); (case x_sb_BadOrder_BadTurns => first | rfl | k_is); (case x_sb_BadOrder_Parted => first | rfl | k_is); (case x_sb_BadOrder_NotFlat => first | rfl | k_is); (case x_sb_BadOrder_OddMarks => first | rfl | k_is); (case x_sb_BadOrder_TooRough => first | rfl | k_is); (case x_sb_BadOrder_TooMany => first | rfl | k_is); (case x_sb_BadOrder_TooWide => first | rfl | k_is); (case x_sb_BadOrder_BadStrip => first | rfl | k_is); (case x_sb_BadOrder_BadDeed => first | rfl | k_is); (case x_sb_BadOrder_BadText => first | rfl | k_is); (case x_sb_BadOrder_NoLaying => first | rfl | k_is); (case x_sb_BadOrder_FloorError => first | rfl | k_is); (case x_xn_BadStrip => k_exc); (case x_sb_BadStrip_BadTie => first | rfl | k_is); (case x_sb_BadStrip_BadTurns => first | rfl | k_is); (case x_sb_BadStrip_Parted => first | rfl | k_is); (case x_sb_BadStrip_NotFlat => first | rfl | k_is); (case x_sb_BadStrip_OddMarks => first | rfl | k_is); (case x_sb_BadStrip_TooRough => first | rfl | k_is); (case x_sb_BadStrip_TooMany => first | rfl | k_is); (case x_sb_BadStrip_TooWide => first | rfl | k_is); (case x_sb_BadStrip_BadOrder => first | rfl | k_is); (case x_sb_BadStrip_BadDeed => first | rfl | k_is); (case x_sb_BadStrip_BadText => first | rfl | k_is); (case x_sb_BadStrip_NoLaying => first | rfl | k_is); (case x_sb_BadStrip_FloorError => first | rfl | k_is); (case x_sb_BadText_BadTie => first | rfl | k_is); (case x_sb_BadText_BadTurns => first | rfl | k_is); (case x_sb_BadText_Parted => first | rfl | k_is); (case x_sb_BadText_NotFlat => first | rfl | k_is); (case x_sb_BadText_OddMarks => first | rfl | k_is); (case x_sb_BadText_TooRough => first | rfl | k_is); (case x_sb_BadText_TooMany => first | rfl | k_is); (case x_sb_BadText_TooWide => first | rfl | k_is); (case x_sb_BadText_BadOrder => first | rfl | k_is); (case x_sb_BadText_BadStrip => first | rfl | k_is); (case x_sb_BadText_BadDeed => first | rfl | k_is); (case x_sb_BadText_NoLaying => first | rfl | k_is); (case x_sb_BadText_FloorError => first | rfl | k_is); (case x_sb_NoLaying_BadTie => first | rfl | k_is); (case x_sb_NoLaying_BadTurns => first | rfl | k_is); (case x_sb_NoLaying_Parted => first | rfl | k_is); (case x_sb_NoLaying_NotFlat => first | rfl | k_is); (case x_sb_NoLaying_OddMarks => first | rfl | k_is); (case x_sb_NoLaying_TooRough => first | rfl | k_is); (case x_sb_NoLaying_TooMany => first | rfl | k_is); (case x_sb_NoLaying_TooWide => first | rfl | k_is); (case x_sb_NoLaying_BadOrder => first | rfl | k_is); (case x_sb_NoLaying_BadStrip => first | rfl | k_is); (case x_sb_NoLaying_BadDeed => first | rfl | k_is); (case x_sb_NoLaying_BadText => first | rfl | k_is); (case x_sb_NoLaying_FloorError => first | rfl | k_is)

