
import PyProof.Rows.All
import Wide.All
import OpenK.AllK
import Wide.FinOn
import HandS.ForMost
import HandS.Wide
import HandS.WideBits
import HandS.IsInst
import HandS.More
import HandS.EndBits
import HandS.SortInts
import KE.SortData
import HandS.TupLe
import HandS.Rev
import HandS.RevTup
import PySem.Challenge.RW_spinfloor_k59_answers_as_texts
set_option Elab.async false
set_option linter.all false
set_option pp.deepTerms false
set_option pp.deepTerms.threshold 4
set_option maxRecDepth 100000
set_option maxHeartbeats 8000000
namespace Sf
open PySem PySem.Spec PyProof.Rows L2

/-! ### defs by name -/
structure Has (P : Program) (w : World) (K : PySem.W.Frag) (mg : Str → Option Value) (base : Heap) (CX : CXT) (k : Nat) (x : Str) (ps : List Str) (sp : Sp) : Prop where
  ex : ∃ f fd, FnOk P w K mg base CX k f fd ps sp ∧ mg x = some (.ref f) ∧ PySem.W.keepIn K (.ref f) = true ∧ Binds K fd ps []
section
variable {P : Program} {w : World} {K : PySem.W.Frag} {mg : Str → Option Value} {base : Heap} {x qual : Str} {ps N : List Str} {sp : Sp} {k : Nat}
theorem Has.mk' {st : Stmt} {f : Addr} {fd : FuncData} (F : Fun K x qual st f fd) (gf : mg x = some (.ref f)) (b : Binds K fd ps []) (S : FnScope N ps (defScope st)) (len : ∀ vs H Q E, sp vs H Q E → vs.length = ps.length)
    (hbody : ∀ (cdv : Value) (A : Around) (outer : List Env) (s : Shared) (H : Hp) (vs : List V) (Q : VK) (E : XK), Room k (A.deeper (envOfC qual (defScope st) s.heap.objs.size f cdv)) → sp vs H Q E →
      ∃ t, PSs (cxOf CX0 P w K mg base N qual (defScope st) f cdv A outer s H E).nox (defBody st) t ∧ t { nx := fun _ H' => Q .non H', rt := Q } (start N vs) H) : Has P w K mg base CX0 (k + 1) x ps sp :=
  ⟨f, fd, F.ok S len hbody, gf, F.kp, b⟩
end
section
variable {X : Cx} {k : Nat} {ps : List Str} {sp : Sp} {x : Str} {p pos : Pos} {e : Expr} {es : List Expr} {t : TA}
theorem pe_fn (h : Has X.prog X.w X.K X.mg X.base CX0 k x ps sp) (hr : Room k X.A) (hg : Gl X x) (ha : PA X (e :: es) t) (hdb : (x == ("__debug__" : Str)) = false := by decide) (he : starEach (e :: es) X.env = (false, eval e X.env) :: starEach es X.env := by rfl) (hpl : (backTo pos (starEach es X.env)).any (·.1) = false := by rfl) :
    PE X (.Call (.Name x p) (e :: es) [] pos) (tCall sp [] E0 t) := by
  obtain ⟨f, fd, F, gf, kp, b⟩ := h.ex
  exact pe_call F hr hg gf kp b .nil pass0 ha hdb he hpl
theorem pe_fn0 (h : Has X.prog X.w X.K X.mg X.base CX0 k x ps sp) (hr : Room k X.A) (hg : Gl X x) (hdb : (x == ("__debug__" : Str)) = false := by decide) :
    PE X (.Call (.Name x p) [] [] pos) (tCall sp [] E0 tNil) := by
  obtain ⟨f, fd, F, gf, kp, b⟩ := h.ex
  exact pe_call0 F hr hg gf kp b .nil pass0 hdb
end
/-! ### lists whose object is known to the sign; the sum of two -/
def LsE (K : PySem.W.Frag) (H : Hp) (a : Addr) (xs : List V) : Prop :=
  Rd H a (.lst xs) ∨ ∃ (its : List Value) (n : Nat), K.lookup a = some { cls := .type "list", data := .seq its.toArray n } ∧ Vals xs its ∧ xs.length ≤ sizeLine
theorem LsE.sq {K : PySem.W.Frag} {H : Hp} {a : Addr} {xs : List V} (h : LsE K H a xs) : SqL K H a xs := by
  rcases h with h | ⟨its, n, h1, h2, h3⟩
  · exact .inl h
  · exact .inr ⟨_, its.toArray, n, h1, rfl, rfl, rfl, by rw [List.size_toArray, ← h2.length]; exact h3, by simpa using h2⟩
theorem LsE.of {K : PySem.W.Frag} {H : Hp} {a : Addr} {xs : List V} (h : H a = some (.lst xs)) : LsE K H a xs := .inl (.inl h)
theorem LsE.same {K : PySem.W.Frag} {H H' : Hp} {a : Addr} {xs : List V} (e : Same H H') (h : LsE K H a xs) : LsE K H' a xs := by
  rcases h with (h | ⟨o, h⟩) | h
  · exact .inl (.inl (e _ _ h))
  · exact .inl (.inr ⟨o, e _ _ h⟩)
  · exact .inr h
section
variable {X : Cx}
theorem LsE.obj {pins : List (Addr × Obj)} {σ : L2.St} {H : Hp} {s : Shared} {a : Addr} {xs : List V} (I : Inv X pins σ H s) (h : LsE X.K H a xs) :
    ∃ (its : List Value) (n : Nat), Vals xs its ∧ s.heap.get? a = some { cls := .type "list", data := .seq its.toArray n } := by
  rcases h with h | ⟨its, n, h1, h2, _⟩
  · obtain ⟨_, its, n, r, e⟩ := h.ok I.hok
    exact ⟨its, n, r, e⟩
  · exact ⟨its, n, h2, I.kIn a _ h1⟩
def rCatE (K : PySem.W.Frag) : R2 := fun x y H Q => ∃ l b xs zs, x = .ref l ∧ y = .ref b ∧ LsE K H l xs ∧ LsE K H b zs ∧ xs.length + zs.length ≤ sizeLine ∧ ∀ p, H p = none → Q (.ref p) (upd H p (.lst (xs ++ zs)))
theorem op_catE : OpR X (binaryOp .Add) (rCatE X.K) := by
  intro pins s σ H x y v u Q I rx ry h
  obtain ⟨l, b, xs, zs, rfl, rfl, hl, hb, hz, q⟩ := h
  cases rx
  cases ry
  obtain ⟨ix, n, rl, el⟩ := hl.obj I
  obtain ⟨iz, m, rb, eb⟩ := hb.obj I
  refine PySem.P.add_list el eb ?_ (by simp only [List.size_toArray, ← rl.length, ← rb.length]; exact hz)
  have join : ix.toArray ++ iz.toArray = (ix ++ iz).toArray := by simp
  rw [join]
  exact ⟨.ref s.heap.objs.size, _, I.lnew (t' := s.toks) (rl.append rb) (by simpa using hz), rfl, q _ I.fresh⟩
end
/-! ### tests -/
theorem ifd {c A B : Prop} [Decidable c] (h1 : c → A) (h2 : ¬ c → B) : if decide c = true then A else B := by
  by_cases h : c
  · simp only [h, decide_true, if_true]; exact h1 h
  · simp only [h, decide_false, Bool.false_eq_true, if_false]; exact h2 h
theorem ifnd {c A B : Prop} [Decidable c] (h1 : ¬ c → A) (h2 : c → B) : if (!decide c) = true then A else B := by
  by_cases h : c
  · simp only [h, decide_true, Bool.not_true, Bool.false_eq_true, if_false]; exact h2 h
  · simp only [h, decide_false, Bool.not_false, if_true]; exact h1 h
theorem ifb {b : Bool} {A B : Prop} (h1 : b = true → A) (h2 : b = false → B) : if b = true then A else B := by
  cases b with
  | true => exact h1 rfl
  | false => exact h2 rfl
theorem ifT {b : Bool} {A B : Prop} (hb : b = true) (h : A) : if b = true then A else B := by rw [if_pos hb]; exact h
theorem ifF {b : Bool} {A B : Prop} (hb : b = false) (h : B) : if b = true then A else B := by rw [hb]; exact h
theorem int_eq {i j : Int} : (V.int i = V.int j) = (i = j) := by simp
theorem same_upd {H : Hp} {p : Addr} {o : HO} (h : H p = none) : Same H (upd H p o) := fun b x e => by
  rw [upd_ne (ne_of_none e h)]
  exact e
/-- a place that is free -/
def New (H : Hp) (p : Addr) : Prop := H p = none
theorem w_new {H : Hp} {R : Addr → Prop} (h : ∀ p, New H p → R p) : ∀ p, H p = none → R p := h
theorem ne_new {H : Hp} {a b : Addr} {o : HO} (h : H a = some o) (n : New H b) : a ≠ b := ne_of_none h n
/-- one more object over what was tracked at H -/
theorem _root_.L2.Same.new {H H' : Hp} {p : Addr} {o : HO} (e : Same H H') (h : New H' p) : Same H (upd H' p o) := e.trans (same_upd h)
theorem _root_.L2.Same.get {H H' : Hp} {p : Addr} {o : HO} (e : Same H H') (h : H p = some o) : H' p = some o := e p o h
theorem New.of {H H' : Hp} {p : Addr} (n : New H' p) (e : Same H H') : New H p := e.free n
/-- an object that H does not track is changed -/
theorem _root_.L2.Same.mut {H H' : Hp} {p : Addr} {o : HO} (e : Same H H') (h : New H p) : Same H (upd H' p o) := fun b x hb => by
  rw [upd_ne (ne_of_none hb h)]
  exact e b x hb
/-! ### isinstance of ints and bools -/
theorem kb_ii : kitB "int" "int" = some true := by decide +kernel
theorem kb_ib : kitB "int" "bool" = some false := by decide +kernel
theorem kb_bb : kitB "bool" "bool" = some true := by decide +kernel
theorem kb_bi : kitB "bool" "int" = some true := by decide +kernel
theorem kb_ll : kitB "list" "list" = some true := by decide +kernel
theorem kb_tt : kitB "tuple" "tuple" = some true := by decide +kernel
theorem kb_ni : kitB "NoneType" "int" = some false := by decide +kernel
theorem kb_nb : kitB "NoneType" "bool" = some false := by decide +kernel
theorem kb_tl : kitB "tuple" "list" = some false := by decide +kernel
theorem kb_lt : kitB "list" "tuple" = some false := by decide +kernel
/-! ### the law's end, the script's list known to the sign, its bits told -/
theorem walk_ofE {l : PySem.W.OpenLaw} {n k : Nat} {q : Program} {loose : List Str} {XP : (Str → Option Value) → Heap → Prop} {YP : World → Heap → Prop} {d : DefRec} {K : Params → PySem.W.Frag} {sp : PySem.W.Frag → Sp}
    (hn : l.most = some n) (hn2 : n ≤ sizeLine) (hdf : d.params.defaults = []) (hr : Room k callerA) (hY : ∀ (w : World) (h : Heap), YP w h → (K w.params).In h)
    (F : ∀ (w : World) (mg : Str → Option Value) (fa : Addr) (h : Heap), (K w.params).In h → h.Ns mainGlobals mg → mg d.name = some (.ref fa) →
      ∃ fd : FuncData, (∀ (s : Shared) (u : Value), BindsTo s fd ⟨[u], []⟩ [("script", u)]) ∧ ∀ base : Heap, (K w.params).In base → base.Ns mainGlobals mg → FnOk l.prog w (K w.params) mg base CX0 k fa fd ["script"] (sp (K w.params)))
    (hsp : ∀ (K : PySem.W.Frag) (H : Hp) (a : Addr) (ns : List Int), ns.length ≤ n → (∀ z ∈ ns, Builtin.Int.intBits z ≤ 1048576) → LsE K H a (ns.map V.int) → sp K [.ref a] H (fun v _ => v = .bl true) fun _ _ _ => False) :
    PySem.W.WalkO q loose XP YP l.row.toRowW d [] (fun f vs => PySem.call f vs) := by
  refine Att.attach_callB hn hdf fun w s₀ s₁ mg mb fa o pm cd doc a vs ns G Y ho hd hcd hmg hobj hints hlen hbits hg => ?_
  obtain ⟨fd, hb, hF⟩ := F w mg fa _ (hY w _ Y) G.T.g hmg
  refine law_call (hY w _ Y) G.T.g G.T.b G.T.builtins G.T.nolimit hg hobj hints (Nat.le_trans hlen hn2) hr hF hb (fun H _ hS => hsp _ H a ns hlen hbits ?_) fun _ _ _ h => h
  rcases hS with h | ⟨ob, its, m, hk, h1, h2, h3, h4, h5⟩
  · exact .inl h
  · have e := (hY w _ Y) a ob hk
    rw [hobj] at e
    cases e
    cases h3
    exact .inr ⟨vs, _, hk, by simpa using h5, by rw [List.length_map]; exact Nat.le_trans hlen hn2⟩
/-! ### bounds of operators -/
theorem cdivw_small {i j : Int} (h : 0 < j) (h2 : j < 2 ^ 200) : CDivW i j := wide_div (b := 200) h (by omega) (by decide) (by decide)
theorem nab_lt {i : Int} {a : Nat} (h1 : -(2 ^ a) < i) (h2 : i < 2 ^ a) : i.natAbs < 2 ^ a := by
  have e : ((2 ^ a : Nat) : Int) = (2 : Int) ^ a := by simp
  omega
theorem cmulx_small {i j : Int} (h1 : -(2 ^ 200) < i) (h2 : i < 2 ^ 200) (h3 : -(2 ^ 200) < j) (h4 : j < 2 ^ 200) : CMulX i j := mulx_ok (nab_lt h1 h2) (nab_lt h3 h4) (by decide)
theorem cshl_one {j : Int} (h : 0 ≤ j) (h2 : j ≤ 100000) : CShl 1 j := by
  have e : ((j.toNat : Nat) : Int) = j := Int.toNat_of_nonneg h
  rw [← e]
  exact shl_ok (n := 1) (by decide) (by omega)
theorem cshl_small {i j : Int} (h0 : -(2 ^ 200) < i) (h1 : i < 2 ^ 200) (h : 0 ≤ j) (h2 : j ≤ 100000) : CShl i j := by
  have e : ((j.toNat : Nat) : Int) = j := Int.toNat_of_nonneg h
  rw [← e]
  exact shl_ok (n := 200) (nab_lt h0 h1) (by omega)
theorem szle {α : Type} {xs : List α} (h : Nat.ble xs.length 1000 = true) : xs.length ≤ sizeLine := Nat.le_trans (Nat.le_of_ble_eq_true h) (by decide)
theorem szlt {α : Type} {xs : List α} (h : xs.length < 1000000) : xs.length < sizeLine := Nat.lt_of_lt_of_le h (by decide)
theorem atI_get {α : Type} {xs : List α} {i : Int} {j : Nat} (e : i = j) (h : j < xs.length) : atI xs i = some xs[j] := by
  subst e
  exact atI_nat (List.getElem?_eq_getElem h)
theorem atI_map {α β : Type} {f : α → β} {xs : List α} {i : Int} {j : Nat} (e : i = j) (h : j < xs.length) : atI (xs.map f) i = some (f xs[j]) := by
  subst e
  exact atI_nat (by rw [List.getElem?_map, List.getElem?_eq_getElem h]; rfl)
/-! ### the readings, one at a time -/
section
variable {σ : L2.St} {H : Hp} {Q : VK} {QT : Bool → Hp → Prop} {QA : List V → Hp → Prop} {D : Ends} {v x y z : V} {ta tb tc te tv : TE} {t u c : TT} {ts us : TS} {tl tr : TA} {r : R2} {g : TG} {gs : TGs} {i j : Nat} {m n : Int} {K : PySem.W.Frag} {a p q C dx : Addr} {f : Str} {xs ys : List V} {fs : List (Str × V)}
theorem w_seq (h : ts { D with nx := us D } σ H) : tSeq ts us D σ H := h
theorem w_next (h : D.nx σ H) : tNext D σ H := h
theorem w_var (h : ∃ v, σ[i]? = some (some v) ∧ Q v H) : tVar i σ H Q := h
theorem w_c (h : Q v H) : tC v σ H Q := h
theorem w_op (h : ta σ H fun x H1 => tb σ H1 fun y H2 => r x y H2 Q) : tOp r ta tb σ H Q := h
theorem w_un {r : V → Hp → VK → Prop} (h : ta σ H fun x H1 => r x H1 Q) : tUn r ta σ H Q := h
theorem w_rI0 {g : Int → Int → V} (h : Q (g m n) H) : rI0 g (.int m) (.int n) H Q := ⟨m, n, rfl, rfl, h⟩
theorem w_mod (h0 : 0 < n) (h : Q (.int (m % n)) H) : rI (fun _ j => 0 < j) (fun i j => .int (i % j)) (.int m) (.int n) H Q := ⟨m, n, rfl, rfl, h0, h⟩
theorem w_div (h0 : 0 < n) (h1 : n < 2 ^ 200) (h : Q (.int (m / n)) H) : rI CDivW (fun i j => .int (i / j)) (.int m) (.int n) H Q := ⟨m, n, rfl, rfl, cdivw_small h0 h1, h⟩
theorem w_shr (h0 : 0 ≤ n) (h : Q (.int (m / 2 ^ n.toNat)) H) : rI (fun _ j => 0 ≤ j) (fun i j => .int (i / 2 ^ j.toNat)) (.int m) (.int n) H Q := ⟨m, n, rfl, rfl, h0, h⟩
theorem w_mul (h1 : -(2 ^ 200) < m) (h2 : m < 2 ^ 200) (h3 : -(2 ^ 200) < n) (h4 : n < 2 ^ 200) (h : Q (.int (m * n)) H) : rI CMulX (fun i j => .int (i * j)) (.int m) (.int n) H Q := ⟨m, n, rfl, rfl, cmulx_small h1 h2 h3 h4, h⟩
theorem w_shl1 (h1 : 0 ≤ n) (h2 : n ≤ 100000) (h : Q (.int (1 * 2 ^ n.toNat)) H) : rI CShl (fun i j => .int (i * 2 ^ j.toNat)) (.int 1) (.int n) H Q := ⟨1, n, rfl, rfl, cshl_one h1 h2, h⟩
theorem w_shl (h1 : -(2 ^ 200) < m) (h2 : m < 2 ^ 200) (h3 : 0 ≤ n) (h4 : n ≤ 100000) (h : Q (.int (m * 2 ^ n.toNat)) H) : rI CShl (fun i j => .int (i * 2 ^ j.toNat)) (.int m) (.int n) H Q := ⟨m, n, rfl, rfl, cshl_small h1 h2 h3 h4, h⟩
theorem w_pow (h0 : CPow m n) (h : Q (.int (m ^ n.toNat)) H) : rI CPow (fun i j => .int (i ^ j.toNat)) (.int m) (.int n) H Q := ⟨m, n, rfl, rfl, h0, h⟩
theorem w_rU {g : Int → V} (h : Q (g m) H) : rU g (.int m) H Q := ⟨m, rfl, h⟩
theorem dec_ii : decide (V.int m = V.int n) = decide (m = n) := by
  by_cases h : m = n
  · rw [h]; simp
  · simp [h]
theorem dec_bb {a b : Bool} : decide (V.bl a = V.bl b) = decide (a = b) := by cases a <;> cases b <;> decide
theorem dec_ss {a b : Str} : decide (V.str a = V.str b) = decide (a = b) := by
  by_cases h : a = b
  · rw [h]; simp
  · simp [h]
theorem w_eqI (h : Q (.bl (decide (m = n))) H) : rEq (.int m) (.int n) H Q := ⟨rfl, by rw [dec_ii]; exact h⟩
theorem w_eqB {a b : Bool} (h : Q (.bl (decide (a = b))) H) : rEq (.bl a) (.bl b) H Q := ⟨rfl, by rw [dec_bb]; exact h⟩
theorem w_eqS {a b : Str} (h : Q (.bl (decide (a = b))) H) : rEq (.str a) (.str b) H Q := ⟨rfl, by rw [dec_ss]; exact h⟩
theorem w_eqNI (h : Q (.bl false) H) : rEq .non (.int n) H Q := ⟨rfl, by rw [decide_eq_false (by simp)]; exact h⟩
theorem w_eqIN (h : Q (.bl false) H) : rEq (.int n) .non H Q := ⟨rfl, by rw [decide_eq_false (by simp)]; exact h⟩
theorem w_neI (h : Q (.bl (!decide (m = n))) H) : rNe (.int m) (.int n) H Q := ⟨rfl, by rw [dec_ii]; exact h⟩
theorem w_neB {a b : Bool} (h : Q (.bl (!decide (a = b))) H) : rNe (.bl a) (.bl b) H Q := ⟨rfl, by rw [dec_bb]; exact h⟩
theorem w_neS {a b : Str} (h : Q (.bl (!decide (a = b))) H) : rNe (.str a) (.str b) H Q := ⟨rfl, by rw [dec_ss]; exact h⟩
theorem w_ixL (hs : SqL K H p xs) (ha : atI xs m = some v) (h : Q v H) : rIxL K (.ref p) (.int m) H Q := ⟨p, xs, m, v, rfl, rfl, hs, ha, h⟩
theorem w_ixT (hs : SqT K H p xs) (ha : atI xs m = some v) (h : Q v H) : rIxT K (.ref p) (.int m) H Q := ⟨p, xs, m, v, rfl, rfl, hs, ha, h⟩
theorem w_ixl (hs : SqL K H p xs) (ha : atI xs m = some v) (h : Q v H) : rIx K (.ref p) (.int m) H Q := .inl ⟨p, xs, m, v, rfl, rfl, hs, ha, h⟩
theorem w_ixt (hs : SqT K H p xs) (ha : atI xs m = some v) (h : Q v H) : rIx K (.ref p) (.int m) H Q := .inr (.inl ⟨p, xs, m, v, rfl, rfl, hs, ha, h⟩)
theorem w_catE (h1 : LsE K H p xs) (h2 : LsE K H q ys) (hz : xs.length + ys.length ≤ sizeLine) (h : ∀ p, H p = none → Q (.ref p) (upd H p (.lst (xs ++ ys)))) : rCatE K (.ref p) (.ref q) H Q := ⟨p, q, xs, ys, rfl, rfl, h1, h2, hz, h⟩
theorem w_rep (h1 : H p = some (.lst xs)) (h2 : -(2 ^ 63) ≤ n) (h3 : n < 2 ^ 63) (h4 : xs.length * n.toNat ≤ sizeLine) (h : ∀ p, H p = none → Q (.ref p) (upd H p (.lst (List.replicate n.toNat xs).flatten))) : rRep (.ref p) (.int n) H Q := ⟨p, n, xs, rfl, rfl, h1, h2, h3, h4, h⟩
theorem w_test (h : te σ H fun x H' => ∃ k, x = .bl k ∧ QT k H') : tTest te σ H QT := h
theorem w_tB (h : te σ H fun x H' => ∃ k, x = .bl k ∧ QT k H') : tB te σ H QT := h
theorem w_bl {b : Bool} {R : Bool → Prop} (h : R b) : ∃ k, V.bl b = .bl k ∧ R k := ⟨b, rfl, h⟩
theorem w_and (h : t σ H fun c H1 => if c = true then u σ H1 QT else QT false H1) : tAnd t u σ H QT := h
theorem w_or (h : t σ H fun c H1 => if c = true then QT true H1 else u σ H1 QT) : tOr t u σ H QT := h
theorem w_not (h : t σ H fun c H1 => QT (!c) H1) : tNot t σ H QT := h
theorem w_andV (h : ta σ H fun x H1 => ∃ c, x = .bl c ∧ if c = true then tb σ H1 Q else Q (.bl false) H1) : tAndV ta tb σ H Q := h
theorem w_orV (h : ta σ H fun x H1 => ∃ c, x = .bl c ∧ if c = true then Q (.bl true) H1 else tb σ H1 Q) : tOrV ta tb σ H Q := h
theorem w_notV (h : ta σ H fun x H1 => ∃ c, x = .bl c ∧ Q (.bl (!c)) H1) : tNotV ta σ H Q := h
theorem w_ifE (h : t σ H fun c H1 => if c = true then ta σ H1 Q else tb σ H1 Q) : tIf t ta tb σ H Q := h
theorem w_asg (h : te σ H fun x H1 => g x σ H1 D.nx) : tAsg te g D σ H := h
theorem w_gn {R : L2.St → Hp → Prop} (h : R (σ.set i (some v)) H) : gName i v σ H R := h
theorem w_gt {R : L2.St → Hp → Prop} {k : Nat} (hs : SqT K H p xs) (hl : xs.length = k) (h : gs xs σ H R) : gTup K k gs (.ref p) σ H R := ⟨p, xs, rfl, hs, hl, h⟩
theorem w_gc {R : L2.St → Hp → Prop} (h : g v σ H fun σ' H' => gs xs σ' H' R) : gCons g gs (v :: xs) σ H R := ⟨v, xs, rfl, h⟩
theorem w_g0 {R : L2.St → Hp → Prop} (h : R σ H) : gNil [] σ H R := ⟨rfl, h⟩
theorem w_gs {R : L2.St → Hp → Prop} {tt : TSet} (h : ta σ H fun o H1 => tb σ H1 fun i H2 => tt o i v H2 fun H3 => R σ H3) : gSub ta tb tt v σ H R := h
theorem w_setL {R : Hp → Prop} (hp : H p = some (.lst xs)) (hj : ixN xs.length m = some j) (h : R (upd H p (.lst (xs.set j v)))) : rSetL (.ref p) (.int m) v H R := ⟨p, xs, m, j, rfl, rfl, hp, hj, h⟩
theorem w_drop (h : te σ H fun _ H1 => D.nx σ H1) : tDrop te D σ H := h
theorem w_ret (h : te σ H D.rt) : tRet te D σ H := h
theorem w_retN (h : D.rt .non H) : tRetN D σ H := h
theorem w_if (h : t σ H fun b H1 => if b = true then ts D σ H1 else us D σ H1) : tIfS t ts us D σ H := h
theorem w_break (h : D.bk σ H) : tBreak D σ H := h
theorem w_cont (h : D.ct σ H) : tCont D σ H := h
theorem w_aug {ti : TIp} (h : ∃ x, σ[i]? = some (some x) ∧ te σ H fun y H1 => ti x y H1 fun z H2 => D.nx (σ.set i (some z)) H2) : tAug i te ti D σ H := h
theorem w_ip {f : Int → Int → Int} (h : Q (.int (f m n)) H) : ipI f (.int m) (.int n) H Q := ⟨m, n, rfl, rfl, h⟩
theorem w_par (h : tl σ H fun vs H1 => ∃ v w, vs = [v, w] ∧ D.nx ((σ.set i (some v)).set j (some w)) H1) : tPar i j tl D σ H := h
theorem w_par2 {R : V → V → Prop} (h : R v x) : ∃ a b, [v, x] = [a, b] ∧ R a b := ⟨v, x, rfl, h⟩
theorem w_nil (h : QA [] H) : tNil σ H QA := h
theorem w_cons (h : ta σ H fun x H1 => tl σ H1 fun xs H2 => QA (x :: xs) H2) : tCons ta tl σ H QA := h
theorem w_call {sp : Sp} {E : XK} (h : tl σ H fun vs H1 => sp vs H1 Q E) : tCall sp [] E tl σ H Q := by
  unfold tCall
  simp only [List.append_nil]
  exact h
theorem w_cb {r : List V → Hp → VK → Prop} (h : tl σ H fun vs H1 => r vs H1 Q) : tCB r tl σ H Q := h
theorem w_tup (h : tl σ H fun xs H1 => xs.length ≤ sizeLine ∧ ∀ p, H1 p = none → Q (.ref p) (upd H1 p (.tup xs))) : tTup tl σ H Q := h
theorem w_lst (h : tl σ H fun xs H1 => xs.length ≤ sizeLine ∧ ∀ p, H1 p = none → Q (.ref p) (upd H1 p (.lst xs))) : tLst tl σ H Q := h
theorem w_sl {r : V → Option Int → Option Int → Hp → VK → Prop} {to tu : TO} (h : te σ H fun x H1 => to σ H1 fun l H2 => tu σ H2 fun u H3 => r x l u H3 Q) : tSl r te to tu σ H Q := h
theorem w_np {R : Option Int → Hp → Prop} (h : R none H) : tNoPart σ H R := h
theorem w_part {R : Option Int → Hp → Prop} (h : te σ H fun x H1 => ∃ i, x = .int i ∧ R (some i) H1) : tPart te σ H R := h
theorem w_partI {R : Int → Prop} (h : R m) : ∃ i, V.int m = .int i ∧ R i := ⟨m, rfl, h⟩
theorem w_slL {lo hi : Option Int} (hs : SqL K H p xs) (h : ∀ q, H q = none → Q (.ref q) (upd H q (.lst (cutV xs lo hi)))) : rSlL K (.ref p) lo hi H Q := ⟨p, xs, rfl, hs, h⟩
theorem w_bm {T : String} {r : V → List V → Hp → VK → Prop} (h : ta σ H fun x H1 => tyV K T x H1 ∧ tl σ H1 fun xs H2 => r x xs H2 Q) : tBM K T r ta tl σ H Q := h
theorem w_bm0 {T : String} {r : V → List V → Hp → VK → Prop} (h : ta σ H fun x H1 => tyV K T x H1 ∧ r x [] H1 Q) : tBM0 K T r ta σ H Q := h
theorem w_tyl {R : Prop} (hs : SqL K H p xs) (h : R) : tyV K "list" (.ref p) H ∧ R := ⟨.inl ⟨rfl, xs, hs⟩, h⟩
theorem w_app (hp : H p = some (.lst xs)) (hl : xs.length < sizeLine) (h : Q .non (upd H p (.lst (xs ++ [v])))) : rAppend (.ref p) [v] H Q := ⟨p, xs, v, rfl, rfl, hp, hl, h⟩
theorem w_rev (hp : H p = some (.lst xs)) (h : Q .non (upd H p (.lst xs.reverse))) : rReverse (.ref p) [] H Q := ⟨p, xs, rfl, rfl, hp, h⟩
theorem w_len {R : List V → Prop} (hs : SqL K H p xs) (h : R xs) : ∃ p' ys, [V.ref p] = [.ref p'] ∧ (SqL K H p' ys ∨ SqT K H p' ys) ∧ R ys := ⟨p, xs, rfl, .inl hs, h⟩
theorem w_lenT {R : List V → Prop} (hs : SqT K H p xs) (h : R xs) : ∃ p' ys, [V.ref p] = [.ref p'] ∧ (SqL K H p' ys ∨ SqT K H p' ys) ∧ R ys := ⟨p, xs, rfl, .inr hs, h⟩
theorem w_isi {s : String} {b : Bool} (hk : kitB "int" s = some b) (h : Q (.bl b) H) : rIsi K [.int m, .ty s] H Q := ⟨_, _, _, _, b, rfl, .ty _, .base (.int _), kit_ty hk, h⟩
theorem w_isb {k : Bool} {s : String} {b : Bool} (hk : kitB "bool" s = some b) (h : Q (.bl b) H) : rIsi K [.bl k, .ty s] H Q := ⟨_, _, _, _, b, rfl, .ty _, .base (.bl _), kit_ty hk, h⟩
theorem w_isn {s : String} {b : Bool} (hk : kitB "NoneType" s = some b) (h : Q (.bl b) H) : rIsi K [.non, .ty s] H Q := ⟨_, _, _, _, b, rfl, .ty _, .base .non, kit_ty hk, h⟩
theorem w_isl {s : String} {b : Bool} (hp : H p = some (.lst xs)) (hk : kitB "list" s = some b) (h : Q (.bl b) H) : rIsi K [.ref p, .ty s] H Q := ⟨_, _, _, _, b, rfl, .ty _, .base (.lst hp), kit_ty hk, h⟩
theorem w_ist {s : String} {b : Bool} (hp : H p = some (.tup xs)) (hk : kitB "tuple" s = some b) (h : Q (.bl b) H) : rIsi K [.ref p, .ty s] H Q := ⟨_, _, _, _, b, rfl, .ty _, .base (.tup hp), kit_ty hk, h⟩
theorem w_2i {R : Int → Int → Prop} (h : R m n) : ∃ i j, [V.int m, V.int n] = [.int i, .int j] ∧ R i j := ⟨m, n, rfl, h⟩
theorem w_1i {R : Int → Prop} (h : R m) : ∃ i, [V.int m] = [.int i] ∧ R i := ⟨m, rfl, h⟩
theorem w_int1 {R : Int → Prop} {S : Prop} (h : R m) : (∃ i, [V.int m] = [.int i] ∧ R i) ∨ S := .inl ⟨m, rfl, h⟩
theorem w_intb {b : Bool} {R : Bool → Prop} {S : Prop} (h : R b) : S ∨ ∃ k, [V.bl b] = [.bl k] ∧ R k := .inr ⟨b, rfl, h⟩
theorem w_isN {R : Prop} (h : R) : V.non = .non ∧ R := ⟨rfl, h⟩
theorem w_fld {v : V} {R : V → Prop} (hp : H p = some (.ins C dx fs)) (hc : Cls K C) (hn : NoAttr K C f) (hl : fs.lookup f = some v) (h : R v) : ∃ a C' dx' fs' v', V.ref p = .ref a ∧ H a = some (.ins C' dx' fs') ∧ Cls K C' ∧ NoAttr K C' f ∧ fs'.lookup f = some v' ∧ R v' := ⟨p, C, dx, fs, v, rfl, hp, hc, hn, hl, h⟩
theorem w_fl (h : ta σ H fun x H1 => ∃ a C dx fs v, x = .ref a ∧ H1 a = some (.ins C dx fs) ∧ Cls K C ∧ NoAttr K C f ∧ fs.lookup f = some v ∧ Q v H1) : tFld K ta f σ H Q := h
theorem w_for {wi : TI} {tu : TS} (h : wi σ H fun J H1 => ∃ W : Nat → Nat → L2.St → Hp → Prop, (∃ m, W 0 m σ H1) ∧ ∀ i m σ H, W i m σ H →
  (J.stop i H ∧ D.nx σ H) ∨ (J.go i H ∧ ∃ N : L2.St → Hp → Prop, (∀ σ' H', N σ' H' → ∃ m', m' < m ∧ W (i + 1) m' σ' H') ∧ ∀ x H', J.yld i H x H' → g x σ H' fun σ2 H2 => tu { D with nx := N, ct := N, bk := D.nx } σ2 H2)) : tFor wi g tu D σ H := h
theorem w_iL {R : It → Hp → Prop} (h : te σ H fun x H1 => ∃ a, x = .ref a ∧ (∃ xs, SqL K H1 a xs) ∧ R (Itl K a) H1) : iList K te σ H R := h
theorem w_iLq {R : Addr → Prop} (hs : SqL K H p xs) (h : R p) : ∃ a, V.ref p = .ref a ∧ (∃ xs, SqL K H a xs) ∧ R a := ⟨p, rfl, ⟨xs, hs⟩, h⟩
theorem w_iTu {R : It → Hp → Prop} (h : te σ H fun x H1 => ∃ a, x = .ref a ∧ (∃ xs, SqT K H1 a xs) ∧ R (Itt K a) H1) : iTup K te σ H R := h
theorem w_iTq {R : Addr → Prop} (hs : SqT K H p xs) (h : R p) : ∃ a, V.ref p = .ref a ∧ (∃ xs, SqT K H a xs) ∧ R a := ⟨p, rfl, ⟨xs, hs⟩, h⟩
theorem w_r1 {R : It → Hp → Prop} (h : tl σ H fun vs H1 => ∃ j : Int, vs = [.int j] ∧ -(2 ^ 62) ≤ j ∧ j < 2 ^ 62 ∧ R (Itr 0 j.toNat) H1) : iRng1 tl σ H R := h
theorem w_r1q {R : Int → Prop} (h1 : -(2 ^ 62) ≤ m) (h2 : m < 2 ^ 62) (h : R m) : ∃ j : Int, [V.int m] = [.int j] ∧ -(2 ^ 62) ≤ j ∧ j < 2 ^ 62 ∧ R j := ⟨m, rfl, h1, h2, h⟩
theorem w_r2 {R : It → Hp → Prop} (h : tl σ H fun vs H1 => ∃ i j : Int, vs = [.int i, .int j] ∧ (-(2 ^ 62) ≤ i ∧ i < 2 ^ 62 ∧ -(2 ^ 62) ≤ j ∧ j < 2 ^ 62) ∧ R (Itr i (j - i).toNat) H1) : iRng2 tl σ H R := h
theorem w_r2q {R : Int → Int → Prop} (h1 : -(2 ^ 62) ≤ m) (h2 : m < 2 ^ 62) (h3 : -(2 ^ 62) ≤ n) (h4 : n < 2 ^ 62) (h : R m n) : ∃ i j : Int, [V.int m, V.int n] = [.int i, .int j] ∧ (-(2 ^ 62) ≤ i ∧ i < 2 ^ 62 ∧ -(2 ^ 62) ≤ j ∧ j < 2 ^ 62) ∧ R i j := ⟨m, n, rfl, ⟨h1, h2, h3, h4⟩, h⟩
theorem w_len1 {R : Prop} (hl : Nat.ble xs.length 1000 = true) (h : R) : xs.length ≤ sizeLine ∧ R := ⟨szle hl, h⟩
end
theorem same_read {K : PySem.W.Frag} {H H' : Hp} {a : Addr} {xs : List V} (e : Same H H') (h : SqT K H a xs) : SqT K H' a xs := by
  rcases h with (h | ⟨o, h⟩) | h
  · exact .inl (.inl (e _ _ h))
  · exact .inl (.inr ⟨o, e _ _ h⟩)
  · exact .inr h
theorem w_iT {A B : Prop} (h : A) : if true = true then A else B := by rw [if_pos rfl]; exact h
theorem w_iF {A B : Prop} (h : B) : if false = true then A else B := by rw [if_neg Bool.false_ne_true]; exact h
theorem w_iNT {A B : Prop} (h : B) : if (!true) = true then A else B := by rw [Bool.not_true, if_neg Bool.false_ne_true]; exact h
theorem w_iNF {A B : Prop} (h : A) : if (!false) = true then A else B := by rw [Bool.not_false, if_pos rfl]; exact h
theorem w_iNN {A B : Prop} {b : Bool} (h : if b = true then A else B) : if (!!b) = true then A else B := by rw [Bool.not_not]; exact h

/-! ### data -/
mutual
theorem dpSame {K : PySem.W.Frag} {H H' : Hp} (e : Same H H') : ∀ (d : PyData) (v : V), Dp K H v d → Dp K H' v d
  | .none, _, h => by cases h; exact .non
  | .bool _, _, h => by cases h; exact .bl _
  | .int _, _, h => by cases h; exact .int _
  | .str _, _, h => by cases h; exact .str _
  | .list ds, _, h => by
    cases h with
    | lst hs ha => exact .lst (e.seq hs) (dpSameAll e ds _ ha)
  | .tuple ds, _, h => by
    cases h with
    | tup hs ha => exact .tup (same_read e hs) (dpSameAll e ds _ ha)
  | .dict _, _, h => by cases h
theorem dpSameAll {K : PySem.W.Frag} {H H' : Hp} (e : Same H H') : ∀ (ds : List PyData) (xs : List V), DpAll K H xs ds → DpAll K H' xs ds
  | [], _, h => by cases h; exact .nil
  | d :: ds, _, h => by
    cases h with
    | cons h1 h2 => exact .cons (dpSame e d _ h1) (dpSameAll e ds _ h2)
end
section
variable {K : PySem.W.Frag} {H H' : Hp} {xs ys : List V} {ds es : List PyData} {v : V} {d : PyData} {a : Addr}
theorem _root_.L2.Dp.same (e : Same H H') (h : Dp K H v d) : Dp K H' v d := dpSame e d v h
theorem _root_.L2.DpAll.same (e : Same H H') (h : DpAll K H xs ds) : DpAll K H' xs ds := dpSameAll e ds xs h
theorem dpaLen : ∀ {xs : List V} {ds : List PyData}, DpAll K H xs ds → xs.length = ds.length
  | _, _, .nil => rfl
  | _, _, .cons _ t => by rw [List.length_cons, List.length_cons, dpaLen t]
theorem dpaGet : ∀ {xs : List V} {ds : List PyData} {i : Nat} {d : PyData}, DpAll K H xs ds → ds[i]? = some d → ∃ v, xs[i]? = some v ∧ Dp K H v d
  | _, _, _, _, .nil, e => by simp at e
  | _, _, 0, _, .cons h _, e => by simp at e; subst e; exact ⟨_, rfl, h⟩
  | _, _, i + 1, _, .cons _ t, e => by
    obtain ⟨v, h1, h2⟩ := dpaGet (i := i) t (by simpa using e)
    exact ⟨v, by simpa using h1, h2⟩
theorem dpaApp : ∀ {xs ys : List V} {ds es : List PyData}, DpAll K H xs ds → DpAll K H ys es → DpAll K H (xs ++ ys) (ds ++ es)
  | _, _, _, _, .nil, h => h
  | _, _, _, _, .cons h t, s => .cons h (dpaApp t s)
theorem dpInts : ∀ ns : List Int, DpAll K H (ns.map V.int) (ns.map PyData.int)
  | [] => .nil
  | n :: r => .cons (.int n) (dpInts r)
theorem dpAll_ints : ∀ {ns : List Int} {xs : List V}, DpAll K H xs (ns.map PyData.int) → xs = ns.map V.int
  | [], _, h => by cases h; rfl
  | n :: r, _, h => by
    cases h with
    | cons h t => cases h; rw [dpAll_ints t]; rfl
theorem dpInt {i : Int} (h : Dp K H v (.int i)) : v = .int i := by cases h; rfl
theorem dpTup (h : Dp K H v (.tuple ds)) : ∃ a xs, v = .ref a ∧ SqT K H a xs ∧ DpAll K H xs ds := by cases h with | tup h1 h2 => exact ⟨_, _, rfl, h1, h2⟩
theorem dpLst (h : Dp K H v (.list ds)) : ∃ a xs, v = .ref a ∧ SqL K H a xs ∧ DpAll K H xs ds := by cases h with | lst h1 h2 => exact ⟨_, _, rfl, h1, h2⟩
theorem dpLstA (h : Dp K H (.ref a) (.list ds)) : ∃ xs, SqL K H a xs ∧ DpAll K H xs ds := by cases h with | lst h1 h2 => exact ⟨_, h1, h2⟩
theorem dpTupA (h : Dp K H (.ref a) (.tuple ds)) : ∃ xs, SqT K H a xs ∧ DpAll K H xs ds := by cases h with | tup h1 h2 => exact ⟨_, h1, h2⟩
end
/-- data that == serves: no dicts, no deeper than n -/
def Good (n : Nat) (d : PyData) : Prop := d.canLay0 = true ∧ d.depth ≤ n
theorem goodInt {n : Nat} {i : Int} : Good n (.int i) := ⟨rfl, Nat.zero_le _⟩
theorem goodBool {n : Nat} {b : Bool} : Good n (.bool b) := ⟨rfl, Nat.zero_le _⟩
theorem goodNone {n : Nat} : Good n .none := ⟨rfl, Nat.zero_le _⟩
theorem goodAll {n : Nat} : ∀ {ds : List PyData}, (∀ d ∈ ds, Good n d) → PyData.canLayAll0 ds = true ∧ PyData.depthAll ds ≤ n
  | [], _ => ⟨rfl, Nat.zero_le _⟩
  | d :: ds, h => by
    obtain ⟨h1, h2⟩ := h d List.mem_cons_self
    obtain ⟨h3, h4⟩ := goodAll fun e he => h e (List.mem_cons_of_mem _ he)
    exact ⟨by simp [PyData.canLayAll0, h1, h3], by simp only [PyData.depthAll]; omega⟩
theorem goodLst {n : Nat} {ds : List PyData} (h : ∀ d ∈ ds, Good n d) : Good (n + 1) (.list ds) := ⟨(goodAll h).1, Nat.succ_le_succ (goodAll h).2⟩
theorem goodTup {n : Nat} {ds : List PyData} (h : ∀ d ∈ ds, Good n d) : Good (n + 1) (.tuple ds) := ⟨(goodAll h).1, Nat.succ_le_succ (goodAll h).2⟩
theorem goodMap {α : Type} {n : Nat} {f : α → PyData} {xs : List α} (h : ∀ x, Good n (f x)) : ∀ d ∈ xs.map f, Good n d := by
  intro d hd
  obtain ⟨x, _, rfl⟩ := List.mem_map.mp hd
  exact h x
theorem Good.mono {n m : Nat} {d : PyData} (h : Good n d) (e : n ≤ m) : Good m d := ⟨h.1, Nat.le_trans h.2 e⟩
theorem Good.shaped {n : Nat} {d : PyData} (h : Good n d) (e : n ≤ 64) : SeqAt.shaped d = true := by
  unfold SeqAt.shaped
  rw [h.1, decide_eq_true (Nat.le_trans h.2 e)]
  rfl
theorem Good.eqv {n : Nat} {d : PyData} (h : Good n d) : PyData.eqv d d = true := SeqAt.eqv_refl d h.1
section
variable {K : PySem.W.Frag} {H : Hp} {x y : V} {d : PyData} {Q : VK} {n : Nat}
/-- two things of the same data are equal -/
theorem w_eqD (h1 : Dp K H x d) (h2 : Dp K H y d) (g : Good n d) (hn : n ≤ 64) (h : Q (.bl true) H) : rEqD K x y H Q := ⟨d, d, h1, h2, g.shaped hn, g.shaped hn, by rw [g.eqv]; exact h⟩
theorem w_neD (h1 : Dp K H x d) (h2 : Dp K H y d) (g : Good n d) (hn : n ≤ 64) (h : Q (.bl false) H) : rNeD K x y H Q := ⟨d, d, h1, h2, g.shaped hn, g.shaped hn, by rw [g.eqv]; exact h⟩
end
/-! ### xs[i] op= e -/
def rGetL (K : PySem.W.Frag) : V → V → Hp → VK → Prop := fun x y H Q => ∃ (p : Addr) (xs : List V) (j : Nat) (v : V), x = .ref p ∧ y = .int j ∧ SqL K H p xs ∧ xs[j]? = some v ∧ Q v H
theorem get_list {X : Cx} : PGet X (rGetL X.K) := by
  intro pins s σ H o i ov iv Q I ro ri h
  obtain ⟨p, xs, j, v, rfl, rfl, hq, he, q⟩ := h
  cases ro
  obtain ⟨t, rfl⟩ := ri
  obtain ⟨its, r, pl, hz⟩ := I.list hq
  obtain ⟨u, eu, ru⟩ := r.get he
  have hj : j < xs.length := (List.getElem?_eq_some_iff.mp he).1
  have hn := line63
  exact wpAny_getItem_list pl.isList (Int.natCast_nonneg j) (by omega) (by simpa using eu) ⟨v, H, I, ru, q⟩
theorem ps_augL {X : Cx} {o i e : Expr} {to ti te : TE} {tip : TIp} {op : Operator} {tpos pos : Pos} (ho : PE X o to) (hi : PE X i ti) (he : PE X e te) (hp : PIp X op tip)
    (ha : ∀ ov iv new, augStore i ov iv new = (do holding [new, ov, iv] (setItem ov iv new); release [new, ov, iv] []; pure .next) := by intros; rfl) : PS X (.AugAssign (.Subscript o i tpos) op e pos) (tAugS to ti te (rGetL X.K) tip rSetL) :=
  ps_augS ho hi get_list he hp set_list ha
section
variable {σ : L2.St} {H : Hp} {Q : VK} {D : Ends} {K : PySem.W.Frag} {p : Addr} {xs : List V} {v : V} {j : Nat}
theorem w_augS {to ti te : TE} {tget : V → V → Hp → VK → Prop} {tip : TIp} {tset : TSet} (h : to σ H fun o H1 => ti σ H1 fun i H2 => tget o i H2 fun x H3 => te σ H3 fun y H4 => tip x y H4 fun z H5 => tset o i z H5 fun H6 => D.nx σ H6) : tAugS to ti te tget tip tset D σ H := h
theorem w_getL (hs : SqL K H p xs) (he : xs[j]? = some v) (h : Q v H) : rGetL K (.ref p) (.int (j : Int)) H Q := ⟨p, xs, j, v, rfl, rfl, hs, he, h⟩
theorem ixN_nat {n j : Nat} (h : j < n) : ixN n (j : Int) = some j := by
  unfold ixN
  rw [if_pos (Int.natCast_nonneg j), if_pos (by omega)]
  simp
end
/-! ### range from nought -/
theorem for_r0 {m : Int} {n : Nat} {g : TG} {tb : TS} {D : Ends} {σ : L2.St} {H : Hp} (hm : m = n) (Pv : Nat → L2.St → Hp → Prop) (h0 : Pv 0 σ H)
    (hs : ∀ i σ H, i < n → Pv i σ H → g (.int (i : Nat)) σ H fun σ2 H2 => tb { D with nx := Pv (i + 1), ct := Pv (i + 1), bk := D.nx } σ2 H2) (hd : ∀ σ H, Pv n σ H → D.nx σ H) :
    ∃ W : Nat → Nat → L2.St → Hp → Prop, (∃ m, W 0 m σ H) ∧ ∀ i k σ H, W i k σ H →
      ((Itr 0 m.toNat).stop i H ∧ D.nx σ H) ∨ ((Itr 0 m.toNat).go i H ∧ ∃ N : L2.St → Hp → Prop, (∀ σ' H', N σ' H' → ∃ m', m' < k ∧ W (i + 1) m' σ' H') ∧ ∀ x H', (Itr 0 m.toNat).yld i H x H' → g x σ H' fun σ2 H2 => tb { D with nx := N, ct := N, bk := D.nx } σ2 H2) := by
  subst hm
  rw [Int.toNat_natCast]
  exact for_range (lo := 0) Pv h0 (fun i σ H hi hp => by rw [Int.zero_add]; exact hs i σ H hi hp) hd
/-! ### bits of numbers from nought on -/
theorem shr_nat (m k : Nat) : (m : Int) / 2 ^ (Int.toNat (k : Int)) = ((m >>> k : Nat) : Int) := by
  rw [Int.toNat_natCast, Nat.shiftRight_eq_div_pow]
  simp
theorem shl_nat (m k : Nat) : (m : Int) * 2 ^ (Int.toNat (k : Int)) = ((m <<< k : Nat) : Int) := by
  rw [Int.toNat_natCast, Nat.shiftLeft_eq]
  simp
theorem shl_one (k : Nat) : (1 : Int) * 2 ^ (Int.toNat (k : Int)) = ((2 ^ k : Nat) : Int) := by
  rw [Int.toNat_natCast, Int.one_mul]
  simp
theorem xor_nat (m n : Nat) : Builtin.bitXor (m : Int) (n : Int) = ((m ^^^ n : Nat) : Int) := by
  have h := Bits.bitXor_pp (x := (m : Int)) (y := (n : Int)) (Int.natCast_nonneg m) (Int.natCast_nonneg n)
  rw [Int.toNat_natCast, Int.toNat_natCast] at h
  exact h
theorem or_nat (m n : Nat) : Builtin.bitOr (m : Int) (n : Int) = ((m ||| n : Nat) : Int) := by
  have h := Bits.bitOr_pp (x := (m : Int)) (y := (n : Int)) (Int.natCast_nonneg m) (Int.natCast_nonneg n)
  rw [Int.toNat_natCast, Int.toNat_natCast] at h
  exact h
theorem and_one (m : Int) (h : 0 ≤ m) : Builtin.bitAnd m 1 = m % 2 := by
  have e := Bits.bitAnd_mask (x := m) 1 h
  simpa using e
theorem bit_nat (m k : Nat) : Builtin.bitAnd ((m : Int) / 2 ^ (Int.toNat (k : Int))) 1 = (((m.testBit k).toNat : Nat) : Int) := by
  rw [shr_nat, and_one _ (Int.natCast_nonneg _), Nat.testBit_eq_decide_div_mod_eq, Nat.shiftRight_eq_div_pow]
  have h : m / 2 ^ k % 2 < 2 := Nat.mod_lt _ (by decide)
  generalize m / 2 ^ k = z at h
  have e : z % 2 = 0 ∨ z % 2 = 1 := by omega
  rcases e with e | e
  · rw [e]; simp; omega
  · rw [e]; simp; omega
theorem bit_dec (m k : Nat) : decide (Builtin.bitAnd ((m : Int) / 2 ^ (Int.toNat (k : Int))) 1 = 1) = m.testBit k := by
  rw [bit_nat]
  cases m.testBit k <;> simp
/-! ### tables by number -/
theorem map_set {α : Type} {f : Nat → α} {m j : Nat} {y : α} : ((List.range m).map f).set j y = (List.range m).map fun r => if r = j then y else f r := by
  apply List.ext_getElem
  · simp
  · intro i h1 h2
    simp only [List.length_set, List.length_map, List.length_range] at h1
    simp only [List.getElem_set, List.getElem_map, List.getElem_range]
    by_cases e : j = i
    · subst e; simp
    · rw [if_neg e, if_neg (Ne.symm e)]
theorem map_at {α : Type} {f : Nat → α} {m j : Nat} (h : j < m) : ((List.range m).map f)[j]? = some (f j) := by
  rw [List.getElem?_map, List.getElem?_range h]
  rfl
theorem map_len {α : Type} {f : Nat → α} {m : Nat} : ((List.range m).map f).length = m := by simp
theorem map_setI {f : Nat → Int} {m j : Nat} {y : Int} : ((List.range m).map fun r => V.int (f r)).set j (V.int y) = (List.range m).map fun r => V.int (if r = j then y else f r) := by
  rw [map_set]
  congr 1
  funext r
  split <;> rfl
/-! ### comprehensions, slices -/
section
variable {σ σ' : L2.St} {H : Hp} {Q : VK} {QT : Bool → Hp → Prop}
theorem w_lc {wi : TI} {g : TG} {tt : TT} {te : TE} {vs : List Nat} (h : wi σ H fun J H1 => ∀ D, New H1 D → ∃ W : Nat → Nat → Hp → Prop, (∃ m, W 0 m (upd H1 D (.lst []))) ∧ ∀ i m H, W i m H →
  (J.stop i H ∧ Q (.ref D) H) ∨ (J.go i H ∧ ∃ Nx : Hp → Prop, (∀ H', Nx H' → ∃ m', m' < m ∧ W (i + 1) m' H') ∧ ∀ x H', J.yld i H x H' → g x (wipe σ vs) H' fun σ2 H2 => wipe σ2 vs = wipe σ vs ∧ tt σ2 H2 fun b H3 =>
    if b = true then te σ2 H3 fun y H4 => ∃ acc, H4 D = some (.lst acc) ∧ acc.length < sizeLine ∧ Nx (upd H4 D (.lst (acc ++ [y]))) else Nx H3)) : tLc wi g tt te vs σ H Q := h
theorem w_wipe {vs : List Nat} {R : Prop} (e : wipe σ vs = wipe σ' vs) (h : R) : wipe σ vs = wipe σ' vs ∧ R := ⟨e, h⟩
theorem w_yes (h : QT true H) : tYes σ H QT := h
theorem cutV_nat (xs : List V) (a b : Nat) : cutV xs (some (a : Int)) (some (b : Int)) = (xs.drop a).take (b - a) := by
  unfold cutV
  rw [HT.sIx_nat, HT.sIx_nat]
  apply List.ext_getElem?
  intro i
  simp only [List.getElem?_take, List.getElem?_drop]
  by_cases ha : a ≤ xs.length
  · rw [Nat.min_eq_left ha]
    by_cases h : i < b - a
    · by_cases h2 : i < min b xs.length - a
      · rw [if_pos h, if_pos h2]
      · rw [if_pos h, if_neg h2, List.getElem?_eq_none (by omega)]
    · rw [if_neg h, if_neg (by omega)]
  · rw [if_neg (by omega)]
    split
    · rw [List.getElem?_eq_none (by omega)]
    · rfl
theorem cutV_from (xs : List V) (a : Nat) : cutV xs (some (a : Int)) none = xs.drop a := by
  unfold cutV
  rw [HT.sIx_nat, HT.sIx_none]
  by_cases h : a ≤ xs.length
  · rw [Nat.min_eq_left h]
    exact List.take_of_length_le (by simp)
  · rw [Nat.min_eq_right (by omega), List.drop_of_length_le (Nat.le_refl _), List.drop_of_length_le (by omega), List.take_nil]
theorem cutV_to (xs : List V) (b : Nat) : cutV xs none (some (b : Int)) = xs.take b := by
  unfold cutV
  rw [HT.sIx_nat, HT.sIx_none, List.drop_zero, Nat.sub_zero]
  by_cases h : b ≤ xs.length
  · rw [Nat.min_eq_left h]
  · rw [Nat.min_eq_right (by omega), List.take_of_length_le (Nat.le_refl _), List.take_of_length_le (by omega)]
end
theorem w_list {K : PySem.W.Frag} {H : Hp} {p : Addr} {xs : List V} {R : List V → Prop} (hs : SqL K H p xs) (h : R xs) : ∃ p' ys, [V.ref p] = [.ref p'] ∧ (SqL K H p' ys ∨ SqT K H p' ys) ∧ R ys := ⟨p, xs, rfl, .inl hs, h⟩
/-! ### a heap without one place -/
def wo (H : Hp) (D : Addr) : Hp := fun b => if b = D then none else H b
section
variable {K : PySem.W.Frag} {H H' H2 : Hp} {D p : Addr} {o : HO} {xs : List V} {ds : List PyData} {v : V} {d : PyData}
theorem wo_same : Same (wo H D) H := fun b o h => by
  unfold wo at h
  split at h
  · cases h
  · exact h
theorem wo_new : New (wo H D) D := if_pos rfl
theorem wo_get (h : H p = some o) (n : p ≠ D) : wo H D p = some o := (if_neg n).trans h
theorem wo_eq : wo (upd H D o) D = wo H D := by
  funext b
  unfold wo
  split
  · rfl
  · rw [upd_ne (by assumption)]
theorem wo_mono (e : Same H H') : Same (wo H D) (wo H' D) := fun b o h => by
  unfold wo at h ⊢
  split at h
  · cases h
  · rw [if_neg (by assumption)]; exact e b o h
theorem same_wo (e : Same H H') (n : New H D) : Same H (wo H' D) := fun b o h => wo_get (e b o h) (ne_new h n)
theorem dpaPush (h : DpAll K (wo H D) xs ds) (e : Same H H2) (hv : Dp K (wo H2 D) v d) : DpAll K (wo (upd H2 D o) D) (xs ++ [v]) (ds ++ [d]) := by
  rw [wo_eq]
  exact dpaApp (h.same (wo_mono e)) (.cons hv .nil)
theorem dpaPushI (h : DpAll K (wo H D) xs ds) {i : Int} : DpAll K (wo (upd H D o) D) (xs ++ [.int i]) (ds ++ [.int i]) := dpaPush h (Same.refl _) (.int i)
end
/-! ### while -/
theorem w_wt {W : Nat → L2.St → Hp → Prop} {tb : TS} {D : Ends} {σ : L2.St} {H : Hp} {m : Nat} (h : tb { D with nx := fun σ' H' => ∃ m', m' < m ∧ W m' σ' H', ct := fun σ' H' => ∃ m', m' < m ∧ W m' σ' H', bk := D.nx } σ H) :
    ∃ N : L2.St → Hp → Prop, (∀ σ' H', N σ' H' → ∃ m', m' < m ∧ W m' σ' H') ∧ tb { D with nx := N, ct := N, bk := D.nx } σ H := ⟨_, fun _ _ h => h, h⟩
theorem and_nat (m n : Nat) : Builtin.bitAnd (m : Int) (n : Int) = ((m &&& n : Nat) : Int) := rfl
/-! ### two ways to read -/
theorem _root_.L2.PE.or {X : Cx} {e : Expr} {t t' : TE} (h : PE X e t) (h' : PE X e t') : PE X e (fun σ H Q => t σ H Q ∨ t' σ H Q) := ⟨fun pins s σ H Q I q => by
  rcases q with q | q
  · exact h.run pins s σ H Q I q
  · exact h'.run pins s σ H Q I q⟩
/-- the same, for an item of a comprehension -/
def tOrE (t t' : TE) : TE := fun σ H Q => t σ H Q ∨ t' σ H Q
theorem _root_.L2.PE.orD {X : Cx} {e : Expr} {t t' : TE} (h : PE X e t) (h' : PE X e t') : PE X e (tOrE t t') := PE.or h h'
theorem w_orE {t t' : TE} {σ : L2.St} {H : Hp} {Q : VK} (h : t σ H Q ∨ t' σ H Q) : tOrE t t' σ H Q := h
/-! ### classes by name -/
structure HasMk (P : Program) (w : World) (K : PySem.W.Frag) (mg : Str → Option Value) (base : Heap) (CX : CXT) (k : Nat) (x : Str) (C : Addr) (ps : List Str) (sp : Sp) : Prop where
  ex : ∃ f fd, FnOk P w K mg base CX k f fd ps sp ∧ Mk K C f ∧ mg x = some (.ref C) ∧ Binds K fd ps []
structure HasMeth (P : Program) (w : World) (K : PySem.W.Frag) (mg : Str → Option Value) (base : Heap) (CX : CXT) (k : Nat) (C : Addr) (m : Str) (ps : List Str) (sp : Sp) : Prop where
  ex : ∃ f fd, FnOk P w K mg base CX k f fd ps sp ∧ Cls K C ∧ Meth K C m f ∧ Binds K fd ps []
/-- a method's body, proved once for whatever class holds it -/
structure HasFn (P : Program) (w : World) (K : PySem.W.Frag) (mg : Str → Option Value) (base : Heap) (CX : CXT) (k : Nat) (f : Addr) (ps : List Str) (sp : Sp) : Prop where
  ex : ∃ fd, FnOk P w K mg base CX k f fd ps sp ∧ Binds K fd ps []
section
variable {P : Program} {w : World} {K : PySem.W.Frag} {mg : Str → Option Value} {base : Heap} {x qual : Str} {ps N : List Str} {sp : Sp} {k : Nat}
theorem HasFn.mk' {st : Stmt} {f : Addr} {fd : FuncData} (F : Fun K x qual st f fd) (b : Binds K fd ps []) (S : FnScope N ps (defScope st)) (len : ∀ vs H Q E, sp vs H Q E → vs.length = ps.length)
    (hbody : ∀ (cdv : Value) (A : Around) (outer : List Env) (s : Shared) (H : Hp) (vs : List V) (Q : VK) (E : XK), Room k (A.deeper (envOfC qual (defScope st) s.heap.objs.size f cdv)) → sp vs H Q E →
      ∃ t, PSs (cxOf CX0 P w K mg base N qual (defScope st) f cdv A outer s H E).nox (defBody st) t ∧ t { nx := fun _ H' => Q .non H', rt := Q } (start N vs) H) : HasFn P w K mg base CX0 (k + 1) f ps sp :=
  ⟨fd, F.ok S len hbody, b⟩
theorem HasFn.mkOf {CX : CXT} {f C : Addr} (h : HasFn P w K mg base CX k f ps sp) (M : Mk K C f) (g : mg x = some (.ref C)) : HasMk P w K mg base CX k x C ps sp := by
  obtain ⟨fd, F, b⟩ := h.ex
  exact ⟨f, fd, F, M, g, b⟩
theorem HasFn.meth {CX : CXT} {f C : Addr} {m : Str} (h : HasFn P w K mg base CX k f ps sp) (c : Cls K C) (M : Meth K C m f) : HasMeth P w K mg base CX k C m ps sp := by
  obtain ⟨fd, F, b⟩ := h.ex
  exact ⟨f, fd, F, c, M, b⟩
end
section
variable {X : Cx} {k : Nat} {ps : List Str} {sp : Sp} {x m : Str} {p pos apos : Pos} {e o : Expr} {es : List Expr} {t : TA} {ta : TE} {C : Addr}
theorem pe_mk (h : HasMk X.prog X.w X.K X.mg X.base CX0 k x C ps sp) (hr : Room (k + 1) X.A) (hg : Gl X x) (ha : PA X (e :: es) t) (hdb : (x == ("__debug__" : Str)) = false := by decide) (he : starEach (e :: es) X.env = (false, eval e X.env) :: starEach es X.env := by rfl) (hpl : (backTo pos (starEach es X.env)).any (·.1) = false := by rfl) :
    PE X (.Call (.Name x p) (e :: es) [] pos) (tMake C sp [] E0 t) := by
  obtain ⟨f, fd, F, M, g, b⟩ := h.ex
  exact pe_make M F hr hg g b .nil pass0 ha hdb he hpl
theorem pe_mt {pl : Sem Bool} (h : HasMeth X.prog X.w X.K X.mg X.base CX0 k C m ps sp) (he : PE X o ta) (hr : Room k X.A) (ha : PA X (e :: es) t)
    (hst : starEach (e :: es) X.env = (false, eval e X.env) :: starEach es X.env := by rfl) (hpl : (backTo pos (starEach es X.env)).any (·.1) = false := by rfl)
    (ht : eval (.Call (.Attribute o m apos) (e :: es) [] pos) X.env = (do
      let v ← eval o X.env
      standAt apos.atName
      let (f, first) ← holding [v] (getMethod v m pl)
      callWith pos f first (backTo pos (starEach (e :: es) X.env)) (backToKw pos (keywordEach [] X.env))) := by rfl) :
    PE X (.Call (.Attribute o m apos) (e :: es) [] pos) (tMeth C m sp [] E0 ta t) := by
  obtain ⟨f, fd, F, c, M, b⟩ := h.ex
  exact pe_meth he c M F hr b .nil pass0 ha hst hpl ht
theorem pe_mt0 {pl : Sem Bool} (h : HasMeth X.prog X.w X.K X.mg X.base CX0 k C m ps sp) (he : PE X o ta) (hr : Room k X.A)
    (ht : eval (.Call (.Attribute o m apos) [] [] pos) X.env = (do
      let v ← eval o X.env
      standAt apos.atName
      let (f, first) ← holding [v] (getMethod v m pl)
      callWith pos f first (backTo pos (starEach [] X.env)) (backToKw pos (keywordEach [] X.env))) := by rfl) :
    PE X (.Call (.Attribute o m apos) [] [] pos) (tMeth C m sp [] E0 ta tNil) := by
  obtain ⟨f, fd, F, c, M, b⟩ := h.ex
  exact pe_meth0 he c M F hr b .nil pass0 ht
end
section
variable {σ : L2.St} {H : Hp} {Q : VK} {D : Ends} {K : PySem.W.Frag} {ta tv : TE} {tl : TA} {sp : Sp} {E : XK} {C p dx : Addr} {fs : List (Str × V)} {f m : Str} {v : V}
theorem w_make (h : tl σ H fun vs H1 => ∀ x dx, New H1 x → New H1 dx → dx ≠ x → sp (.ref x :: vs) (upd (upd H1 dx (.own x)) x (.ins C dx [])) (fun v H2 => v = .non ∧ Q (.ref x) H2) E) : tMake C sp [] E tl σ H Q := by
  unfold tMake
  simp only [List.append_nil]
  exact h
theorem w_meth (h : ta σ H fun x H1 => ∃ a dx fs, x = .ref a ∧ H1 a = some (.ins C dx fs) ∧ fs.lookup m = none ∧ tl σ H1 fun vs H2 => sp (x :: vs) H2 Q E) : tMeth C m sp [] E ta tl σ H Q := by
  unfold tMeth
  simp only [List.append_nil]
  exact h
theorem w_methq {R : Prop} (hp : H p = some (.ins C dx fs)) (hl : fs.lookup m = none) (h : R) : ∃ a dx fs, V.ref p = .ref a ∧ H a = some (.ins C dx fs) ∧ fs.lookup m = none ∧ R := ⟨p, dx, fs, rfl, hp, hl, h⟩
theorem w_sf (h : tv σ H fun y H1 => ta σ H1 fun x H2 => ∃ a C dx fs, x = .ref a ∧ H2 a = some (.ins C dx fs) ∧ Cls K C ∧ NoAttr K C f ∧ fs.length < 1000 ∧ D.nx σ (upd H2 a (.ins C dx (putF f y fs)))) : sFld K ta tv f D σ H := h
theorem w_sfq {R : Addr → Addr → Addr → List (Str × V) → Prop} (hp : H p = some (.ins C dx fs)) (hc : Cls K C) (hn : NoAttr K C f) (hl : fs.length < 1000) (h : R p C dx fs) : ∃ a C' dx' fs', V.ref p = .ref a ∧ H a = some (.ins C' dx' fs') ∧ Cls K C' ∧ NoAttr K C' f ∧ fs'.length < 1000 ∧ R a C' dx' fs' := ⟨p, C, dx, fs, rfl, hp, hc, hn, hl, h⟩
end
/-! ### isinstance of an object -/
structure IsoK (K : PySem.W.Frag) (C : Addr) : Prop where
  cl : Cls K C
  oc : PySem.W.findIn K (.ref C) "__class__" = some (some (.builtin "object.__class__"))
  og : PySem.W.specialIn K (.builtin "object.__class__") "__get__" = some (some (.builtin "getset_descriptor.__get__"))
  ot : PySem.W.takesIn K (.builtin "object.__class__") = some true
  om : PySem.W.mroIn K C (.type "object") = some true
theorem w_iso {K : PySem.W.Frag} {H : Hp} {Q : VK} {p C D dx : Addr} {fs : List (Str × V)} {b : Bool} (hp : H p = some (.ins C dx fs)) (I : IsoK K C) (hk : PySem.W.kitOne K (.ref C) (.ref D) = some b) (h : Q (.bl b) H) : rIsi K [.ref p, .ref D] H Q :=
  ⟨_, _, _, _, b, rfl, .own D, .base (.ins hp I.cl I.oc I.og I.ot I.om), hk, h⟩
theorem w_isoN {K : PySem.W.Frag} {H : Hp} {Q : VK} {D : Addr} {b : Bool} (hk : PySem.W.kitOne K (.type "NoneType") (.ref D) = some b) (h : Q (.bl b) H) : rIsi K [.non, .ref D] H Q :=
  ⟨_, _, _, _, b, rfl, .own D, .base .non, hk, h⟩
theorem kit_own {K : PySem.W.Frag} {C D : Addr} {b : Bool} (h1 : PySem.W.isClsIn K D = true) (h2 : PySem.W.typeIn K (.ref D) = some (.type "type")) (h3 : PySem.W.subIn K (.ref C) (.ref D) = some b) (h4 : PySem.W.subIn K (.ref C) (.ref C) = some true) : PySem.W.kitOne K (.ref C) (.ref D) = some b := by
  unfold PySem.W.kitOne
  by_cases e : C = D
  · subst e
    rw [h4] at h3
    cases h3
    rw [if_pos (by simp)]
  · have hn : ¬ ((Value.ref C == Value.ref D) = true) := by
      intro z
      rw [beq_iff_eq] at z
      cases z
      exact e rfl
    rw [if_neg hn]
    unfold PySem.W.kitCls
    have h5 : (PySem.W.clsIn K D).isSome = true := h1
    show (if ((PySem.W.clsIn K D).isSome && PySem.W.typeIn K (.ref D) == some (.type "type")) = true then PySem.W.subIn K (.ref C) (.ref D) else none) = some b
    rw [h5, h2, if_pos (by simp)]
    exact h3
/-! ### range by steps -/
theorem w_r3 {σ : L2.St} {H : Hp} {ta : TA} {R : It → Hp → Prop} (h : ta σ H fun vs H1 => ∃ (i j c : Int) (n : Nat), vs = [.int i, .int j, .int c] ∧ RgC i j c n ∧ R (Itc i c n) H1) : iRng3 ta σ H R := h
theorem w_r3q {i j c : Int} {n : Nat} {R : Int → Int → Nat → Prop} (hc : RgC i j c n) (h : R i c n) : ∃ (i' j' c' : Int) (n' : Nat), [V.int i, V.int j, V.int c] = [.int i', .int j', .int c'] ∧ RgC i' j' c' n' ∧ R i' c' n' := ⟨i, j, c, n, rfl, hc, h⟩
/-! ### ways joined behind a statement -/
def tCutX (t u : TS) : TS := fun D σ H => ∃ M : L2.St → Hp → Prop, t { D with nx := M } σ H ∧ ∀ σ' H', M σ' H' → u D σ' H'
theorem pss_cutX {X : Cx} {st : Stmt} {more : List Stmt} {t u : TS} (h1 : PS X st t) (h2 : PSs X more u) : PSs X (st :: more) (tCutX t u) := ⟨fun pins s σ H D I h => by
  obtain ⟨M, hm, hu⟩ := h
  refine wpAny_execs_cons (thn (h1.run pins s σ H { D with nx := M } I hm) fun f s1 q => ?_)
  cases f with
  | next => obtain ⟨σ1, H1, I1, q1⟩ := q; exact h2.run pins s1 σ1 H1 D I1 (hu σ1 H1 q1)
  | ret v => exact q
  | brk => exact q
  | cont => exact q⟩
theorem w_cut {t u : TS} {D : Ends} {σ : L2.St} {H : Hp} (M : L2.St → Hp → Prop) (h : t { D with nx := M } σ H) (k : ∀ σ' H', M σ' H' → u D σ' H') : tCutX t u D σ H := ⟨M, h, k⟩
/-! ### dicts with number keys; heaps that grow -/
theorem _root_.L2.Same.add {G H : Hp} {q : Addr} {o : HO} (e : Same G H) (h : H q = some o) : Same (upd G q o) H := fun b u hb => by
  by_cases e2 : b = q
  · subst e2
    rw [upd_same] at hb
    rw [h]
    exact hb
  · rw [upd_ne e2] at hb
    exact e b u hb
theorem New.upd {G : Hp} {p q : Addr} {o : HO} (n : New G p) (h : p ≠ q) : New (upd G q o) p := (upd_ne h).trans n
theorem putK_len {kvs : List (Key × V)} {k : Key} {v : V} : (putK kvs k v).length ≤ kvs.length + 1 := by
  unfold putK
  split <;> simp
theorem w_put {σ : L2.St} {H : Hp} {D : Ends} {td ty tv : TE} (h : tv σ H fun v H1 => td σ H1 fun x H2 => ty σ H2 fun y H3 => ∃ a H4, x = .ref a ∧ DPut H3 a y v H4 ∧ D.nx σ H4) : sDPut td ty tv D σ H := h
theorem w_putI {H : Hp} {a : Addr} {kvs : List (Key × V)} {i : Int} {v : V} {R : Hp → Prop} (e : H a = some (.dK kvs)) (hl : kvs.length < sizeLine) (h : R (upd H a (.dK (putK kvs (.inl i) v)))) : ∃ a' H4, V.ref a = .ref a' ∧ DPut H a' (.int i) v H4 ∧ R H4 := ⟨a, _, rfl, DPut.k (k := .inl i) e hl, h⟩
theorem w_getI {H : Hp} {a : Addr} {kvs : List (Key × V)} {i : Int} {v : V} {R : V → Prop} (e : H a = some (.dK kvs)) (hv : valV kvs (.inl i) = some v) (h : R v) : ∃ a' v', V.ref a = .ref a' ∧ DGet H a' (.int i) (some v') ∧ R v' := ⟨a, v, rfl, by rw [← hv]; exact DGet.k (k := .inl i) e, h⟩
theorem w_inI {H : Hp} {a : Addr} {kvs : List (Key × V)} {i : Int} {R : Option V → Prop} (e : H a = some (.dK kvs)) (h : R (valV kvs (.inl i))) : ∃ a' o, V.ref a = .ref a' ∧ DGet H a' (.int i) o ∧ R o := ⟨a, _, rfl, DGet.k (k := .inl i) e, h⟩
theorem w_din {σ : L2.St} {H : Hp} {Q : VK} {td ty : TE} (h : ty σ H fun y H1 => td σ H1 fun x H2 => ∃ a o, x = .ref a ∧ DGet H2 a y o ∧ Q (.bl o.isSome) H2) : tDIn ty td σ H Q := h
theorem w_dni {σ : L2.St} {H : Hp} {Q : VK} {td ty : TE} (h : ty σ H fun y H1 => td σ H1 fun x H2 => ∃ a o, x = .ref a ∧ DGet H2 a y o ∧ Q (.bl (!o.isSome)) H2) : tDNotIn ty td σ H Q := h
theorem w_dg {σ : L2.St} {H : Hp} {Q : VK} {td ty : TE} (h : td σ H fun x H1 => ty σ H1 fun y H2 => ∃ a v, x = .ref a ∧ DGet H2 a y (some v) ∧ Q v H2) : tDGet td ty σ H Q := h
theorem w_dn {σ : L2.St} {H : Hp} {Q : VK} (h : ∀ p, New H p → Q (.ref p) (upd H p (.dK []))) : tDNewK σ H Q := h
/-- a dict with number keys: what it holds -/
def Holds (kvs : List (Key × V)) (S : List Nat) (g : Nat → V) : Prop := kvs.length ≤ S.length ∧ ∀ d : Nat, valV kvs (.inl (d : Int)) = if d ∈ S then some (g d) else none
theorem Holds.nil {g : Nat → V} : Holds [] [] g := ⟨Nat.le_refl _, fun d => by simp [valV]⟩
theorem Holds.put {kvs : List (Key × V)} {S : List Nat} {g : Nat → V} (h : Holds kvs S g) (x : Nat) : Holds (putK kvs (.inl (x : Int)) (g x)) (S ++ [x]) g := by
  refine ⟨by have := putK_len (kvs := kvs) (k := .inl (x : Int)) (v := g x); have := h.1; simp; omega, fun d => ?_⟩
  rw [valV_put, h.2]
  by_cases e : d = x
  · subst e; simp
  · have : ¬ ((.inl (d : Int) : Key) = .inl (x : Int)) := fun z => e (by have := Sum.inl.inj z; omega)
    rw [if_neg this]
    simp [e]
theorem lc_r0 {m : Int} {n : Nat} {g : TG} {tt : TT} {te : TE} {vs : List Nat} {σ : L2.St} {H1 : Hp} {D : Addr} {Qd : Hp → Prop} (hm : m = n) (Pv : Nat → Hp → Prop) (h0 : Pv 0 (upd H1 D (.lst [])))
    (hs : ∀ i H, i < n → Pv i H → g (.int (i : Nat)) (wipe σ vs) H fun σ2 H2 => wipe σ2 vs = wipe σ vs ∧ tt σ2 H2 fun b H3 =>
      if b = true then te σ2 H3 fun y H4 => ∃ acc, H4 D = some (.lst acc) ∧ acc.length < sizeLine ∧ Pv (i + 1) (upd H4 D (.lst (acc ++ [y]))) else Pv (i + 1) H3) (hd : ∀ H, Pv n H → Qd H) :
    ∃ W : Nat → Nat → Hp → Prop, (∃ m, W 0 m (upd H1 D (.lst []))) ∧ ∀ i k H, W i k H →
      ((Itr 0 m.toNat).stop i H ∧ Qd H) ∨ ((Itr 0 m.toNat).go i H ∧ ∃ Nx : Hp → Prop, (∀ H', Nx H' → ∃ m', m' < k ∧ W (i + 1) m' H') ∧ ∀ x H', (Itr 0 m.toNat).yld i H x H' → g x (wipe σ vs) H' fun σ2 H2 => wipe σ2 vs = wipe σ vs ∧ tt σ2 H2 fun b H3 =>
        if b = true then te σ2 H3 fun y H4 => ∃ acc, H4 D = some (.lst acc) ∧ acc.length < sizeLine ∧ Nx (upd H4 D (.lst (acc ++ [y]))) else Nx H3) := by
  subst hm
  rw [Int.toNat_natCast]
  exact lc_range (lo := 0) Pv h0 (fun i H hi hp => by rw [Int.zero_add]; exact hs i H hi hp) hd
theorem w_acc {H : Hp} {D : Addr} {acc : List V} {R : List V → Prop} (h1 : H D = some (.lst acc)) (h2 : acc.length < sizeLine) (h : R acc) : ∃ acc', H D = some (.lst acc') ∧ acc'.length < sizeLine ∧ R acc' := ⟨acc, h1, h2, h⟩
/-! ### enumerate -/
theorem for_enumX {K : PySem.W.Frag} {a : Addr} {xs : List V} {g : TG} {tb : TS} {D : Ends} {σ : L2.St} {H : Hp} (Pv : Nat → L2.St → Hp → Prop) (h0 : Pv 0 σ H) (hl : ∀ i σ H, i ≤ xs.length → Pv i σ H → SqL K H a xs)
    (hs : ∀ i x σ H p, xs[i]? = some x → Pv i σ H → New H p → g (.ref p) σ (upd H p (.tup [.int (i : Nat), x])) fun σ2 H2 => tb { D with nx := Pv (i + 1), ct := Pv (i + 1), bk := D.nx } σ2 H2) (hd : ∀ σ H, Pv xs.length σ H → D.nx σ H) :
    ∃ W : Nat → Nat → L2.St → Hp → Prop, (∃ m, W 0 m σ H) ∧ ∀ i m σ H, W i m σ H →
      ((Ite K a).stop i H ∧ D.nx σ H) ∨ ((Ite K a).go i H ∧ ∃ N : L2.St → Hp → Prop, (∀ σ' H', N σ' H' → ∃ m', m' < m ∧ W (i + 1) m' σ' H') ∧ ∀ x H', (Ite K a).yld i H x H' → g x σ H' fun σ2 H2 => tb { D with nx := N, ct := N, bk := D.nx } σ2 H2) := by
  refine ⟨fun i m σ H => i + m = xs.length ∧ Pv i σ H, ⟨xs.length, by omega, h0⟩, fun i m σ H hW => ?_⟩
  obtain ⟨e, p⟩ := hW
  have q := hl i σ H (by omega) p
  cases m with
  | zero =>
    have e2 : i = xs.length := by omega
    subst e2
    exact .inl ⟨⟨xs, q, Nat.le_refl _⟩, hd σ H p⟩
  | succ m =>
    have hi : i < xs.length := by omega
    refine .inr ⟨⟨xs, xs[i], q, List.getElem?_eq_getElem hi⟩, Pv (i + 1), fun σ' H' h => ⟨m, by omega, by omega, h⟩, fun x H' hy => ?_⟩
    obtain ⟨T, y, rfl, nT, rfl, hx⟩ := hy
    exact hs i y σ H T (hx xs q) p nT
theorem w_enum {σ : L2.St} {H : Hp} {K : PySem.W.Frag} {ta : TA} {R : It → Hp → Prop} (h : ta σ H fun vs H1 => ∃ a xs, vs = [.ref a] ∧ SqL K H1 a xs ∧ R (Ite K a) H1) : iEnum K ta σ H R := h
theorem w_enq {H : Hp} {K : PySem.W.Frag} {p : Addr} {xs : List V} {R : Addr → Prop} (hs : SqL K H p xs) (h : R p) : ∃ a xs, [V.ref p] = [.ref a] ∧ SqL K H a xs ∧ R a := ⟨p, xs, rfl, hs, h⟩

/-! ### rules that name the written part -/
section
variable {X : Cx}
theorem ix_listK (K : PySem.W.Frag) (hK : X.K = K := by rfl) : IxR X (rIxL K) := by subst hK; exact ix_list
theorem ix_tupK (K : PySem.W.Frag) (hK : X.K = K := by rfl) : IxR X (rIxT K) := by subst hK; exact ix_tup
theorem ix_seqK (K : PySem.W.Frag) (hK : X.K = K := by rfl) : IxR X (rIx K) := by subst hK; exact ix_seq
theorem sl_listK (K : PySem.W.Frag) (hK : X.K = K := by rfl) : SlR X (rSlL K) := by subst hK; exact sl_list
def rLenK (K : PySem.W.Frag) : List V → Hp → VK → Prop := fun xs H Q => ∃ p ys, xs = [.ref p] ∧ (SqL K H p ys ∨ SqT K H p ys) ∧ Q (.int ys.length) H
theorem call_lenK (K : PySem.W.Frag) (hK : X.K = K := by rfl) : CallR X (.builtin "len") (rLenK K) := by subst hK; exact call_len_seq
def rListK (K : PySem.W.Frag) : List V → Hp → VK → Prop := fun xs H Q => ∃ p ys, xs = [.ref p] ∧ (SqL K H p ys ∨ SqT K H p ys) ∧ ∀ l, H l = none → Q (.ref l) (upd H l (.lst ys))
theorem call_listK (K : PySem.W.Frag) (hK : X.K = K := by rfl) : CallR X (.type "list") (rListK K) := by subst hK; exact call_list_of
theorem call_isiK' (K : PySem.W.Frag) (hK : X.K = K := by rfl) : CallR X (.builtin "isinstance") (rIsi K) := by subst hK; exact call_isi
theorem cr_sumK (K : PySem.W.Frag) (hc : X.calm = true) (hK : X.K = K := by rfl) : CallR X (.builtin "sum") (rSum K) := by subst hK; exact cr_sum hc
theorem cr_maxK (K : PySem.W.Frag) (hc : X.calm = true) (hK : X.K = K := by rfl) : CallR X (.builtin "max") (rMax K) := by subst hK; exact cr_max hc
theorem cr_minK (K : PySem.W.Frag) (hc : X.calm = true) (hK : X.K = K := by rfl) : CallR X (.builtin "min") (rMin K) := by subst hK; exact cr_min hc
theorem cr_allK (K : PySem.W.Frag) (hc : X.calm = true) (hK : X.K = K := by rfl) : CallR X (.builtin "all") (rAll K) := by subst hK; exact cr_all hc
theorem cr_anyK (K : PySem.W.Frag) (hc : X.calm = true) (hK : X.K = K := by rfl) : CallR X (.builtin "any") (rAny K) := by subst hK; exact cr_any hc
theorem cr_sortedIK (K : PySem.W.Frag) (hK : X.K = K := by rfl) : CallR X (.builtin "sorted") (rSortedI K) := by subst hK; exact cr_sortedI
theorem op_eqDK (K : PySem.W.Frag) (hu : X.A.units + 64 < cLine) (hK : X.K = K := by rfl) : OpR X (compareOp .Eq) (rEqD K) := by subst hK; exact op_eqD hu
theorem op_neDK (K : PySem.W.Frag) (hu : X.A.units + 64 < cLine) (hK : X.K = K := by rfl) : OpR X (compareOp .NotEq) (rNeD K) := by subst hK; exact op_neD hu
theorem op_inK (K : PySem.W.Frag) (hK : X.K = K := by rfl) : OpR X (compareOp .In) (rIn K false) := by subst hK; exact op_in_seq
theorem op_notInK (K : PySem.W.Frag) (hK : X.K = K := by rfl) : OpR X (compareOp .NotIn) (rIn K true) := by subst hK; exact op_notIn_seq
theorem mt_indexK (K : PySem.W.Frag) (hK : X.K = K := by rfl) : MtR X "list.index" (rIndex K) := by subst hK; exact mt_index
theorem w_lenK {K : PySem.W.Frag} {H : Hp} {Q : VK} {p : Addr} {xs : List V} (hs : SqL K H p xs) (h : Q (.int xs.length) H) : rLenK K [.ref p] H Q := ⟨p, xs, rfl, .inl hs, h⟩
theorem w_lenTK {K : PySem.W.Frag} {H : Hp} {Q : VK} {p : Addr} {xs : List V} (hs : SqT K H p xs) (h : Q (.int xs.length) H) : rLenK K [.ref p] H Q := ⟨p, xs, rfl, .inr hs, h⟩
theorem w_listK {K : PySem.W.Frag} {H : Hp} {Q : VK} {p : Addr} {xs : List V} (hs : SqL K H p xs) (h : ∀ l, New H l → Q (.ref l) (upd H l (.lst xs))) : rListK K [.ref p] H Q := ⟨p, xs, rfl, .inl hs, h⟩
end
section
variable {X : Cx} {e o : Expr} {f name : Str} {pos apos cpos : Pos} {ta to : TE} {t : TA} {es : List Expr}
theorem pe_fldK (K : PySem.W.Frag) (he : PE X e ta) (hb : attributeBase e f X.env (eval e X.env) = eval e X.env) (hK : X.K = K := by rfl) : PE X (.Attribute e f pos) (tFld K ta f) := by subst hK; exact pe_fld he hb
theorem pe_bmK (K : PySem.W.Frag) {T : String} {r : V → List V → Hp → VK → Prop} (h : PE X (.Call (.Attribute o name apos) es [] cpos) (tBM X.K T r to t)) (hK : X.K = K := by rfl) : PE X (.Call (.Attribute o name apos) es [] cpos) (tBM K T r to t) := by subst hK; exact h
theorem pe_bm0K (K : PySem.W.Frag) {T : String} {r : V → List V → Hp → VK → Prop} (h : PE X (.Call (.Attribute o name apos) es [] cpos) (tBM0 X.K T r to)) (hK : X.K = K := by rfl) : PE X (.Call (.Attribute o name apos) es [] cpos) (tBM0 K T r to) := by subst hK; exact h
theorem pi_listK (K : PySem.W.Frag) {tg l : Expr} {tl : TE} (hl : PE X l tl) (hK : X.K = K := by rfl) : PI X tg l (iList K tl) := by subst hK; exact pi_list hl
theorem pi_tupK (K : PySem.W.Frag) {tg l : Expr} {tl : TE} (hl : PE X l tl) (hK : X.K = K := by rfl) : PI X tg l (iTup K tl) := by subst hK; exact pi_tup hl
theorem pg_tupK (K : PySem.W.Frag) {es : List Expr} {k n : Nat} {t : TGs} (hc : X.calm = true) (h : PGs X es t) (hn : (assignEach es X.env).length = n := by rfl) (hst : (assignEach es X.env).findIdx? (·.1) = none := by rfl) (hK : X.K = K := by rfl) : PG X (.Tuple es k pos) (gTup K n t) := by subst hK; exact pg_tup hc h hn hst
end
/-! ### list.insert -/
theorem w_ins {H : Hp} {p : Addr} {xs : List V} {m : Int} {v : V} {R : Addr → List V → Int → V → Prop} (hp : H p = some (.lst xs)) (hl : xs.length < sizeLine) (h0 : 0 ≤ m) (h1 : m < 2 ^ 63) (h : R p xs m v) :
    ∃ (l : Addr) (ys : List V) (i : Int) (y : V), V.ref p = .ref l ∧ [V.int m, v] = [.int i, y] ∧ H l = some (.lst ys) ∧ ys.length < sizeLine ∧ 0 ≤ i ∧ i < 2 ^ 63 ∧ R l ys i y := ⟨p, xs, m, v, rfl, rfl, hp, hl, h0, h1, h⟩

/-! ### list(reversed(xs)) -/
section
open PySem PySem.Spec PyProof.Rows RT
variable {prog : Program} {w : World} {A : Around} {s : Shared}
theorem list_init_rev {it l S : Addr} {items : Array Value} {R : Result → Shared → Prop} (hh : A.handled = none) (hit : s.heap.IsRevIter it l ((items.size : Int) - 1)) (hl : s.heap.IsList l items) (hne : l ≠ it) (hSi : S ≠ it) (hSl : S ≠ l)
    (hn : items.size ≤ sizeLine) (hS : s.heap.get? S = some { cls := .type "list", data := .seq #[] })
    (hR : ∀ h' tk acc c', (∀ b o, b ≠ S → b ≠ it → s.heap.get? b = some o → h'.get? b = some o) → h'.get? S = some { cls := .type "list", dict := none, data := .seq acc c', slots := #[] } → ItemsOf (fun i v => items[items.size - 1 - i]? = some v) acc items.size →
      R (.ok (.ret .none)) { s with heap := h', toks := tk }) :
    wpAny (model prog w) A.in1 (Builtin.«list.__init__» ⟨[.ref S, .ref it], []⟩)
      (fun fin s' => match fin with | .done f => R (.ok f) s' | .again c' => c'.quiet = true ∧ codeAny (model prog w) A c' R s') (fun e s' => R (.error e) s') s := by
  show wpAny _ _ (do let old ← Builtin.List.listItems (.ref S); Builtin.List.listUpdate (.ref S) (fun _ => #[]); letGo old.toList.reverse; Builtin.List.listExtendWith (.ref S) (.ref it) .none) _ _ s
  refine wpAny_bind ?_
  unfold Builtin.List.listItems
  refine wpAny_bind (wpAny_seqItems hS rfl (wpAny_pure ?_))
  show wpAny _ _ (updateSeq S (fun _ => #[]) >>= fun _ => letGo (#[] : Array Value).toList.reverse >>= fun _ => Builtin.List.listExtendWith (.ref S) (.ref it) .none) _ _ s
  refine wpAny_bind (wpAny_updateSeq hS rfl ?_)
  have hS2 := Heap.get?_update_self (Obj.mapSeq (fun _ => (#[] : Array Value))) hS rfl
  have oth : ∀ b o, b ≠ S → s.heap.get? b = some o → (s.heap.update S (Obj.mapSeq (fun _ => (#[] : Array Value)))).get? b = some o := fun b o hb e => (Heap.get?_update_other _ _ (Ne.symm hb)).trans e
  refine wpAny_bind (wpAny_letGo ?_)
  have hit2 : (s.heap.update S (Obj.mapSeq (fun _ => (#[] : Array Value)))).IsRevIter it l ((items.size : Int) - 1) := hit.at fun o e => oth it o (Ne.symm hSi) e
  have hl2 : (s.heap.update S (Obj.mapSeq (fun _ => (#[] : Array Value)))).IsList l items := by
    obtain ⟨o, e, r⟩ := hl
    exact ⟨o, oth l o (Ne.symm hSl) e, r⟩
  generalize s.heap.update S (Obj.mapSeq (fun _ => (#[] : Array Value))) = h2 at hS2 oth hit2 hl2 ⊢
  have W := (Walks.listRev (prog := prog) (w := w) (A := A.in1) hh it l hne items).toS
  have hSf : S ∉ [it, l] := by simp only [List.mem_cons, List.not_mem_nil, or_false, not_or]; exact ⟨hSi, hSl⟩
  have hT : ({ s with heap := h2 } : Shared).TypeIs (.ref it) "list_reverseiterator" := Heap.IsRevIter.typeIs (s := { s with heap := h2 }) hit2
  have h1 : Builtin.List.listSameRef (.ref S) (.ref it) = false := by simp [Builtin.List.listSameRef, hSi]
  unfold Builtin.List.listExtendWith
  refine wpAny_bind (wpAny_typeOf hT ?_)
  rw [if_neg (by rw [h1]; decide)]
  refine wpAny_bind (wpAny_pyIter_revIter (s := { s with heap := h2 }) hit2 ?_)
  refine wpAny_bind (wpAny_holding ?_)
  unfold Builtin.List.listLengthHint
  refine wpAny_bind (wpAny_specialOf hT nolen_lri ?_)
  show wpAny _ A.in1 (specialOf (Value.ref it) (Str.ofString "__length_hint__") >>= _) _ _ _
  refine wpAny_bind (wpAny_specialOf hT hint_lri ?_)
  generalize hid : ("list_reverseiterator.__length_hint__" : String) = id0
  wp_delta
  rw [show splitId id0 = some ("list_reverseiterator", "__length_hint__") from by subst hid; decide +kernel]
  subst hid
  refine wpAny_bind (wpAny_isInstance (b := true) hT (by rw [isSubtype_type]; kernel_rfl) ?_)
  refine wpAny_pure ?_
  rw [if_neg (by decide)]
  have e0 : ((items.size : Nat) : Int) - 1 - ((0 : Nat) : Int) = (items.size : Int) - 1 := by omega
  refine wpAny_pure ⟨plainId_quiet F.plain_extend_loop _, codeAny_extend_loopS W hn _ hSf _ items.size 0 _ _ _ rfl (Nat.zero_le _) ⟨Nat.zero_le _, by rw [e0]; exact hit2, hl2⟩ hS2 (ItemsOf.nil _) fun s' acc' c' hm hS' hacc => ?_⟩
  rw [Moved.eq_with hm]
  refine hR s'.heap s'.toks acc' c' (fun b o hb hb2 e => ?_) hS' hacc
  refine hm.heap b o (fun hmem => ?_) (oth b o hb e)
  rcases List.mem_cons.mp hmem with e' | hmem
  · exact hb e'
  · exact hb2 (List.mem_singleton.mp hmem)
theorem call_list_rev {it l : Addr} {items : Array Value} {Q : Value → Shared → Prop} {E : Value → Shared → Prop} (hh : A.handled = none) (hit : s.heap.IsRevIter it l ((items.size : Int) - 1)) (hl : s.heap.IsList l items) (hne : l ≠ it) (hn : items.size ≤ sizeLine)
    (hQ : ∀ h' tk acc c', (∀ b o, b ≠ it → s.heap.get? b = some o → h'.get? b = some o) → h'.get? s.heap.objs.size = some { cls := .type "list", dict := none, data := .seq acc c', slots := #[] } → ItemsOf (fun i v => items[items.size - 1 - i]? = some v) acc items.size →
      Q (.ref s.heap.objs.size) { s with heap := h', toks := tk }) : wpAny (model prog w) A (call (.type "list") [.ref it]) Q E s := by
  obtain ⟨oi, hoi, _⟩ := id hit
  obtain ⟨ol, hol, _⟩ := id hl
  have hSi : s.heap.objs.size ≠ it := Nat.ne_of_gt (Heap.lt_size hoi)
  have hSl : s.heap.objs.size ≠ l := Nat.ne_of_gt (Heap.lt_size hol)
  refine callType_codes (Q₁ := fun obj s₁ => obj = .ref s.heap.objs.size ∧ s₁ = { s with heap := s.heap.push { cls := .type "list", data := .seq #[] } }) PySem.F.called_list (PySem.F.typeCall_list_1 _) PySem.F.entry_list_init
    (code_list_new _ ⟨rfl, rfl⟩) fun obj s₁ h₁ => ?_
  obtain ⟨rfl, rfl⟩ := h₁
  have hS : (s.heap.push { cls := .type "list", data := .seq #[] }).get? s.heap.objs.size = some { cls := .type "list", data := .seq #[] } := Heap.get?_push_size _ rfl
  refine ⟨⟨_, hS, rfl⟩, PySem.F.args_list_init_2 _ _, list_init_rev (A := A.in1) (s := { s with heap := s.heap.push { cls := .type "list", data := .seq #[] } }) hh (hit.at fun o e => Heap.get?_push_of_some _ e) (hl.push _) hne hSi hSl hn hS fun h' tk acc c' hk hS' hacc => ?_⟩
  exact ⟨rfl, hQ h' tk acc c' (fun b o hb e => hk b o (Nat.ne_of_lt (Heap.lt_size e)) hb (Heap.get?_push_of_some _ e)) hS' hacc⟩
end
section
open PySem PySem.Spec PyProof.Rows RT
variable {X : Cx}
def tListRev (K : PySem.W.Frag) (te : TE) : TE := fun σ H Q => te σ H fun v H1 => ∃ (a : Addr) (xs : List V), v = .ref a ∧ SqL K H1 a xs ∧ ∀ q, H1 q = none → Q (.ref q) (upd H1 q (.lst xs.reverse))
theorem pe_listRev {e : Expr} {te : TE} {p p2 pos pos2 : Pos} (K : PySem.W.Frag) (hc : X.calm = true) (hg : Gl X "list") (hm : X.mg "list" = none) (hg2 : Gl X "reversed") (hm2 : X.mg "reversed" = none) (he : PE X e te)
    (hK : X.K = K := by rfl)
    (hs : starEach [e] X.env = (false, eval e X.env) :: starEach [] X.env := by rfl)
    (hs2 : starEach [.Call (.Name "reversed" p2) [e] [] pos2] X.env = (false, eval (.Call (.Name "reversed" p2) [e] [] pos2) X.env) :: starEach [] X.env := by rfl) :
    PE X (.Call (.Name "list" p) [.Call (.Name "reversed" p2) [e] [] pos2] [] pos) (tListRev K te) := by
  subst hK
  refine ⟨fun pins s σ H Q I h => ?_⟩
  refine Call_ (ld_blt I hg hm PyProof.Rows.boot_list (PyProof.Rows.callWith_type1 (args_cons (Call_ (ld_blt I hg2 hm2 PyProof.Rows.boot_reversed (PyProof.Rows.callWith_type1 (args_cons (thn (he.run pins s σ H _ I h) fun u s1 ⟨v, H1, I1, r1, q1⟩ => args_nil ?_) hs) hs rfl))) hs2) hs2 rfl))
  obtain ⟨a, xs, ev, hq, q⟩ := q1
  subst ev
  obtain rfl : u = Value.ref a := r1
  obtain ⟨its, rv, p', hz⟩ := I1.list hq
  refine call_reversed_list p'.isList (args_nil ?_)
  have hl := p'.isList
  obtain ⟨ol, hol, _⟩ := id hl
  have hne : a ≠ s1.heap.objs.size := Nat.ne_of_lt (Heap.lt_size hol)
  have hn : its.toArray.size ≤ sizeLine := by rw [List.size_toArray, ← rv.length]; exact hz
  have hsz : (s1.heap.push (revObj a ((its.toArray.size : Int) - 1))).objs.size = s1.heap.objs.size + 1 := size_push' _ _
  refine call_list_rev (s := { s1 with heap := s1.heap.push (revObj a ((its.toArray.size : Int) - 1)) }) (I1.ok.hd hc) ⟨_, Heap.get?_push_size _ rfl, rfl, rfl⟩ (hl.push _) hne hn fun h' tk acc c' hk hS' hi => ?_
  have hS2 : h'.get? (s1.heap.objs.size + 1) = some { cls := .type "list", dict := none, data := .seq acc c', slots := #[] } := by rw [← hsz]; exact hS'
  have keep : ∀ b u, s1.heap.get? b = some u → h'.get? b = some u := fun b u e => hk b u (Nat.ne_of_lt (Heap.lt_size e)) (Heap.get?_push_of_some _ e)
  refine ⟨.ref (s1.heap.objs.size + 1), upd H1 (s1.heap.objs.size + 1) (.lst xs.reverse), I1.laid (t' := tk) keep (Nat.le_succ _) (show ObjOk X.prog X.w _ _ _ (.lst xs.reverse) from ⟨by rw [List.length_reverse]; exact hz, acc.toList, c', vals_rev rv hi, by rw [Array.toArray_toList]; exact hS2⟩), ?_, q _ (I1.hok.fresh (Nat.le_succ _))⟩
  show Value.ref _ = Value.ref _
  exact congrArg Value.ref hsz
theorem w_lrev {K : PySem.W.Frag} {te : TE} {σ : L2.St} {H : Hp} {Q : VK} (h : te σ H fun v H1 => ∃ (a : Addr) (xs : List V), v = .ref a ∧ SqL K H1 a xs ∧ ∀ q, H1 q = none → Q (.ref q) (upd H1 q (.lst xs.reverse))) : tListRev K te σ H Q := h
end

/-! ### list(d.keys()) -/
section
open PySem PySem.Spec PyProof.Rows
variable {X : Cx}
def tListKeys (te : TE) : TE := fun σ H Q => te σ H fun v H1 => ∃ (d : Addr) (kvs : List (Key × V)), v = .ref d ∧ H1 d = some (.dK kvs) ∧ ∀ p, H1 p = none → Q (.ref p) (upd H1 p (.lst (kvs.map fun kv => kV kv.1)))
theorem pe_listKeys {e : Expr} {td : TE} {p pos apos cpos : Pos} (hc : X.calm = true) (hg : Gl X "list") (hm : X.mg "list" = none) (he : PE X e td)
    (hbase : attributeBase e "keys" X.env (eval e X.env) = eval e X.env := by rfl) (hline : (apos.endLine == cpos.line) = true := by rfl)
    (hs : starEach [.Call (.Attribute e "keys" apos) [] [] cpos] X.env = (false, eval (.Call (.Attribute e "keys" apos) [] [] cpos) X.env) :: starEach [] X.env := by rfl) :
    PE X (.Call (.Name "list" p) [.Call (.Attribute e "keys" apos) [] [] cpos] [] pos) (tListKeys td) := by
  refine ⟨fun pins s σ H Q I h => ?_⟩
  refine Call_ (ld_blt I hg hm PyProof.Rows.boot_list (PyProof.Rows.callWith_type1 (args_cons ?_ hs) hs rfl))
  refine wpAny_Call_method (T := "dict") (id := "dict.keys") hbase rfl hline F.plainAttrs_dict F.slot_dict_keys F.type_dict_keys (thn (he.run pins s σ H _ I h) fun u s1 ⟨x, H1, I1, rx, d, kvs, ex, hd, q⟩ => ?_)
  subst ex
  obtain rfl : u = Value.ref d := rx
  obtain ⟨z, lo, vs, rel, dd⟩ := dk_rd I1.hok (.inl hd)
  obtain ⟨ep, hat⟩ := dd.dictAt
  have ek : (kvs.map fun kv => kV kv.1) = vs.map fun p => kV p.1 := by
    have e := congrArg (List.map kV) rel.keys
    rw [List.map_map, List.map_map] at e
    exact e
  refine ⟨dd.typeIs, dd.mapOf.noDict, ?_⟩
  have k0 : ∀ b o, s1.heap.get? b = some o → (s1.heap.push { cls := .type "dict_keys", data := .fields #[.ref d] }).get? b = some o := fun b o q => Heap.get?_push_of_some _ q
  have hsz : (s1.heap.push { cls := .type "dict_keys", data := .fields #[.ref d] }).objs.size = s1.heap.objs.size + 1 := size_push' _ _
  show wpAny _ _ (callWith cpos (.builtin "dict.keys") [.ref d] [] []) _ X.xe s1
  refine method_meetsIn F.slot_dict_keys F.entry_dict_keys rfl (PySem.evalArgs_none ⟨rfl, dd.typeIs, F.args_dict_keys_1 _, _, PySem.W.kdl_meets_keys (mixKind X.prog X.w) d lo, ⟨vs, dd⟩, args_nil ?_⟩)
  refine PySem.W.kdl_call (s := { s1 with heap := s1.heap.push { cls := .type "dict_keys", data := .fields #[.ref d] } }) (PySem.W.kdl_keys (knd := mixKind X.prog X.w) (r := s1.heap.objs.size) (d := d) (kvs := vs) (ep := ep)) (I1.ok.hd hc) ⟨⟨_, Heap.get?_push_size _ rfl, rfl, rfl⟩, hat.push _⟩ (by rw [← rel.length]; exact z) fun h' tk acc c' hk hD hacc => ?_
  have hv : Vals (vs.map fun p => kV p.1) acc.toList := keys_at (by rw [Array.length_toList]; exact hacc.1) fun j v e => hacc.2 j v (by rw [← Array.getElem?_toList]; exact e)
  have hD2 : h'.get? (s1.heap.objs.size + 1) = some { cls := .type "list", data := .seq acc c' } := by rw [← hsz]; exact hD
  refine ⟨.ref (s1.heap.objs.size + 1), upd H1 (s1.heap.objs.size + 1) (.lst (kvs.map fun kv => kV kv.1)), I1.laid (t' := tk) (fun b u e => hk b u (k0 b u e)) (Nat.le_succ _)
    (show ObjOk X.prog X.w _ _ _ (.lst (kvs.map fun kv => kV kv.1)) from ⟨by rw [List.length_map]; exact z, acc.toList, c', by rw [ek]; exact hv, by rw [Array.toArray_toList]; exact hD2⟩), ?_, q _ (I1.hok.fresh (Nat.le_succ _))⟩
  show Value.ref _ = Value.ref _
  exact congrArg Value.ref hsz
theorem w_lkeys {te : TE} {σ : L2.St} {H : Hp} {Q : VK} (h : te σ H fun v H1 => ∃ (d : Addr) (kvs : List (Key × V)), v = .ref d ∧ H1 d = some (.dK kvs) ∧ ∀ p, H1 p = none → Q (.ref p) (upd H1 p (.lst (kvs.map fun kv => kV kv.1)))) : tListKeys te σ H Q := h
end

/-! ### steps of the reading -/
local macro_rules | `(tactic| walk_at "len") => `(tactic| (intro vs H Q E h; first | (obtain ⟨e, _⟩ := h; subst e; rfl) | (obtain ⟨_, e, _⟩ := h; subst e; rfl) | (obtain ⟨_, _, e, _⟩ := h; subst e; rfl) | (obtain ⟨_, _, _, e, _⟩ := h; subst e; rfl) | (obtain ⟨_, _, _, _, e, _⟩ := h; subst e; rfl) | (obtain ⟨_, _, _, _, _, e, _⟩ := h; subst e; rfl) | (obtain ⟨_, _, _, _, _, _, e, _⟩ := h; subst e; rfl) | (obtain ⟨_, _, _, _, _, _, _, e, _⟩ := h; subst e; rfl) | (obtain ⟨_, _, _, _, _, _, _, _, e, _⟩ := h; subst e; rfl) | (obtain ⟨_, _, _, _, _, _, _, _, _, e, _⟩ := h; subst e; rfl) | (obtain ⟨_, _, _, _, _, _, _, _, _, _, e, _⟩ := h; subst e; rfl) | (obtain ⟨_, _, _, _, _, _, _, _, _, _, _, e, _⟩ := h; subst e; rfl) | (obtain ⟨_, _, _, _, _, _, _, _, _, _, _, _, e, _⟩ := h; subst e; rfl) | (obtain ⟨_, _, _, _, _, _, _, _, _, _, _, _, _, e, _⟩ := h; subst e; rfl)))
/-- p ≠ q -/
local macro_rules | `(tactic| walk_at "ne1") => `(tactic| (refine ne_new (H := ?H) (o := ?o) ?a ?b; (case b => assumption); (case a => walk_at "hp")))
local macro_rules | `(tactic| walk_at "ne") => `(tactic| first
  | assumption | (apply Ne.symm; assumption) | walk_at "ne1" | (apply Ne.symm; walk_at "ne1") | fail)
/-- H p = some o -/
local macro_rules | `(tactic| walk_at "hp") => `(tactic| first
  | assumption
  | exact upd_same
  | (refine (upd_ne ?n).trans ?h; (case n => walk_at "ne"); (case h => walk_at "hp"))
  | (refine Same.get (H := ?H) ?s ?h; (case s => assumption); (case h => assumption)) | fail)
local macro_rules | `(tactic| walk_at "sq") => `(tactic| first
  | assumption
  | exact SqL.of (by walk_at "hp") | exact SqT.of (by walk_at "hp")
  | (refine Same.seq (H := ?H) ?s ?h; (case h => assumption); (case s => walk_at "same"))
  | (refine same_read (H := ?H) ?s ?h; (case h => assumption); (case s => walk_at "same")) | fail)
/-- a later new object was free ahead -/
local macro_rules | `(tactic| walk_at "fr") => `(tactic| first | assumption | (refine New.of (H' := ?H) ?n ?s; (case n => assumption); (case s => walk_at "same")) | fail)
/-- what was tracked stays -/
local macro_rules | `(tactic| walk_at "same") => `(tactic| first | assumption | exact Same.refl _ | (refine Same.new ?_ (by assumption); walk_at "same") | (refine Same.mut ?s ?n; (case n => walk_at "fr"); (case s => walk_at "same")) | (refine Same.trans (H1 := ?H1) ?a ?b; (case b => assumption); (case a => walk_at "same")) | fail)
local macro_rules | `(tactic| walk_at "side") => `(tactic| first | decide | omega | (with_reducible assumption) | fail)
local macro_rules | `(tactic| walk_at "at") => `(tactic| first | rfl | assumption | exact atI_nat (by assumption) | fail)
local macro_rules | `(tactic| walk_at "ll") => `(tactic| first | omega | (simp only [List.length_append, List.length_cons, List.length_nil, List.length_map, List.length_range, List.length_set, List.length_replicate]; omega) | (simp only [List.length_append, List.length_cons, List.length_nil, List.length_map, List.length_range, List.length_set, List.length_replicate] at *; omega) | (simp; done) | (simp; omega) | fail)
local macro_rules | `(tactic| walk_at "ix") => `(tactic| first | assumption | (refine ixN_nat ?_; walk_at "ll") | rfl | fail)
local macro_rules | `(tactic| walk_at "szlt") => `(tactic| first | assumption | (refine szlt ?_; walk_at "ll") | fail)
local macro_rules | `(tactic| walk_at "szk") => `(tactic| first | assumption | (refine szlt ?_; omega) | fail)
/-- one step -/
local macro_rules | `(tactic| walk_at "st") => `(tactic| first
  | with_reducible refine w_iT ?_
  | with_reducible refine w_iF ?_
  | with_reducible refine w_iNT ?_
  | with_reducible refine w_iNF ?_
  | with_reducible refine w_iNN ?_
  | with_reducible refine w_seq ?_
  | with_reducible refine w_asg ?_
  | with_reducible refine w_gn ?_
  | with_reducible refine w_c ?_
  | with_reducible refine w_op ?_
  | with_reducible refine w_ret ?_
  | with_reducible refine w_if ?_
  | with_reducible refine w_test ?_
  | with_reducible refine w_rI0 ?_
  | with_reducible refine w_cons ?_
  | with_reducible refine w_nil ?_
  | with_reducible refine w_call ?_
  | with_reducible refine w_cb ?_
  | with_reducible refine w_drop ?_
  | with_reducible refine w_next ?_
  | with_reducible refine w_eqI ?_
  | with_reducible refine w_neI ?_
  | ((with_reducible refine w_var ?_); refine ⟨_, rfl, ?_⟩)
  | ((with_reducible refine w_aug ?_); refine ⟨_, rfl, ?_⟩)
  | with_reducible refine w_eqB ?_
  | with_reducible refine w_neB ?_
  | with_reducible refine w_tB ?_
  | with_reducible refine w_bl ?_
  | with_reducible refine w_and ?_
  | with_reducible refine w_or ?_
  | with_reducible refine w_not ?_
  | with_reducible refine w_andV ?_
  | with_reducible refine w_orV ?_
  | with_reducible refine w_notV ?_
  | with_reducible refine w_ifE ?_
  | with_reducible refine w_un ?_
  | with_reducible refine w_rU ?_
  | with_reducible refine w_ip ?_
  | with_reducible refine w_gc ?_
  | with_reducible refine w_g0 ?_
  | with_reducible refine w_gs ?_
  | with_reducible refine w_tup ?_
  | with_reducible refine w_lst ?_
  | with_reducible refine w_sl ?_
  | with_reducible refine w_np ?_
  | with_reducible refine w_part ?_
  | with_reducible refine w_partI ?_
  | with_reducible refine w_bm ?_
  | with_reducible refine w_bm0 ?_
  | with_reducible refine w_for ?_
  | with_reducible refine w_lc ?_
  | with_reducible refine w_yes ?_
  | with_reducible refine w_make ?_
  | with_reducible refine w_meth ?_
  | with_reducible refine w_sf ?_
  | with_reducible refine w_r3 ?_
  | with_reducible refine w_din ?_
  | with_reducible refine w_dni ?_
  | with_reducible refine w_dg ?_
  | with_reducible refine w_put ?_
  | with_reducible refine w_dn ?_
  | with_reducible refine w_enum ?_
  | with_reducible refine w_iL ?_
  | with_reducible refine w_iTu ?_
  | with_reducible refine w_r1 ?_
  | with_reducible refine w_r2 ?_
  | with_reducible refine w_int1 ?_
  | with_reducible refine w_intb ?_
  | with_reducible refine w_fl ?_
  | with_reducible refine w_retN ?_
  | with_reducible refine w_break ?_
  | with_reducible refine w_cont ?_
  | with_reducible refine w_par ?_
  | with_reducible refine w_par2 ?_
  | with_reducible refine w_eqS ?_
  | with_reducible refine w_neS ?_
  | with_reducible refine w_eqNI ?_
  | with_reducible refine w_eqIN ?_
  | with_reducible refine w_callS ?_
  | with_reducible refine w_ost ?_
  | with_reducible refine w_xf ?_
  | with_reducible refine w_mko ?_
  | ((with_reducible refine w_mod ?s0 ?_); (case s0 => walk_at "side"))
  | ((with_reducible refine w_div ?s0 ?s1 ?_); (case s0 => walk_at "side"); (case s1 => walk_at "side"))
  | ((with_reducible refine w_shr ?s0 ?_); (case s0 => walk_at "side"))
  | ((with_reducible refine w_shl1 ?s0 ?s1 ?_); (case s0 => walk_at "side"); (case s1 => walk_at "side"))
  | ((with_reducible refine w_mul ?s0 ?s1 ?s2 ?s3 ?_); (case s0 => walk_at "side"); (case s1 => walk_at "side"); (case s2 => walk_at "side"); (case s3 => walk_at "side"))
  | ((with_reducible refine w_shl ?s0 ?s1 ?s2 ?s3 ?_); (case s0 => walk_at "side"); (case s1 => walk_at "side"); (case s2 => walk_at "side"); (case s3 => walk_at "side"))
  | ((with_reducible refine w_r1q ?s0 ?s1 ?_); (case s0 => walk_at "side"); (case s1 => walk_at "side"))
  | ((with_reducible refine w_r2q ?s0 ?s1 ?s2 ?s3 ?_); (case s0 => walk_at "side"); (case s1 => walk_at "side"); (case s2 => walk_at "side"); (case s3 => walk_at "side"))
  | ((with_reducible refine w_ixL (xs := ?xs) (v := ?v) ?s0 ?s1 ?_); (case s0 => walk_at "sq"); (case s1 => walk_at "at"))
  | ((with_reducible refine w_ixT (xs := ?xs) (v := ?v) ?s0 ?s1 ?_); (case s0 => walk_at "sq"); (case s1 => walk_at "at"))
  | ((with_reducible refine w_ixl (xs := ?xs) (v := ?v) ?s0 ?s1 ?_); (case s0 => walk_at "sq"); (case s1 => walk_at "at"))
  | ((with_reducible refine w_ixt (xs := ?xs) (v := ?v) ?s0 ?s1 ?_); (case s0 => walk_at "sq"); (case s1 => walk_at "at"))
  | ((with_reducible refine w_lenK (xs := ?xs) ?s0 ?_); (case s0 => walk_at "sq"))
  | ((with_reducible refine w_lenTK (xs := ?xs) ?s0 ?_); (case s0 => walk_at "sq"))
  | ((with_reducible refine w_listK (xs := ?xs) ?s0 ?_); (case s0 => walk_at "sq"))
  | ((with_reducible refine w_len (xs := ?xs) ?s0 ?_); (case s0 => walk_at "sq"))
  | ((with_reducible refine w_lenT (xs := ?xs) ?s0 ?_); (case s0 => walk_at "sq"))
  | ((with_reducible refine w_iLq (xs := ?xs) ?s0 ?_); (case s0 => walk_at "sq"))
  | ((with_reducible refine w_iTq (xs := ?xs) ?s0 ?_); (case s0 => walk_at "sq"))
  | ((with_reducible refine w_tyl (xs := ?xs) ?s0 ?_); (case s0 => walk_at "sq"))
  | ((with_reducible refine w_slL (xs := ?xs) ?s0 ?_); (case s0 => walk_at "sq"))
  | ((with_reducible refine w_gt (xs := ?xs) ?s0 ?s1 ?_); (case s0 => walk_at "sq"); (case s1 => rfl))
  | ((with_reducible refine w_setL (xs := ?xs) (j := ?j) ?s0 ?s1 ?_); (case s0 => walk_at "hp"); (case s1 => walk_at "ix"))
  | ((with_reducible refine w_app (xs := ?xs) ?s0 ?s1 ?_); (case s0 => walk_at "hp"); (case s1 => walk_at "szlt"))
  | ((with_reducible refine w_rev (xs := ?xs) ?s0 ?_); (case s0 => walk_at "hp"))
  | with_reducible refine w_isi kb_ii ?_
  | with_reducible refine w_isi kb_ib ?_
  | with_reducible refine w_isb kb_bb ?_
  | with_reducible refine w_isb kb_bi ?_
  | with_reducible refine w_isn kb_ni ?_
  | with_reducible refine w_isn kb_nb ?_
  | ((with_reducible refine w_isl (xs := ?xs) ?s0 kb_ll ?_); (case s0 => walk_at "hp"))
  | ((with_reducible refine w_isl (xs := ?xs) ?s0 kb_lt ?_); (case s0 => walk_at "hp"))
  | ((with_reducible refine w_ist (xs := ?xs) ?s0 kb_tt ?_); (case s0 => walk_at "hp"))
  | ((with_reducible refine w_ist (xs := ?xs) ?s0 kb_tl ?_); (case s0 => walk_at "hp"))
  | with_reducible refine w_len1 rfl ?_
  | with_reducible refine w_isN ?_
  | with_reducible refine w_2i ?_
  | with_reducible refine w_1i ?_
  | with_reducible refine w_augS ?_
  | ((with_reducible refine w_getL (xs := ?xs) (v := ?v) ?s0 ?s1 ?_); (case s0 => walk_at "sq"); (case s1 => assumption))
  | ((with_reducible refine w_wipe ?s0 ?_); (case s0 => rfl))
  | ((with_reducible refine w_inI (kvs := ?kvs) ?s0 ?_); (case s0 => walk_at "hp"))
  | ((with_reducible refine w_putI (kvs := ?kvs) ?s0 ?s1 ?_); (case s0 => walk_at "hp"); (case s1 => walk_at "szk"))
  | ((with_reducible refine w_ins (xs := ?xs) ?s0 ?s1 ?s2 ?s3 ?_); (case s0 => walk_at "hp"); (case s1 => walk_at "szlt"); (case s2 => walk_at "side"); (case s3 => walk_at "side"))
  | ((with_reducible refine w_pow ?s0 ?_); (case s0 => exact ⟨by decide, by decide, by decide⟩))
  | ((with_reducible refine ifd (fun h => ?c) (fun _ => ?_)); (case c => exfalso; omega))
  | ((with_reducible refine ifd (fun _ => ?_) (fun h => ?c)); (case c => exfalso; omega))
  | ((with_reducible refine ifnd (fun h => ?c) (fun _ => ?_)); (case c => exfalso; omega))
  | ((with_reducible refine ifnd (fun _ => ?_) (fun h => ?c)); (case c => exfalso; omega))
  | fail)
local macro_rules | `(tactic| walk_at "sts") => `(tactic| repeat (walk_at "st"))

def topS (i : Nat) : Stmt := PySem.Challenge.pw_spinfloor_k59_answers_as_texts.main.body.getD i (.Pass ⟨0, 0, 0, 0⟩)
abbrev s_bits : Stmt := topS 4
theorem sc_bits : FnScope ["mask", "found", "place"] ["mask"] (defScope s_bits) := ⟨rfl, rfl, rfl, by decide +kernel, rfl, by decide +kernel, by decide +kernel⟩
abbrev s_mask_of : Stmt := topS 5
theorem sc_mask_of : FnScope ["places", "mask", "place"] ["places"] (defScope s_mask_of) := ⟨rfl, rfl, rfl, by decide +kernel, rfl, by decide +kernel, by decide +kernel⟩
abbrev s_words_of : Stmt := topS 10
theorem sc_words_of : FnScope ["head", "numbers", "number"] ["head", "numbers"] (defScope s_words_of) := ⟨rfl, rfl, rfl, by decide +kernel, rfl, by decide +kernel, by decide +kernel⟩
abbrev s_shown : Stmt := topS 11
theorem sc_shown : FnScope ["found", "rows", "pair"] ["found"] (defScope s_shown) := ⟨rfl, rfl, rfl, by decide +kernel, rfl, by decide +kernel, by decide +kernel⟩
abbrev s_figure_number : Stmt := topS 12
theorem sc_figure_number : FnScope ["word", "at", "sign"] ["word", "at"] (defScope s_figure_number) := ⟨rfl, rfl, rfl, by decide +kernel, rfl, by decide +kernel, by decide +kernel⟩
abbrev s_row_numbers : Stmt := topS 13
theorem sc_row_numbers : FnScope ["row", "head", "at", "words", "word"] ["row", "head", "at"] (defScope s_row_numbers) := ⟨rfl, rfl, rfl, by decide +kernel, rfl, by decide +kernel, by decide +kernel⟩
abbrev s_rising_mask : Stmt := topS 14
theorem sc_rising_mask : FnScope ["numbers", "at", "last", "number"] ["numbers", "at"] (defScope s_rising_mask) := ⟨rfl, rfl, rfl, by decide +kernel, rfl, by decide +kernel, by decide +kernel⟩
abbrev s_hill_of : Stmt := topS 15
theorem sc_hill_of : FnScope ["row", "at", "numbers"] ["row", "at"] (defScope s_hill_of) := ⟨rfl, rfl, rfl, by decide +kernel, rfl, by decide +kernel, by decide +kernel⟩
abbrev s_ended_rows : Stmt := topS 16
theorem sc_ended_rows : FnScope ["text", "rows"] ["text"] (defScope s_ended_rows) := ⟨rfl, rfl, rfl, by decide +kernel, rfl, by decide +kernel, by decide +kernel⟩
abbrev s_taken : Stmt := topS 17
theorem sc_taken : FnScope ["text", "rows", "ended", "whole_rows", "cost", "laying", "paper", "k", "numbers"] ["text"] (defScope s_taken) := ⟨rfl, rfl, rfl, by decide +kernel, rfl, by decide +kernel, by decide +kernel⟩
abbrev s_law_cell : Stmt := topS 19
theorem sc_law_cell : FnScope ["script", "k"] ["script", "k"] (defScope s_law_cell) := ⟨rfl, rfl, rfl, by decide +kernel, rfl, by decide +kernel, by decide +kernel⟩
abbrev s_law_whole : Stmt := topS 20
theorem sc_law_whole : FnScope ["found"] ["found"] (defScope s_law_whole) := ⟨rfl, rfl, rfl, by decide +kernel, rfl, by decide +kernel, by decide +kernel⟩
abbrev s_law_shown : Stmt := topS 21
theorem sc_law_shown : FnScope ["cost", "laying", "paper", "text", "place", "pair", "number"] ["cost", "laying", "paper"] (defScope s_law_shown) := ⟨rfl, rfl, rfl, by decide +kernel, rfl, by decide +kernel, by decide +kernel⟩
abbrev s_law_triple : Stmt := topS 22
theorem sc_law_triple : FnScope ["found", "due", "pair"] ["found", "due"] (defScope s_law_triple) := ⟨rfl, rfl, rfl, by decide +kernel, rfl, by decide +kernel, by decide +kernel⟩
abbrev s_law_paper : Stmt := topS 23
theorem sc_law_paper : FnScope ["script", "paper", "k", "mixed", "mask"] ["script"] (defScope s_law_paper) := ⟨rfl, rfl, rfl, by decide +kernel, rfl, by decide +kernel, by decide +kernel⟩
abbrev s_law : Stmt := topS 24
theorem sc_law : FnScope ["script", "cost", "mixed", "laying", "paper", "handed", "text"] ["script"] (defScope s_law) := ⟨rfl, rfl, rfl, by decide +kernel, rfl, by decide +kernel, by decide +kernel⟩
structure Bl (mg : Str → Option Value) : Prop where
  str : mg "str" = none
  int : mg "int" = none
  len : mg "len" = none
  range : mg "range" = none
  max : mg "max" = none
  isinstance : mg "isinstance" = none
  bool : mg "bool" = none
  tuple : mg "tuple" = none
  list : mg "list" = none
  min : mg "min" = none
structure Txt (K : PySem.W.Frag) (mg : Str → Option Value) : Prop where
  k_MOST_FIGURES : ∃ t, mg "MOST_FIGURES" = some (.int 40 t)
  k_FIGURES : ∃ t, mg "FIGURES" = some (.str "0123456789" t)
  k_MOST_NUMBER : ∃ t, mg "MOST_NUMBER" = some (.int 79 t)
/-! ### lists as sets -/
theorem perm_of_nodup {α : Type} [DecidableEq α] {xs ys : List α} (hx : xs.Nodup) (hy : ys.Nodup) (h : ∀ a, a ∈ xs ↔ a ∈ ys) : xs.Perm ys := by
  rw [List.perm_iff_count]
  intro a
  rw [List.Nodup.count hx, List.Nodup.count hy]
  by_cases e : a ∈ xs
  · rw [if_pos e, if_pos ((h a).mp e)]
  · rw [if_neg e, if_neg (fun z => e ((h a).mpr z))]
theorem len_of_nodup {α : Type} [DecidableEq α] {xs ys : List α} (hx : xs.Nodup) (hy : ys.Nodup) (h : ∀ a, a ∈ xs ↔ a ∈ ys) : xs.length = ys.length := (perm_of_nodup hx hy h).length_eq
theorem nodup_sub_len {α : Type} [DecidableEq α] : ∀ {xs ys : List α}, xs.Nodup → (∀ a ∈ xs, a ∈ ys) → xs.length ≤ ys.length
  | [], _, _, _ => Nat.zero_le _
  | x :: xs, ys, hx, h => by
    have hx' := List.nodup_cons.mp hx
    have ih := nodup_sub_len (ys := ys.erase x) hx'.2 fun a ha => by
      have : a ≠ x := fun e => hx'.1 (e ▸ ha)
      exact (List.mem_erase_of_ne this).mpr (h a (List.mem_cons_of_mem _ ha))
    have hm := h x List.mem_cons_self
    have := List.length_erase_of_mem hm
    have hp : 0 < ys.length := List.length_pos_of_mem hm
    rw [List.length_cons]
    omega
/-- as many as there are: all -/
theorem nodup_full {α : Type} [DecidableEq α] {xs ys : List α} (hx : xs.Nodup) (hs : ∀ a ∈ xs, a ∈ ys) (hl : ys.length ≤ xs.length) : ∀ a ∈ ys, a ∈ xs := fun a ha => by
  by_cases e : a ∈ xs
  · exact e
  · have : (a :: xs).Nodup := List.nodup_cons.mpr ⟨e, hx⟩
    have h2 := nodup_sub_len this (fun b hb => by rcases List.mem_cons.mp hb with r | r; exact r ▸ ha; exact hs b r)
    rw [List.length_cons] at h2
    omega
/-! ### the next one in a list that goes round -/

theorem sorted_eq : ∀ {xs ys : List Nat}, xs.Pairwise (· < ·) → ys.Pairwise (· < ·) → (∀ a, a ∈ xs ↔ a ∈ ys) → xs = ys
  | [], [], _, _, _ => rfl
  | [], y :: ys, _, _, h => absurd ((h y).mpr List.mem_cons_self) (by simp)
  | x :: xs, [], _, _, h => absurd ((h x).mp List.mem_cons_self) (by simp)
  | x :: xs, y :: ys, h1, h2, h => by
    obtain ⟨a1, a2⟩ := List.pairwise_cons.mp h1
    obtain ⟨b1, b2⟩ := List.pairwise_cons.mp h2
    have e : x = y := by
      rcases List.mem_cons.mp ((h x).mp List.mem_cons_self) with e | e
      · exact e
      · rcases List.mem_cons.mp ((h y).mpr List.mem_cons_self) with e2 | e2
        · exact e2.symm
        · have := a1 _ e2; have := b1 _ e; omega
    subst e
    rw [sorted_eq a2 b2 fun a => ?_]
    constructor
    · intro ha
      rcases List.mem_cons.mp ((h a).mp (List.mem_cons_of_mem _ ha)) with e | e
      · have := a1 _ ha; omega
      · exact e
    · intro ha
      rcases List.mem_cons.mp ((h a).mpr (List.mem_cons_of_mem _ ha)) with e | e
      · have := b1 _ ha; omega
      · exact e

/-! ### data of webs -/
def dRow (r : List Nat) : PyData := .list (r.map fun x : Nat => .int (x : Int))
def dRows (T : List (List Nat)) : PyData := .list (T.map dRow)
def iv (r : List Nat) : List V := r.map fun x : Nat => V.int (x : Int)
theorem iv_len (r : List Nat) : (iv r).length = r.length := by unfold iv; simp
theorem iv_at {r : List Nat} {i : Nat} (h : i < r.length) : (iv r)[i]? = some (.int ((r.getD i 0 : Nat) : Int)) := by
  unfold iv
  rw [List.getElem?_map, List.getD_eq_getElem?_getD, List.getElem?_eq_getElem h]
  rfl
theorem iv_app (r s : List Nat) : iv (r ++ s) = iv r ++ iv s := by unfold iv; simp
theorem take_snoc {l : List Nat} {i : Nat} (h : i < l.length) : l.take (i + 1) = l.take i ++ [l.getD i 0] := by
  rw [List.take_add_one, List.getElem?_eq_getElem h, List.getD_eq_getElem?_getD, List.getElem?_eq_getElem h]
  rfl
theorem iv_flat (r : List Nat) : (iv r).all flatV = true := by
  rw [List.all_eq_true]
  intro v hv
  obtain ⟨x, _, rfl⟩ := List.mem_map.mp hv
  rfl
theorem dpRowA {K : PySem.W.Frag} {H : Hp} {a : Addr} {r : List Nat} (h : Dp K H (.ref a) (dRow r)) : SqL K H a (iv r) := by
  obtain ⟨xs, h1, h2⟩ := dpLstA h
  have e := dpAll_ints (ns := r.map fun x : Nat => (x : Int)) (by rw [List.map_map]; exact h2)
  rw [List.map_map] at e
  have e2 : xs = iv r := e
  rw [← e2]
  exact h1
theorem dpRow {K : PySem.W.Frag} {H : Hp} {a : Addr} {r : List Nat} (h : SqL K H a (iv r)) : Dp K H (.ref a) (dRow r) := by
  have := dpInts (K := K) (H := H) (r.map fun x : Nat => (x : Int))
  rw [List.map_map, List.map_map] at this
  exact .lst h this
theorem goodRow (r : List Nat) : Good 1 (dRow r) := goodLst (goodMap fun _ => goodInt)
theorem goodRows (T : List (List Nat)) : Good 2 (dRows T) := goodLst (goodMap fun r => goodRow r)
theorem w_idx {K : PySem.W.Frag} {H : Hp} {Q : VK} {p : Addr} {r : List Nat} {x : Nat} (hs : SqL K H p (iv r)) (hx : x ∈ r) (h : Q (.int ((r.idxOf x : Nat) : Int)) H) : rIndex K (.ref p) [.int (x : Int)] H Q := by
  have hl : r.idxOf x < r.length := List.idxOf_lt_length_of_mem hx
  refine ⟨p, iv r, .int (x : Int), r.idxOf x, .int ((r.getD (r.idxOf x) 0 : Nat) : Int), rfl, rfl, hs, rfl, iv_flat r, iv_at hl, ?_, ?_, h⟩
  · have : r.getD (r.idxOf x) 0 = x := by
      rw [List.getD_eq_getElem?_getD, List.getElem?_eq_getElem hl]
      exact List.getElem_idxOf hl
    rw [this]
    simp [eqV]
  · intro m z' hm hz
    have hml : m < r.length := by omega
    rw [iv_at hml] at hz
    cases hz
    have hne : r.getD m 0 ≠ x := by
      rw [List.getD_eq_getElem?_getD, List.getElem?_eq_getElem hml]
      have := List.not_of_lt_findIdx (xs := r) (p := (· == x)) hm
      simpa using this
    show (((r.getD m 0 : Nat) : Int) == (x : Int)) = false
    rw [beq_eq_false_iff_ne]
    omega
theorem iv_map (r : List Nat) : iv r = (r.map fun x : Nat => (x : Int)).map V.int := by unfold iv; rw [List.map_map]; rfl

/-! ### rooms and links -/
abbrev Lk := List (Nat × Nat × Nat)
def lka (L : Lk) (k : Nat) : Nat := (L.getD k (0, 0, 0)).1
def lkb (L : Lk) (k : Nat) : Nat := (L.getD k (0, 0, 0)).2.1
def lkw (L : Lk) (k : Nat) : Nat := (L.getD k (0, 0, 0)).2.2
theorem lk_at {L : Lk} {k : Nat} (h : k < L.length) : L[k]? = some (lka L k, lkb L k, lkw L k) := by
  unfold lka lkb lkw
  rw [List.getD_eq_getElem?_getD, List.getElem?_eq_getElem h]
  rfl
def JL (L : Lk) (k a b : Nat) : Prop := (lka L k = a ∧ lkb L k = b) ∨ (lka L k = b ∧ lkb L k = a)
theorem JL.symm {L : Lk} {k a b : Nat} (h : JL L k a b) : JL L k b a := by
  rcases h with h | h
  · exact .inr h
  · exact .inl h
/-- where a link leads from a room -/
def byd (a b r : Nat) : Option Nat := if a = r then some b else if b = r then some a else none
theorem byd_some {L : Lk} {k r o : Nat} (h : byd (lka L k) (lkb L k) r = some o) : JL L k r o ∧ ∀ b, JL L k r b → b = o := by
  unfold byd at h
  split at h
  · rename_i e
    cases h
    refine ⟨.inl ⟨e, rfl⟩, fun b hb => ?_⟩
    rcases hb with ⟨_, h2⟩ | ⟨h1, h2⟩
    · exact h2.symm
    · omega
  · split at h
    · rename_i e1 e2
      cases h
      refine ⟨.inr ⟨rfl, e2⟩, fun b hb => ?_⟩
      rcases hb with ⟨h1, h2⟩ | ⟨h1, h2⟩
      · exact absurd h1 e1
      · exact h1.symm
    · cases h
theorem byd_none {L : Lk} {k r : Nat} (h : byd (lka L k) (lkb L k) r = none) (b : Nat) : ¬ JL L k r b := by
  unfold byd at h
  split at h
  · cases h
  · split at h
    · cases h
    · rintro (⟨h1, h2⟩ | ⟨h1, h2⟩)
      · exact absurd h1 (by assumption)
      · exact absurd h2 (by assumption)
def upF {α : Type} (f : Nat → α) (o : Nat) (v : α) : Nat → α := fun q => if q = o then v else f q
theorem upF_same {α : Type} {f : Nat → α} {o : Nat} {v : α} : upF f o v o = v := if_pos rfl
theorem upF_ne {α : Type} {f : Nat → α} {o q : Nat} {v : α} (h : q ≠ o) : upF f o v q = f q := if_neg h
/-- fares from s, with the last links and an order of the rooms -/
structure FareOk (n : Nat) (L : Lk) (s : Nat) (far via : Nat → Option Nat) (rk : Nat → Nat) : Prop where
  s0 : far s = some 0
  sv : via s = none
  lt : ∀ r, far r ≠ none → r < n
  un : ∀ r, far r = none → via r = none
  edge : ∀ k a b, k < L.length → JL L k a b → ∀ x, far a = some x → ∃ y, far b = some y ∧ y ≤ x + lkw L k
  back : ∀ r, r ≠ s → ∀ y, far r = some y → ∃ k q x, via r = some k ∧ k < L.length ∧ JL L k q r ∧ far q = some x ∧ y = x + lkw L k ∧ rk q < rk r
  rkl : ∀ r, far r ≠ none → rk r < n
/-- the search under way: P tells which links have been looked along -/
structure DI (n : Nat) (L : Lk) (s : Nat) (P : Nat → Nat → Prop) (far via : Nat → Option Nat) (dn : Nat → Bool) (rk : Nat → Nat) (c : Nat) : Prop where
  s0 : far s = some 0
  sv : via s = none
  lt : ∀ r, far r ≠ none → r < n
  un : ∀ r, far r = none → via r = none
  dr : ∀ r, dn r = true → far r ≠ none
  mono : ∀ q r x y, dn q = true → far q = some x → dn r = false → far r = some y → x ≤ y
  rel : ∀ k a b, k < L.length → P k a → JL L k a b → dn a = true → ∀ x, far a = some x → ∃ y, far b = some y ∧ y ≤ x + lkw L k
  back : ∀ r, r ≠ s → ∀ y, far r = some y → ∃ k q x, via r = some k ∧ k < L.length ∧ JL L k q r ∧ dn q = true ∧ far q = some x ∧ y = x + lkw L k ∧ (dn r = true → rk q < rk r)
  rkl : ∀ r, dn r = true → rk r < c
section
variable {n s c : Nat} {L : Lk} {P : Nat → Nat → Prop} {far via : Nat → Option Nat} {dn : Nat → Bool} {rk : Nat → Nat}
theorem DI.zero (hs : s < n) : DI n L s (fun _ _ => True) (upF (fun _ => none) s (some 0)) (fun _ => none) (fun _ => false) (fun _ => 0) 0 := by
  refine ⟨upF_same, rfl, fun r h => ?_, fun _ _ => rfl, fun _ h => (by cases h), fun _ _ _ _ h => (by cases h), fun _ _ _ _ _ _ h => (by cases h), fun r hr y h => ?_, fun _ h => (by cases h)⟩
  · by_cases e : r = s
    · subst e; exact hs
    · rw [upF_ne e] at h; exact absurd rfl h
  · rw [upF_ne hr] at h; cases h
theorem DI.open (h : DI n L s (fun _ _ => True) far via dn rk c) {r x : Nat} (hr : dn r = false) (hx : far r = some x) (hmin : ∀ q y, dn q = false → far q = some y → x ≤ y) :
    DI n L s (fun k a => a ≠ r ∨ k < 0) far via (upF dn r true) (upF rk r c) (c + 1) ∧ ∀ q y, upF dn r true q = true → far q = some y → y ≤ x := by
  refine ⟨⟨h.s0, h.sv, h.lt, h.un, fun q hq => ?_, fun q t y z hq hy ht hz => ?_, fun k a b hk hP hj ha y hy => ?_, fun t ht y hy => ?_, fun q hq => ?_⟩, fun q y hq hy => ?_⟩
  · by_cases e : q = r
    · subst e; rw [hx]; simp
    · rw [upF_ne e] at hq; exact h.dr q hq
  · have et : t ≠ r := fun e => by subst e; rw [upF_same] at ht; cases ht
    rw [upF_ne et] at ht
    by_cases e : q = r
    · subst e
      rw [hx] at hy; cases hy
      exact hmin t z ht hz
    · rw [upF_ne e] at hq; exact h.mono q t y z hq hy ht hz
  · rcases hP with hP | hP
    · rw [upF_ne hP] at ha; exact h.rel k a b hk trivial hj ha y hy
    · omega
  · obtain ⟨k, q, z, h1, h2, h3, h4, h5, h6, h7⟩ := h.back t ht y hy
    have eq : q ≠ r := fun e => by subst e; rw [hr] at h4; cases h4
    refine ⟨k, q, z, h1, h2, h3, by rw [upF_ne eq]; exact h4, h5, h6, fun ht2 => ?_⟩
    rw [upF_ne eq]
    by_cases e : t = r
    · subst e; rw [upF_same]; exact h.rkl q h4
    · rw [upF_ne e] at ht2 ⊢; exact h7 ht2
  · by_cases e : q = r
    · subst e; rw [upF_same]; omega
    · rw [upF_ne e] at hq ⊢; have := h.rkl q hq; omega
  · by_cases e : q = r
    · subst e; rw [hx] at hy; cases hy; exact Nat.le_refl _
    · rw [upF_ne e] at hq; exact h.mono q r y x hq hy hr hx
theorem DI.close (h : DI n L s P far via dn rk c) (hP : ∀ k a, k < L.length → P k a) : DI n L s (fun _ _ => True) far via dn rk c :=
  ⟨h.s0, h.sv, h.lt, h.un, h.dr, h.mono, fun k a b hk _ => h.rel k a b hk (hP k a hk), h.back, h.rkl⟩
theorem DI.skip {r j : Nat} (h : DI n L s (fun k a => a ≠ r ∨ k < j) far via dn rk c) (hj : ∀ b, JL L j r b → ∀ x, far r = some x → ∃ y, far b = some y ∧ y ≤ x + lkw L j) : DI n L s (fun k a => a ≠ r ∨ k < j + 1) far via dn rk c := by
  refine ⟨h.s0, h.sv, h.lt, h.un, h.dr, h.mono, fun k a b hk hP hjl ha x hx => ?_, h.back, h.rkl⟩
  by_cases e : a ≠ r
  · exact h.rel k a b hk (.inl e) hjl ha x hx
  · have ea : a = r := Classical.not_not.mp e
    subst ea
    by_cases ek : k = j
    · subst ek; exact hj b hjl x hx
    · refine h.rel k a b hk (.inr ?_) hjl ha x hx
      rcases hP with h | h
      · exact absurd rfl h
      · omega
theorem DI.relax {r j o x : Nat} (h : DI n L s (fun k a => a ≠ r ∨ k < j) far via dn rk c) (htop : ∀ q y, dn q = true → far q = some y → y ≤ x) (hr : dn r = true) (hx : far r = some x) (hj : j < L.length) (hjl : JL L j r o) (huq : ∀ b, JL L j r b → b = o) (hon : o < n) (ho : dn o = false)
    (hlt : ∀ y, far o = some y → x + lkw L j < y) : DI n L s (fun k a => a ≠ r ∨ k < j + 1) (upF far o (some (x + lkw L j))) (upF via o (some j)) dn rk c ∧ ∀ q y, dn q = true → upF far o (some (x + lkw L j)) q = some y → y ≤ x := by
  have hor : o ≠ r := fun e => by subst e; rw [hr] at ho; cases ho
  have hos : s ≠ o := fun e => by
    subst e
    have := hlt 0 h.s0
    omega
  have hdo : ∀ q, dn q = true → q ≠ o := fun q hq e => by subst e; rw [hq] at ho; cases ho
  refine ⟨⟨by rw [upF_ne hos]; exact h.s0, by rw [upF_ne hos]; exact h.sv, fun q hq => ?_, fun q hq => ?_, fun q hq => ?_, fun q t y z hq hy ht hz => ?_, fun k a b hk hP hjk ha y hy => ?_, fun t ht y hy => ?_, h.rkl⟩, fun q y hq hy => ?_⟩
  · by_cases e : q = o
    · subst e; exact hon
    · rw [upF_ne e] at hq; exact h.lt q hq
  · by_cases e : q = o
    · subst e; rw [upF_same] at hq; cases hq
    · rw [upF_ne e] at hq ⊢; exact h.un q hq
  · rw [upF_ne (hdo q hq)]; exact h.dr q hq
  · rw [upF_ne (hdo q hq)] at hy
    have := htop q y hq hy
    by_cases e : t = o
    · subst e; rw [upF_same] at hz; cases hz; omega
    · rw [upF_ne e] at hz; exact h.mono q t y z hq hy ht hz
  · rw [upF_ne (hdo a ha)] at hy
    by_cases ea : a = r ∧ k = j
    · obtain ⟨ea, ek⟩ := ea
      subst ea ek
      rw [hx] at hy; cases hy
      have := huq b hjk
      subst this
      exact ⟨_, upF_same, Nat.le_refl _⟩
    · obtain ⟨z, hz, hz2⟩ := h.rel k a b hk (by
        rcases hP with h | h
        · exact .inl h
        · by_cases e : a = r
          · exact .inr (by have : k ≠ j := fun z => ea ⟨e, z⟩; omega)
          · exact .inl e) hjk ha y hy
      by_cases eb : b = o
      · subst eb
        have := hlt z hz
        exact ⟨_, upF_same, by omega⟩
      · exact ⟨z, by rw [upF_ne eb]; exact hz, hz2⟩
  · by_cases e : t = o
    · subst e
      rw [upF_same] at hy; cases hy
      exact ⟨j, r, x, upF_same, hj, hjl, hr, by rw [upF_ne (Ne.symm hor)]; exact hx, rfl, fun z => by rw [ho] at z; cases z⟩
    · rw [upF_ne e] at hy
      obtain ⟨k, q, z, h1, h2, h3, h4, h5, h6, h7⟩ := h.back t ht y hy
      exact ⟨k, q, z, by rw [upF_ne e]; exact h1, h2, h3, h4, by rw [upF_ne (hdo q h4)]; exact h5, h6, h7⟩
  · rw [upF_ne (hdo q hq)] at hy
    exact htop q y hq hy
theorem DI.done (h : DI n L s (fun _ _ => True) far via dn rk c) (hc : c ≤ n) (hd : ∀ r, far r ≠ none → dn r = true) : FareOk n L s far via rk := by
  refine ⟨h.s0, h.sv, h.lt, h.un, fun k a b hk hj x hx => h.rel k a b hk trivial hj (hd a (by rw [hx]; simp)) x hx, fun r hr y hy => ?_, fun r hr => ?_⟩
  · obtain ⟨k, q, z, h1, h2, h3, h4, h5, h6, h7⟩ := h.back r hr y hy
    exact ⟨k, q, z, h1, h2, h3, h5, h6, h7 (hd r (by rw [hy]; simp))⟩
  · have := h.rkl r (hd r hr); omega
end
def cnf (f : Nat → Bool) : Nat → Nat
  | 0 => 0
  | m + 1 => cnf f m + (if f m = true then 0 else 1)
theorem cnf_congr {f g : Nat → Bool} : ∀ {m : Nat}, (∀ i, i < m → f i = g i) → cnf f m = cnf g m
  | 0, _ => rfl
  | m + 1, h => by
    show cnf f m + (if f m = true then 0 else 1) = cnf g m + (if g m = true then 0 else 1)
    rw [cnf_congr fun i hi => h i (by omega), h m (by omega)]
theorem cnf_set {f : Nat → Bool} {r : Nat} (hf : f r = false) : ∀ {m : Nat}, r < m → cnf (upF f r true) m + 1 = cnf f m
  | 0, h => absurd h (by omega)
  | m + 1, h => by
    show cnf (upF f r true) m + (if upF f r true m = true then 0 else 1) + 1 = cnf f m + (if f m = true then 0 else 1)
    by_cases e : r = m
    · subst e
      rw [upF_same, hf, cnf_congr fun i hi => upF_ne (f := f) (v := true) (show i ≠ r by omega)]
      simp
    · rw [upF_ne (fun z => e z.symm), ← cnf_set hf (show r < m by omega)]
      omega
theorem cnf_none : ∀ m, cnf (fun _ => false) m = m
  | 0 => rfl
  | m + 1 => by
    show cnf (fun _ => false) m + 1 = m + 1
    rw [cnf_none m]
/-! ### lists by room -/
abbrev ov : Option Nat → V
  | none => .non
  | some x => .int (x : Nat)
def ovs (f : Nat → Option Nat) (n : Nat) : List V := (List.range n).map fun r => ov (f r)
def bls (f : Nat → Bool) (n : Nat) : List V := (List.range n).map fun r => V.bl (f r)
theorem ovs_len (f : Nat → Option Nat) (n : Nat) : (ovs f n).length = n := by unfold ovs; simp
theorem bls_len (f : Nat → Bool) (n : Nat) : (bls f n).length = n := by unfold bls; simp
theorem ovs_at {f : Nat → Option Nat} {n r : Nat} (h : r < n) : (ovs f n)[r]? = some (ov (f r)) := map_at h
theorem bls_at {f : Nat → Bool} {n r : Nat} (h : r < n) : (bls f n)[r]? = some (.bl (f r)) := map_at h
theorem ovs_set (f : Nat → Option Nat) (n j : Nat) (v : Option Nat) : (ovs f n).set j (ov v) = ovs (upF f j v) n := by
  unfold ovs
  rw [map_set]
  refine List.map_congr_left fun r _ => ?_
  by_cases e : r = j
  · subst e; rw [if_pos rfl, upF_same]
  · rw [if_neg e, upF_ne e]
theorem bls_set (f : Nat → Bool) (n j : Nat) (v : Bool) : (bls f n).set j (.bl v) = bls (upF f j v) n := by
  unfold bls
  rw [map_set]
  refine List.map_congr_left fun r _ => ?_
  by_cases e : r = j
  · subst e; rw [if_pos rfl, upF_same]
  · rw [if_neg e, upF_ne e]
theorem rep_one (n : Nat) (v : V) : (List.replicate n [v]).flatten = (List.range n).map fun _ => v := by
  have : (List.replicate n [v]).flatten = List.replicate n v := by
    induction n with
    | zero => rfl
    | succ n ih => rw [List.replicate_succ, List.flatten_cons, ih, List.replicate_succ]; rfl
  refine List.ext_getElem (by simp) fun i h1 h2 => ?_
  simp [this]
theorem rep_ov (n : Nat) : (List.replicate n [V.non]).flatten = ovs (fun _ => none) n := rep_one n .non
theorem rep_bl (n : Nat) (b : Bool) : (List.replicate n [V.bl b]).flatten = bls (fun _ => b) n := rep_one n (.bl b)
theorem dec_int_non (i : Int) : decide (V.int i = V.non) = false := decide_eq_false (by simp)
theorem dec_ov (o : Option Nat) : decide (ov o = V.non) = o.isNone := by cases o <;> simp [ov]
def dLk (l : Nat × Nat × Nat) : PyData := .tuple ([((l.1 : Nat) : Int), ((l.2.1 : Nat) : Int), ((l.2.2 : Nat) : Int)].map PyData.int)
def dLks (L : Lk) : PyData := .list (L.map dLk)
theorem dpLkAt {K : PySem.W.Frag} {H : Hp} {xs : List V} {L : Lk} (h : DpAll K H xs (L.map dLk)) {i : Nat} (hi : i < L.length) : ∃ p, xs[i]? = some (.ref p) ∧ SqT K H p [.int (lka L i : Nat), .int (lkb L i : Nat), .int (lkw L i : Nat)] := by
  obtain ⟨v, h1, h2⟩ := dpaGet (i := i) (d := dLk (lka L i, lkb L i, lkw L i)) h (by rw [List.getElem?_map, lk_at hi]; rfl)
  obtain ⟨p, ys, rfl, h3, h4⟩ := dpTup h2
  have := dpAll_ints h4
  rw [this] at h3
  exact ⟨p, h1, h3⟩
theorem goodLk (l : Nat × Nat × Nat) : Good 1 (dLk l) := goodTup (goodMap fun _ => goodInt)
theorem goodLks (L : Lk) : Good 2 (dLks L) := goodLst (goodMap goodLk)
/-! ### walks -/
inductive Wk (L : Lk) : Nat → Nat → Nat → Prop
  | refl (a : Nat) : Wk L a a 0
  | step {a b c l k : Nat} : Wk L a b l → k < L.length → JL L k b c → Wk L a c (l + lkw L k)
theorem Wk.trans {L : Lk} {a b c l m : Nat} (h : Wk L a b l) (h' : Wk L b c m) : Wk L a c (l + m) := by
  induction h' with
  | refl => exact h
  | step _ hk hj ih => rw [← Nat.add_assoc]; exact .step ih hk hj
theorem Wk.symm {L : Lk} {a b l : Nat} (h : Wk L a b l) : Wk L b a l := by
  induction h with
  | refl => exact .refl _
  | step _ hk hj ih =>
    have := (Wk.step (.refl _) hk hj.symm).trans ih
    rw [Nat.zero_add, Nat.add_comm] at this
    exact this
section
variable {n s : Nat} {L : Lk} {far via : Nat → Option Nat} {rk : Nat → Nat}
theorem FareOk.walk (h : FareOk n L s far via rk) : ∀ (m r y : Nat), rk r ≤ m → far r = some y → Wk L s r y
  | m, r, y, hm, hy => by
    by_cases e : r = s
    · subst e
      rw [h.s0] at hy
      cases hy
      exact .refl _
    · obtain ⟨k, q, x, h1, h2, h3, h4, h5, h6⟩ := h.back r e y hy
      match m, hm with
      | 0, hm => omega
      | m + 1, hm =>
        have := FareOk.walk h m q x (by omega) h4
        rw [h5]
        exact .step this h2 h3
theorem FareOk.wk (h : FareOk n L s far via rk) {r y : Nat} (hy : far r = some y) : Wk L s r y := h.walk _ r y (Nat.le_refl _) hy
theorem FareOk.le (h : FareOk n L s far via rk) {a b l : Nat} (hw : Wk L a b l) : ∀ {x : Nat}, far a = some x → ∃ y, far b = some y ∧ y ≤ x + l := by
  induction hw with
  | refl => exact fun hx => ⟨_, hx, by omega⟩
  | step _ hk hj ih =>
    intro x hx
    obtain ⟨y, hy, hle⟩ := ih hx
    obtain ⟨z, hz, hle2⟩ := h.edge _ _ _ hk hj y hy
    exact ⟨z, hz, by omega⟩
theorem FareOk.flip (h : FareOk n L s far via rk) {t : Nat} {far' via' : Nat → Option Nat} {rk' : Nat → Nat} (h' : FareOk n L t far' via' rk') : far t = far' s := by
  cases e : far t with
  | some y =>
    obtain ⟨z, hz, hle⟩ := h'.le (h.wk e).symm h'.s0
    obtain ⟨y', hy', hle'⟩ := h.le (h'.wk hz).symm h.s0
    rw [e] at hy'
    cases hy'
    rw [hz]
    congr 1
    omega
  | none =>
    cases e' : far' s with
    | none => rfl
    | some z =>
      obtain ⟨y, hy, _⟩ := h.le (h'.wk e').symm h.s0
      rw [e] at hy
      cases hy
/-- what is reached -/
def WholeL (L : Lk) (n : Nat) : Prop := ∀ C : Nat → Bool, C 0 = true → (∀ k, k < L.length → C (lka L k) = C (lkb L k)) → ∀ r, r < n → C r = true
theorem Wk.closed {a b l : Nat} (h : Wk L a b l) (C : Nat → Bool) (hC : ∀ k, k < L.length → C (lka L k) = C (lkb L k)) : C b = C a := by
  induction h with
  | refl => rfl
  | step _ hk hj ih =>
    rw [← ih]
    have := hC _ hk
    rcases hj with ⟨h1, h2⟩ | ⟨h1, h2⟩
    · rw [h1, h2] at this; exact this.symm
    · rw [h1, h2] at this; exact this
theorem FareOk.whole (h : FareOk n L 0 far via rk) : (∀ r, r < n → far r ≠ none) ↔ WholeL L n := by
  refine ⟨fun hr C h0 hC r hrn => ?_, fun hw r hrn hfr => ?_⟩
  · obtain ⟨y, hy⟩ := Option.ne_none_iff_exists'.mp (hr r hrn)
    rw [(h.wk hy).closed C hC, h0]
  · have := hw (fun r => (far r).isSome) (by show (far 0).isSome = true; rw [h.s0]; rfl) (fun k hk => by
      show (far (lka L k)).isSome = (far (lkb L k)).isSome
      cases e1 : far (lka L k) with
      | some x =>
        obtain ⟨y, hy, _⟩ := h.edge k _ _ hk (.inl ⟨rfl, rfl⟩) x e1
        rw [hy]; rfl
      | none =>
        cases e2 : far (lkb L k) with
        | none => rfl
        | some y =>
          obtain ⟨x, hx, _⟩ := h.edge k _ _ hk (.inr ⟨rfl, rfl⟩) y e2
          rw [e1] at hx; cases hx) r hrn
    simp [hfr] at this
/-- the rooms along a row -/
structure WayOk (n : Nat) (L : Lk) (s : Nat) (far : Nat → Option Nat) (rk : Nat → Nat) (ks rs : List Nat) (r : Nat) : Prop where
  len : rs.length = ks.length + 1
  fst : rs.getD 0 0 = s
  lst : rs.getD ks.length 0 = r
  f0 : far s = some 0
  step : ∀ j, j < ks.length → ks.getD j 0 < L.length ∧ JL L (ks.getD j 0) (rs.getD j 0) (rs.getD (j + 1) 0) ∧ rk (rs.getD j 0) < rk (rs.getD (j + 1) 0) ∧ rs.getD (j + 1) 0 < n ∧ ∃ x, far (rs.getD j 0) = some x ∧ far (rs.getD (j + 1) 0) = some (x + lkw L (ks.getD j 0))
theorem getD_app {l : List Nat} {a i : Nat} : (l ++ [a]).getD i 0 = if i = l.length then a else l.getD i 0 := by
  rw [List.getD_eq_getElem?_getD, List.getD_eq_getElem?_getD, List.getElem?_append]
  by_cases e : i = l.length
  · subst e; simp
  · by_cases e2 : i < l.length
    · rw [if_pos e2, if_neg e]
    · rw [if_neg e2, if_neg e, List.getElem?_eq_none (by simp; omega), List.getElem?_eq_none (by omega)]
theorem WayOk.mono {ks rs : List Nat} {r : Nat} (h : WayOk n L s far rk ks rs r) : ∀ j, j ≤ ks.length → ∀ i, i < j → rk (rs.getD i 0) < rk (rs.getD j 0)
  | 0, _, i, hi => absurd hi (by omega)
  | j + 1, hj, i, hi => by
    have h1 := (h.step j (by omega)).2.2.1
    by_cases e : i = j
    · subst e; exact h1
    · have := WayOk.mono h j (by omega) i (by omega)
      omega
end

/-! ### pairings of a list -/
inductive PL (d : Nat → Nat → Nat) : List Nat → Nat → Prop
  | nil : PL d [] 0
  | cons {l l' : List Nat} {a b c : Nat} : l.Perm (a :: b :: l') → PL d l' c → PL d l (c + d a b)
section
variable {d : Nat → Nat → Nat} {l l' m : List Nat} {a b c x : Nat}
theorem PL.perm (h : PL d l c) (p : l.Perm m) : PL d m c := by
  cases h with
  | nil => rw [← List.Perm.nil_eq p]; exact .nil
  | cons q h' => exact .cons (p.symm.trans q) h'
theorem PL.nil_eq (h : PL d [] c) : c = 0 := by
  generalize e : ([] : List Nat) = l0 at h
  cases h with
  | nil => rfl
  | cons q _ => subst e; have := q.length_eq; simp at this
/-- the mate of a -/
theorem PL.mate (hs : ∀ x y, d x y = d y x) (h : PL d l c) : a ∈ l → ∃ x l' c', l.Perm (a :: x :: l') ∧ PL d l' c' ∧ c = c' + d a x := by
  induction h with
  | nil => intro h; simp at h
  | @cons l0 l1 u v c0 p h' ih =>
    intro ha
    rcases List.mem_cons.mp (p.mem_iff.mp ha) with e | ha2
    · subst e; exact ⟨v, l1, c0, p, h', rfl⟩
    · rcases List.mem_cons.mp ha2 with e | ha3
      · subst e; exact ⟨u, l1, c0, p.trans (.swap _ _ _), h', by rw [hs]⟩
      · obtain ⟨x, l2, c2, q, h2, e2⟩ := ih ha3
        refine ⟨x, u :: v :: l2, c2 + d u v, ?_, .cons (.refl _) h2, by omega⟩
        refine p.trans ?_
        have q2 : (u :: v :: l1).Perm (u :: v :: a :: x :: l2) := (q.cons v).cons u
        refine q2.trans ?_
        have : (u :: v :: a :: x :: l2).Perm (a :: u :: v :: x :: l2) := ((List.Perm.swap a v _).cons u).trans (.swap _ _ _)
        refine this.trans (.cons _ ?_)
        exact ((List.Perm.swap x v _).cons u).trans (.swap _ _ _)
theorem PL.map {d' : Nat → Nat → Nat} {f : Nat → Nat} (h : PL d l c) (e : ∀ x ∈ l, ∀ y ∈ l, d' (f x) (f y) = d x y) : PL d' (l.map f) c := by
  induction h with
  | nil => exact .nil
  | @cons l0 l1 u v c0 p h' ih =>
    have hm : ∀ z ∈ l1, z ∈ l0 := fun z hz => p.mem_iff.mpr (by simp [hz])
    have := PL.cons (d := d') (p.map f) (ih fun x hx y hy => e x (hm x hx) y (hm y hy))
    rw [e u (p.mem_iff.mpr (by simp)) v (p.mem_iff.mpr (by simp))] at this
    exact this
/-- one end moved, put in or taken out at a, and at b -/
def flip (l : List Nat) (a : Nat) : List Nat := if a ∈ l then l.erase a else a :: l
theorem flip_nodup (h : l.Nodup) : (flip l a).Nodup := by
  unfold flip
  split
  · exact h.erase _
  · exact List.nodup_cons.mpr ⟨by assumption, h⟩
theorem flip_mem (h : l.Nodup) : x ∈ flip l a ↔ (x ∈ l ∧ x ≠ a) ∨ (x = a ∧ a ∉ l) := by
  unfold flip
  split
  · rename_i ha
    rw [h.mem_erase_iff]
    constructor
    · rintro ⟨h1, h2⟩; exact .inl ⟨h2, h1⟩
    · rintro (⟨h1, h2⟩ | ⟨h1, h2⟩)
      · exact ⟨h2, h1⟩
      · exact absurd ha h2
  · rename_i ha
    rw [List.mem_cons]
    constructor
    · rintro (h1 | h1)
      · exact .inr ⟨h1, ha⟩
      · exact .inl ⟨h1, fun e => ha (e ▸ h1)⟩
    · rintro (⟨h1, _⟩ | ⟨h1, _⟩)
      · exact .inr h1
      · exact .inl h1
/-- a metric -/
structure Met (d : Nat → Nat → Nat) (n : Nat) : Prop where
  symm : ∀ x y, d x y = d y x
  tri : ∀ x y z, x < n → y < n → z < n → d x z ≤ d x y + d y z
theorem PL.flip2 {n : Nat} (M : Met d n) (h : PL d l c) (hl : ∀ x ∈ l, x < n) (hn : l.Nodup) (ha : a < n) (hb : b < n) (hab : a ≠ b) : ∃ c', PL d (flip (flip l a) b) c' ∧ c' ≤ c + d a b := by
  by_cases h1 : a ∈ l
  · obtain ⟨x, l1, c1, p1, q1, e1⟩ := h.mate M.symm h1
    have hx : x < n := hl x (p1.mem_iff.mpr (by simp))
    have pe : (flip l a).Perm (x :: l1) := by
      unfold flip
      rw [if_pos h1]
      have := p1.erase a
      rw [List.erase_cons_head] at this
      exact this
    have hn1 : (x :: l1).Nodup := pe.nodup_iff.mp (flip_nodup hn)
    by_cases h2 : b ∈ l
    · have hb1 : b ∈ x :: l1 := pe.mem_iff.mp ((flip_mem hn).mpr (.inl ⟨h2, Ne.symm hab⟩))
      have pe2 : (flip (flip l a) b).Perm ((x :: l1).erase b) := by
        have : b ∈ flip l a := pe.mem_iff.mpr hb1
        rw [show flip (flip l a) b = (flip l a).erase b from if_pos this]
        exact pe.erase b
      rcases List.mem_cons.mp hb1 with e | hb2
      · subst e
        rw [List.erase_cons_head] at pe2
        exact ⟨c1, q1.perm pe2.symm, by omega⟩
      · obtain ⟨y, l2, c2, p2, q2, e2⟩ := q1.mate M.symm hb2
        have hy : y < n := hl y (p1.mem_iff.mpr (by simp [p2.mem_iff.mpr (show y ∈ b :: y :: l2 by simp)]))
        have hbx : b ≠ x := fun e => (List.nodup_cons.mp hn1).1 (e ▸ hb2)
        refine ⟨c2 + d x y, .cons ?_ q2, ?_⟩
        · refine pe2.trans ?_
          rw [List.erase_cons_tail (by simpa using fun e => hbx e.symm)]
          have := p2.erase b
          rw [List.erase_cons_head] at this
          exact this.cons x
        · have t1 := M.tri x a y hx ha hy
          have t2 := M.tri a b y ha hb hy
          have s1 := M.symm x a
          omega
    · have hb1 : b ∉ flip l a := fun z => by
        rcases (flip_mem hn).mp z with ⟨z, _⟩ | ⟨z, _⟩
        · exact h2 z
        · exact hab z.symm
      refine ⟨c1 + d b x, .cons (a := b) (b := x) (l' := l1) ?_ q1, ?_⟩
      · rw [show flip (flip l a) b = b :: flip l a from if_neg hb1]
        exact pe.cons b
      · have t1 := M.tri b a x hb ha hx
        have s1 := M.symm b a
        omega
  · have hn2 : (a :: l).Nodup := List.nodup_cons.mpr ⟨h1, hn⟩
    have pe : flip l a = a :: l := if_neg h1
    by_cases h2 : b ∈ l
    · obtain ⟨x, l1, c1, p1, q1, e1⟩ := h.mate M.symm h2
      have hx : x < n := hl x (p1.mem_iff.mpr (by simp))
      refine ⟨c1 + d a x, .cons (a := a) (b := x) (l' := l1) ?_ q1, ?_⟩
      · rw [pe, show flip (a :: l) b = (a :: l).erase b from if_pos (by simp [h2]), List.erase_cons_tail (by simpa using hab)]
        have := p1.erase b
        rw [List.erase_cons_head] at this
        exact this.cons a
      · have t1 := M.tri a b x ha hb hx
        omega
    · refine ⟨c + d a b, .cons (a := a) (b := b) (l' := l) ?_ h, Nat.le_refl _⟩
      rw [pe, show flip (a :: l) b = b :: a :: l from if_neg (by simp [h2, Ne.symm hab])]
      exact .swap _ _ _
end
/-! ### least lengths -/
theorem least_nat {P : Nat → Prop} : ∀ m, P m → ∃ k, P k ∧ ∀ j, P j → k ≤ j
  | m, h => by
    by_cases hx : ∃ j, P j ∧ j < m
    · obtain ⟨j, hj, hlt⟩ := hx
      exact least_nat j hj
    · exact ⟨m, h, fun j hj => by
        rcases Nat.lt_or_ge j m with h2 | h2
        · exact absurd ⟨j, hj, h2⟩ hx
        · exact h2⟩
  termination_by m => m
def IsDist (L : Lk) (a b y : Nat) : Prop := Wk L a b y ∧ ∀ l, Wk L a b l → y ≤ l
noncomputable def dist (L : Lk) (a b : Nat) : Nat := @Classical.epsilon Nat ⟨0⟩ fun y => IsDist L a b y
theorem dist_ok {L : Lk} {a b l : Nat} (h : Wk L a b l) : IsDist L a b (dist L a b) := by
  obtain ⟨y, h1, h2⟩ := least_nat (P := fun y => Wk L a b y) l h
  exact @Classical.epsilon_spec_aux Nat ⟨0⟩ (fun y => IsDist L a b y) ⟨y, h1, h2⟩
theorem IsDist.eq {L : Lk} {a b y z : Nat} (h : IsDist L a b y) (k : IsDist L a b z) : y = z := Nat.le_antisymm (h.2 _ k.1) (k.2 _ h.1)
theorem IsDist.symm {L : Lk} {a b y : Nat} (h : IsDist L a b y) : IsDist L b a y := ⟨h.1.symm, fun l hl => h.2 l hl.symm⟩
theorem dist_symm (L : Lk) (a b : Nat) : dist L a b = dist L b a := by
  unfold dist
  congr 1
  funext y
  exact propext ⟨fun h => h.symm, fun h => h.symm⟩
theorem FareOk.isd {n s : Nat} {L : Lk} {far via : Nat → Option Nat} {rk : Nat → Nat} (h : FareOk n L s far via rk) {r y : Nat} (hy : far r = some y) : dist L s r = y := by
  have hw := h.wk hy
  have k : IsDist L s r y := ⟨hw, fun l hl => by
    obtain ⟨z, hz, hle⟩ := h.le hl h.s0
    rw [hy] at hz
    cases hz
    omega⟩
  exact (dist_ok hw).eq k
theorem WholeL.wk {L : Lk} {n : Nat} (h : WholeL L n) {r : Nat} (hr : r < n) : ∃ l, Wk L 0 r l := by
  haveI : ∀ r, Decidable (∃ l, Wk L 0 r l) := fun _ => Classical.propDecidable _
  have := h (fun r => decide (∃ l, Wk L 0 r l)) (decide_eq_true ⟨0, .refl 0⟩) (fun k hk => by
    have e : (∃ l, Wk L 0 (lka L k) l) ↔ (∃ l, Wk L 0 (lkb L k) l) := ⟨fun ⟨l, hl⟩ => ⟨_, .step hl hk (.inl ⟨rfl, rfl⟩)⟩, fun ⟨l, hl⟩ => ⟨_, .step hl hk (.inr ⟨rfl, rfl⟩)⟩⟩
    show decide _ = decide _
    by_cases h1 : ∃ l, Wk L 0 (lka L k) l
    · rw [decide_eq_true h1, decide_eq_true (e.mp h1)]
    · rw [decide_eq_false h1, decide_eq_false (fun z => h1 (e.mpr z))]) r hr
  exact of_decide_eq_true this
theorem WholeL.wk2 {L : Lk} {n : Nat} (h : WholeL L n) {a b : Nat} (ha : a < n) (hb : b < n) : ∃ l, Wk L a b l := by
  obtain ⟨l, hl⟩ := h.wk ha
  obtain ⟨m, hm⟩ := h.wk hb
  exact ⟨_, hl.symm.trans hm⟩
theorem WholeL.met {L : Lk} {n : Nat} (h : WholeL L n) : Met (dist L) n := ⟨fun x y => dist_symm L x y, fun x y z hx hy hz => by
  obtain ⟨l, hl⟩ := h.wk2 hx hy
  obtain ⟨m, hm⟩ := h.wk2 hy hz
  have a := dist_ok hl
  have b := dist_ok hm
  have := a.1.trans b.1
  exact (dist_ok this).2 _ this⟩
/-! ### sets of links -/
def oddL (L : Lk) (u : Nat) : Nat → Nat
  | 0 => 0
  | k + 1 => if u.testBit k = true then oddL L u k ^^^ 2 ^ lka L k ^^^ 2 ^ lkb L k else oddL L u k
def lcost (L : Lk) (u : Nat) : Nat → Nat
  | 0 => 0
  | k + 1 => if u.testBit k = true then lcost L u k + lkw L k else lcost L u k
/-- the rooms of a mask, as a list -/
def ML (l : List Nat) (m : Nat) : Prop := l.Nodup ∧ ∀ q, q ∈ l ↔ m.testBit q = true
theorem ML.perm {l l' : List Nat} {m : Nat} (h : ML l m) (h' : ML l' m) : l.Perm l' := perm_of_nodup h.1 h'.1 fun a => (h.2 a).trans (h'.2 a).symm
theorem ML.zero : ML [] 0 := ⟨List.nodup_nil, fun q => by simp⟩
theorem ML.flip {l : List Nat} {m a : Nat} (h : ML l m) : ML (Sf.flip l a) (m ^^^ 2 ^ a) := by
  refine ⟨flip_nodup h.1, fun q => ?_⟩
  rw [flip_mem h.1, Nat.testBit_xor, Nat.testBit_two_pow, h.2, h.2]
  by_cases e : a = q
  · subst e
    rw [decide_eq_true rfl]
    cases m.testBit a <;> simp
  · rw [decide_eq_false e]
    cases m.testBit q <;> simp [Ne.symm e]
/-- each set of links costs no less than some pairing of its odd ends -/
theorem join_ge {L : Lk} {n : Nat} (hw : WholeL L n) (hb : ∀ k, k < L.length → lka L k < n ∧ lkb L k < n) (u : Nat) : ∀ k, k ≤ L.length → ∃ l c, ML l (oddL L u k) ∧ (∀ x ∈ l, x < n) ∧ PL (dist L) l c ∧ c ≤ lcost L u k
  | 0, _ => ⟨[], 0, ML.zero, fun x hx => by simp at hx, .nil, Nat.le_refl _⟩
  | k + 1, hk => by
    obtain ⟨l, c, h1, h2, h3, h4⟩ := join_ge hw hb u k (by omega)
    have hbk := hb k (by omega)
    by_cases hu : u.testBit k = true
    · have e1 : oddL L u (k + 1) = oddL L u k ^^^ 2 ^ lka L k ^^^ 2 ^ lkb L k := if_pos hu
      have e2 : lcost L u (k + 1) = lcost L u k + lkw L k := if_pos hu
      rw [e1, e2]
      by_cases hab : lka L k = lkb L k
      · refine ⟨l, c, ?_, h2, h3, by omega⟩
        rw [hab, Nat.xor_assoc, Nat.xor_self, Nat.xor_zero]
        exact h1
      · obtain ⟨c', h5, h6⟩ := h3.flip2 hw.met h2 h1.1 hbk.1 hbk.2 hab
        refine ⟨_, c', (h1.flip).flip, fun x hx => ?_, h5, ?_⟩
        · rcases (flip_mem (flip_nodup h1.1)).mp hx with ⟨hx, _⟩ | ⟨hx, _⟩
          · rcases (flip_mem h1.1).mp hx with ⟨hx, _⟩ | ⟨hx, _⟩
            · exact h2 x hx
            · rw [hx]; exact hbk.1
          · rw [hx]; exact hbk.2
        · have w : Wk L (lka L k) (lkb L k) (0 + lkw L k) := .step (.refl _) (by omega) (.inl ⟨rfl, rfl⟩)
          have := (dist_ok w).2 _ w
          omega
    · have e1 : oddL L u (k + 1) = oddL L u k := if_neg hu
      have e2 : lcost L u (k + 1) = lcost L u k := if_neg hu
      rw [e1, e2]
      exact ⟨l, c, h1, h2, h3, h4⟩
/-- one link put in or taken out -/
theorem xor5 (t p q r s : Nat) : t ^^^ r ^^^ s ^^^ p ^^^ q = t ^^^ p ^^^ q ^^^ r ^^^ s := Nat.eq_of_testBit_eq fun i => by
  simp only [Nat.testBit_xor]
  cases t.testBit i <;> cases p.testBit i <;> cases q.testBit i <;> cases r.testBit i <;> cases s.testBit i <;> rfl
theorem xor2 (t r s : Nat) : t ^^^ r ^^^ s ^^^ r ^^^ s = t := Nat.eq_of_testBit_eq fun i => by
  simp only [Nat.testBit_xor]
  cases t.testBit i <;> cases r.testBit i <;> cases s.testBit i <;> rfl
theorem oddL_flip (L : Lk) (u j : Nat) : ∀ k, oddL L (u ^^^ 2 ^ j) k = if j < k then oddL L u k ^^^ 2 ^ lka L j ^^^ 2 ^ lkb L j else oddL L u k
  | 0 => by rw [if_neg (by omega)]; rfl
  | k + 1 => by
    have hb : (u ^^^ 2 ^ j).testBit k = xor (u.testBit k) (decide (j = k)) := by rw [Nat.testBit_xor, Nat.testBit_two_pow]
    have e1 : oddL L (u ^^^ 2 ^ j) (k + 1) = if (u ^^^ 2 ^ j).testBit k = true then oddL L (u ^^^ 2 ^ j) k ^^^ 2 ^ lka L k ^^^ 2 ^ lkb L k else oddL L (u ^^^ 2 ^ j) k := rfl
    have e2 : oddL L u (k + 1) = if u.testBit k = true then oddL L u k ^^^ 2 ^ lka L k ^^^ 2 ^ lkb L k else oddL L u k := rfl
    rw [e1, e2, hb, oddL_flip L u j k]
    by_cases e : j = k
    · subst e
      rw [if_neg (Nat.lt_irrefl j), if_pos (Nat.lt_succ_self j), decide_eq_true rfl]
      cases u.testBit j with
      | false => rfl
      | true => exact (xor2 _ _ _).symm
    · rw [decide_eq_false e, Bool.xor_false]
      by_cases hk : j < k
      · rw [if_pos hk, if_pos (show j < k + 1 by omega)]
        split
        · exact xor5 _ _ _ _ _
        · rfl
      · rw [if_neg hk, if_neg (show ¬ j < k + 1 by omega)]
theorem lcost_flip (L : Lk) (u j : Nat) : ∀ k, lcost L (u ^^^ 2 ^ j) k ≤ lcost L u k + (if j < k then lkw L j else 0)
  | 0 => Nat.zero_le _
  | k + 1 => by
    have hb : (u ^^^ 2 ^ j).testBit k = xor (u.testBit k) (decide (j = k)) := by rw [Nat.testBit_xor, Nat.testBit_two_pow]
    have ih := lcost_flip L u j k
    have e1 : lcost L (u ^^^ 2 ^ j) (k + 1) = if (u ^^^ 2 ^ j).testBit k = true then lcost L (u ^^^ 2 ^ j) k + lkw L k else lcost L (u ^^^ 2 ^ j) k := rfl
    have e2 : lcost L u (k + 1) = if u.testBit k = true then lcost L u k + lkw L k else lcost L u k := rfl
    rw [e1, e2, hb]
    by_cases e : j = k
    · subst e
      rw [if_neg (Nat.lt_irrefl j)] at ih
      rw [decide_eq_true rfl, if_pos (Nat.lt_succ_self j)]
      cases u.testBit j with
      | false => show lcost L (u ^^^ 2 ^ j) j + lkw L j ≤ lcost L u j + lkw L j; omega
      | true => show lcost L (u ^^^ 2 ^ j) j ≤ lcost L u j + lkw L j + lkw L j; omega
    · rw [decide_eq_false e, Bool.xor_false]
      by_cases hk : j < k
      · rw [if_pos hk] at ih
        rw [if_pos (show j < k + 1 by omega)]
        split <;> omega
      · rw [if_neg hk] at ih
        rw [if_neg (show ¬ j < k + 1 by omega)]
        split <;> omega

/-! ### bits of a set, ascending -/
def bl (x k : Nat) : List Nat := (List.range k).filter fun q => x.testBit q
theorem bl_succ (x k : Nat) : bl x (k + 1) = if x.testBit k = true then bl x k ++ [k] else bl x k := by
  unfold bl
  rw [List.range_succ, List.filter_append]
  split
  · rename_i h; rw [List.filter_cons_of_pos h, List.filter_nil]
  · rename_i h; rw [List.filter_cons_of_neg h, List.filter_nil, List.append_nil]
theorem bl_len (x k : Nat) : (bl x k).length ≤ k := by
  unfold bl
  have := List.length_filter_le (fun q => x.testBit q) (List.range k)
  rw [List.length_range] at this
  exact this
theorem bl_sorted (x k : Nat) : (bl x k).Pairwise (· < ·) := (List.pairwise_lt_range (n := k)).filter _
theorem bl_mem {x n q : Nat} (h : x < 2 ^ n) : q ∈ bl x n ↔ x.testBit q = true := by
  unfold bl
  rw [List.mem_filter, List.mem_range]
  refine ⟨fun h => h.2, fun hb => ⟨?_, hb⟩⟩
  rcases Nat.lt_or_ge q n with h1 | h1
  · exact h1
  · have := Nat.testBit_lt_two_pow (Nat.lt_of_lt_of_le h (Nat.pow_le_pow_right (by decide) h1))
    rw [this] at hb
    cases hb
theorem bl_ml {x n : Nat} (h : x < 2 ^ n) : ML (bl x n) x := ⟨(List.nodup_range).filter _, fun _ => bl_mem h⟩
theorem shr_zero {x n k : Nat} (h : x < 2 ^ n) (hk : n ≤ k) : x >>> k = 0 := by
  rw [Nat.shiftRight_eq_div_pow]
  exact Nat.div_eq_of_lt (Nat.lt_of_lt_of_le h (Nat.pow_le_pow_right (by decide) hk))
theorem bl_done {x k : Nat} (h : x >>> k = 0) : x < 2 ^ k := by
  rw [Nat.shiftRight_eq_div_pow] at h
  exact (Nat.div_eq_zero_iff_lt (Nat.two_pow_pos k)).mp h
theorem bl_eq {x n m : Nat} (h : x < 2 ^ n) (h2 : x < 2 ^ m) : bl x n = bl x m := by
  exact sorted_eq (bl_sorted x n) (bl_sorted x m) fun a => (bl_mem h).trans (bl_mem h2).symm
theorem nat_zero : ∀ z : Nat, ¬ (0 < (z : Int)) → z = 0 := fun z h => by omega
section
variable {P : Program} {w : World} {K : PySem.W.Frag} {mg : Str → Option Value} {base : Heap}
def spBits : Sp := fun vs H Q _ => ∃ (x n : Nat), vs = [.int x] ∧ x < 2 ^ n ∧ n ≤ 1000 ∧ ∀ p H', Same H H' → New H p → H' p = some (.lst (iv (bl x n))) → Q (.ref p) H'
theorem ok_bits {f : Addr} {fd : FuncData} (F : Fun K "bits" "bits" s_bits f fd) (gf : mg "bits" = some (.ref f)) (B : Bl mg) (T : Txt K mg ) : Has P w K mg base CX0 1 "bits" ["mask"] spBits := by
  refine Has.mk' F gf (F.binds (ps := ["mask"]) fun _ _ _ _ _ _ us hl => match us, hl with | [_], _ => rfl) sc_bits (by walk_at "len") (fun cdv A outer s H vs Q E hr h => ?_)
  obtain ⟨x, n, rfl, hx, hn, q⟩ := h
  refine ⟨_, (pss_cons (ps_set (i := 1) sc_bits.nd rfl (.inl rfl) (pe_lst pa_nil))
 (pss_cons (ps_set (i := 2) sc_bits.nd rfl (.inl rfl) pe_int)
 (pss_cons (ps_while PassesOwn.never (pt_cmpR op_gt (pv 0) pe_int (nomark _)) (pss_cons (ps_if (pt_cmpR op_eq (pe_op op_and (pv 0) pe_int) pe_int (nomark _)) (pss_one (ps_expr (pe_bmK K (pe_bm PySem.F.plainAttrs_list PySem.F.slot_list_append PySem.F.type_list_append mt_append (pv 1) (pa_cons (pv 2) pa_nil))))) pss_nil)
 (pss_cons (ps_set (i := 0) sc_bits.nd rfl (.inl rfl) (pe_op op_shr (pv 0) pe_int))
 (pss_one (ps_aug (i := 2) sc_bits.nd rfl (.inl rfl) pe_int ip_add)))))
 (pss_one (ps_ret (pv 1)))))), ?_⟩
  walk_at "sts"
  refine w_new fun p np => ?_
  walk_at "sts"
  refine ⟨fun k σ H' => ∃ j : Nat, σ = [some (.int (x >>> j : Nat)), some (.ref p), some (.int (j : Nat))] ∧ Same H H' ∧ H' p = some (.lst (iv (bl x j))) ∧ j ≤ n ∧ k = n - j, ⟨_, 0, rfl, same_upd np, upd_same, Nat.zero_le _, rfl⟩, ?_⟩
  rintro k σ H' ⟨j, rfl, s1, l1, hj, rfl⟩
  have hsl : (iv (bl x j)).length < sizeLine := szlt (by rw [iv_len]; have := bl_len x j; omega)
  have eb : ((x >>> j : Nat) : Int) % 2 = (((x.testBit j).toNat : Nat) : Int) := by
    have := bit_nat x j
    rw [shr_nat, and_one _ (Int.natCast_nonneg _)] at this
    exact this
  have esh : ((x >>> j : Nat) : Int) / 2 ^ Int.toNat 1 = ((x >>> (j + 1) : Nat) : Int) := by
    have := shr_nat (x >>> j) 1
    rw [← Nat.shiftRight_add] at this
    exact this
  walk_at "sts"
  refine ifd (fun hc => w_wt ?_) (fun hc => ?_)
  · have hjn : j < n := by
      rcases Nat.lt_or_ge j n with h | h
      · exact h
      · have := shr_zero hx h
        rw [this] at hc
        exact absurd hc (by decide)
    walk_at "sts"
    rw [and_one _ (Int.natCast_nonneg _), eb]
    cases hb : x.testBit j with
    | true =>
      rw [show true.toNat = 1 from rfl]
      walk_at "sts"
      rw [esh]
      exact ⟨_, by omega, j + 1, rfl, s1.mut np, by rw [upd_same, bl_succ, if_pos hb, iv_app]; rfl, by omega, rfl⟩
    | false =>
      rw [show false.toNat = 0 from rfl]
      walk_at "sts"
      rw [esh]
      exact ⟨_, by omega, j + 1, rfl, s1, by rw [bl_succ, if_neg (by rw [hb]; decide)]; exact l1, by omega, rfl⟩
  · walk_at "sts"
    have := bl_done (x := x) (k := j) (nat_zero _ hc)
    rw [bl_eq this hx] at l1
    exact q p H' s1 np l1
end

section
variable {P : Program} {w : World} {K : PySem.W.Frag} {mg : Str → Option Value} {base : Heap}
def spIsInt : Sp := fun vs H Q _ => ∃ i : Int, vs = [.int i] ∧ Q (.bl true) H
theorem ok_law_whole {f : Addr} {fd : FuncData} (F : Fun K "_law_whole" "_law_whole" s_law_whole f fd) (gf : mg "_law_whole" = some (.ref f)) (B : Bl mg) (T : Txt K mg ) : Has P w K mg base CX0 1 "_law_whole" ["found"] spIsInt := by
  refine Has.mk' F gf (F.binds (ps := ["found"]) fun _ _ _ _ _ _ us hl => match us, hl with | [_], _ => rfl) sc_law_whole (by walk_at "len") (fun cdv A outer s H vs Q E hr h => ?_)
  obtain ⟨i, rfl, q⟩ := h
  refine ⟨_, (pss_one (ps_ret (pe_and (pe_callB (call_isiK' K) (by rfl) B.isinstance (by decide +kernel) (pa_cons (pv 0) (pa_cons (pe_bltn (v := .ty "int") (by rfl) B.int (by decide +kernel) rfl) pa_nil))) (pe_one (pe_not (pe_callB (call_isiK' K) (by rfl) B.isinstance (by decide +kernel) (pa_cons (pv 0) (pa_cons (pe_bltn (v := .ty "bool") (by rfl) B.bool (by decide +kernel) rfl) pa_nil)))))))), ?_⟩
  walk_at "sts"
  exact q
end

section
variable {P : Program} {w : World} {K : PySem.W.Frag} {mg : Str → Option Value} {base : Heap}
def spCell (K : PySem.W.Frag) : Sp := fun vs H Q _ => ∃ (p : Addr) (ns : List Int) (k : Nat), vs = [.ref p, .int k] ∧ SqL K H p (ns.map V.int) ∧ Q (.int (ns.getD k 0)) H
theorem ok_law_cell {f : Addr} {fd : FuncData} (F : Fun K "_law_cell" "_law_cell" s_law_cell f fd) (gf : mg "_law_cell" = some (.ref f)) (B : Bl mg) (T : Txt K mg ) : Has P w K mg base CX0 1 "_law_cell" ["script", "k"] (spCell K) := by
  refine Has.mk' F gf (F.binds (ps := ["script", "k"]) fun _ _ _ _ _ _ us hl => match us, hl with | [_, _], _ => rfl) sc_law_cell (by walk_at "len") (fun cdv A outer s H vs Q E hr h => ?_)
  obtain ⟨p, ns, k, rfl, hp, q⟩ := h
  refine ⟨_, (pss_cons (ps_if (pt_cmpR op_lt (pv 1) (pe_callB (call_lenK K) (by rfl) B.len (by decide +kernel) (pa_cons (pv 0) pa_nil)) (nomark _)) (pss_one (ps_ret (pe_ix (ix_listK K) (pv 0) (pv 1) (fun _ _ => rfl)))) pss_nil)
 (pss_one (ps_ret pe_int))), ?_⟩
  walk_at "sts"
  refine ifd (fun hc => ?_) (fun hc => ?_)
  · rw [List.length_map] at hc
    have e : (ns.map V.int)[k]? = some (.int (ns.getD k 0)) := by
      rw [List.getElem?_map, List.getD_eq_getElem?_getD, List.getElem?_eq_getElem (by omega)]
      rfl
    walk_at "sts"
    exact q
  · rw [List.length_map] at hc
    walk_at "sts"
    rw [List.getD_eq_getElem?_getD, List.getElem?_eq_none (by omega)] at q
    exact q
end

section
variable {P : Program} {w : World} {K : PySem.W.Frag} {mg : Str → Option Value} {base : Heap}
def spLaw (K : PySem.W.Frag) : Sp := fun vs H Q _ => ∃ (a : Addr) (ns : List Int), vs = [.ref a] ∧ LsE K H a (ns.map V.int) ∧ ns.length ≤ 63 ∧ (∀ z ∈ ns, Builtin.Int.intBits z ≤ 1048576) ∧ ∀ H', Q (.bl true) H'
end
theorem modN (z : Int) {n : Nat} (h : 0 < n) : ∃ k : Nat, z % (n : Int) = (k : Int) ∧ k < n := by
  have h1 := Int.emod_nonneg z (show (n : Int) ≠ 0 by omega)
  have h2 := Int.emod_lt_of_pos z (show (0 : Int) < n by omega)
  exact ⟨(z % (n : Int)).toNat, by omega, by omega⟩

section
variable {P : Program} {w : World} {K : PySem.W.Frag} {mg : Str → Option Value} {base : Heap}
/-- the numbers' mask -/
def orL : List Nat → Nat → Nat
  | l, 0 => 0
  | l, k + 1 => orL l k ||| 2 ^ l.getD k 0
theorem orL_bit (l : List Nat) (q : Nat) : ∀ k, k ≤ l.length → ((orL l k).testBit q = true ↔ q ∈ l.take k)
  | 0, _ => by simp [orL]
  | k + 1, hk => by
    have ih := orL_bit l q k (by omega)
    unfold orL
    rw [take_snoc (by omega), List.mem_append, List.mem_singleton, Nat.testBit_or, Bool.or_eq_true, ih, Nat.testBit_two_pow, decide_eq_true_iff]
    exact or_congr Iff.rfl ⟨fun h => h.symm, fun h => h.symm⟩
theorem orL_lt {l : List Nat} {n : Nat} (h : ∀ x ∈ l, x < n) : ∀ k, k ≤ l.length → orL l k < 2 ^ n
  | 0, _ => Nat.two_pow_pos n
  | k + 1, hk => by
    refine Nat.or_lt_two_pow (orL_lt h k (by omega)) (Nat.pow_lt_pow_right (by decide) (h _ ?_))
    rw [List.getD_eq_getElem?_getD, List.getElem?_eq_getElem (by omega)]
    exact List.getElem_mem _
def spMaskOf (K : PySem.W.Frag) : Sp := fun vs H Q _ => ∃ (p : Addr) (l : List Nat), vs = [.ref p] ∧ SqL K H p (iv l) ∧ (∀ x ∈ l, x < 1000) ∧ Q (.int (orL l l.length : Nat)) H
theorem ok_mask_of {f : Addr} {fd : FuncData} (F : Fun K "mask_of" "mask_of" s_mask_of f fd) (gf : mg "mask_of" = some (.ref f)) (B : Bl mg) (T : Txt K mg ) : Has P w K mg base CX0 1 "mask_of" ["places"] (spMaskOf K) := by
  refine Has.mk' F gf (F.binds (ps := ["places"]) fun _ _ _ _ _ _ us hl => match us, hl with | [_], _ => rfl) sc_mask_of (by walk_at "len") (fun cdv A outer s H vs Q E hr h => ?_)
  obtain ⟨p, l, rfl, hp, hb, q⟩ := h
  refine ⟨_, (pss_cons (ps_set (i := 1) sc_mask_of.nd rfl (.inl rfl) pe_int)
 (pss_cons (ps_for PassesOwn.never rfl (pi_listK K (pv 0)) (pg_name (i := 2) sc_mask_of.nd rfl (.inl rfl)) (pss_one (ps_set (i := 1) sc_mask_of.nd rfl (.inl rfl) (pe_op op_or (pv 1) (pe_op op_shlW pe_int (pv 2))))))
 (pss_one (ps_ret (pv 1))))), ?_⟩
  walk_at "sts"
  refine for_list (xs := iv l) (fun i σ H' => ∃ (y : Option V), σ = [some (.ref p), some (.int (orL l i : Nat)), y] ∧ H' = H) ?_ ?_ ?_ ?_
  · exact ⟨_, rfl, rfl⟩
  · rintro i σ H' _ ⟨_, rfl, rfl⟩
    exact hp
  · rintro i v σ H' hv ⟨y, rfl, rfl⟩
    have hi : i < l.length := by rw [← iv_len]; exact (List.getElem?_eq_some_iff.mp hv).1
    rw [iv_at hi] at hv
    cases hv
    have hx := hb (l.getD i 0) (by rw [List.getD_eq_getElem?_getD, List.getElem?_eq_getElem hi]; exact List.getElem_mem hi)
    walk_at "sts"
    rw [shl_one, or_nat]
    exact ⟨_, rfl, rfl⟩
  · rintro σ H' ⟨y, rfl, rfl⟩
    rw [iv_len]
    walk_at "sts"
    exact q
end

/-! ### papers: sets of rooms with prices -/
section
variable {P : Program} {w : World} {K : PySem.W.Frag} {mg : Str → Option Value} {base : Heap}
def dPr (t : Nat × Nat) : PyData := .tuple [.int (t.1 : Nat), .int (t.2 : Nat)]
def dPap (hs : List (Nat × Nat)) : PyData := .list (hs.map dPr)
theorem goodPr (t : Nat × Nat) : Good 1 (dPr t) := goodTup (goodMap (f := PyData.int) (xs := [((t.1 : Nat) : Int), ((t.2 : Nat) : Int)]) fun _ => goodInt)
theorem goodPap (hs : List (Nat × Nat)) : Good 2 (dPap hs) := goodLst (goodMap goodPr)
theorem dpa_pairs {K : PySem.W.Frag} {H : Hp} : ∀ ts : List (Addr × Nat × Nat), (∀ t ∈ ts, SqT K H t.1 [.int (t.2.1 : Nat), .int (t.2.2 : Nat)]) → DpAll K H (ts.map fun t => V.ref t.1) ((ts.map fun t => t.2).map dPr)
  | [], _ => .nil
  | t :: ts, h => .cons (.tup (h t (by simp)) (dpInts [((t.2.1 : Nat) : Int), ((t.2.2 : Nat) : Int)])) (dpa_pairs ts fun u hu => h u (by simp [hu]))
theorem dpPapAt {K : PySem.W.Frag} {H : Hp} {xs : List V} {hs : List (Nat × Nat)} (h : DpAll K H xs (hs.map dPr)) {i : Nat} (hi : i < hs.length) : ∃ p, xs[i]? = some (.ref p) ∧ SqT K H p [.int ((hs.getD i (0, 0)).1 : Nat), .int ((hs.getD i (0, 0)).2 : Nat)] := by
  have e : hs.getD i (0, 0) = hs[i] := by rw [List.getD_eq_getElem?_getD, List.getElem?_eq_getElem hi]; rfl
  obtain ⟨v, h1, h2⟩ := dpaGet (i := i) (d := dPr hs[i]) h (by rw [List.getElem?_map, List.getElem?_eq_getElem hi]; rfl)
  rw [e]
  cases h2 with
  | @tup p xs' _ h3 h4 =>
    refine ⟨p, h1, ?_⟩
    cases h4 with
    | cons a b => cases a; cases b with
      | cons a b => cases a; cases b; exact h3
/-- what a link of these rooms pays -/
def paidX (a b : Nat) (hs : List (Nat × Nat)) : Nat := (hs.map fun t => if t.1.testBit a = t.1.testBit b then 0 else t.2).sum
theorem paidX_snoc (a b : Nat) (hs : List (Nat × Nat)) {i : Nat} (hi : i < hs.length) : paidX a b (hs.take (i + 1)) = paidX a b (hs.take i) + (if (hs.getD i (0, 0)).1.testBit a = (hs.getD i (0, 0)).1.testBit b then 0 else (hs.getD i (0, 0)).2) := by
  unfold paidX
  have e : hs.getD i (0, 0) = hs[i] := by rw [List.getD_eq_getElem?_getD, List.getElem?_eq_getElem hi]; rfl
  rw [List.take_add_one, List.getElem?_eq_getElem hi, Option.toList_some, List.map_append, List.sum_append, e]
  simp
/-- the bits of two rooms -/
theorem xbit (m a b : Nat) : Builtin.bitAnd (((m >>> a ^^^ m >>> b : Nat)) : Int) 1 = (((m.testBit a ^^ m.testBit b).toNat : Nat) : Int) := by
  have h := Nat.testBit_zero (m >>> a ^^^ m >>> b)
  rw [Nat.testBit_xor, Nat.testBit_shiftRight, Nat.testBit_shiftRight, Nat.add_zero, Nat.add_zero] at h
  rw [and_one _ (Int.natCast_nonneg _), h]
  generalize (m >>> a ^^^ m >>> b) = z
  have e : z % 2 = 0 ∨ z % 2 = 1 := by omega
  rcases e with e | e
  · rw [e]; simp; omega
  · rw [e]; simp; omega
end

/-! ### texts as lists of signs -/
open TL
def tS (l : List Nat) : Str := ⟨l.toArray⟩
theorem tS_tl (x : Str) : tS (tl x) = x := mk_tl x
theorem tS_app (a b : List Nat) : tS a ++ tS b = tS (a ++ b) := ext_tl (by rw [tl_append]; rfl)
theorem tS_inj {a b : List Nat} (h : tS a = tS b) : a = b := congrArg (fun x : Str => x.cps.toList) h
theorem tS_len (a : List Nat) : (tS a).length = a.length := by rw [len_tl]; rfl
def tL (s : String) : List Nat := s.toList.map Char.toNat
theorem tL_lit (s : String) : Str.ofString s = tS (tL s) := ext_tl (tl_ofString s)
theorem tS_num (n : Nat) : Str.ofString (toString ((n : Nat) : Int)) = tS (numL n) := ext_tl (tl_num n)
theorem dec_tS {a b : List Nat} : decide (V.str (tS a) = V.str (tS b)) = decide (a = b) := by
  by_cases h : a = b
  · rw [h]; simp
  · rw [decide_eq_false h, decide_eq_false (fun z => h (tS_inj (by injection z)))]
def sv (ws : List (List Nat)) : List V := ws.map fun w => V.str (tS w)
theorem sv_len (ws : List (List Nat)) : (sv ws).length = ws.length := List.length_map ..
theorem sv_app (a b : List (List Nat)) : sv (a ++ b) = sv a ++ sv b := List.map_append ..
theorem sv_at {ws : List (List Nat)} {i : Nat} (h : i < ws.length) : (sv ws)[i]? = some (.str (tS (ws.getD i []))) := by
  unfold sv
  rw [List.getElem?_map, List.getElem?_eq_getElem h, List.getD_eq_getElem?_getD, List.getElem?_eq_getElem h]
  rfl
theorem sv_strs (ws : List (List Nat)) : (ws.map tS).map V.str = sv ws := by unfold sv; rw [List.map_map]; rfl
theorem map_tl_tS (ws : List (List Nat)) : (ws.map tS).map tl = ws := by
  rw [List.map_map]
  exact (List.map_congr_left fun w _ => rfl).trans (List.map_id' ws)
theorem split_tS (a b : List Nat) (hb : b ≠ []) (hk : b.all (· < 256) = true) : Txt.split (tS a) (tS b) = (spl b 0 [] a).map tS := by
  refine map_tl_inj ?_
  have h : (Txt.split (tS a) (tS b)).map tl = spl b 0 [] a := split_spl (tS a) (tS b) hb (kind_ok (by
    show b.toArray.all (· < 256) = true
    rw [List.all_toArray]; exact hk))
  rw [h, map_tl_tS]
theorem join_tS (a : List Nat) (ws : List (List Nat)) : Txt.join (tS a) (ws.map tS) = tS (joinL a ws) := by
  rw [join_eq]
  refine ext_tl ?_
  rw [tl_join, map_tl_tS]
  rfl
theorem tl_cps (l : List Nat) : (tS l).cps.toList = l := rfl
section
variable {X : Cx} {o e : Expr} {to te : TE}
def rJoin (K : PySem.W.Frag) : V → List V → Hp → VK → Prop := fun x xs H Q => ∃ a p, ∃ ys : List Str, x = .str a ∧ xs = [.ref p] ∧ (SqL K H p (ys.map V.str) ∨ SqT K H p (ys.map V.str)) ∧
  (ys.map fun y => y.length).sum + ys.length * a.length ≤ 16777216 ∧ Q (.str (Txt.join a ys)) H
theorem pe_joinK (K : PySem.W.Frag) {apos pos : Pos} (ho : PE X o to) (he : PE X e te) (hs : starEach [e] X.env = [(false, eval e X.env)] := by rfl) (hbase : attributeBase o "join" X.env (eval o X.env) = eval o X.env := by rfl) (hline : (apos.endLine == pos.line) = true := by rfl) (hK : X.K = K := by rfl) :
    PE X (.Call (.Attribute o "join" apos) [e] [] pos) (tM1 (rJoin K) to te) := by subst hK; exact pe_join ho he hs hbase hline
end
section
variable {σ : L2.St} {H : Hp} {Q : VK} {D : Ends} {K : PySem.W.Frag} {p : Addr} {to te : TE} {a b : List Nat} {n c : Nat}
theorem w_cS {s : String} (h : Q (.str (tS (tL s))) H) : tC (.str (Str.ofString s)) σ H Q := by rw [tL_lit]; exact h
theorem w_m1 {r : V → List V → Hp → VK → Prop} (h : to σ H fun x H1 => (∃ a, x = .str a) ∧ te σ H1 fun y H2 => r x [y] H2 Q) : tM1 r to te σ H Q := h
theorem w_isS {a : Str} {R : Prop} (h : R) : (∃ b, V.str a = .str b) ∧ R := ⟨⟨a, rfl⟩, h⟩
theorem w_split (hb : b ≠ []) (hk : b.all (· < 256) = true) (ha : a.length + 2 ≤ sizeLine) (h : ∀ p, New H p → Q (.ref p) (upd H p (.lst (sv (spl b 0 [] a))))) :
    ∃ a' b', V.str (tS a) = .str a' ∧ [V.str (tS b)] = [.str b'] ∧ (b'.length == 0) = false ∧ a'.length + 2 ≤ sizeLine ∧ rNewStrs (Txt.split a' b') H Q := by
  refine ⟨tS a, tS b, rfl, rfl, ?_, by rw [tS_len]; exact ha, ?_⟩
  · rw [tS_len]
    cases b with
    | nil => exact absurd rfl hb
    | cons => rfl
  · intro p np
    rw [split_tS a b hb hk, sv_strs]
    exact h p np
theorem w_join {ws : List (List Nat)} (hs : SqL K H p (sv ws)) (hz : (ws.map List.length).sum + ws.length * a.length ≤ 16777216) (h : Q (.str (tS (joinL a ws))) H) : rJoin K (.str (tS a)) [.ref p] H Q := by
  refine ⟨tS a, p, ws.map tS, rfl, rfl, .inl (by rw [sv_strs]; exact hs), ?_, by rw [join_tS]; exact h⟩
  rw [List.map_map, tS_len, List.length_map]
  have e : (ws.map ((fun y : Str => y.length) ∘ tS)) = ws.map List.length := List.map_congr_left fun w _ => tS_len w
  rw [e]
  exact hz
theorem w_addS (hz : a.length + b.length ≤ sizeLine) (h : Q (.str (tS (a ++ b))) H) : ∃ i j, V.str (tS a) = .str i ∧ V.str (tS b) = .str j ∧ i.length + j.length ≤ sizeLine ∧ Q (.str (i ++ j)) H :=
  ⟨tS a, tS b, rfl, rfl, by rw [tS_len, tS_len]; exact hz, by rw [tS_app]; exact h⟩
theorem log2_small {n : Nat} (h : n < 2 ^ 1900) : (n : Int).natAbs.log2 < 1920 := by
  rw [Int.natAbs_natCast]
  by_cases h0 : n = 0
  · subst h0; decide
  · exact (Nat.log2_lt h0).mpr (Nat.lt_of_lt_of_le h (Nat.pow_le_pow_right (by decide) (by decide)))
theorem w_strI (hn : n < 2 ^ 1900) (h : Q (.str (tS (numL n))) H) : ∃ i, [V.int (n : Nat)] = [.int i] ∧ i.natAbs.log2 < 1920 ∧ Q (.str (toString i)) H :=
  ⟨_, rfl, log2_small hn, by rw [tS_num]; exact h⟩
theorem w_strJ (hn : n < 2 ^ 1900) (h : Q (.str (tS (numL n))) H) : (n : Int).natAbs.log2 < 1920 ∧ Q (.str (Str.ofString (toString ((n : Nat) : Int)))) H := ⟨log2_small hn, by rw [tS_num]; exact h⟩
theorem w_eqT (h : Q (.bl (decide (a = b))) H) : rEq (.str (tS a)) (.str (tS b)) H Q := ⟨rfl, by rw [dec_tS]; exact h⟩
theorem w_neT (h : Q (.bl (!decide (a = b))) H) : rNe (.str (tS a)) (.str (tS b)) H Q := ⟨rfl, by rw [dec_tS]; exact h⟩
theorem w_1s {x : Str} {R : Str → Prop} (h : R x) : ∃ z, [V.str x] = [.str z] ∧ R z := ⟨x, rfl, h⟩
theorem w_2s {x y : Str} {R : Str → Str → Prop} (h : R x y) : ∃ i j, V.str x = .str i ∧ V.str y = .str j ∧ R i j := ⟨x, y, rfl, rfl, h⟩
theorem w_inR {R : Nat → Str → Prop} (h : R c (tS b)) : ∃ (c' : Nat) (z : Str), V.str (tS [c]) = .str ⟨#[c']⟩ ∧ V.str (tS b) = .str z ∧ R c' z := ⟨c, tS b, rfl, rfl, h⟩
theorem w_lenS (hz : a.length ≤ sizeLine) (h : Q (.int a.length) H) : ∃ z, [V.str (tS a)] = [.str z] ∧ z.length ≤ sizeLine ∧ Q (.int z.length) H := ⟨tS a, rfl, by rw [tS_len]; exact hz, by rw [tS_len]; exact h⟩
theorem w_ixS {i : Int} (hz : a.length ≤ sizeLine) (hi : atI a i = some c) (h : Q (.str (tS [c])) H) : rIxS (.str (tS a)) (.int i) H Q := ⟨tS a, i, c, rfl, rfl, by rw [tS_len]; exact hz, hi, h⟩
theorem w_inT (h : Q (.bl (decide (c ∈ b))) H) : ∃ (c' : Nat) (z : Str), V.str (tS [c]) = .str ⟨#[c']⟩ ∧ V.str (tS b) = .str z ∧ Q (.bl (decide (c' ∈ z.cps.toList))) H := ⟨c, tS b, rfl, rfl, h⟩
theorem w_ninT (h : Q (.bl (!decide (c ∈ b))) H) : ∃ (c' : Nat) (z : Str), V.str (tS [c]) = .str ⟨#[c']⟩ ∧ V.str (tS b) = .str z ∧ Q (.bl (!decide (c' ∈ z.cps.toList))) H := ⟨c, tS b, rfl, rfl, h⟩
theorem w_iStr {R : It → Hp → Prop} (h : te σ H fun v H1 => ∃ x, v = .str x ∧ R (Its x) H1) : iStr te σ H R := h
theorem w_itS {R : Str → Prop} (h : R (tS a)) : ∃ x, V.str (tS a) = .str x ∧ R x := ⟨tS a, rfl, h⟩
theorem for_str {g : TG} {tb : TS} {D : Ends} {σ : L2.St} {H : Hp} (Pv : Nat → L2.St → Hp → Prop) (h0 : Pv 0 σ H)
    (hs : ∀ i c σ H, a[i]? = some c → Pv i σ H → g (.str (tS [c])) σ H fun σ2 H2 => tb { D with nx := Pv (i + 1), ct := Pv (i + 1), bk := D.nx } σ2 H2) (hd : ∀ σ H, Pv a.length σ H → D.nx σ H) :
    ∃ W : Nat → Nat → L2.St → Hp → Prop, (∃ m, W 0 m σ H) ∧ ∀ i m σ H, W i m σ H →
      ((Its (tS a)).stop i H ∧ D.nx σ H) ∨ ((Its (tS a)).go i H ∧ ∃ N : L2.St → Hp → Prop, (∀ σ' H', N σ' H' → ∃ m', m' < m ∧ W (i + 1) m' σ' H') ∧ ∀ x H', (Its (tS a)).yld i H x H' → g x σ H' fun σ2 H2 => tb { D with nx := N, ct := N, bk := D.nx } σ2 H2) := by
  have sz : (tS a).cps.size = a.length := by simp [tS]
  refine ⟨fun i m σ H => m = a.length - i ∧ i ≤ a.length ∧ Pv i σ H, ⟨a.length, by simp, Nat.zero_le _, h0⟩, ?_⟩
  rintro i m σ H ⟨rfl, hi, p⟩
  by_cases hlt : i < a.length
  · refine .inr ⟨by show i < (tS a).cps.size; rw [sz]; exact hlt, Pv (i + 1), fun σ' H' p' => ⟨a.length - (i + 1), by omega, rfl, hlt, p'⟩, fun x H' y => ?_⟩
    obtain ⟨e, c, hc, ex⟩ := y
    subst e
    subst ex
    exact hs i c σ _ (by rw [← hc]; show _ = a.toArray[i]?; rw [List.getElem?_toArray]) p
  · have e : i = a.length := by omega
    subst e
    exact .inl ⟨by show (tS a).cps.size ≤ a.length; rw [sz]; exact Nat.le_refl _, hd σ H p⟩
end
/-! ### rows of words -/
theorem joinL_cons (s : List Nat) (h : List Nat) (ws : List (List Nat)) : joinL s (h :: ws) = h ++ (ws.map fun w => s ++ w).flatten := by
  induction ws generalizing h with
  | nil => simp [joinL]
  | cons w r ih =>
    show h ++ (s ++ joinL s (w :: r)) = _
    rw [ih]
    simp
theorem joinL_sum (s h : List Nat) (ws : List (List Nat)) : ((h :: ws).map List.length).sum + ws.length * s.length = (joinL s (h :: ws)).length := by
  rw [joinL_cons, List.length_append, List.map_cons, List.sum_cons]
  have : ((ws.map fun w => s ++ w).flatten).length = (ws.map List.length).sum + ws.length * s.length := by
    induction ws with
    | nil => simp
    | cons w r ih =>
      rw [List.map_cons, List.flatten_cons, List.length_append, ih, List.length_append, List.map_cons, List.sum_cons, List.length_cons, Nat.add_mul]
      omega
  omega
theorem joinL_nil (ws : List (List Nat)) : joinL [] ws = ws.flatten := by
  cases ws with
  | nil => rfl
  | cons h r => rw [joinL_cons]; simp
/-- a word and numbers -/
def rowB (h : List Nat) (ns : List Nat) : List Nat := h ++ (ns.map fun n => 32 :: numL n).flatten
theorem rowB_join (h : List Nat) (ns : List Nat) : joinL [32] (h :: ns.map numL) = rowB h ns := by
  rw [joinL_cons, List.map_map]
  rfl
theorem rowB_snoc (h : List Nat) (ns : List Nat) (n : Nat) : rowB h (ns ++ [n]) = rowB h ns ++ 32 :: numL n := by
  unfold rowB
  rw [List.map_append, List.flatten_append]
  simp
theorem rowB_split {h : List Nat} {ns : List Nat} (hh : 32 ∉ h) : spl [32] 0 [] (rowB h ns) = h :: ns.map numL := by
  rw [← rowB_join]
  refine spl_join (by simp) fun p hp => ?_
  rcases List.mem_cons.mp hp with rfl | hp
  · exact hh
  · obtain ⟨n, _, rfl⟩ := List.mem_map.mp hp
    exact numL_free (.inl (by decide))
theorem rowB_free {h : List Nat} {ns : List Nat} (hh : 10 ∉ h) : 10 ∉ rowB h ns := by
  unfold rowB
  intro z
  rcases List.mem_append.mp z with z | z
  · exact hh z
  · obtain ⟨l, hl, z⟩ := List.mem_flatten.mp z
    obtain ⟨n, _, rfl⟩ := List.mem_map.mp hl
    rcases List.mem_cons.mp z with z | z
    · exact absurd z (by decide)
    · exact numL_free (.inl (by decide)) z
theorem rowB_len {h : List Nat} {ns : List Nat} {k : Nat} (hk : 0 < k) (hn : ∀ n ∈ ns, n < 10 ^ k) : (rowB h ns).length ≤ h.length + (k + 1) * ns.length := by
  induction ns with
  | nil => simp [rowB]
  | cons n r ih =>
    have h1 := ih fun m hm => hn m (List.mem_cons_of_mem _ hm)
    have h2 := numL_len hk (hn n List.mem_cons_self)
    unfold rowB at h1 ⊢
    rw [List.map_cons, List.flatten_cons, List.length_append, List.length_append, List.length_cons] at *
    rw [List.length_cons, Nat.mul_add]
    omega
/-- rows, each ended -/
def endL (rs : List (List Nat)) : List Nat := (rs.map fun r => r ++ [10]).flatten
theorem endL_join (rs : List (List Nat)) : endL rs = joinL [10] (rs ++ [[]]) := by
  induction rs with
  | nil => rfl
  | cons r s ih =>
    unfold endL at ih ⊢
    rw [List.map_cons, List.flatten_cons, ih]
    cases hs : s ++ [[]] with
    | nil => simp at hs
    | cons x y =>
      show _ = joinL [10] (r :: (s ++ [[]]))
      rw [hs]
      show r ++ [10] ++ joinL [10] (x :: y) = r ++ ([10] ++ joinL [10] (x :: y))
      rw [List.append_assoc]
theorem endL_split {rs : List (List Nat)} (h : ∀ r ∈ rs, 10 ∉ r) : spl [10] 0 [] (endL rs) = rs ++ [[]] := by
  rw [endL_join]
  refine spl_join (by simp) fun p hp => ?_
  rcases List.mem_append.mp hp with hp | hp
  · exact h p hp
  · rw [List.mem_singleton.mp hp]; simp
theorem endL_snoc (rs : List (List Nat)) (r : List Nat) : endL (rs ++ [r]) = endL rs ++ r ++ [10] := by
  unfold endL
  rw [List.map_append, List.flatten_append]
  simp
theorem endL_len {rs : List (List Nat)} {k : Nat} (h : ∀ r ∈ rs, r.length ≤ k) : (endL rs).length ≤ (k + 1) * rs.length := by
  induction rs with
  | nil => simp [endL]
  | cons r s ih =>
    have h1 := ih fun q hq => h q (List.mem_cons_of_mem _ hq)
    have h2 := h r List.mem_cons_self
    unfold endL at h1 ⊢
    rw [List.map_cons, List.flatten_cons, List.length_append, List.length_append, List.length_cons, List.length_nil, List.length_cons, Nat.mul_add]
    omega
/-- no number but nought begins with nought -/
theorem numL_head : ∀ n : Nat, 0 < n → ∃ c r, numL n = c :: r ∧ c ≠ 48 := by
  intro n
  induction n using Nat.strongRecOn with
  | _ n ih =>
    intro h
    by_cases h2 : n < 10
    · exact ⟨48 + n, [], numL_lt h2, by omega⟩
    · obtain ⟨c, r, e, hc⟩ := ih (n / 10) (by omega) (by omega)
      exact ⟨c, r ++ [48 + n % 10], by rw [numL_step (by omega), e]; rfl, hc⟩
theorem numL_ok {n : Nat} {c : Nat} {r : List Nat} (h : numL n = c :: r) : ¬ (c = 48 ∧ 1 < (numL n).length) := fun ⟨a, b⟩ => by
  by_cases h0 : n = 0
  · subst h0; exact absurd b (by decide)
  · obtain ⟨c', r', e, hc⟩ := numL_head n (by omega)
    rw [e] at h
    injection h with h1 h2
    exact hc (h1.trans a)
theorem numL_fig {n c : Nat} (h : c ∈ numL n) : c ∈ tL "0123456789" := by
  have := numL_digits n c h
  have e : tL "0123456789" = [48, 49, 50, 51, 52, 53, 54, 55, 56, 57] := by decide
  rw [e]
  simp
  omega
theorem w_intS {n : Nat} {R : Int → Prop} (hn : (numL n).length ≤ 640) (h : R (n : Nat)) : ∃ a m, [V.str (tS (numL n))] = [.str a] ∧ PySem.intText? a = some m ∧ a.length ≤ 640 ∧ R m := by
  refine ⟨_, _, rfl, ?_, by rw [tS_len]; exact hn, h⟩
  rw [← tS_num]
  exact int_num (by omega)

theorem dec_lit {a : List Nat} {s : String} : decide (tS a = Str.ofString s) = decide (a = tL s) := by
  rw [tL_lit]
  by_cases h : a = tL s
  · rw [h]; simp
  · rw [decide_eq_false h, decide_eq_false (fun z => h (tS_inj z))]
theorem dec_tt {a b : List Nat} : decide (tS a = tS b) = decide (a = b) := by
  by_cases h : a = b
  · rw [h]; simp
  · rw [decide_eq_false h, decide_eq_false (fun z => h (tS_inj z))]
theorem cutV_init (xs : List V) (v : V) : cutV (xs ++ [v]) none (some (-1)) = xs := by
  have e : HT.sIx (xs ++ [v]).length (xs ++ [v]).length (some (-1)) = xs.length := by
    rw [List.length_append, List.length_singleton]
    unfold HT.sIx
    simp
    omega
  unfold cutV
  rw [e]
  have e0 : HT.sIx (xs ++ [v]).length 0 none = 0 := rfl
  rw [e0, List.drop_zero, Nat.sub_zero]
  simp

open TL
section
variable {P : Program} {w : World} {K : PySem.W.Frag} {mg : Str → Option Value} {base : Heap}
def spWordsOf (K : PySem.W.Frag) : Sp := fun vs H Q _ => ∃ (a : Addr) (h : List Nat) (ns : List Nat), vs = [.str (tS h), .ref a] ∧ SqL K H a (iv ns) ∧ h.length ≤ 10 ∧ ns.length ≤ 100 ∧ (∀ n ∈ ns, n < 10 ^ 41) ∧ ∀ H', Same H H' → Q (.str (tS (rowB h ns ++ [10]))) H'
theorem ok_words_of {f : Addr} {fd : FuncData} (F : Fun K "words_of" "words_of" s_words_of f fd) (gf : mg "words_of" = some (.ref f)) (B : Bl mg) (T : Txt K mg ) : Has P w K mg base CX0 1 "words_of" ["head", "numbers"] (spWordsOf K) := by
  refine Has.mk' F gf (F.binds (ps := ["head", "numbers"]) fun _ _ _ _ _ _ us hl => match us, hl with | [_, _], _ => rfl) sc_words_of (by walk_at "len") (fun cdv A outer s H vs Q E hr h => ?_)
  obtain ⟨a, w, ns, rfl, hA, hw, hn, hb, q⟩ := h
  have hlen := rowB_len (h := w) (k := 41) (by decide) hb
  refine ⟨_, (pss_one (ps_ret (pe_op op_add_str (pe_joinK K pe_str (pe_op op_catE (pe_lst (pa_cons (pv 0) pa_nil)) (pe_lc (own := [("number", 2)]) rfl sc_words_of.nd (pi_listK K (pv 1)) (blkOk_by (own := [("number", 2)]) (N := ["head", "numbers", "number"]) (sc := defScope s_words_of) (by decide +kernel)) (fun _ _ _ _ _ => pg_name (i := 2) sc_words_of.nd rfl (Or.inl rfl)) (fun _ _ _ _ _ => pts_nil) (fun _ _ _ _ _ => (pe_callTy call_str_int (by rfl) B.str (by decide +kernel) (pa_cons (pv 2) pa_nil)))))) pe_str))), ?_⟩
  walk_at "sts"
  refine w_m1 (w_cS ?_)
  refine w_isS ?_
  walk_at "sts"
  refine w_new fun p1 n1 => ?_
  have s1 := same_upd (o := .lst [V.str (tS w)]) n1
  have l1 : upd H p1 (.lst [V.str (tS w)]) p1 = some (.lst [V.str (tS w)]) := upd_same
  generalize upd H p1 (.lst [V.str (tS w)]) = H1 at s1 l1 ⊢
  have hA1 := s1.seq hA
  walk_at "sts"
  intro D nD
  refine lc_list (K := K) (xs := iv ns) (fun i H' => H' D = some (.lst (sv ((ns.take i).map numL))) ∧ Same H1 H') ?_ ?_ ?_ ?_
  · exact ⟨upd_same, same_upd nD⟩
  · rintro i H' _ ⟨_, s2⟩
    exact s2.seq hA1
  · rintro i x H' hx ⟨l2, s2⟩
    have hi : i < ns.length := by
      have := (List.getElem?_eq_some_iff.mp hx).1
      rwa [iv_len] at this
    rw [iv_at hi] at hx
    injection hx with hx
    subst hx
    have hlt : ns.getD i 0 < 10 ^ 41 := hb _ (by rw [List.getD_eq_getElem?_getD, List.getElem?_eq_getElem hi]; exact List.getElem_mem hi)
    walk_at "sts"
    refine ⟨log2_small (Nat.lt_trans hlt (by decide +kernel)), ?_⟩
    rw [tS_num]
    refine ⟨_, l2, szlt (by rw [sv_len, List.length_map, List.length_take]; omega), ?_, s2.mut nD⟩
    rw [upd_same, take_snoc hi, List.map_append, sv_app]
    rfl
  rintro H2 ⟨l2, s2⟩
  rw [iv_len, List.take_length] at l2
  have l1' := s2 _ _ l1
  refine w_catE (LsE.of l1') (LsE.of l2) (by rw [sv_len, List.length_map, List.length_singleton, sizeLine_eq]; omega) fun p3 n3 => ?_
  refine w_join (a := tL " ") (ws := w :: ns.map numL) (SqL.of (by rw [upd_same]; rfl)) ?_ ?_
  · have h1 := joinL_sum (tL " ") w (ns.map numL)
    rw [show tL " " = [32] from rfl, rowB_join] at h1
    rw [show (tL " ").length = 1 from rfl, List.length_cons, List.length_map]
    rw [List.length_map, show ([32] : List Nat).length = 1 from rfl] at h1
    omega
  rw [show tL " " = [32] from rfl, rowB_join]
  walk_at "sts"
  rw [tL_lit]
  refine w_addS (by rw [show (tL "\n").length = 1 from rfl, sizeLine_eq]; omega) ?_
  rw [show tL "\n" = [10] from rfl]
  walk_at "sts"
  exact q _ (s1.trans (s2.trans (same_upd n3)))
def dAns (c l : Nat) (ps : List (Nat × Nat)) : PyData := .tuple [.int (c : Int), .int (l : Int), dPap ps]
theorem goodAns (c l : Nat) (ps : List (Nat × Nat)) : Good 3 (dAns c l ps) := goodTup (by
  intro d hd
  simp only [List.mem_cons, List.not_mem_nil, or_false] at hd
  rcases hd with rfl | rfl | rfl
  · exact goodInt
  · exact goodInt
  · exact goodPap ps)
theorem dpAns {K : PySem.W.Frag} {H : Hp} {v : V} {c l : Nat} {ps : List (Nat × Nat)} (h : Dp K H v (dAns c l ps)) : ∃ f pa xs, v = .ref f ∧ SqT K H f [.int (c : Nat), .int (l : Nat), .ref pa] ∧ SqL K H pa xs ∧ DpAll K H xs (ps.map dPr) := by
  obtain ⟨f, xs, rfl, h1, h2⟩ := dpTup h
  cases h2 with
  | cons a b =>
    cases a
    cases b with
    | cons a b =>
      cases a
      cases b with
      | cons a b =>
        cases b
        obtain ⟨pa, ys, rfl, h3, h4⟩ := dpLst a
        exact ⟨f, pa, ys, rfl, h1, h3, h4⟩
def rowsT (c l : Nat) (ps : List (Nat × Nat)) : List (List Nat) := [rowB (tL "worth") [c], rowB (tL "down") (bl l 80)] ++ ps.map fun t => rowB (tL "hill") (t.2 :: bl t.1 80)
def shownT (c l : Nat) (ps : List (Nat × Nat)) : List Nat := endL (rowsT c l ps)
theorem bl_small (x : Nat) : ∀ n ∈ bl x 80, n < 10 ^ 41 := fun n hn => by
  unfold bl at hn
  rw [List.mem_filter, List.mem_range] at hn
  have : n < 80 := hn.1
  exact Nat.lt_of_lt_of_le this (by decide)
theorem rowsT_len {c l : Nat} {ps : List (Nat × Nat)} (hc : c < 10 ^ 41) (hp : ∀ t ∈ ps, t.2 < 10 ^ 41) : ∀ r ∈ rowsT c l ps, r.length ≤ 4000 := by
  intro r hr
  unfold rowsT at hr
  have e1 : (tL "worth").length = 5 := by decide
  have e2 : (tL "down").length = 4 := by decide
  have e3 : (tL "hill").length = 4 := by decide
  rcases List.mem_append.mp hr with hr | hr
  · rcases List.mem_cons.mp hr with rfl | hr
    · have := rowB_len (h := tL "worth") (ns := [c]) (k := 41) (by decide) (by simpa using hc)
      rw [List.length_singleton] at this
      omega
    · rw [List.mem_singleton.mp hr]
      have := rowB_len (h := tL "down") (k := 41) (by decide) (bl_small l)
      have := bl_len l 80
      omega
  · obtain ⟨t, ht, rfl⟩ := List.mem_map.mp hr
    have := rowB_len (h := tL "hill") (ns := t.2 :: bl t.1 80) (k := 41) (by decide) (fun n hn => by
      rcases List.mem_cons.mp hn with rfl | hn
      · exact hp t ht
      · exact bl_small _ n hn)
    have := bl_len t.1 80
    rw [List.length_cons] at *
    omega
def ended (rs : List (List Nat)) : List (List Nat) := rs.map fun r => r ++ [10]
theorem ended_snoc (rs : List (List Nat)) (r : List Nat) : ended (rs ++ [r]) = ended rs ++ [r ++ [10]] := List.map_append ..
def spShownA (K : PySem.W.Frag) : Sp := fun vs H Q _ => ∃ (v : V) (c l : Nat) (ps : List (Nat × Nat)), vs = [v] ∧ Dp K H v (dAns c l ps) ∧ c < 10 ^ 41 ∧ l < 2 ^ 80 ∧ (∀ t ∈ ps, t.1 < 2 ^ 80 ∧ t.2 < 10 ^ 41) ∧ ps.length ≤ 1000 ∧ ∀ H', Same H H' → Q (.str (tS (shownT c l ps))) H'
theorem ok_shown {f : Addr} {fd : FuncData} (F : Fun K "shown" "shown" s_shown f fd) (gf : mg "shown" = some (.ref f)) (B : Bl mg) (T : Txt K mg ) (h_words_of : Has P w K mg base CX0 1 "words_of" ["head", "numbers"] (spWordsOf K)) (h_bits : Has P w K mg base CX0 1 "bits" ["mask"] spBits) : Has P w K mg base CX0 2 "shown" ["found"] (spShownA K) := by
  refine Has.mk' F gf (F.binds (ps := ["found"]) fun _ _ _ _ _ _ us hl => match us, hl with | [_], _ => rfl) sc_shown (by walk_at "len") (fun cdv A outer s H vs Q E hr h => ?_)
  obtain ⟨v, c, l, ps, rfl, hD, hc, hl, hps, hn, q⟩ := h
  obtain ⟨f, pa, xs, rfl, hf, hpa, hxs⟩ := dpAns hD
  have hxl : xs.length = ps.length := by have := dpaLen hxs; simpa using this
  have h5 : (tL "worth").length = 5 := by decide
  have h4 : (tL "down").length = 4 := by decide
  have h3 : (tL "hill").length = 4 := by decide
  refine ⟨_, (pss_cons (ps_set (i := 1) sc_shown.nd rfl (.inl rfl) (pe_lst (pa_cons (pe_fn h_words_of (hr.mono (by decide)) (by rfl) (pa_cons pe_str (pa_cons (pe_lst (pa_cons (pe_ix (ix_tupK K) (pv 0) pe_int (fun _ _ => rfl)) pa_nil)) pa_nil))) (pa_cons (pe_fn h_words_of (hr.mono (by decide)) (by rfl) (pa_cons pe_str (pa_cons (pe_fn h_bits (hr.mono (by decide)) (by rfl) (pa_cons (pe_ix (ix_tupK K) (pv 0) pe_int (fun _ _ => rfl)) pa_nil)) pa_nil))) pa_nil))))
 (pss_cons (ps_for PassesOwn.never rfl (pi_listK K (pe_ix (ix_tupK K) (pv 0) pe_int (fun _ _ => rfl))) (pg_name (i := 2) sc_shown.nd rfl (.inl rfl)) (pss_one (ps_expr (pe_bmK K (pe_bm PySem.F.plainAttrs_list PySem.F.slot_list_append PySem.F.type_list_append mt_append (pv 1) (pa_cons (pe_fn h_words_of (hr.mono (by decide)) (by rfl) (pa_cons pe_str (pa_cons (pe_op op_catE (pe_lst (pa_cons (pe_ix (ix_tupK K) (pv 2) pe_int (fun _ _ => rfl)) pa_nil)) (pe_fn h_bits (hr.mono (by decide)) (by rfl) (pa_cons (pe_ix (ix_tupK K) (pv 2) pe_int (fun _ _ => rfl)) pa_nil))) pa_nil))) pa_nil))))))
 (pss_one (ps_ret (pe_joinK K pe_str (pv 1)))))), ?_⟩
  walk_at "sts"
  rw [tL_lit]
  refine w_new fun p1 n1 => ?_
  refine ⟨p1, tL "worth", [c], rfl, SqL.of upd_same, by omega, by rw [List.length_singleton]; decide, by simpa using hc, fun H1 s1 => ?_⟩
  have s01 := (same_upd n1).trans s1
  have hf1 := same_read s01 hf
  walk_at "sts"
  refine ⟨l, 80, rfl, hl, by decide, fun pb H2 s2 nb lb => ?_⟩
  rw [tL_lit]
  walk_at "sts"
  refine ⟨pb, tL "down", bl l 80, rfl, SqL.of lb, by omega, Nat.le_trans (bl_len l 80) (by decide), bl_small l, fun H3 s3 => ?_⟩
  walk_at "sts"
  refine w_new fun pr nr => ?_
  have s03 := s01.trans (s2.trans s3)
  have s04 := s03.trans (same_upd (o := .lst [V.str (tS (rowB (tL "worth") [c] ++ [10])), V.str (tS (rowB (tL "down") (bl l 80) ++ [10]))]) nr)
  have hf3 := same_read s04 hf
  have hpa3 := s04.seq hpa
  walk_at "sts"
  refine for_list (xs := xs) (fun i σ H' => ∃ y2 : Option V, σ = [some (.ref f), some (.ref pr), y2] ∧ Same H H' ∧ H' pr = some (.lst (sv (ended (rowsT c l (ps.take i)))))) ?_ ?_ ?_ ?_
  · exact ⟨_, rfl, s03.trans (same_upd nr), by rw [upd_same]; rfl⟩
  · rintro i σ H' _ ⟨_, _, s4, _⟩
    exact s4.seq hpa
  · rintro i x σ H' hx ⟨y2, rfl, s4, l4⟩
    have hi : i < ps.length := by rw [← hxl]; exact (List.getElem?_eq_some_iff.mp hx).1
    obtain ⟨p, hp, ht⟩ := dpPapAt hxs hi
    rw [hp] at hx
    injection hx with hx
    subst hx
    have ht4 := same_read s4 ht
    have hlt := hps _ (show ps.getD i (0, 0) ∈ ps by rw [List.getD_eq_getElem?_getD, List.getElem?_eq_getElem hi]; exact List.getElem_mem hi)
    have etk : ps.take (i + 1) = ps.take i ++ [ps.getD i (0, 0)] := by rw [List.take_add_one, List.getElem?_eq_getElem hi, List.getD_eq_getElem?_getD, List.getElem?_eq_getElem hi]; rfl
    generalize ps.getD i (0, 0) = t at ht4 hlt etk
    walk_at "sts"
    refine w_new fun p5 n5 => ?_
    have s5 := same_upd (o := .lst [V.int (t.2 : Nat)]) n5
    have l5 : upd H' p5 (.lst [V.int (t.2 : Nat)]) p5 = some (.lst [V.int (t.2 : Nat)]) := upd_same
    have l45 := s5 _ _ l4
    have ht5 := same_read s5 ht4
    generalize upd H' p5 (.lst [V.int (t.2 : Nat)]) = H5 at s5 l5 l45 ht5 ⊢
    walk_at "sts"
    refine ⟨t.1, 80, rfl, hlt.1, by decide, fun p6 H6 s6 n6 l6 => ?_⟩
    have l56 := s6 _ _ l5
    refine w_catE (LsE.of l56) (LsE.of l6) (by rw [iv_len, List.length_singleton, sizeLine_eq]; have := bl_len t.1 80; omega) fun p7 n7 => ?_
    rw [tL_lit]
    walk_at "sts"
    refine ⟨p7, tL "hill", t.2 :: bl t.1 80, rfl, SqL.of (by rw [upd_same]; rfl), by omega, by rw [List.length_cons]; have := bl_len t.1 80; omega, fun n hn => ?_, fun H8 s8 => ?_⟩
    · rcases List.mem_cons.mp hn with rfl | hn
      · exact hlt.2
      · exact bl_small _ n hn
    have s48 := s5.trans (s6.trans ((same_upd n7).trans s8))
    have l8 := s48 _ _ l4
    have hsz : (sv (ended (rowsT c l (ps.take i)))).length < sizeLine := szlt (by rw [sv_len]; unfold ended rowsT; simp; omega)
    walk_at "sts"
    refine ⟨_, rfl, ?_, ?_⟩
    · exact (s4.trans s48).mut (nr.of s03)
    · rw [upd_same, etk]
      unfold rowsT
      rw [List.map_append, ← List.append_assoc, List.map_cons, List.map_nil, ended_snoc, sv_app]
      rfl
  rintro σ H' ⟨y2, rfl, s4, l4⟩
  rw [hxl, List.take_length] at l4
  have hbl := endL_len (rowsT_len (l := l) hc fun t ht => (hps t ht).2)
  have hrl : (rowsT c l ps).length = ps.length + 2 := by unfold rowsT; simp
  walk_at "sts"
  refine w_m1 ?_
  walk_at "sts"
  rw [tL_lit]
  refine w_isS ?_
  walk_at "sts"
  refine w_join (ws := ended (rowsT c l ps)) (SqL.of l4) ?_ ?_
  · rw [← List.length_flatten]
    show (endL (rowsT c l ps)).length + _ * 0 ≤ _
    rw [hrl] at hbl
    omega
  · rw [show tL "" = [] from rfl, joinL_nil]
    exact q H' s4
def spFig (K : PySem.W.Frag) : Sp := fun vs H Q _ => ∃ (n : Nat) (at_ : Int), vs = [.str (tS (numL n)), .int at_] ∧ n < 10 ^ 40 ∧ Q (.int (n : Nat)) H
theorem ok_figure_number {f : Addr} {fd : FuncData} (F : Fun K "figure_number" "figure_number" s_figure_number f fd) (gf : mg "figure_number" = some (.ref f)) (B : Bl mg) (T : Txt K mg ) : Has P w K mg base CX0 1 "figure_number" ["word", "at"] (spFig K) := by
  refine Has.mk' F gf (F.binds (ps := ["word", "at"]) fun _ _ _ _ _ _ us hl => match us, hl with | [_, _], _ => rfl) sc_figure_number (by walk_at "len") (fun cdv A outer s H vs Q E hr h => ?_)
  obtain ⟨n, at_, rfl, hn, q⟩ := h
  have hlen := numL_len (k := 40) (by decide) hn
  obtain ⟨c0, r0, e0⟩ : ∃ c r, numL n = c :: r := by
    cases e : numL n with
    | nil => exact absurd e (numL_ne n)
    | cons c r => exact ⟨c, r, rfl⟩
  have hok := numL_ok e0
  have hz : (numL n).length ≤ sizeLine := by rw [sizeLine_eq]; omega
  refine ⟨_, (pss_cutX (ps_if (PW.pt (pw_or (pt_cmpR op_eq (pv 0) pe_str (nomark _)) (pw_or (pt_cmpR op_gt (pe_callB call_len_str (by rfl) B.len (by decide +kernel) (pa_cons (pv 0) pa_nil)) (pe_glob (v := .int 40) (by rfl) T.k_MOST_FIGURES.choose_spec ⟨_, rfl⟩) (nomark _)) (pw_or1 (PW.pt (pw_and (pt_cmpR op_eq (pe_ix ix_str (pv 0) pe_int (fun _ _ => rfl)) pe_str (nomark _)) (pw_and1 (pt_cmpR op_gt (pe_callB call_len_str (by rfl) B.len (by decide +kernel) (pa_cons (pv 0) pa_nil)) pe_int (nomark _))))))))) (pss_one ps_never) pss_nil)
 (pss_cons (ps_for PassesOwn.never rfl (pi_str (pv 0)) (pg_name (i := 2) sc_figure_number.nd rfl (.inl rfl)) (pss_one (ps_if (pt_cmpR op_notIn_sign (pv 2) (pe_glob (v := .str "0123456789") (by rfl) T.k_FIGURES.choose_spec ⟨_, rfl⟩) (by rfl)) (pss_one ps_never) pss_nil)))
 (pss_one (ps_ret (pe_callTy call_int_str (by rfl) B.int (by decide +kernel) (pa_cons (pv 0) pa_nil)))))), ?_⟩
  refine w_cut (fun σ' H' => σ' = [some (.str (tS (numL n))), some (.int at_), none] ∧ H' = H) ?_ ?_
  · walk_at "sts"
    rw [dec_lit, decide_eq_false (show ¬ numL n = tL "" from numL_ne n)]
    walk_at "sts"
    refine w_1s ⟨by rw [tS_len]; exact hz, ?_⟩
    rw [tS_len]
    walk_at "sts"
    refine w_ixS (c := c0) hz (by rw [e0]; exact atI_nat (j := 0) rfl) ?_
    walk_at "sts"
    rw [dec_lit]
    refine ifd (fun hc => ?_) (fun hc => ?_)
    · walk_at "sts"
      refine w_1s ⟨by rw [tS_len]; exact hz, ?_⟩
      rw [tS_len]
      walk_at "sts"
      have h48 : c0 = 48 := by
        have : tL "0" = [48] := by decide
        rw [this] at hc
        injection hc
      refine ifd (fun hl => absurd ⟨h48, by omega⟩ hok) (fun hl => ?_)
      walk_at "sts"
      exact ⟨rfl, rfl⟩
    · walk_at "sts"
      exact ⟨rfl, rfl⟩
  rintro σ' H ⟨rfl, rfl⟩
  walk_at "sts"
  refine w_iStr ?_
  walk_at "sts"
  refine w_itS ?_
  refine for_str (fun i σ H' => ∃ y : Option V, σ = [some (.str (tS (numL n))), some (.int at_), y] ∧ H' = H) ?_ ?_ ?_
  · exact ⟨_, rfl, rfl⟩
  · rintro i c σ H' hc ⟨y, rfl, rfl⟩
    have hm := numL_fig (List.mem_of_getElem? hc)
    walk_at "sts"
    rw [tL_lit]
    refine w_inR ?_
    rw [tl_cps, decide_eq_true hm]
    walk_at "sts"
    exact ⟨_, rfl, rfl⟩
  · rintro σ H' ⟨y, rfl, rfl⟩
    walk_at "sts"
    exact w_intS (by omega) q
def spRowNums (K : PySem.W.Frag) : Sp := fun vs H Q _ => ∃ (w : List Nat) (ns : List Nat) (at_ : Int), vs = [.str (tS (rowB w ns)), .str (tS w), .int at_] ∧ 32 ∉ w ∧ (rowB w ns).length ≤ 100000 ∧ (∀ n ∈ ns, n < 10 ^ 40) ∧ ∀ p H', Same H H' → New H p → H' p = some (.lst (iv ns)) → Q (.ref p) H'
theorem ok_row_numbers {f : Addr} {fd : FuncData} (F : Fun K "row_numbers" "row_numbers" s_row_numbers f fd) (gf : mg "row_numbers" = some (.ref f)) (B : Bl mg) (T : Txt K mg ) (h_figure_number : Has P w K mg base CX0 1 "figure_number" ["word", "at"] (spFig K)) : Has P w K mg base CX0 2 "row_numbers" ["row", "head", "at"] (spRowNums K) := by
  refine Has.mk' F gf (F.binds (ps := ["row", "head", "at"]) fun _ _ _ _ _ _ us hl => match us, hl with | [_, _, _], _ => rfl) sc_row_numbers (by walk_at "len") (fun cdv A outer s H vs Q E hr h => ?_)
  obtain ⟨w, ns, at_, rfl, hw, hsz, hb, q⟩ := h
  have hsp := rowB_split (ns := ns) hw
  have hnl : ns.length ≤ 100000 := by
    have : ns.length ≤ (rowB w ns).length := by
      unfold rowB
      rw [List.length_append]
      have : ∀ l : List Nat, l.length ≤ ((l.map fun n => 32 :: numL n).flatten).length := fun l => by
        induction l with
        | nil => exact Nat.le_refl _
        | cons x r ih => rw [List.map_cons, List.flatten_cons, List.length_append, List.length_cons, List.length_cons]; omega
      have := this ns
      omega
    omega
  refine ⟨_, (pss_cons (ps_set (i := 3) sc_row_numbers.nd rfl (.inl rfl) (pe_split (pv 0) pe_str))
 (pss_cons (ps_if (pt_cmpR op_ne (pe_ix (ix_listK K) (pv 3) pe_int (fun _ _ => rfl)) (pv 1) (nomark _)) (pss_one ps_never) pss_nil)
 (pss_one (ps_ret (pe_lc (own := [("word", 4)]) rfl sc_row_numbers.nd (pi_listK K (pe_slice (sl_listK K) (pv 3) (po_some pe_int) po_none)) (blkOk_by (own := [("word", 4)]) (N := ["row", "head", "at", "words", "word"]) (sc := defScope s_row_numbers) (by decide +kernel)) (fun _ _ _ _ _ => pg_name (i := 4) sc_row_numbers.nd rfl (Or.inl rfl)) (fun _ _ _ _ _ => pts_nil) (fun _ _ _ _ _ => (pe_fn h_figure_number (hr.mono (by decide)) (by rfl) (pa_cons (pv 4) (pa_cons (pv 2) pa_nil))))))))), ?_⟩
  walk_at "sts"
  rw [tL_lit]
  refine w_m1 ?_
  walk_at "sts"
  refine w_isS ?_
  walk_at "sts"
  rw [tL_lit]
  refine w_split (by decide) (by decide) (by rw [sizeLine_eq]; omega) fun p1 n1 => ?_
  rw [show tL " " = [32] from rfl, hsp]
  have s1 := same_upd (o := .lst (sv (w :: ns.map numL))) n1
  have l1 : upd H p1 (.lst (sv (w :: ns.map numL))) p1 = some (.lst (sv (w :: ns.map numL))) := upd_same
  generalize upd H p1 (.lst (sv (w :: ns.map numL))) = H1 at s1 l1 ⊢
  have l1s := SqL.of (K := K) l1
  have a0 : atI (sv (w :: ns.map numL)) 0 = some (.str (tS w)) := atI_nat (j := 0) rfl
  walk_at "sts"
  rw [decide_eq_true rfl]
  walk_at "sts"
  refine w_new fun p2 n2 => ?_
  have e2 : cutV (sv (w :: ns.map numL)) (some 1) none = sv (ns.map numL) := cutV_from _ 1
  rw [e2]
  have s2 := same_upd (o := .lst (sv (ns.map numL))) n2
  have l2 : upd H1 p2 (.lst (sv (ns.map numL))) p2 = some (.lst (sv (ns.map numL))) := upd_same
  generalize upd H1 p2 (.lst (sv (ns.map numL))) = H2 at s2 l2 ⊢
  have l2s := SqL.of (K := K) l2
  walk_at "sts"
  intro D nD
  refine lc_list (K := K) (xs := sv (ns.map numL)) (fun i H' => H' D = some (.lst (iv (ns.take i))) ∧ Same H2 H') ?_ ?_ ?_ ?_
  · exact ⟨upd_same, same_upd nD⟩
  · rintro i H' _ ⟨_, s3⟩
    exact s3.seq l2s
  · rintro i x H' hx ⟨l3, s3⟩
    have hi : i < ns.length := by
      have := (List.getElem?_eq_some_iff.mp hx).1
      rwa [sv_len, List.length_map] at this
    have hx2 : x = .str (tS (numL (ns.getD i 0))) := by
      rw [sv_at (by rw [List.length_map]; exact hi)] at hx
      injection hx with hx
      rw [← hx, List.getD_eq_getElem?_getD, List.getElem?_map, List.getD_eq_getElem?_getD, List.getElem?_eq_getElem hi]
      rfl
    subst hx2
    walk_at "sts"
    refine ⟨_, at_, rfl, hb _ (by rw [List.getD_eq_getElem?_getD, List.getElem?_eq_getElem hi]; exact List.getElem_mem hi), ?_⟩
    refine ⟨_, l3, szlt (by rw [iv_len, List.length_take]; omega), ?_, s3.mut nD⟩
    rw [upd_same, take_snoc hi, iv_app]
    rfl
  rintro H3 ⟨l3, s3⟩
  rw [sv_len, List.length_map, List.take_length] at l3
  walk_at "sts"
  exact q D H3 (s1.trans (s2.trans s3)) ((nD.of s2).of s1) l3
def Rise (ns : List Nat) : Prop := ns.Pairwise (· < ·) ∧ ∀ n ∈ ns, n < 80
theorem Rise.bl (x : Nat) : Rise (bl x 80) := ⟨bl_sorted x 80, fun n hn => by
  unfold Sf.bl at hn
  rw [List.mem_filter, List.mem_range] at hn
  exact hn.1⟩
def spRising (K : PySem.W.Frag) : Sp := fun vs H Q _ => ∃ (a : Addr) (ns : List Nat) (at_ : Int), vs = [.ref a, .int at_] ∧ SqL K H a (iv ns) ∧ Rise ns ∧ Q (.int (orL ns ns.length : Nat)) H
theorem ok_rising_mask {f : Addr} {fd : FuncData} (F : Fun K "rising_mask" "rising_mask" s_rising_mask f fd) (gf : mg "rising_mask" = some (.ref f)) (B : Bl mg) (T : Txt K mg ) (h_mask_of : Has P w K mg base CX0 1 "mask_of" ["places"] (spMaskOf K)) : Has P w K mg base CX0 2 "rising_mask" ["numbers", "at"] (spRising K) := by
  refine Has.mk' F gf (F.binds (ps := ["numbers", "at"]) fun _ _ _ _ _ _ us hl => match us, hl with | [_, _], _ => rfl) sc_rising_mask (by walk_at "len") (fun cdv A outer s H vs Q E hr h => ?_)
  obtain ⟨a, ns, at_, rfl, hA, hR, q⟩ := h
  refine ⟨_, (pss_cons (ps_set (i := 2) sc_rising_mask.nd rfl (.inl rfl) (pe_un un_neg pe_int))
 (pss_cons (ps_for PassesOwn.never rfl (pi_listK K (pv 0)) (pg_name (i := 3) sc_rising_mask.nd rfl (.inl rfl)) (pss_cons (ps_if (PW.pt (pw_or (pt_cmpR op_le (pv 3) (pv 2) (nomark _)) (pw_or1 (pt_cmpR op_gt (pv 3) (pe_glob (v := .int 79) (by rfl) T.k_MOST_NUMBER.choose_spec ⟨_, rfl⟩) (nomark _))))) (pss_one ps_never) pss_nil)
 (pss_one (ps_set (i := 2) sc_rising_mask.nd rfl (.inl rfl) (pv 3)))))
 (pss_one (ps_ret (pe_fn h_mask_of (hr.mono (by decide)) (by rfl) (pa_cons (pv 0) pa_nil)))))), ?_⟩
  walk_at "sts"
  refine for_list (xs := iv ns) (fun i σ H' => ∃ (la : Int) (y : Option V), σ = [some (.ref a), some (.int at_), some (.int la), y] ∧ H' = H ∧ (∀ n ∈ ns.drop i, la < (n : Nat))) ?_ ?_ ?_ ?_
  · exact ⟨-1, _, rfl, rfl, fun n _ => by omega⟩
  · rintro i σ H' _ ⟨_, _, _, rfl, _⟩
    exact hA
  · rintro i x σ H' hx ⟨la, y, rfl, rfl, hla⟩
    have hi : i < ns.length := by
      have := (List.getElem?_eq_some_iff.mp hx).1
      rwa [iv_len] at this
    rw [iv_at hi] at hx
    injection hx with hx
    subst hx
    have ed : ns.drop i = ns.getD i 0 :: ns.drop (i + 1) := by
      rw [List.drop_eq_getElem_cons hi, List.getD_eq_getElem?_getD, List.getElem?_eq_getElem hi]; rfl
    have h1 := hla (ns.getD i 0) (by rw [ed]; exact List.mem_cons_self)
    have h2 := hR.2 (ns.getD i 0) (by rw [List.getD_eq_getElem?_getD, List.getElem?_eq_getElem hi]; exact List.getElem_mem hi)
    have h3 : ∀ n ∈ ns.drop (i + 1), ns.getD i 0 < n := by
      have := hR.1.drop (i := i)
      rw [ed] at this
      exact (List.pairwise_cons.mp this).1
    walk_at "sts"
    exact ⟨_, _, rfl, rfl, fun n hn => by have := h3 n hn; omega⟩
  rintro σ H' ⟨la, y, rfl, rfl, hla⟩
  walk_at "sts"
  exact ⟨a, ns, rfl, hA, fun x hx => Nat.lt_trans (hR.2 x hx) (by decide), q⟩
def hillW (t : Nat) (ns : List Nat) : List Nat := rowB (tL "hill") (t :: ns)
def spHillOf (K : PySem.W.Frag) : Sp := fun vs H Q _ => ∃ (t : Nat) (ns : List Nat) (at_ : Int), vs = [.str (tS (rowB (tL "hill") (t :: ns))), .int at_] ∧ 1 ≤ t ∧ t < 10 ^ 40 ∧ Rise ns ∧ ns ≠ [] ∧ ∀ p H', Same H H' → New H p → H' p = some (.tup [.int (orL ns ns.length : Nat), .int (t : Nat)]) → Q (.ref p) H'
theorem ok_hill_of {f : Addr} {fd : FuncData} (F : Fun K "hill_of" "hill_of" s_hill_of f fd) (gf : mg "hill_of" = some (.ref f)) (B : Bl mg) (T : Txt K mg ) (h_row_numbers : Has P w K mg base CX0 2 "row_numbers" ["row", "head", "at"] (spRowNums K)) (h_rising_mask : Has P w K mg base CX0 2 "rising_mask" ["numbers", "at"] (spRising K)) : Has P w K mg base CX0 3 "hill_of" ["row", "at"] (spHillOf K) := by
  refine Has.mk' F gf (F.binds (ps := ["row", "at"]) fun _ _ _ _ _ _ us hl => match us, hl with | [_, _], _ => rfl) sc_hill_of (by walk_at "len") (fun cdv A outer s H vs Q E hr h => ?_)
  obtain ⟨t, ns, at_, rfl, ht, ht2, hR, hne, q⟩ := h
  have hnl : ns.length ≤ 80 := by
    have := nodup_sub_len (ys := List.range 80) (hR.1.imp fun {a b} z => Nat.ne_of_lt z) fun x hx => List.mem_range.mpr (hR.2 x hx)
    rwa [List.length_range] at this
  have hb : ∀ n ∈ t :: ns, n < 10 ^ 40 := fun n hn => by
    rcases List.mem_cons.mp hn with rfl | hn
    · exact ht2
    · exact Nat.lt_of_lt_of_le (hR.2 n hn) (by decide)
  have hsz := rowB_len (h := tL "hill") (k := 40) (by decide) hb
  have h4 : (tL "hill").length = 4 := by decide
  rw [List.length_cons] at hsz
  have hn1 : 0 < ns.length := by
    cases ns with
    | nil => exact absurd rfl hne
    | cons => exact Nat.succ_pos _
  refine ⟨_, (pss_cons (ps_set (i := 2) sc_hill_of.nd rfl (.inl rfl) (pe_fn h_row_numbers (hr.mono (by decide)) (by rfl) (pa_cons (pv 0) (pa_cons pe_str (pa_cons (pv 1) pa_nil)))))
 (pss_cons (ps_if (PW.pt (pw_or (pt_cmpR op_lt (pe_callB (call_lenK K) (by rfl) B.len (by decide +kernel) (pa_cons (pv 2) pa_nil)) pe_int (nomark _)) (pw_or1 (pt_cmpR op_lt (pe_ix (ix_listK K) (pv 2) pe_int (fun _ _ => rfl)) pe_int (nomark _))))) (pss_one ps_never) pss_nil)
 (pss_one (ps_ret (pe_tup (pa_cons (pe_fn h_rising_mask (hr.mono (by decide)) (by rfl) (pa_cons (pe_slice (sl_listK K) (pv 2) (po_some pe_int) po_none) (pa_cons (pv 1) pa_nil))) (pa_cons (pe_ix (ix_listK K) (pv 2) pe_int (fun _ _ => rfl)) pa_nil))))))), ?_⟩
  walk_at "sts"
  rw [tL_lit]
  refine ⟨tL "hill", t :: ns, at_, rfl, by decide, by omega, hb, fun p1 H1 s1 n1 l1 => ?_⟩
  have l1s := SqL.of (K := K) l1
  have a0 : atI (iv (t :: ns)) 0 = some (.int (t : Nat)) := atI_nat (j := 0) rfl
  have hl : (iv (t :: ns)).length = ns.length + 1 := by rw [iv_len]; rfl
  walk_at "sts"
  refine w_new fun p2 n2 => ?_
  have e2 : cutV (iv (t :: ns)) (some 1) none = iv ns := cutV_from _ 1
  rw [e2]
  walk_at "sts"
  refine ⟨p2, ns, at_, rfl, SqL.of upd_same, hR, ?_⟩
  have l12 : upd H1 p2 (.lst (iv ns)) p1 = some (.lst (iv (t :: ns))) := by rw [upd_ne (ne_new l1 n2)]; exact l1
  have l12s := SqL.of (K := K) l12
  walk_at "sts"
  refine w_new fun p3 n3 => ?_
  exact q p3 _ (s1.trans ((same_upd n2).trans (same_upd n3))) ((n3.of (same_upd n2)).of s1) upd_same
def spEnded (K : PySem.W.Frag) : Sp := fun vs H Q _ => ∃ (rs : List (List Nat)), vs = [.str (tS (endL rs))] ∧ (∀ r ∈ rs, 10 ∉ r) ∧ (endL rs).length ≤ 10000000 ∧
  ∀ p pr H', Same H H' → New H p → New H pr → H' p = some (.tup [.ref pr, .bl true]) → H' pr = some (.lst (sv rs)) → Q (.ref p) H'
theorem ok_ended_rows {f : Addr} {fd : FuncData} (F : Fun K "ended_rows" "ended_rows" s_ended_rows f fd) (gf : mg "ended_rows" = some (.ref f)) (B : Bl mg) (T : Txt K mg ) : Has P w K mg base CX0 1 "ended_rows" ["text"] (spEnded K) := by
  refine Has.mk' F gf (F.binds (ps := ["text"]) fun _ _ _ _ _ _ us hl => match us, hl with | [_], _ => rfl) sc_ended_rows (by walk_at "len") (fun cdv A outer s H vs Q E hr h => ?_)
  obtain ⟨rs, rfl, h10, hsz, q⟩ := h
  refine ⟨_, (pss_cons (ps_set (i := 1) sc_ended_rows.nd rfl (.inl rfl) (pe_split (pv 0) pe_str))
 (pss_cons (ps_if (pt_cmpR op_eq (pe_ix (ix_listK K) (pv 1) (pe_un un_neg pe_int) (fun _ _ => rfl)) pe_str (nomark _)) (pss_one (ps_ret (pe_tup (pa_cons (pe_slice (sl_listK K) (pv 1) po_none (po_some (pe_un un_neg pe_int))) (pa_cons pe_bl pa_nil))))) pss_nil)
 (pss_one (ps_ret (pe_tup (pa_cons (pv 1) (pa_cons pe_bl pa_nil))))))), ?_⟩
  walk_at "sts"
  rw [tL_lit]
  refine w_m1 ?_
  walk_at "sts"
  refine w_isS ?_
  walk_at "sts"
  rw [tL_lit]
  refine w_split (by decide) (by decide) (by rw [sizeLine_eq]; omega) fun p1 n1 => ?_
  rw [show tL "\n" = [10] from rfl, endL_split h10, sv_app]
  have s1 := same_upd (o := .lst (sv rs ++ sv [[]])) n1
  have l1 : upd H p1 (.lst (sv rs ++ sv [[]])) p1 = some (.lst (sv rs ++ sv [[]])) := upd_same
  generalize upd H p1 (.lst (sv rs ++ sv [[]])) = H1 at s1 l1 ⊢
  have l1s := SqL.of (K := K) l1
  have a1 : atI (sv rs ++ sv [[]]) (-1) = some (.str (tS [])) := atI_last _ _
  walk_at "sts"
  rw [dec_lit, decide_eq_true (show ([] : List Nat) = tL "" by decide)]
  walk_at "sts"
  refine w_new fun p2 n2 => ?_
  rw [show cutV (sv rs ++ sv [[]]) none (some (-1)) = sv rs from cutV_init _ _]
  walk_at "sts"
  refine w_new fun p3 n3 => ?_
  exact q p3 p2 _ (s1.trans ((same_upd n2).trans (same_upd n3))) ((n3.of (same_upd n2)).of s1) (n2.of s1) upd_same (by rw [upd_ne (ne_new upd_same n3)]; exact upd_same)
/-- a list of pairs, known to the sign -/
def PapX (H : Hp) (pa : Addr) (ps : List (Nat × Nat)) : Prop := ∃ ts : List (Addr × Nat × Nat), (ts.map fun t => t.2) = ps ∧ H pa = some (.lst (ts.map fun t => V.ref t.1)) ∧ ∀ t ∈ ts, H t.1 = some (.tup [.int (t.2.1 : Nat), .int (t.2.2 : Nat)])
theorem PapX.dp {K : PySem.W.Frag} {H : Hp} {pa : Addr} {ps : List (Nat × Nat)} (h : PapX H pa ps) : Dp K H (.ref pa) (dPap ps) := by
  obtain ⟨ts, rfl, h2, h3⟩ := h
  exact .lst (SqL.of h2) (dpa_pairs ts fun t ht => SqT.of (h3 t ht))
theorem PapX.same {H H' : Hp} {pa : Addr} {ps : List (Nat × Nat)} (e : Same H H') (h : PapX H pa ps) : PapX H' pa ps := by
  obtain ⟨ts, h1, h2, h3⟩ := h
  exact ⟨ts, h1, e _ _ h2, fun t ht => e _ _ (h3 t ht)⟩
theorem PapX.nil {H : Hp} {pa : Addr} (h : H pa = some (.lst [])) : PapX H pa [] := ⟨[], rfl, h, fun t ht => absurd ht List.not_mem_nil⟩
theorem PapX.len {H : Hp} {pa : Addr} {ps : List (Nat × Nat)} (h : PapX H pa ps) : ∃ xs, H pa = some (.lst xs) ∧ xs.length = ps.length := by
  obtain ⟨ts, h1, h2, h3⟩ := h
  exact ⟨_, h2, by rw [← h1]; simp⟩
/-- one more pair -/
theorem PapX.put {H H' : Hp} {pa p : Addr} {ps : List (Nat × Nat)} {t : Nat × Nat} {xs : List V} (h : PapX H pa ps) (hx : H pa = some (.lst xs)) (e : Same H H') (hp : H' p = some (.tup [.int (t.1 : Nat), .int (t.2 : Nat)])) : PapX (upd H' pa (.lst (xs ++ [.ref p]))) pa (ps ++ [t]) := by
  obtain ⟨ts, h1, h2, h3⟩ := h
  rw [h2] at hx
  injection hx with hx
  injection hx with hx
  subst hx
  have hpa := e _ _ h2
  refine ⟨ts ++ [(p, t)], by rw [List.map_append, h1]; rfl, by rw [upd_same, List.map_append]; rfl, fun u hu => ?_⟩
  rcases List.mem_append.mp hu with hu | hu
  · have := e _ _ (h3 u hu)
    rw [upd_ne (fun z => by rw [z, hpa] at this; cases this)]
    exact this
  · rw [List.mem_singleton.mp hu]
    show upd H' pa _ p = _
    rw [upd_ne (fun z => by rw [z, hpa] at hp; cases hp)]
    exact hp
theorem orL_bl {x : Nat} (h : x < 2 ^ 80) : orL (bl x 80) (bl x 80).length = x := Nat.eq_of_testBit_eq fun q => by
  rw [Bool.eq_iff_iff, orL_bit _ _ _ (Nat.le_refl _), List.take_length, bl_mem h]
end

open TL
section
variable {P : Program} {w : World} {K : PySem.W.Frag} {mg : Str → Option Value} {base : Heap}
theorem hill_free : (10 : Nat) ∉ tL "hill" := by decide
theorem rowsT_free {c l : Nat} {ps : List (Nat × Nat)} : ∀ r ∈ rowsT c l ps, 10 ∉ r := by
  intro r hr
  unfold rowsT at hr
  rcases List.mem_append.mp hr with hr | hr
  · rcases List.mem_cons.mp hr with rfl | hr
    · exact rowB_free (by decide)
    · rw [List.mem_singleton.mp hr]; exact rowB_free (by decide)
  · obtain ⟨t, _, rfl⟩ := List.mem_map.mp hr
    exact rowB_free hill_free
theorem rowsT_at {c l : Nat} {ps : List (Nat × Nat)} {i : Nat} (hi : i < ps.length) : (rowsT c l ps).getD (i + 2) [] = rowB (tL "hill") ((ps.getD i (0, 0)).2 :: bl (ps.getD i (0, 0)).1 80) := by
  unfold rowsT
  rw [List.getD_eq_getElem?_getD, List.getElem?_append_right (by simp)]
  simp only [List.length_cons, List.length_nil, Nat.add_sub_cancel]
  rw [List.getElem?_map, List.getElem?_eq_getElem hi, List.getD_eq_getElem?_getD, List.getElem?_eq_getElem hi]
  rfl
theorem bl_ne {x : Nat} (h : x < 2 ^ 80) (h0 : x ≠ 0) : bl x 80 ≠ [] := fun e => by
  refine h0 (Nat.eq_of_testBit_eq fun q => ?_)
  rw [Nat.zero_testBit]
  cases hb : x.testBit q with
  | false => rfl
  | true =>
    have := (bl_mem h).mpr hb
    rw [e] at this
    cases this
def AnsOk (c l : Nat) (ps : List (Nat × Nat)) : Prop := c < 10 ^ 40 ∧ l < 2 ^ 80 ∧ (∀ t ∈ ps, t.1 < 2 ^ 80 ∧ t.1 ≠ 0 ∧ 1 ≤ t.2 ∧ t.2 < 10 ^ 40) ∧ ps.length ≤ 1000
def spTaken (K : PySem.W.Frag) : Sp := fun vs H Q _ => ∃ (c l : Nat) (ps : List (Nat × Nat)), vs = [.str (tS (shownT c l ps))] ∧ AnsOk c l ps ∧
  ∀ p pa H', Same H H' → New H p → H' p = some (.tup [.int (c : Nat), .int (l : Nat), .ref pa]) → PapX H' pa ps → Q (.ref p) H'
theorem ok_taken {f : Addr} {fd : FuncData} (F : Fun K "taken" "taken" s_taken f fd) (gf : mg "taken" = some (.ref f)) (B : Bl mg) (T : Txt K mg ) (h_ended_rows : Has P w K mg base CX0 1 "ended_rows" ["text"] (spEnded K)) (h_row_numbers : Has P w K mg base CX0 2 "row_numbers" ["row", "head", "at"] (spRowNums K)) (h_rising_mask : Has P w K mg base CX0 2 "rising_mask" ["numbers", "at"] (spRising K)) (h_hill_of : Has P w K mg base CX0 3 "hill_of" ["row", "at"] (spHillOf K)) : Has P w K mg base CX0 4 "taken" ["text"] (spTaken K) := by
  refine Has.mk' F gf (F.binds (ps := ["text"]) fun _ _ _ _ _ _ us hl => match us, hl with | [_], _ => rfl) sc_taken (by walk_at "len") (fun cdv A outer s H vs Q E hr h => ?_)
  obtain ⟨c, l, ps, rfl, ⟨hc, hl, hps, hn⟩, q⟩ := h
  have hbl := endL_len (rowsT_len (l := l) (ps := ps) (Nat.lt_trans hc (by decide)) fun t ht => Nat.lt_trans (hps t ht).2.2.2 (by decide))
  have hrl : (rowsT c l ps).length = ps.length + 2 := by unfold rowsT; simp
  rw [hrl] at hbl
  refine ⟨_, (pss_cons (ps_asg (pe_fn h_ended_rows (hr.mono (by decide)) (by rfl) (pa_cons (pv 0) pa_nil)) (pg_tupK K rfl (pgs_cons (pg_name (i := 1) sc_taken.nd rfl (.inl rfl)) (pgs_cons (pg_name (i := 2) sc_taken.nd rfl (.inl rfl)) pgs_nil))))
 (pss_cons (ps_set (i := 3) sc_taken.nd rfl (.inl rfl) (pe_callB (call_lenK K) (by rfl) B.len (by decide +kernel) (pa_cons (pv 1) pa_nil)))
 (pss_cons (ps_if (pt_not (pt_val (pv 2))) (pss_one (ps_set (i := 3) sc_taken.nd rfl (.inl rfl) (pe_op op_sub (pv 3) pe_int))) pss_nil)
 (pss_cons (ps_set (i := 4) sc_taken.nd rfl (.inl rfl) pe_int)
 (pss_cons (ps_set (i := 5) sc_taken.nd rfl (.inl rfl) pe_int)
 (pss_cons (ps_set (i := 6) sc_taken.nd rfl (.inl rfl) (pe_lst pa_nil))
 (pss_cons (ps_for PassesOwn.never rfl (pi_range1 (by rfl) B.range (pa_cons (pe_callB (call_max2 rfl) (by rfl) B.max (by decide +kernel) (pa_cons pe_int (pa_cons (pe_callB (call_lenK K) (by rfl) B.len (by decide +kernel) (pa_cons (pv 1) pa_nil)) pa_nil))) pa_nil)) (pg_name (i := 7) sc_taken.nd rfl (.inl rfl)) (pss_cons (ps_if (pt_cmpR op_ge (pv 7) (pv 3) (nomark _)) (pss_one ps_never) pss_nil)
 (pss_one (ps_if (pt_cmpR op_eq (pv 7) pe_int (nomark _)) (pss_cons (ps_set (i := 8) sc_taken.nd rfl (.inl rfl) (pe_fn h_row_numbers (hr.mono (by decide)) (by rfl) (pa_cons (pe_ix (ix_listK K) (pv 1) (pv 7) (fun _ _ => rfl)) (pa_cons pe_str (pa_cons pe_int pa_nil)))))
 (pss_cons (ps_if (pt_cmpR op_ne (pe_callB (call_lenK K) (by rfl) B.len (by decide +kernel) (pa_cons (pv 8) pa_nil)) pe_int (nomark _)) (pss_one ps_never) pss_nil)
 (pss_one (ps_set (i := 4) sc_taken.nd rfl (.inl rfl) (pe_ix (ix_listK K) (pv 8) pe_int (fun _ _ => rfl)))))) (pss_one (ps_if (pt_cmpR op_eq (pv 7) pe_int (nomark _)) (pss_one (ps_set (i := 5) sc_taken.nd rfl (.inl rfl) (pe_fn h_rising_mask (hr.mono (by decide)) (by rfl) (pa_cons (pe_fn h_row_numbers (hr.mono (by decide)) (by rfl) (pa_cons (pe_ix (ix_listK K) (pv 1) (pv 7) (fun _ _ => rfl)) (pa_cons pe_str (pa_cons pe_int pa_nil)))) (pa_cons pe_int pa_nil))))) (pss_one (ps_expr (pe_bmK K (pe_bm PySem.F.plainAttrs_list PySem.F.slot_list_append PySem.F.type_list_append mt_append (pv 6) (pa_cons (pe_fn h_hill_of (hr.mono (by decide)) (by rfl) (pa_cons (pe_ix (ix_listK K) (pv 1) (pv 7) (fun _ _ => rfl)) (pa_cons (pe_op op_add (pv 7) pe_int) pa_nil))) pa_nil)))))))))))
 (pss_one (ps_ret (pe_tup (pa_cons (pv 4) (pa_cons (pv 5) (pa_cons (pv 6) pa_nil))))))))))))), ?_⟩
  walk_at "sts"
  refine ⟨rowsT c l ps, rfl, rowsT_free, by omega, fun p pr H1 s1 np npr lp lr => ?_⟩
  have lps := SqT.of (K := K) lp
  have lrs := SqL.of (K := K) lr
  have hsl : (sv (rowsT c l ps)).length = ps.length + 2 := by rw [sv_len, hrl]
  walk_at "sts"
  refine w_new fun pa na => ?_
  walk_at "sts"
  rw [hsl]
  rw [show (if ((ps.length + 2 : Nat) : Int) > 2 then ((ps.length + 2 : Nat) : Int) else 2) = ((ps.length + 2 : Nat) : Int) by split <;> omega]
  walk_at "sts"
  refine for_r0 (n := ps.length + 2) rfl (fun i σ H' => ∃ (y7 y8 : Option V), σ = [some (.str (tS (shownT c l ps))), some (.ref pr), some (.bl true), some (.int (ps.length + 2 : Nat)), some (.int (if 1 ≤ i then c else 0 : Nat)), some (.int (if 2 ≤ i then l else 0 : Nat)), some (.ref pa), y7, y8] ∧ Same H1 H' ∧ PapX H' pa (ps.take (i - 2))) ?_ ?_ ?_
  · exact ⟨_, _, rfl, same_upd na, PapX.nil upd_same⟩
  · rintro i σ H' hi ⟨y7, y8, rfl, s2, hP⟩
    have lr2 := s2.seq lrs
    have ai := sv_at (ws := rowsT c l ps) (i := i) (by omega)
    walk_at "sts"
    refine ifd (fun h0 => ?_) (fun h0 => ?_)
    · have h0 : i = 0 := by omega
      subst h0
      walk_at "sts"
      rw [tL_lit, show (rowsT c l ps).getD 0 [] = rowB (tL "worth") [c] from rfl]
      refine ⟨tL "worth", [c], 1, rfl, by decide, ?_, by simpa using hc, fun pn H3 s3 nn ln => ?_⟩
      · have := rowB_len (h := tL "worth") (ns := [c]) (k := 40) (by decide) (by simpa using hc)
        have h5 : (tL "worth").length = 5 := by decide
        rw [List.length_singleton] at this
        omega
      have lns := SqL.of (K := K) ln
      have a0 : atI (iv [c]) 0 = some (.int (c : Nat)) := atI_nat (j := 0) rfl
      have h1 : (iv [c]).length = 1 := rfl
      walk_at "sts"
      exact ⟨_, _, rfl, s2.trans s3, hP.same s3⟩
    · walk_at "sts"
      refine ifd (fun h1 => ?_) (fun h1 => ?_)
      · have h1 : i = 1 := by omega
        subst h1
        walk_at "sts"
        rw [tL_lit, show (rowsT c l ps).getD 1 [] = rowB (tL "down") (bl l 80) from rfl]
        refine ⟨tL "down", bl l 80, 2, rfl, by decide, ?_, fun n hn => Nat.lt_of_lt_of_le ((Rise.bl l).2 n hn) (by decide), fun pn H3 s3 nn ln => ?_⟩
        · have := rowB_len (h := tL "down") (k := 41) (by decide) (bl_small l)
          have h4 : (tL "down").length = 4 := by decide
          have := bl_len l 80
          omega
        walk_at "sts"
        refine ⟨pn, bl l 80, 2, rfl, SqL.of ln, Rise.bl l, ?_⟩
        rw [orL_bl hl]
        walk_at "sts"
        exact ⟨_, _, rfl, s2.trans s3, hP.same s3⟩
      · obtain ⟨j, rfl⟩ : ∃ j, i = j + 2 := ⟨i - 2, by omega⟩
        have hj : j < ps.length := by omega
        have hm := hps _ (show ps.getD j (0, 0) ∈ ps by rw [List.getD_eq_getElem?_getD, List.getElem?_eq_getElem hj]; exact List.getElem_mem hj)
        rw [rowsT_at hj] at *
        have etk : ps.take (j + 2 + 1 - 2) = ps.take (j + 2 - 2) ++ [ps.getD j (0, 0)] := by
          rw [show j + 2 + 1 - 2 = j + 1 by omega, show j + 2 - 2 = j by omega, List.take_add_one, List.getElem?_eq_getElem hj, List.getD_eq_getElem?_getD, List.getElem?_eq_getElem hj]; rfl
        generalize ps.getD j (0, 0) = t at *
        obtain ⟨xs, hxs, hxl⟩ := hP.len
        rw [List.length_take] at hxl
        walk_at "sts"
        refine ⟨t.2, bl t.1 80, _, rfl, hm.2.2.1, hm.2.2.2, Rise.bl t.1, bl_ne hm.1 hm.2.1, fun pt H3 s3 nt lt => ?_⟩
        rw [orL_bl hm.1] at lt
        have hxs3 := s3 _ _ hxs
        have hsz : xs.length < sizeLine := szlt (by omega)
        walk_at "sts"
        refine ⟨some (.int ((j + 2 : Nat) : Int)), y8, ?_, (s2.trans s3).mut na, ?_⟩
        · rw [if_pos (show 1 ≤ j + 2 by omega), if_pos (show 2 ≤ j + 2 by omega), if_pos (show 1 ≤ j + 2 + 1 by omega), if_pos (show 2 ≤ j + 2 + 1 by omega)]
          rfl
        · rw [etk]
          exact hP.put hxs s3 lt
  · rintro σ H' ⟨y7, y8, rfl, s2, hP⟩
    rw [show ps.length + 2 - 2 = ps.length by omega, List.take_length] at hP
    rw [if_pos (by omega), if_pos (by omega)]
    walk_at "sts"
    refine w_new fun pt nt => ?_
    exact q pt pa _ (s1.trans (s2.trans (same_upd nt))) ((nt.of s2).of s1) upd_same (hP.same (same_upd nt))
end

open TL
section
variable {P : Program} {w : World} {K : PySem.W.Frag} {mg : Str → Option Value} {base : Heap}
theorem endL_app (a b : List (List Nat)) : endL (a ++ b) = endL a ++ endL b := by unfold endL; rw [List.map_append, List.flatten_append]
def spLShown (K : PySem.W.Frag) : Sp := fun vs H Q _ => ∃ (a : Addr) (c l : Nat) (ps : List (Nat × Nat)), vs = [.int c, .int l, .ref a] ∧ Dp K H (.ref a) (dPap ps) ∧ c < 10 ^ 41 ∧ l < 2 ^ 40 ∧ (∀ t ∈ ps, t.1 < 2 ^ 80 ∧ t.2 < 10 ^ 41) ∧ ps.length ≤ 1000 ∧ Q (.str (tS (shownT c l ps))) H
theorem ok_law_shown {f : Addr} {fd : FuncData} (F : Fun K "_law_shown" "_law_shown" s_law_shown f fd) (gf : mg "_law_shown" = some (.ref f)) (B : Bl mg) (T : Txt K mg ) : Has P w K mg base CX0 1 "_law_shown" ["cost", "laying", "paper"] (spLShown K) := by
  refine Has.mk' F gf (F.binds (ps := ["cost", "laying", "paper"]) fun _ _ _ _ _ _ us hl => match us, hl with | [_, _, _], _ => rfl) sc_law_shown (by walk_at "len") (fun cdv A outer s H vs Q E hr h => ?_)
  obtain ⟨a, c, l, ps, rfl, hD, hc, hl, hps, hn, q⟩ := h
  obtain ⟨xs, hpa, hxs⟩ := dpLstA hD
  have hxl : xs.length = ps.length := by have := dpaLen hxs; simpa using this
  have ew : tL "worth " = tL "worth" ++ [32] := by decide
  have ed : tL "\ndown" = 10 :: tL "down" := by decide
  have e1 : tL "\n" = [10] := by decide
  have e2 : tL " " = [32] := by decide
  have eh : tL "hill " = tL "hill" ++ [32] := by decide
  have l1 : (tL "worth ").length = 6 := by decide
  have l2 : (tL "\ndown").length = 5 := by decide
  have l3 : (tL "hill ").length = 5 := by decide
  have l4 : (tL "\n").length = 1 := by decide
  have l5 : (tL " ").length = 1 := by decide
  have hcl := numL_len (k := 41) (by decide) hc
  have base : tL "worth " ++ numL c ++ tL "\ndown" = endL [rowB (tL "worth") [c]] ++ rowB (tL "down") (bl l 0) := by
    rw [ew, ed]
    unfold rowB endL
    simp [bl]
  have bln : ∀ i, i ≤ 80 → (rowB (tL "down") (bl l i)).length ≤ 4 + 42 * 80 := fun i hi => by
    have h1 := rowB_len (h := tL "down") (ns := bl l i) (k := 41) (by decide) (fun n hn => by
      unfold bl at hn
      rw [List.mem_filter, List.mem_range] at hn
      exact Nat.lt_of_lt_of_le (Nat.lt_of_lt_of_le hn.1 hi) (by decide))
    have h2 := bl_len l i
    have h4 : (tL "down").length = 4 := by decide
    omega
  refine ⟨_, (pss_cons (ps_set (i := 3) sc_law_shown.nd rfl (.inl rfl) (pe_op op_add_str (pe_op op_add_str pe_str (pe_callTy call_str_int (by rfl) B.str (by decide +kernel) (pa_cons (pv 0) pa_nil))) pe_str))
 (pss_cons (ps_for PassesOwn.never rfl (pi_range1 (by rfl) B.range (pa_cons pe_int pa_nil)) (pg_name (i := 4) sc_law_shown.nd rfl (.inl rfl)) (pss_one (ps_if (pt_cmpR op_eq (pe_op op_and (pe_op op_shr (pv 1) (pv 4)) pe_int) pe_int (nomark _)) (pss_one (ps_set (i := 3) sc_law_shown.nd rfl (.inl rfl) (pe_op op_add_str (pe_op op_add_str (pv 3) pe_str) (pe_callTy call_str_int (by rfl) B.str (by decide +kernel) (pa_cons (pv 4) pa_nil))))) pss_nil)))
 (pss_cons (ps_set (i := 3) sc_law_shown.nd rfl (.inl rfl) (pe_op op_add_str (pv 3) pe_str))
 (pss_cons (ps_for PassesOwn.never rfl (pi_listK K (pv 2)) (pg_name (i := 5) sc_law_shown.nd rfl (.inl rfl)) (pss_cons (ps_set (i := 3) sc_law_shown.nd rfl (.inl rfl) (pe_op op_add_str (pe_op op_add_str (pv 3) pe_str) (pe_callTy call_str_int (by rfl) B.str (by decide +kernel) (pa_cons (pe_ix (ix_tupK K) (pv 5) pe_int (fun _ _ => rfl)) pa_nil))))
 (pss_cons (ps_for PassesOwn.never rfl (pi_range1 (by rfl) B.range (pa_cons pe_int pa_nil)) (pg_name (i := 6) sc_law_shown.nd rfl (.inl rfl)) (pss_one (ps_if (pt_cmpR op_eq (pe_op op_and (pe_op op_shr (pe_ix (ix_tupK K) (pv 5) pe_int (fun _ _ => rfl)) (pv 6)) pe_int) pe_int (nomark _)) (pss_one (ps_set (i := 3) sc_law_shown.nd rfl (.inl rfl) (pe_op op_add_str (pe_op op_add_str (pv 3) pe_str) (pe_callTy call_str_int (by rfl) B.str (by decide +kernel) (pa_cons (pv 6) pa_nil))))) pss_nil)))
 (pss_one (ps_set (i := 3) sc_law_shown.nd rfl (.inl rfl) (pe_op op_add_str (pv 3) pe_str))))))
 (pss_one (ps_ret (pv 3))))))), ?_⟩
  walk_at "sts"
  rw [tL_lit]
  refine ⟨log2_small (Nat.lt_trans hc (by decide +kernel)), ?_⟩
  rw [tS_num]
  refine w_2s ⟨by rw [tS_len, tS_len, sizeLine_eq]; omega, ?_⟩
  rw [tS_app]
  walk_at "sts"
  rw [tL_lit]
  refine w_2s ⟨by rw [tS_len, tS_len, List.length_append, sizeLine_eq]; omega, ?_⟩
  rw [tS_app, base]
  walk_at "sts"
  have w0 : (endL [rowB (tL "worth") [c]]).length ≤ 60 := by
    have h1 := rowB_len (h := tL "worth") (ns := [c]) (k := 41) (by decide) (by simpa using hc)
    have h5 : (tL "worth").length = 5 := by decide
    have h2 := endL_len (rs := [rowB (tL "worth") [c]]) (k := 50) (fun r hr => by rw [List.mem_singleton.mp hr, List.length_singleton] at *; omega)
    rw [List.length_singleton] at h2
    omega
  refine for_r0 (n := 40) rfl (fun i σ H' => ∃ (y4 y5 y6 : Option V), σ = [some (.int c), some (.int l), some (.ref a), some (.str (tS (endL [rowB (tL "worth") [c]] ++ rowB (tL "down") (bl l i)))), y4, y5, y6] ∧ H' = H) ?_ ?_ ?_
  · exact ⟨_, _, _, rfl, rfl⟩
  · rintro i σ H' hi ⟨y4, y5, y6, rfl, rfl⟩
    have := bln i (by omega)
    walk_at "sts"
    rw [bit_dec]
    cases hb : l.testBit i with
    | true =>
      have eb : bl l (i + 1) = bl l i ++ [i] := by rw [bl_succ, if_pos hb]
      have hi2 := numL_len (n := i) (k := 41) (by decide) (Nat.lt_of_lt_of_le hi (by decide))
      walk_at "sts"
      rw [tL_lit]
      refine w_2s ⟨by rw [tS_len, tS_len, List.length_append, sizeLine_eq]; omega, ?_⟩
      rw [tS_app]
      walk_at "sts"
      refine ⟨log2_small (Nat.lt_of_lt_of_le hi (by decide +kernel)), ?_⟩
      rw [tS_num]
      refine w_2s ⟨by rw [tS_len, tS_len, List.length_append, List.length_append, sizeLine_eq]; omega, ?_⟩
      have rt : endL [rowB (tL "worth") [c]] ++ rowB (tL "down") (bl l i) ++ [32] ++ numL i = endL [rowB (tL "worth") [c]] ++ rowB (tL "down") (bl l (i + 1)) := by
        rw [eb, rowB_snoc]
        simp only [List.append_assoc, List.singleton_append]
      rw [tS_app, e2, rt]
      walk_at "sts"
      exact ⟨_, _, _, rfl, rfl⟩
    | false =>
      have eb : bl l (i + 1) = bl l i := by rw [bl_succ, if_neg (by rw [hb]; decide)]
      walk_at "sts"
      rw [eb]
      exact ⟨_, _, _, rfl, rfl⟩
  rintro σ H ⟨y4, y5, y6, rfl, rfl⟩
  have hb40 := bln 40 (by omega)
  have e80 : bl l 40 = bl l 80 := bl_eq hl (Nat.lt_of_lt_of_le hl (Nat.pow_le_pow_right (by decide) (by decide)))
  walk_at "sts"
  rw [tL_lit]
  refine w_2s ⟨by rw [tS_len, tS_len, List.length_append, sizeLine_eq]; omega, ?_⟩
  have rr : endL [rowB (tL "worth") [c]] ++ rowB (tL "down") (bl l 80) ++ [10] = endL (rowsT c l []) := by
    unfold rowsT endL; simp
  rw [tS_app, e1, e80, rr]
  walk_at "sts"
  have hlen : ∀ i, i ≤ ps.length → (endL (rowsT c l (ps.take i))).length ≤ 4001 * 1002 := fun i hi => by
    have h1 := endL_len (rowsT_len (c := c) (l := l) (ps := ps.take i) hc fun t ht => (hps t (List.mem_of_mem_take ht)).2)
    have : (rowsT c l (ps.take i)).length = i + 2 := by unfold rowsT; simp; omega
    rw [this] at h1
    refine Nat.le_trans h1 (Nat.mul_le_mul_left _ (by omega))
  refine for_list (xs := xs) (fun i σ H' => ∃ (y4 y5 y6 : Option V), σ = [some (.int c), some (.int l), some (.ref a), some (.str (tS (endL (rowsT c l (ps.take i))))), y4, y5, y6] ∧ H' = H) ?_ ?_ ?_ ?_
  · exact ⟨_, _, _, rfl, rfl⟩
  · rintro i σ H' _ ⟨_, _, _, _, rfl⟩
    exact hpa
  · rintro i x σ H' hx ⟨y4, y5, y6, rfl, rfl⟩
    have hi : i < ps.length := by rw [← hxl]; exact (List.getElem?_eq_some_iff.mp hx).1
    obtain ⟨p, hp, ht⟩ := dpPapAt hxs hi
    rw [hp] at hx
    injection hx with hx
    subst hx
    have hlt := hps _ (show ps.getD i (0, 0) ∈ ps by rw [List.getD_eq_getElem?_getD, List.getElem?_eq_getElem hi]; exact List.getElem_mem hi)
    have etk : ps.take (i + 1) = ps.take i ++ [ps.getD i (0, 0)] := by rw [List.take_add_one, List.getElem?_eq_getElem hi, List.getD_eq_getElem?_getD, List.getElem?_eq_getElem hi]; rfl
    generalize ps.getD i (0, 0) = t at ht hlt etk
    have hli := hlen i (by omega)
    generalize hE : endL (rowsT c l (ps.take i)) = E at hli
    have htl := numL_len (k := 41) (by decide) hlt.2
    have bt : ∀ k, k ≤ 80 → (rowB (tL "hill") (t.2 :: bl t.1 k)).length ≤ 4 + 42 * 81 := fun k hk => by
      have h1 := rowB_len (h := tL "hill") (ns := t.2 :: bl t.1 k) (k := 41) (by decide) (fun n hn => by
        rcases List.mem_cons.mp hn with rfl | hn
        · exact hlt.2
        · unfold bl at hn
          rw [List.mem_filter, List.mem_range] at hn
          exact Nat.lt_of_lt_of_le (Nat.lt_of_lt_of_le hn.1 hk) (by decide))
      have h2 := bl_len t.1 k
      have h4 : (tL "hill").length = 4 := by decide
      rw [List.length_cons] at h1
      omega
    walk_at "sts"
    rw [tL_lit]
    refine w_2s ⟨by rw [tS_len, tS_len, sizeLine_eq]; omega, ?_⟩
    rw [tS_app]
    walk_at "sts"
    refine ⟨log2_small (Nat.lt_trans hlt.2 (by decide +kernel)), ?_⟩
    rw [tS_num]
    refine w_2s ⟨by rw [tS_len, tS_len, List.length_append, sizeLine_eq]; omega, ?_⟩
    have rh : E ++ tL "hill " ++ numL t.2 = E ++ rowB (tL "hill") (t.2 :: bl t.1 0) := by
      rw [eh]; unfold rowB; simp [bl]
    rw [tS_app, rh]
    walk_at "sts"
    refine for_r0 (n := 80) rfl (fun k σ H1 => ∃ (y4 y6 : Option V), σ = [some (.int c), some (.int l), some (.ref a), some (.str (tS (E ++ rowB (tL "hill") (t.2 :: bl t.1 k)))), y4, some (.ref p), y6] ∧ H1 = H') ?_ ?_ ?_
    · exact ⟨_, _, rfl, rfl⟩
    · rintro k σ H1 hk ⟨y4, y6, rfl, rfl⟩
      have := bt k (by omega)
      walk_at "sts"
      rw [bit_dec]
      cases hb : t.1.testBit k with
      | true =>
        have eb : bl t.1 (k + 1) = bl t.1 k ++ [k] := by rw [bl_succ, if_pos hb]
        have hk2 := numL_len (n := k) (k := 41) (by decide) (Nat.lt_of_lt_of_le hk (by decide))
        walk_at "sts"
        rw [tL_lit]
        refine w_2s ⟨by rw [tS_len, tS_len, List.length_append, sizeLine_eq]; omega, ?_⟩
        rw [tS_app]
        walk_at "sts"
        refine ⟨log2_small (Nat.lt_of_lt_of_le hk (by decide +kernel)), ?_⟩
        rw [tS_num]
        refine w_2s ⟨by rw [tS_len, tS_len, List.length_append, List.length_append, sizeLine_eq]; omega, ?_⟩
        have rt : E ++ rowB (tL "hill") (t.2 :: bl t.1 k) ++ [32] ++ numL k = E ++ rowB (tL "hill") (t.2 :: bl t.1 (k + 1)) := by
          rw [eb, ← List.cons_append, rowB_snoc]
          simp only [List.append_assoc, List.singleton_append]
        rw [tS_app, e2, rt]
        walk_at "sts"
        exact ⟨_, _, rfl, rfl⟩
      | false =>
        have eb : bl t.1 (k + 1) = bl t.1 k := by rw [bl_succ, if_neg (by rw [hb]; decide)]
        walk_at "sts"
        rw [eb]
        exact ⟨_, _, rfl, rfl⟩
    rintro σ H1 ⟨y4, y6, rfl, rfl⟩
    have := bt 80 (by omega)
    walk_at "sts"
    refine w_2s ⟨by rw [tS_len, tS_len, List.length_append, sizeLine_eq, List.length_singleton]; omega, ?_⟩
    have re : E ++ rowB (tL "hill") (t.2 :: bl t.1 80) ++ [10] = endL (rowsT c l (ps.take (i + 1))) := by
      rw [← hE, etk]
      unfold rowsT
      rw [List.map_append, ← List.append_assoc, List.map_cons, List.map_nil, endL_snoc]
    rw [tS_app, re]
    walk_at "sts"
    exact ⟨_, _, _, rfl, rfl⟩
  rintro σ H' ⟨y4, y5, y6, rfl, rfl⟩
  rw [hxl, List.take_length]
  walk_at "sts"
  exact q
end

theorem rgcPosN {i j c : Int} (hc : 0 < c) (hc2 : c < 1000000) (hi : 0 ≤ i) (hi2 : i < 1000000) (hj : -1000000 < j) (hj2 : j < 1000000) : ∃ n : Nat, RgC i j c n ∧ n ≤ 1000000 ∧ ∀ t : Nat, t < n ↔ i + t * c < j := by
  obtain ⟨r, hr⟩ : ∃ r, Builtin.Range.rangeSize i j c = r := ⟨_, rfl⟩
  have h1 : r = if i < j then (j - i - 1) / c + 1 else 0 := by
    rw [← hr]
    unfold Builtin.Range.rangeSize
    rw [if_pos hc]
  have h2 : 0 ≤ r ∧ r ≤ 1000000 := by
    rw [h1]
    split
    · have a := Int.ediv_nonneg (show 0 ≤ j - i - 1 by omega) (show 0 ≤ c by omega)
      have b := Int.ediv_le_self c (show 0 ≤ j - i - 1 by omega)
      omega
    · omega
  refine ⟨r.toNat, ⟨by omega, by omega, ?_, by rw [hr]; omega⟩, by omega, fun t => ?_⟩
  · unfold Builtin.Range.small
    rw [hr]
    simp only [Builtin.Range.rangeFitsLong, Bool.and_eq_true, Bool.or_eq_true, decide_eq_true_eq, beq_iff_eq, if_pos hc]
    refine ⟨⟨⟨⟨⟨?_, ?_⟩, ⟨?_, ?_⟩⟩, ⟨?_, ?_⟩⟩, ⟨?_, ?_⟩⟩, .inr ⟨?_, ?_⟩⟩ <;> omega
  · by_cases h : i < j
    · rw [if_pos h] at h1
      have e : (t : Int) ≤ (j - i - 1) / c ↔ (t : Int) * c ≤ j - i - 1 := Int.le_ediv_iff_mul_le hc
      generalize (t : Int) * c = tc at e ⊢
      omega
    · rw [if_neg h] at h1
      have : 0 ≤ (t : Int) * c := Int.mul_nonneg (by omega) (by omega)
      omega

open TL
section
variable {P : Program} {w : World} {K : PySem.W.Frag} {mg : Str → Option Value} {base : Heap}
def spTriple (K : PySem.W.Frag) : Sp := fun vs H Q _ => ∃ (p pa : Addr) (v : V) (c l : Nat) (ps : List (Nat × Nat)), vs = [.ref p, v] ∧ H p = some (.tup [.int (c : Nat), .int (l : Nat), .ref pa]) ∧ PapX H pa ps ∧ Dp K H v (dAns c l ps) ∧ ∀ H', Same H H' → Q (.bl true) H'
theorem ok_law_triple {f : Addr} {fd : FuncData} (F : Fun K "_law_triple" "_law_triple" s_law_triple f fd) (gf : mg "_law_triple" = some (.ref f)) (B : Bl mg) (T : Txt K mg ) (h_law_whole : Has P w K mg base CX0 1 "_law_whole" ["found"] spIsInt) : Has P w K mg base CX0 2 "_law_triple" ["found", "due"] (spTriple K) := by
  refine Has.mk' F gf (F.binds (ps := ["found", "due"]) fun _ _ _ _ _ _ us hl => match us, hl with | [_, _], _ => rfl) sc_law_triple (by walk_at "len") (fun cdv A outer s H vs Q E hr h => ?_)
  obtain ⟨p, pa, v, c, l, ps, rfl, hp, hP, hD, q⟩ := h
  obtain ⟨ts, rfl, hpa, hts⟩ := id hP
  have hps := SqT.of (K := K) hp
  have hpas := SqL.of (K := K) hpa
  refine ⟨_, (pss_cons (ps_if (PW.pt (pw_or (pt_not (pt_val (pe_callB (call_isiK' K) (by rfl) B.isinstance (by decide +kernel) (pa_cons (pv 0) (pa_cons (pe_bltn (v := .ty "tuple") (by rfl) B.tuple (by decide +kernel) rfl) pa_nil))))) (pw_or (pt_cmpR op_ne (pe_callB (call_lenK K) (by rfl) B.len (by decide +kernel) (pa_cons (pv 0) pa_nil)) pe_int (nomark _)) (pw_or1 (pt_not (pt_val (pe_callB (call_isiK' K) (by rfl) B.isinstance (by decide +kernel) (pa_cons (pe_ix (ix_tupK K) (pv 0) pe_int (fun _ _ => rfl)) (pa_cons (pe_bltn (v := .ty "list") (by rfl) B.list (by decide +kernel) rfl) pa_nil))))))))) (pss_one (ps_ret pe_bl)) pss_nil)
 (pss_cons (ps_if (PW.pt (pw_or (pt_not (pt_val (pe_fn h_law_whole (hr.mono (by decide)) (by rfl) (pa_cons (pe_ix (ix_tupK K) (pv 0) pe_int (fun _ _ => rfl)) pa_nil)))) (pw_or1 (pt_not (pt_val (pe_fn h_law_whole (hr.mono (by decide)) (by rfl) (pa_cons (pe_ix (ix_tupK K) (pv 0) pe_int (fun _ _ => rfl)) pa_nil))))))) (pss_one (ps_ret pe_bl)) pss_nil)
 (pss_cons (ps_for PassesOwn.never rfl (pi_listK K (pe_ix (ix_tupK K) (pv 0) pe_int (fun _ _ => rfl))) (pg_name (i := 2) sc_law_triple.nd rfl (.inl rfl)) (pss_one (ps_if (PW.pt (pw_or (pt_not (pt_val (pe_callB (call_isiK' K) (by rfl) B.isinstance (by decide +kernel) (pa_cons (pv 2) (pa_cons (pe_bltn (v := .ty "tuple") (by rfl) B.tuple (by decide +kernel) rfl) pa_nil))))) (pw_or (pt_cmpR op_ne (pe_callB (call_lenK K) (by rfl) B.len (by decide +kernel) (pa_cons (pv 2) pa_nil)) pe_int (nomark _)) (pw_or (pt_not (pt_val (pe_fn h_law_whole (hr.mono (by decide)) (by rfl) (pa_cons (pe_ix (ix_tupK K) (pv 2) pe_int (fun _ _ => rfl)) pa_nil)))) (pw_or1 (pt_not (pt_val (pe_fn h_law_whole (hr.mono (by decide)) (by rfl) (pa_cons (pe_ix (ix_tupK K) (pv 2) pe_int (fun _ _ => rfl)) pa_nil))))))))) (pss_one (ps_ret pe_bl)) pss_nil)))
 (pss_one (ps_ret (pe_cmpR (op_eqDK K hr.units) (pv 0) (pv 1) (nomark _))))))), ?_⟩
  walk_at "sts"
  refine ⟨_, rfl, ?_⟩
  walk_at "sts"
  refine ⟨_, rfl, ?_⟩
  walk_at "sts"
  refine ⟨_, rfl, ?_⟩
  walk_at "sts"
  refine for_list (xs := ts.map fun t => V.ref t.1) (fun i σ H' => ∃ y : Option V, σ = [some (.ref p), some v, y] ∧ H' = H) ?_ ?_ ?_ ?_
  · exact ⟨_, rfl, rfl⟩
  · rintro i σ H' _ ⟨_, _, rfl⟩
    exact hpas
  · rintro i x σ H' hx ⟨y, rfl, rfl⟩
    have hi : i < ts.length := by
      have := (List.getElem?_eq_some_iff.mp hx).1
      rwa [List.length_map] at this
    have ht := hts _ (List.getElem_mem hi)
    rw [List.getElem?_map, List.getElem?_eq_getElem hi] at hx
    injection hx with hx
    subst hx
    have hts2 := SqT.of (K := K) ht
    walk_at "sts"
    refine ifnd (fun h => absurd rfl h) (fun _ => ?_)
    walk_at "sts"
    refine ⟨_, rfl, ?_⟩
    walk_at "sts"
    refine ⟨_, rfl, ?_⟩
    walk_at "sts"
    exact ⟨_, rfl, rfl⟩
  rintro σ H' ⟨y, rfl, rfl⟩
  have hD2 : Dp K H' (.ref p) (dAns c l (ts.map fun t => t.2)) := .tup hps (.cons (.int _) (.cons (.int _) (.cons hP.dp .nil)))
  walk_at "sts"
  refine w_eqD hD2 hD (goodAns _ _ _) (by decide) ?_
  exact q _ (Same.refl _)
def spLPaper (K : PySem.W.Frag) : Sp := fun vs H Q _ => ∃ (a : Addr) (ns : List Int), vs = [.ref a] ∧ SqL K H a (ns.map V.int) ∧ ns.length ≤ 100 ∧ ∀ pa H' ps, Same H H' → New H pa → PapX H' pa ps → ps.length ≤ 100 → (∀ t ∈ ps, t.1 < 2 ^ 80 ∧ t.1 ≠ 0 ∧ 1 ≤ t.2 ∧ t.2 < 10 ^ 40) → Q (.ref pa) H'
theorem ok_law_paper {f : Addr} {fd : FuncData} (F : Fun K "_law_paper" "_law_paper" s_law_paper f fd) (gf : mg "_law_paper" = some (.ref f)) (B : Bl mg) (T : Txt K mg ) : Has P w K mg base CX0 1 "_law_paper" ["script"] (spLPaper K) := by
  refine Has.mk' F gf (F.binds (ps := ["script"]) fun _ _ _ _ _ _ us hl => match us, hl with | [_], _ => rfl) sc_law_paper (by walk_at "len") (fun cdv A outer s H vs Q E hr h => ?_)
  obtain ⟨a, ns, rfl, hS, hlen, q⟩ := h
  refine ⟨_, (pss_cons (ps_set (i := 1) sc_law_paper.nd rfl (.inl rfl) (pe_lst pa_nil))
 (pss_cons (ps_for PassesOwn.never rfl (pi_range3 (by rfl) B.range (pa_cons pe_int (pa_cons (pe_callB (call_min2 rfl) (by rfl) B.min (by decide +kernel) (pa_cons (pe_op op_sub (pe_callB (call_lenK K) (by rfl) B.len (by decide +kernel) (pa_cons (pv 0) pa_nil)) pe_int) (pa_cons pe_int pa_nil))) (pa_cons pe_int pa_nil)))) (pg_name (i := 2) sc_law_paper.nd rfl (.inl rfl)) (pss_cons (ps_set (i := 3) sc_law_paper.nd rfl (.inl rfl) (pe_op op_add (pe_op op_mulX (pe_op op_mod (pe_ix (ix_listK K) (pv 0) (pv 2) (fun _ _ => rfl)) (pe_op op_pow pe_int pe_int)) pe_int) (pe_op op_mulX (pe_op op_mod (pe_ix (ix_listK K) (pv 0) (pe_op op_add (pv 2) pe_int) (fun _ _ => rfl)) (pe_op op_pow pe_int pe_int)) pe_int)))
 (pss_cons (ps_set (i := 4) sc_law_paper.nd rfl (.inl rfl) (pe_op op_mod (pe_op op_xor (pv 3) (pe_op op_shr (pv 3) pe_int)) (pe_op op_shlW pe_int pe_int)))
 (pss_cutX (ps_if (pt_cmpR op_eq (pe_op op_mod (pe_ix (ix_listK K) (pv 0) (pe_op op_add (pv 2) pe_int) (fun _ _ => rfl)) pe_int) pe_int (nomark _)) (pss_one (ps_set (i := 4) sc_law_paper.nd rfl (.inl rfl) (pe_op op_mod (pe_op op_mod (pe_ix (ix_listK K) (pv 0) (pv 2) (fun _ _ => rfl)) (pe_op op_pow pe_int pe_int)) (pe_op op_shlW pe_int pe_int)))) pss_nil)
 (pss_cutX (ps_if (pt_cmpR op_eq (pv 4) pe_int (nomark _)) (pss_one (ps_set (i := 4) sc_law_paper.nd rfl (.inl rfl) (pe_op op_shlW pe_int (pe_op op_mod (pe_ix (ix_listK K) (pv 0) (pe_op op_add (pv 2) pe_int) (fun _ _ => rfl)) pe_int)))) pss_nil)
 (pss_one (ps_expr (pe_bmK K (pe_bm PySem.F.plainAttrs_list PySem.F.slot_list_append PySem.F.type_list_append mt_append (pv 1) (pa_cons (pe_tup (pa_cons (pv 4) (pa_cons (pe_op op_add pe_int (pe_op op_mod (pe_ix (ix_listK K) (pv 0) (pe_op op_add (pv 2) pe_int) (fun _ _ => rfl)) (pe_op op_sub (pe_op op_pow pe_int pe_int) pe_int))) pa_nil))) pa_nil))))))))))
 (pss_one (ps_ret (pv 1))))), ?_⟩
  walk_at "sts"
  refine w_new fun pa na => ?_
  have s0 := same_upd (o := .lst []) na
  have hS0 := s0.seq hS
  walk_at "sts"
  rw [List.length_map]
  obtain ⟨J, hJ, hJ0, hJ1⟩ : ∃ J : Int, (if (62 : Int) < ((ns.length : Nat) : Int) - 2 then (62 : Int) else ((ns.length : Nat) : Int) - 2) = J ∧ -2 ≤ J ∧ J ≤ 62 ∧ J ≤ (ns.length : Int) - 2 := by
    refine ⟨_, rfl, ?_⟩
    split <;> omega
  rw [hJ]
  clear hJ
  obtain ⟨m, hr, hm, hmt⟩ := rgcPosN (i := 2) (j := J) (c := 3) (by omega) (by omega) (by omega) (by omega) (by omega) (by omega)
  refine ⟨_, _, _, _, rfl, hr, ?_⟩
  have p12 : (10 : Int) ^ 12 = 1000000000000 := by decide
  have p30 : (10 : Int) ^ 30 = 1000000000000000000000000000000 := by decide
  have p40 : (10 : Int) ^ 40 = 10000000000000000000000000000000000000000 := by decide
  refine for_rangeC (fun i σ H' => ∃ (y2 y3 y4 : Option V) (ps : List (Nat × Nat)), σ = [some (.ref a), some (.ref pa), y2, y3, y4] ∧ Same H H' ∧ PapX H' pa ps ∧ ps.length = i ∧ (∀ t ∈ ps, t.1 < 2 ^ 80 ∧ t.1 ≠ 0 ∧ 1 ≤ t.2 ∧ t.2 < 10 ^ 40)) ?_ ?_ ?_
  · exact ⟨_, _, _, [], rfl, s0, PapX.nil upd_same, rfl, fun t ht => absurd ht List.not_mem_nil⟩
  · rintro i σ H' hi ⟨y2, y3, y4, ps, rfl, s1, hP, hpl, hps⟩
    have hlt := (hmt i).mp hi
    obtain ⟨k, hk⟩ : ∃ k : Nat, (2 : Int) + (i : Int) * 3 = (k : Nat) := ⟨2 + i * 3, by omega⟩
    rw [hk] at hlt ⊢
    have e0 : (ns.map V.int)[k]? = some (.int (ns.getD k 0)) := by
      rw [List.getElem?_map, List.getD_eq_getElem?_getD, List.getElem?_eq_getElem (by omega)]; rfl
    have e1 : atI (ns.map V.int) ((k : Int) + 1) = some (.int (ns.getD (k + 1) 0)) := by
      rw [show ((k : Int) + 1) = ((k + 1 : Nat) : Int) by omega]
      refine atI_nat ?_
      rw [List.getElem?_map, List.getD_eq_getElem?_getD, List.getElem?_eq_getElem (by omega)]; rfl
    have e2 : atI (ns.map V.int) ((k : Int) + 2) = some (.int (ns.getD (k + 2) 0)) := by
      rw [show ((k : Int) + 2) = ((k + 2 : Nat) : Int) by omega]
      refine atI_nat ?_
      rw [List.getElem?_map, List.getD_eq_getElem?_getD, List.getElem?_eq_getElem (by omega)]; rfl
    have hS1 := s1.seq hS
    generalize ns.getD k 0 = z0 at e0
    generalize ns.getD (k + 1) 0 = z1 at e1
    generalize ns.getD (k + 2) 0 = z2 at e2
    have q12 : (10 : Int) ^ Int.toNat 12 = 1000000000000 := by decide
    have q30 : (10 : Int) ^ Int.toNat 30 = 1000000000000000000000000000000 := by decide
    have q40 : (10 : Int) ^ Int.toNat 40 = 10000000000000000000000000000000000000000 := by decide
    have q80 : (1 : Int) * 2 ^ Int.toNat 80 = 1208925819614629174706176 := by decide
    have b0 : 0 ≤ z0 % 1000000000000 ∧ z0 % 1000000000000 < 1000000000000 := by omega
    have b1 : 0 ≤ z1 % 1000000000000000000000000000000 ∧ z1 % 1000000000000000000000000000000 < 1000000000000000000000000000000 := by omega
    walk_at "sts"
    rw [q12]
    walk_at "sts"
    rw [q30]
    walk_at "sts"
    obtain ⟨x, hx⟩ : ∃ x : Nat, z0 % 1000000000000 * 2654435761 + z1 % 1000000000000000000000000000000 * 40503 = (x : Nat) := ⟨(z0 % 1000000000000 * 2654435761 + z1 % 1000000000000000000000000000000 * 40503).toNat, by omega⟩
    rw [hx]
    rw [q80]
    obtain ⟨M, hM, hM2⟩ := modN (Builtin.bitXor (x : Int) ((x : Int) / 2 ^ Int.toNat 31)) (n := 1208925819614629174706176) (by decide)
    rw [show ((1208925819614629174706176 : Nat) : Int) = 1208925819614629174706176 from rfl] at hM
    rw [hM]
    dsimp only
    refine w_cut (fun σ' H2 => ∃ m : Nat, σ' = [some (.ref a), some (.ref pa), some (.int (k : Nat)), some (.int (x : Nat)), some (.int (m : Nat))] ∧ H2 = H' ∧ m < 2 ^ 80) ?_ ?_
    · walk_at "sts"
      refine ifd (fun hc => ?_) (fun hc => ?_)
      · walk_at "sts"
        rw [q30]
        obtain ⟨m, hm1, hm2⟩ := modN (z0 % 1000000000000000000000000000000) (n := 1208925819614629174706176) (by decide)
        rw [show ((1208925819614629174706176 : Nat) : Int) = 1208925819614629174706176 from rfl] at hm1
        walk_at "sts"
        rw [q80, hm1]
        exact ⟨m, rfl, rfl, hm2⟩
      · walk_at "sts"
        exact ⟨M, rfl, rfl, hM2⟩
    rintro σ' H2 ⟨m, rfl, rfl, hm⟩
    refine w_cut (fun σ' H3 => ∃ m : Nat, σ' = [some (.ref a), some (.ref pa), some (.int (k : Nat)), some (.int (x : Nat)), some (.int (m : Nat))] ∧ H3 = H2 ∧ m < 2 ^ 80 ∧ m ≠ 0) ?_ ?_
    · walk_at "sts"
      refine ifd (fun hc => ?_) (fun hc => ?_)
      · walk_at "sts"
        obtain ⟨n, hn1, hn2⟩ := modN z1 (n := 80) (by decide)
        rw [show ((80 : Nat) : Int) = 80 from rfl] at hn1
        rw [hn1]
        walk_at "sts"
        rw [shl_one]
        exact ⟨2 ^ n, rfl, rfl, Nat.pow_lt_pow_right (by decide) hn2, Nat.ne_of_gt (Nat.two_pow_pos n)⟩
      · walk_at "sts"
        exact ⟨m, rfl, rfl, hm, by omega⟩
    rintro σ' H3 ⟨m', rfl, rfl, hm', hm0⟩
    obtain ⟨xs, hxs, hxl⟩ := hP.len
    obtain ⟨t, ht1, ht2⟩ := modN z2 (n := 9999999999999999999999999999999999999999) (by decide)
    rw [show ((9999999999999999999999999999999999999999 : Nat) : Int) = 10000000000000000000000000000000000000000 - 1 from rfl] at ht1
    have hsz : xs.length < sizeLine := szlt (by omega)
    walk_at "sts"
    rw [q40]
    walk_at "sts"
    rw [ht1]
    rw [show (1 : Int) + (t : Int) = ((t + 1 : Nat) : Int) by omega]
    refine w_new fun pt nt => ?_
    have st := same_upd (o := .tup [.int (m' : Nat), .int ((t + 1 : Nat) : Int)]) nt
    have lt : upd H3 pt (.tup [.int (m' : Nat), .int ((t + 1 : Nat) : Int)]) pt = some (.tup [.int (m' : Nat), .int ((t + 1 : Nat) : Int)]) := upd_same
    generalize upd H3 pt (.tup [.int (m' : Nat), .int ((t + 1 : Nat) : Int)]) = H4 at st lt ⊢
    have hxs4 := st _ _ hxs
    walk_at "sts"
    refine ⟨_, _, _, ps ++ [(m', t + 1)], rfl, (s1.trans st).mut na, hP.put hxs st lt, by rw [List.length_append, hpl]; rfl, fun u hu => ?_⟩
    rcases List.mem_append.mp hu with hu | hu
    · exact hps u hu
    · rw [List.mem_singleton.mp hu]
      exact ⟨hm', hm0, by show 1 ≤ t + 1; omega, by show t + 1 < _; omega⟩
  · rintro σ H' ⟨y2, y3, y4, ps, rfl, s1, hP, hpl, hps⟩
    walk_at "sts"
    have hm33 : ps.length ≤ 100 := by
      rcases Nat.lt_or_ge 100 ps.length with h | h
      · have := (hmt 100).mp (by omega)
        omega
      · exact h
    exact q pa H' ps s1 na hP hm33 hps
theorem kb_ss : kitB "str" "str" = some true := by decide +kernel
theorem w_iss {K : PySem.W.Frag} {H : Hp} {Q : VK} {x : Str} {s : String} {b : Bool} (hk : kitB "str" s = some b) (h : Q (.bl b) H) : rIsi K [.str x, .ty s] H Q := ⟨_, _, _, _, b, rfl, .ty _, .base (.str _), kit_ty hk, h⟩
theorem ok_law {f : Addr} {fd : FuncData} (F : Fun K "law" "law" s_law f fd) (B : Bl mg) (T : Txt K mg ) (h_law_paper : Has P w K mg base CX0 1 "_law_paper" ["script"] (spLPaper K)) (h_shown : Has P w K mg base CX0 2 "shown" ["found"] (spShownA K)) (h_law_triple : Has P w K mg base CX0 2 "_law_triple" ["found", "due"] (spTriple K)) (h_law_cell : Has P w K mg base CX0 1 "_law_cell" ["script", "k"] (spCell K)) (h_taken : Has P w K mg base CX0 4 "taken" ["text"] (spTaken K)) (h_law_shown : Has P w K mg base CX0 1 "_law_shown" ["cost", "laying", "paper"] (spLShown K)) : FnOk P w K mg base CX0 5 f fd ["script"] (spLaw K) := by
  refine F.ok sc_law (by walk_at "len") (fun cdv A outer s H vs Q E hr h => ?_)
  obtain ⟨a, ns, rfl, hS, hlen, _, q⟩ := h
  have hS0 := hS.sq
  have q40 : (10 : Int) ^ Int.toNat 40 = 10000000000000000000000000000000000000000 := by decide
  have q30 : (10 : Int) ^ Int.toNat 30 = 1000000000000000000000000000000 := by decide
  have q4 : (1 : Int) * 2 ^ Int.toNat 40 = 1099511627776 := by decide
  refine ⟨_, (pss_cons (ps_set (i := 1) sc_law.nd rfl (.inl rfl) (pe_op op_mod (pe_fn h_law_cell (hr.mono (by decide)) (by rfl) (pa_cons (pv 0) (pa_cons pe_int pa_nil))) (pe_op op_pow pe_int pe_int)))
 (pss_cons (ps_set (i := 2) sc_law.nd rfl (.inl rfl) (pe_op op_mulX (pe_op op_mod (pe_fn h_law_cell (hr.mono (by decide)) (by rfl) (pa_cons (pv 0) (pa_cons pe_int pa_nil))) (pe_op op_pow pe_int pe_int)) pe_int))
 (pss_cons (ps_set (i := 3) sc_law.nd rfl (.inl rfl) (pe_op op_mod (pe_op op_xor (pv 2) (pe_op op_shr (pv 2) pe_int)) (pe_op op_shlW pe_int pe_int)))
 (pss_cons (ps_set (i := 4) sc_law.nd rfl (.inl rfl) (pe_fn h_law_paper (hr.mono (by decide)) (by rfl) (pa_cons (pv 0) pa_nil)))
 (pss_cons (ps_set (i := 5) sc_law.nd rfl (.inl rfl) (pe_tup (pa_cons (pv 1) (pa_cons (pv 3) (pa_cons (pe_callTy (call_listK K) (by rfl) B.list (by decide +kernel) (pa_cons (pv 4) pa_nil)) pa_nil)))))
 (pss_cons (ps_set (i := 6) sc_law.nd rfl (.inl rfl) (pe_fn h_shown (hr.mono (by decide)) (by rfl) (pa_cons (pv 5) pa_nil)))
 (pss_cons (ps_if (PW.pt (pw_or (pt_not (pt_val (pe_callB (call_isiK' K) (by rfl) B.isinstance (by decide +kernel) (pa_cons (pv 6) (pa_cons (pe_bltn (v := .ty "str") (by rfl) B.str (by decide +kernel) rfl) pa_nil))))) (pw_or (pt_cmpR op_ne (pv 6) (pe_fn h_law_shown (hr.mono (by decide)) (by rfl) (pa_cons (pv 1) (pa_cons (pv 3) (pa_cons (pv 4) pa_nil)))) (nomark _)) (pw_or1 (pt_cmpR (op_neDK K hr.units) (pe_ix (ix_tupK K) (pv 5) pe_int (fun _ _ => rfl)) (pv 4) (nomark _)))))) (pss_one (ps_ret pe_bl)) pss_nil)
 (pss_one (ps_ret (pe_fn h_law_triple (hr.mono (by decide)) (by rfl) (pa_cons (pe_fn h_taken (hr.mono (by decide)) (by rfl) (pa_cons (pv 6) pa_nil)) (pa_cons (pe_tup (pa_cons (pv 1) (pa_cons (pv 3) (pa_cons (pv 4) pa_nil)))) pa_nil)))))))))))), ?_⟩
  walk_at "sts"
  refine ⟨a, ns, 0, rfl, hS0, ?_⟩
  walk_at "sts"
  rw [q40]
  walk_at "sts"
  refine ⟨a, ns, 1, rfl, hS0, ?_⟩
  walk_at "sts"
  rw [q30]
  generalize ns.getD 0 0 = z0
  generalize ns.getD 1 0 = z1
  obtain ⟨c, hc, hc2⟩ := modN z0 (n := 10000000000000000000000000000000000000000) (by decide)
  rw [show ((10000000000000000000000000000000000000000 : Nat) : Int) = 10000000000000000000000000000000000000000 from rfl] at hc
  rw [hc]
  have b1 : 0 ≤ z1 % 1000000000000000000000000000000 ∧ z1 % 1000000000000000000000000000000 < 1000000000000000000000000000000 := by omega
  walk_at "sts"
  obtain ⟨x, hx⟩ : ∃ x : Nat, z1 % 1000000000000000000000000000000 * 2654435761 = (x : Nat) := ⟨(z1 % 1000000000000000000000000000000 * 2654435761).toNat, by omega⟩
  obtain ⟨l, hl, hl2⟩ := modN (Builtin.bitXor (x : Int) ((x : Int) / 2 ^ Int.toNat 19)) (n := 1099511627776) (by decide)
  rw [show ((1099511627776 : Nat) : Int) = 1099511627776 from rfl] at hl
  rw [hx, q4, hl]
  refine ⟨a, ns, rfl, hS0, by omega, fun pa H1 ps s1 na hP hpl hps => ?_⟩
  have hPd := hP.dp (K := K)
  obtain ⟨xs, hpa, hxs⟩ := dpLstA hPd
  walk_at "sts"
  refine w_new fun pb nb => ?_
  have hxs1 := hxs.same (same_upd (o := .lst xs) nb)
  have lb : SqL K (upd H1 pb (.lst xs)) pb xs := SqL.of upd_same
  walk_at "sts"
  refine w_new fun pt nt => ?_
  have st := same_upd (o := .tup [.int (c : Nat), .int (l : Nat), .ref pb]) nt
  have sbt := (same_upd (o := .lst xs) nb).trans st
  have hD : Dp K (upd (upd H1 pb (.lst xs)) pt (.tup [.int (c : Nat), .int (l : Nat), .ref pb])) (.ref pt) (dAns c l ps) := .tup (SqT.of upd_same) (.cons (.int _) (.cons (.int _) (.cons (.lst (st.seq lb) (hxs1.same st)) .nil)))
  have hDb : Dp K (upd (upd H1 pb (.lst xs)) pt (.tup [.int (c : Nat), .int (l : Nat), .ref pb])) (.ref pb) (dPap ps) := .lst (st.seq lb) (hxs1.same st)
  have ltT : SqT K (upd (upd H1 pb (.lst xs)) pt (.tup [.int (c : Nat), .int (l : Nat), .ref pb])) pt [.int (c : Nat), .int (l : Nat), .ref pb] := SqT.of upd_same
  generalize upd (upd H1 pb (.lst xs)) pt (.tup [.int (c : Nat), .int (l : Nat), .ref pb]) = H2 at st sbt hD hDb ltT ⊢
  have hl80 : l < 2 ^ 80 := Nat.lt_of_lt_of_le hl2 (by decide)
  have hc41 : c < 10 ^ 41 := Nat.lt_of_lt_of_le hc2 (by decide)
  have hps41 : ∀ t ∈ ps, t.1 < 2 ^ 80 ∧ t.2 < 10 ^ 41 := fun t ht => ⟨(hps t ht).1, Nat.lt_trans (hps t ht).2.2.2 (by decide)⟩
  walk_at "sts"
  refine ⟨_, c, l, ps, rfl, hD, hc41, hl80, hps41, by omega, fun H3 s3 => ?_⟩
  have hD3 := hD.same s3
  have lt3 := same_read s3 ltT
  have hPd3 := hPd.same (sbt.trans s3)
  walk_at "sts"
  refine w_iss kb_ss ?_
  walk_at "sts"
  refine ⟨pa, c, l, ps, rfl, hPd3, hc41, hl2, hps41, by omega, ?_⟩
  walk_at "sts"
  rw [decide_eq_true rfl]
  walk_at "sts"
  refine w_neD (hDb.same s3) hPd3 (goodPap ps) (by decide) ?_
  walk_at "sts"
  refine ⟨c, l, ps, rfl, ⟨hc2, hl80, hps, by omega⟩, fun p4 pa4 H4 s4 n4 l4 hP4 => ?_⟩
  have hPd4 := hPd3.same s4
  walk_at "sts"
  refine w_new fun p5 n5 => ?_
  have s5 := same_upd (o := .tup [.int (c : Nat), .int (l : Nat), .ref pa]) n5
  refine ⟨p4, pa4, .ref p5, c, l, ps, rfl, s5 _ _ l4, hP4.same s5, .tup (SqT.of upd_same) (.cons (.int _) (.cons (.int _) (.cons (hPd4.same s5) .nil))), fun H6 s6 => ?_⟩
  exact q _
end

theorem all_mk {l : PySem.W.OpenLaw} {w : World} {K : PySem.W.Frag} {h : Heap} {mg : Str → Option Value} {fa f0 f1 f2 f3 f4 f5 f6 f7 f8 f9 f10 f11 f12 f13 f14 f15  : Addr} (X : K.In h) (G : h.Ns mainGlobals mg) (hfa : mg "law" = some (.ref fa))
    {t_MOST_FIGURES t_FIGURES t_MOST_NUMBER : Tok}
    {od0 an0 od1 an1 od2 an2 od3 an3 od4 an4 od5 an5 od6 an6 od7 an7 od8 an8 od9 an9 od10 an10 od11 an11 od12 an12 od13 an13 od14 an14 od15 an15 : Option Addr} {sl0 sl1 sl2 sl3 sl4 sl5 sl6 sl7 sl8 sl9 sl10 sl11 sl12 sl13 sl14 sl15 : Array (Option Value)} {oc0 kV0 dc0 pm0 ct0 cd0 oc1 kV1 dc1 pm1 ct1 cd1 oc2 kV2 dc2 pm2 ct2 cd2 oc3 kV3 dc3 pm3 ct3 cd3 oc4 kV4 dc4 pm4 ct4 cd4 oc5 kV5 dc5 pm5 ct5 cd5 oc6 kV6 dc6 pm6 ct6 cd6 oc7 kV7 dc7 pm7 ct7 cd7 oc8 kV8 dc8 pm8 ct8 cd8 oc9 kV9 dc9 pm9 ct9 cd9 oc10 kV10 dc10 pm10 ct10 cd10 oc11 kV11 dc11 pm11 ct11 cd11 oc12 kV12 dc12 pm12 ct12 cd12 oc13 kV13 dc13 pm13 ct13 cd13 oc14 kV14 dc14 pm14 ct14 cd14 oc15 kV15 dc15 pm15 ct15 cd15 : Value}
    (a0 : PySem.W.nsIn K mainGlobals "bits" = some (some (.ref f0)))
    (l0 : K.lookup f0 = some ⟨oc0, od0, .func (PySem.W.fnOf "bits" "bits" (defArgs s_bits) (defBody s_bits) (defScope s_bits) .none kV0 dc0 pm0 an0 cd0 ct0), sl0⟩)
    (c0 : PySem.W.codeIn K cd0 "bits" = true)
    (k0 : PySem.W.keepIn K (.ref f0) = true)
    (a1 : PySem.W.nsIn K mainGlobals "mask_of" = some (some (.ref f1)))
    (l1 : K.lookup f1 = some ⟨oc1, od1, .func (PySem.W.fnOf "mask_of" "mask_of" (defArgs s_mask_of) (defBody s_mask_of) (defScope s_mask_of) .none kV1 dc1 pm1 an1 cd1 ct1), sl1⟩)
    (c1 : PySem.W.codeIn K cd1 "mask_of" = true)
    (k1 : PySem.W.keepIn K (.ref f1) = true)
    (a2 : PySem.W.nsIn K mainGlobals "words_of" = some (some (.ref f2)))
    (l2 : K.lookup f2 = some ⟨oc2, od2, .func (PySem.W.fnOf "words_of" "words_of" (defArgs s_words_of) (defBody s_words_of) (defScope s_words_of) .none kV2 dc2 pm2 an2 cd2 ct2), sl2⟩)
    (c2 : PySem.W.codeIn K cd2 "words_of" = true)
    (k2 : PySem.W.keepIn K (.ref f2) = true)
    (a3 : PySem.W.nsIn K mainGlobals "shown" = some (some (.ref f3)))
    (l3 : K.lookup f3 = some ⟨oc3, od3, .func (PySem.W.fnOf "shown" "shown" (defArgs s_shown) (defBody s_shown) (defScope s_shown) .none kV3 dc3 pm3 an3 cd3 ct3), sl3⟩)
    (c3 : PySem.W.codeIn K cd3 "shown" = true)
    (k3 : PySem.W.keepIn K (.ref f3) = true)
    (a4 : PySem.W.nsIn K mainGlobals "figure_number" = some (some (.ref f4)))
    (l4 : K.lookup f4 = some ⟨oc4, od4, .func (PySem.W.fnOf "figure_number" "figure_number" (defArgs s_figure_number) (defBody s_figure_number) (defScope s_figure_number) .none kV4 dc4 pm4 an4 cd4 ct4), sl4⟩)
    (c4 : PySem.W.codeIn K cd4 "figure_number" = true)
    (k4 : PySem.W.keepIn K (.ref f4) = true)
    (a5 : PySem.W.nsIn K mainGlobals "row_numbers" = some (some (.ref f5)))
    (l5 : K.lookup f5 = some ⟨oc5, od5, .func (PySem.W.fnOf "row_numbers" "row_numbers" (defArgs s_row_numbers) (defBody s_row_numbers) (defScope s_row_numbers) .none kV5 dc5 pm5 an5 cd5 ct5), sl5⟩)
    (c5 : PySem.W.codeIn K cd5 "row_numbers" = true)
    (k5 : PySem.W.keepIn K (.ref f5) = true)
    (a6 : PySem.W.nsIn K mainGlobals "rising_mask" = some (some (.ref f6)))
    (l6 : K.lookup f6 = some ⟨oc6, od6, .func (PySem.W.fnOf "rising_mask" "rising_mask" (defArgs s_rising_mask) (defBody s_rising_mask) (defScope s_rising_mask) .none kV6 dc6 pm6 an6 cd6 ct6), sl6⟩)
    (c6 : PySem.W.codeIn K cd6 "rising_mask" = true)
    (k6 : PySem.W.keepIn K (.ref f6) = true)
    (a7 : PySem.W.nsIn K mainGlobals "hill_of" = some (some (.ref f7)))
    (l7 : K.lookup f7 = some ⟨oc7, od7, .func (PySem.W.fnOf "hill_of" "hill_of" (defArgs s_hill_of) (defBody s_hill_of) (defScope s_hill_of) .none kV7 dc7 pm7 an7 cd7 ct7), sl7⟩)
    (c7 : PySem.W.codeIn K cd7 "hill_of" = true)
    (k7 : PySem.W.keepIn K (.ref f7) = true)
    (a8 : PySem.W.nsIn K mainGlobals "ended_rows" = some (some (.ref f8)))
    (l8 : K.lookup f8 = some ⟨oc8, od8, .func (PySem.W.fnOf "ended_rows" "ended_rows" (defArgs s_ended_rows) (defBody s_ended_rows) (defScope s_ended_rows) .none kV8 dc8 pm8 an8 cd8 ct8), sl8⟩)
    (c8 : PySem.W.codeIn K cd8 "ended_rows" = true)
    (k8 : PySem.W.keepIn K (.ref f8) = true)
    (a9 : PySem.W.nsIn K mainGlobals "taken" = some (some (.ref f9)))
    (l9 : K.lookup f9 = some ⟨oc9, od9, .func (PySem.W.fnOf "taken" "taken" (defArgs s_taken) (defBody s_taken) (defScope s_taken) .none kV9 dc9 pm9 an9 cd9 ct9), sl9⟩)
    (c9 : PySem.W.codeIn K cd9 "taken" = true)
    (k9 : PySem.W.keepIn K (.ref f9) = true)
    (a10 : PySem.W.nsIn K mainGlobals "_law_cell" = some (some (.ref f10)))
    (l10 : K.lookup f10 = some ⟨oc10, od10, .func (PySem.W.fnOf "_law_cell" "_law_cell" (defArgs s_law_cell) (defBody s_law_cell) (defScope s_law_cell) .none kV10 dc10 pm10 an10 cd10 ct10), sl10⟩)
    (c10 : PySem.W.codeIn K cd10 "_law_cell" = true)
    (k10 : PySem.W.keepIn K (.ref f10) = true)
    (a11 : PySem.W.nsIn K mainGlobals "_law_whole" = some (some (.ref f11)))
    (l11 : K.lookup f11 = some ⟨oc11, od11, .func (PySem.W.fnOf "_law_whole" "_law_whole" (defArgs s_law_whole) (defBody s_law_whole) (defScope s_law_whole) .none kV11 dc11 pm11 an11 cd11 ct11), sl11⟩)
    (c11 : PySem.W.codeIn K cd11 "_law_whole" = true)
    (k11 : PySem.W.keepIn K (.ref f11) = true)
    (a12 : PySem.W.nsIn K mainGlobals "_law_shown" = some (some (.ref f12)))
    (l12 : K.lookup f12 = some ⟨oc12, od12, .func (PySem.W.fnOf "_law_shown" "_law_shown" (defArgs s_law_shown) (defBody s_law_shown) (defScope s_law_shown) .none kV12 dc12 pm12 an12 cd12 ct12), sl12⟩)
    (c12 : PySem.W.codeIn K cd12 "_law_shown" = true)
    (k12 : PySem.W.keepIn K (.ref f12) = true)
    (a13 : PySem.W.nsIn K mainGlobals "_law_triple" = some (some (.ref f13)))
    (l13 : K.lookup f13 = some ⟨oc13, od13, .func (PySem.W.fnOf "_law_triple" "_law_triple" (defArgs s_law_triple) (defBody s_law_triple) (defScope s_law_triple) .none kV13 dc13 pm13 an13 cd13 ct13), sl13⟩)
    (c13 : PySem.W.codeIn K cd13 "_law_triple" = true)
    (k13 : PySem.W.keepIn K (.ref f13) = true)
    (a14 : PySem.W.nsIn K mainGlobals "_law_paper" = some (some (.ref f14)))
    (l14 : K.lookup f14 = some ⟨oc14, od14, .func (PySem.W.fnOf "_law_paper" "_law_paper" (defArgs s_law_paper) (defBody s_law_paper) (defScope s_law_paper) .none kV14 dc14 pm14 an14 cd14 ct14), sl14⟩)
    (c14 : PySem.W.codeIn K cd14 "_law_paper" = true)
    (k14 : PySem.W.keepIn K (.ref f14) = true)
    (a15 : PySem.W.nsIn K mainGlobals "law" = some (some (.ref f15)))
    (l15 : K.lookup f15 = some ⟨oc15, od15, .func (PySem.W.fnOf "law" "law" (defArgs s_law) (defBody s_law) (defScope s_law) .none kV15 dc15 pm15 an15 cd15 ct15), sl15⟩)
    (c15 : PySem.W.codeIn K cd15 "law" = true)
    (k15 : PySem.W.keepIn K (.ref f15) = true)
    (z_str : PySem.W.nsIn K mainGlobals "str" = some none)
    (z_int : PySem.W.nsIn K mainGlobals "int" = some none)
    (z_len : PySem.W.nsIn K mainGlobals "len" = some none)
    (z_range : PySem.W.nsIn K mainGlobals "range" = some none)
    (z_max : PySem.W.nsIn K mainGlobals "max" = some none)
    (z_isinstance : PySem.W.nsIn K mainGlobals "isinstance" = some none)
    (z_bool : PySem.W.nsIn K mainGlobals "bool" = some none)
    (z_tuple : PySem.W.nsIn K mainGlobals "tuple" = some none)
    (z_list : PySem.W.nsIn K mainGlobals "list" = some none)
    (z_min : PySem.W.nsIn K mainGlobals "min" = some none)
    (kk_MOST_FIGURES : PySem.W.nsIn K mainGlobals "MOST_FIGURES" = some (some (.int 40 t_MOST_FIGURES)))
    (kk_FIGURES : PySem.W.nsIn K mainGlobals "FIGURES" = some (some (.str "0123456789" t_FIGURES)))
    (kk_MOST_NUMBER : PySem.W.nsIn K mainGlobals "MOST_NUMBER" = some (some (.int 79 t_MOST_NUMBER)))
    : ∃ fd : FuncData, (∀ (s : Shared) (v : Value), BindsTo s fd ⟨[v], []⟩ [("script", v)]) ∧ ∀ base : Heap, K.In base → base.Ns mainGlobals mg → FnOk l.prog w K mg base CX0 5 fa fd ["script"] (spLaw K) := by
  have e := hfa.symm.trans (PySem.W.mg_of X G a15)
  cases e
  have B : Bl mg := ⟨PySem.W.mg_none_of X G z_str, PySem.W.mg_none_of X G z_int, PySem.W.mg_none_of X G z_len, PySem.W.mg_none_of X G z_range, PySem.W.mg_none_of X G z_max, PySem.W.mg_none_of X G z_isinstance, PySem.W.mg_none_of X G z_bool, PySem.W.mg_none_of X G z_tuple, PySem.W.mg_none_of X G z_list, PySem.W.mg_none_of X G z_min⟩
  have T : Txt K mg  := ⟨⟨_, PySem.W.mg_of X G kk_MOST_FIGURES⟩, ⟨_, PySem.W.mg_of X G kk_FIGURES⟩, ⟨_, PySem.W.mg_of X G kk_MOST_NUMBER⟩⟩
  refine ⟨PySem.W.fnOf "law" "law" (defArgs s_law) (defBody s_law) (defScope s_law) .none kV15 dc15 pm15 an15 cd15 ct15, fun s v => .of_eq rfl, fun base _ _ => ?_⟩
  have h_bits := ok_bits (P := l.prog) (w := w) (base := base) (fun_mk (st := s_bits) l0 c0 k0) (PySem.W.mg_of X G a0) B T 
  have h_mask_of := ok_mask_of (P := l.prog) (w := w) (base := base) (fun_mk (st := s_mask_of) l1 c1 k1) (PySem.W.mg_of X G a1) B T 
  have h_words_of := ok_words_of (P := l.prog) (w := w) (base := base) (fun_mk (st := s_words_of) l2 c2 k2) (PySem.W.mg_of X G a2) B T 
  have h_shown := ok_shown (P := l.prog) (w := w) (base := base) (fun_mk (st := s_shown) l3 c3 k3) (PySem.W.mg_of X G a3) B T h_words_of h_bits
  have h_figure_number := ok_figure_number (P := l.prog) (w := w) (base := base) (fun_mk (st := s_figure_number) l4 c4 k4) (PySem.W.mg_of X G a4) B T 
  have h_row_numbers := ok_row_numbers (P := l.prog) (w := w) (base := base) (fun_mk (st := s_row_numbers) l5 c5 k5) (PySem.W.mg_of X G a5) B T h_figure_number
  have h_rising_mask := ok_rising_mask (P := l.prog) (w := w) (base := base) (fun_mk (st := s_rising_mask) l6 c6 k6) (PySem.W.mg_of X G a6) B T h_mask_of
  have h_hill_of := ok_hill_of (P := l.prog) (w := w) (base := base) (fun_mk (st := s_hill_of) l7 c7 k7) (PySem.W.mg_of X G a7) B T h_row_numbers h_rising_mask
  have h_ended_rows := ok_ended_rows (P := l.prog) (w := w) (base := base) (fun_mk (st := s_ended_rows) l8 c8 k8) (PySem.W.mg_of X G a8) B T 
  have h_taken := ok_taken (P := l.prog) (w := w) (base := base) (fun_mk (st := s_taken) l9 c9 k9) (PySem.W.mg_of X G a9) B T h_ended_rows h_row_numbers h_rising_mask h_hill_of
  have h_law_cell := ok_law_cell (P := l.prog) (w := w) (base := base) (fun_mk (st := s_law_cell) l10 c10 k10) (PySem.W.mg_of X G a10) B T 
  have h_law_whole := ok_law_whole (P := l.prog) (w := w) (base := base) (fun_mk (st := s_law_whole) l11 c11 k11) (PySem.W.mg_of X G a11) B T 
  have h_law_shown := ok_law_shown (P := l.prog) (w := w) (base := base) (fun_mk (st := s_law_shown) l12 c12 k12) (PySem.W.mg_of X G a12) B T 
  have h_law_triple := ok_law_triple (P := l.prog) (w := w) (base := base) (fun_mk (st := s_law_triple) l13 c13 k13) (PySem.W.mg_of X G a13) B T h_law_whole
  have h_law_paper := ok_law_paper (P := l.prog) (w := w) (base := base) (fun_mk (st := s_law_paper) l14 c14 k14) (PySem.W.mg_of X G a14) B T 
  exact ok_law (P := l.prog) (w := w) (base := base) (fun_mk (st := s_law) l15 c15 k15) B T h_law_paper h_shown h_law_triple h_law_cell h_taken h_law_shown
end Sf
open PySem PySem.W PyProof.Rows
set_option maxRecDepth 100000 in
set_option maxHeartbeats 0 in
theorem PySem.Challenge.cw_spinfloor_k59_answers_as_texts_holds : PySem.Challenge.rw_spinfloor_k59_answers_as_texts.Holds := by
  w_on; o_law; k_head; (case hw => w_witness2)
  k_fill
  refine Sf.walk_ofE (l := PySem.Challenge.rw_spinfloor_k59_answers_as_texts) (n := 63) (k := 5) (sp := Sf.spLaw) rfl (by decide) rfl ⟨rfl, by decide, by decide⟩ (fun w h Y => PySem.W.kIn_of Y) ?F (fun _ _ a ns hl hb hS => ⟨a, ns, rfl, hS, hl, hb, fun _ => rfl⟩)
  case F =>
    intro w mg fa h KX G hmg
    refine' Sf.all_mk KX G hmg ?a0 ?l0 ?c0 ?k0 ?a1 ?l1 ?c1 ?k1 ?a2 ?l2 ?c2 ?k2 ?a3 ?l3 ?c3 ?k3 ?a4 ?l4 ?c4 ?k4 ?a5 ?l5 ?c5 ?k5 ?a6 ?l6 ?c6 ?k6 ?a7 ?l7 ?c7 ?k7 ?a8 ?l8 ?c8 ?k8 ?a9 ?l9 ?c9 ?k9 ?a10 ?l10 ?c10 ?k10 ?a11 ?l11 ?c11 ?k11 ?a12 ?l12 ?c12 ?k12 ?a13 ?l13 ?c13 ?k13 ?a14 ?l14 ?c14 ?k14 ?a15 ?l15 ?c15 ?k15 ?z_str ?z_int ?z_len ?z_range ?z_max ?z_isinstance ?z_bool ?z_tuple ?z_list ?z_min ?kk_MOST_FIGURES ?kk_FIGURES ?kk_MOST_NUMBER
    (case a0 => k_is); (case l0 => k_is); (case c0 => k_is); (case k0 => k_is); (case a1 => k_is); (case l1 => k_is); (case c1 => k_is); (case k1 => k_is); (case a2 => k_is); (case l2 => k_is); (case c2 => k_is); (case k2 => k_is); (case a3 => k_is); (case l3 => k_is); (case c3 => k_is); (case k3 => k_is); (case a4 => k_is); (case l4 => k_is); (case c4 => k_is); (case k4 => k_is); (case a5 => k_is); (case l5 => k_is); (case c5 => k_is); (case k5 => k_is); (case a6 => k_is); (case l6 => k_is); (case c6 => k_is); (case k6 => k_is); (case a7 => k_is); (case l7 => k_is); (case c7 => k_is); (case k7 => k_is); (case a8 => k_is); (case l8 => k_is); (case c8 => k_is); (case k8 => k_is); (case a9 => k_is); (case l9 => k_is); (case c9 => k_is); (case k9 => k_is); (case a10 => k_is); (case l10 => k_is); (case c10 => k_is); (case k10 => k_is); (case a11 => k_is); (case l11 => k_is); (case c11 => k_is); (case k11 => k_is); (case a12 => k_is); (case l12 => k_is); (case c12 => k_is); (case k12 => k_is); (case a13 => k_is); (case l13 => k_is); (case c13 => k_is); (case k13 => k_is); (case a14 => k_is); (case l14 => k_is); (case c14 => k_is); (case k14 => k_is); (case a15 => k_is); (case l15 => k_is); (case c15 => k_is); (case k15 => k_is); (case z_str => k_is); (case z_int => k_is); (case z_len => k_is); (case z_range => k_is); (case z_max => k_is); (case z_isinstance => k_is); (case z_bool => k_is); (case z_tuple => k_is); (case z_list => k_is); (case z_min => k_is); (case kk_MOST_FIGURES => k_is); (case kk_FIGURES => k_is); (case kk_MOST_NUMBER => k_is)

