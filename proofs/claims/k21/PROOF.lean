
import PyProof.Rows.All
import Wide.All
import OpenK.AllK
import Wide.FinOn
import HandS.ForMost
import HandS.Wide
import HandS.WideBits
import HandS.IsInst
import HandS.More
import HandS.EndBits
import HandS.SortInts
import KE.SortData
import HandS.TupLe
import HandS.Rev
import HandS.RevTup
import PySem.Challenge.RW_spinfloor_k21_rows_to_rooms
set_option Elab.async false
set_option linter.all false
set_option pp.deepTerms false
set_option pp.deepTerms.threshold 4
set_option maxRecDepth 100000
set_option maxHeartbeats 8000000
namespace Sf
open PySem PySem.Spec PyProof.Rows L2

/-! ### defs by name -/
structure Has (P : Program) (w : World) (K : PySem.W.Frag) (mg : Str → Option Value) (base : Heap) (CX : CXT) (k : Nat) (x : Str) (ps : List Str) (sp : Sp) : Prop where
  ex : ∃ f fd, FnOk P w K mg base CX k f fd ps sp ∧ mg x = some (.ref f) ∧ PySem.W.keepIn K (.ref f) = true ∧ Binds K fd ps []
section
variable {P : Program} {w : World} {K : PySem.W.Frag} {mg : Str → Option Value} {base : Heap} {x qual : Str} {ps N : List Str} {sp : Sp} {k : Nat}
theorem Has.mk' {st : Stmt} {f : Addr} {fd : FuncData} (F : Fun K x qual st f fd) (gf : mg x = some (.ref f)) (b : Binds K fd ps []) (S : FnScope N ps (defScope st)) (len : ∀ vs H Q E, sp vs H Q E → vs.length = ps.length)
    (hbody : ∀ (cdv : Value) (A : Around) (outer : List Env) (s : Shared) (H : Hp) (vs : List V) (Q : VK) (E : XK), Room k (A.deeper (envOfC qual (defScope st) s.heap.objs.size f cdv)) → sp vs H Q E →
      ∃ t, PSs (cxOf CX0 P w K mg base N qual (defScope st) f cdv A outer s H E).nox (defBody st) t ∧ t { nx := fun _ H' => Q .non H', rt := Q } (start N vs) H) : Has P w K mg base CX0 (k + 1) x ps sp :=
  ⟨f, fd, F.ok S len hbody, gf, F.kp, b⟩
end
section
variable {X : Cx} {k : Nat} {ps : List Str} {sp : Sp} {x : Str} {p pos : Pos} {e : Expr} {es : List Expr} {t : TA}
theorem pe_fn (h : Has X.prog X.w X.K X.mg X.base CX0 k x ps sp) (hr : Room k X.A) (hg : Gl X x) (ha : PA X (e :: es) t) (hdb : (x == ("__debug__" : Str)) = false := by decide) (he : starEach (e :: es) X.env = (false, eval e X.env) :: starEach es X.env := by rfl) (hpl : (backTo pos (starEach es X.env)).any (·.1) = false := by rfl) :
    PE X (.Call (.Name x p) (e :: es) [] pos) (tCall sp [] E0 t) := by
  obtain ⟨f, fd, F, gf, kp, b⟩ := h.ex
  exact pe_call F hr hg gf kp b .nil pass0 ha hdb he hpl
theorem pe_fn0 (h : Has X.prog X.w X.K X.mg X.base CX0 k x ps sp) (hr : Room k X.A) (hg : Gl X x) (hdb : (x == ("__debug__" : Str)) = false := by decide) :
    PE X (.Call (.Name x p) [] [] pos) (tCall sp [] E0 tNil) := by
  obtain ⟨f, fd, F, gf, kp, b⟩ := h.ex
  exact pe_call0 F hr hg gf kp b .nil pass0 hdb
end
/-! ### lists whose object is known to the sign; the sum of two -/
def LsE (K : PySem.W.Frag) (H : Hp) (a : Addr) (xs : List V) : Prop :=
  Rd H a (.lst xs) ∨ ∃ (its : List Value) (n : Nat), K.lookup a = some { cls := .type "list", data := .seq its.toArray n } ∧ Vals xs its ∧ xs.length ≤ sizeLine
theorem LsE.sq {K : PySem.W.Frag} {H : Hp} {a : Addr} {xs : List V} (h : LsE K H a xs) : SqL K H a xs := by
  rcases h with h | ⟨its, n, h1, h2, h3⟩
  · exact .inl h
  · exact .inr ⟨_, its.toArray, n, h1, rfl, rfl, rfl, by rw [List.size_toArray, ← h2.length]; exact h3, by simpa using h2⟩
theorem LsE.of {K : PySem.W.Frag} {H : Hp} {a : Addr} {xs : List V} (h : H a = some (.lst xs)) : LsE K H a xs := .inl (.inl h)
theorem LsE.same {K : PySem.W.Frag} {H H' : Hp} {a : Addr} {xs : List V} (e : Same H H') (h : LsE K H a xs) : LsE K H' a xs := by
  rcases h with (h | ⟨o, h⟩) | h
  · exact .inl (.inl (e _ _ h))
  · exact .inl (.inr ⟨o, e _ _ h⟩)
  · exact .inr h
section
variable {X : Cx}
theorem LsE.obj {pins : List (Addr × Obj)} {σ : L2.St} {H : Hp} {s : Shared} {a : Addr} {xs : List V} (I : Inv X pins σ H s) (h : LsE X.K H a xs) :
    ∃ (its : List Value) (n : Nat), Vals xs its ∧ s.heap.get? a = some { cls := .type "list", data := .seq its.toArray n } := by
  rcases h with h | ⟨its, n, h1, h2, _⟩
  · obtain ⟨_, its, n, r, e⟩ := h.ok I.hok
    exact ⟨its, n, r, e⟩
  · exact ⟨its, n, h2, I.kIn a _ h1⟩
def rCatE (K : PySem.W.Frag) : R2 := fun x y H Q => ∃ l b xs zs, x = .ref l ∧ y = .ref b ∧ LsE K H l xs ∧ LsE K H b zs ∧ xs.length + zs.length ≤ sizeLine ∧ ∀ p, H p = none → Q (.ref p) (upd H p (.lst (xs ++ zs)))
theorem op_catE : OpR X (binaryOp .Add) (rCatE X.K) := by
  intro pins s σ H x y v u Q I rx ry h
  obtain ⟨l, b, xs, zs, rfl, rfl, hl, hb, hz, q⟩ := h
  cases rx
  cases ry
  obtain ⟨ix, n, rl, el⟩ := hl.obj I
  obtain ⟨iz, m, rb, eb⟩ := hb.obj I
  refine PySem.P.add_list el eb ?_ (by simp only [List.size_toArray, ← rl.length, ← rb.length]; exact hz)
  have join : ix.toArray ++ iz.toArray = (ix ++ iz).toArray := by simp
  rw [join]
  exact ⟨.ref s.heap.objs.size, _, I.lnew (t' := s.toks) (rl.append rb) (by simpa using hz), rfl, q _ I.fresh⟩
end
/-! ### tests -/
theorem ifd {c A B : Prop} [Decidable c] (h1 : c → A) (h2 : ¬ c → B) : if decide c = true then A else B := by
  by_cases h : c
  · simp only [h, decide_true, if_true]; exact h1 h
  · simp only [h, decide_false, Bool.false_eq_true, if_false]; exact h2 h
theorem ifnd {c A B : Prop} [Decidable c] (h1 : ¬ c → A) (h2 : c → B) : if (!decide c) = true then A else B := by
  by_cases h : c
  · simp only [h, decide_true, Bool.not_true, Bool.false_eq_true, if_false]; exact h2 h
  · simp only [h, decide_false, Bool.not_false, if_true]; exact h1 h
theorem ifb {b : Bool} {A B : Prop} (h1 : b = true → A) (h2 : b = false → B) : if b = true then A else B := by
  cases b with
  | true => exact h1 rfl
  | false => exact h2 rfl
theorem ifT {b : Bool} {A B : Prop} (hb : b = true) (h : A) : if b = true then A else B := by rw [if_pos hb]; exact h
theorem ifF {b : Bool} {A B : Prop} (hb : b = false) (h : B) : if b = true then A else B := by rw [hb]; exact h
theorem int_eq {i j : Int} : (V.int i = V.int j) = (i = j) := by simp
theorem same_upd {H : Hp} {p : Addr} {o : HO} (h : H p = none) : Same H (upd H p o) := fun b x e => by
  rw [upd_ne (ne_of_none e h)]
  exact e
/-- a place that is free -/
def New (H : Hp) (p : Addr) : Prop := H p = none
theorem w_new {H : Hp} {R : Addr → Prop} (h : ∀ p, New H p → R p) : ∀ p, H p = none → R p := h
theorem ne_new {H : Hp} {a b : Addr} {o : HO} (h : H a = some o) (n : New H b) : a ≠ b := ne_of_none h n
/-- one more object over what was tracked at H -/
theorem _root_.L2.Same.new {H H' : Hp} {p : Addr} {o : HO} (e : Same H H') (h : New H' p) : Same H (upd H' p o) := e.trans (same_upd h)
theorem _root_.L2.Same.get {H H' : Hp} {p : Addr} {o : HO} (e : Same H H') (h : H p = some o) : H' p = some o := e p o h
theorem New.of {H H' : Hp} {p : Addr} (n : New H' p) (e : Same H H') : New H p := e.free n
/-- an object that H does not track is changed -/
theorem _root_.L2.Same.mut {H H' : Hp} {p : Addr} {o : HO} (e : Same H H') (h : New H p) : Same H (upd H' p o) := fun b x hb => by
  rw [upd_ne (ne_of_none hb h)]
  exact e b x hb
/-! ### isinstance of ints and bools -/
theorem kb_ii : kitB "int" "int" = some true := by decide +kernel
theorem kb_ib : kitB "int" "bool" = some false := by decide +kernel
theorem kb_bb : kitB "bool" "bool" = some true := by decide +kernel
theorem kb_bi : kitB "bool" "int" = some true := by decide +kernel
theorem kb_ll : kitB "list" "list" = some true := by decide +kernel
theorem kb_tt : kitB "tuple" "tuple" = some true := by decide +kernel
theorem kb_ni : kitB "NoneType" "int" = some false := by decide +kernel
theorem kb_nb : kitB "NoneType" "bool" = some false := by decide +kernel
theorem kb_tl : kitB "tuple" "list" = some false := by decide +kernel
theorem kb_lt : kitB "list" "tuple" = some false := by decide +kernel
/-! ### the law's end, the script's list known to the sign, its bits told -/
theorem walk_ofE {l : PySem.W.OpenLaw} {n k : Nat} {q : Program} {loose : List Str} {XP : (Str → Option Value) → Heap → Prop} {YP : World → Heap → Prop} {d : DefRec} {K : Params → PySem.W.Frag} {sp : PySem.W.Frag → Sp}
    (hn : l.most = some n) (hn2 : n ≤ sizeLine) (hdf : d.params.defaults = []) (hr : Room k callerA) (hY : ∀ (w : World) (h : Heap), YP w h → (K w.params).In h)
    (F : ∀ (w : World) (mg : Str → Option Value) (fa : Addr) (h : Heap), (K w.params).In h → h.Ns mainGlobals mg → mg d.name = some (.ref fa) →
      ∃ fd : FuncData, (∀ (s : Shared) (u : Value), BindsTo s fd ⟨[u], []⟩ [("script", u)]) ∧ ∀ base : Heap, (K w.params).In base → base.Ns mainGlobals mg → FnOk l.prog w (K w.params) mg base CX0 k fa fd ["script"] (sp (K w.params)))
    (hsp : ∀ (K : PySem.W.Frag) (H : Hp) (a : Addr) (ns : List Int), ns.length ≤ n → (∀ z ∈ ns, Builtin.Int.intBits z ≤ 1048576) → LsE K H a (ns.map V.int) → sp K [.ref a] H (fun v _ => v = .bl true) fun _ _ _ => False) :
    PySem.W.WalkO q loose XP YP l.row.toRowW d [] (fun f vs => PySem.call f vs) := by
  refine Att.attach_callB hn hdf fun w s₀ s₁ mg mb fa o pm cd doc a vs ns G Y ho hd hcd hmg hobj hints hlen hbits hg => ?_
  obtain ⟨fd, hb, hF⟩ := F w mg fa _ (hY w _ Y) G.T.g hmg
  refine law_call (hY w _ Y) G.T.g G.T.b G.T.builtins G.T.nolimit hg hobj hints (Nat.le_trans hlen hn2) hr hF hb (fun H _ hS => hsp _ H a ns hlen hbits ?_) fun _ _ _ h => h
  rcases hS with h | ⟨ob, its, m, hk, h1, h2, h3, h4, h5⟩
  · exact .inl h
  · have e := (hY w _ Y) a ob hk
    rw [hobj] at e
    cases e
    cases h3
    exact .inr ⟨vs, _, hk, by simpa using h5, by rw [List.length_map]; exact Nat.le_trans hlen hn2⟩
/-! ### bounds of operators -/
theorem cdivw_small {i j : Int} (h : 0 < j) (h2 : j < 2 ^ 200) : CDivW i j := wide_div (b := 200) h (by omega) (by decide) (by decide)
theorem nab_lt {i : Int} {a : Nat} (h1 : -(2 ^ a) < i) (h2 : i < 2 ^ a) : i.natAbs < 2 ^ a := by
  have e : ((2 ^ a : Nat) : Int) = (2 : Int) ^ a := by simp
  omega
theorem cmulx_small {i j : Int} (h1 : -(2 ^ 200) < i) (h2 : i < 2 ^ 200) (h3 : -(2 ^ 200) < j) (h4 : j < 2 ^ 200) : CMulX i j := mulx_ok (nab_lt h1 h2) (nab_lt h3 h4) (by decide)
theorem cshl_one {j : Int} (h : 0 ≤ j) (h2 : j ≤ 100000) : CShl 1 j := by
  have e : ((j.toNat : Nat) : Int) = j := Int.toNat_of_nonneg h
  rw [← e]
  exact shl_ok (n := 1) (by decide) (by omega)
theorem cshl_small {i j : Int} (h0 : -(2 ^ 200) < i) (h1 : i < 2 ^ 200) (h : 0 ≤ j) (h2 : j ≤ 100000) : CShl i j := by
  have e : ((j.toNat : Nat) : Int) = j := Int.toNat_of_nonneg h
  rw [← e]
  exact shl_ok (n := 200) (nab_lt h0 h1) (by omega)
theorem szle {α : Type} {xs : List α} (h : Nat.ble xs.length 1000 = true) : xs.length ≤ sizeLine := Nat.le_trans (Nat.le_of_ble_eq_true h) (by decide)
theorem szlt {α : Type} {xs : List α} (h : xs.length < 1000000) : xs.length < sizeLine := Nat.lt_of_lt_of_le h (by decide)
theorem atI_get {α : Type} {xs : List α} {i : Int} {j : Nat} (e : i = j) (h : j < xs.length) : atI xs i = some xs[j] := by
  subst e
  exact atI_nat (List.getElem?_eq_getElem h)
theorem atI_map {α β : Type} {f : α → β} {xs : List α} {i : Int} {j : Nat} (e : i = j) (h : j < xs.length) : atI (xs.map f) i = some (f xs[j]) := by
  subst e
  exact atI_nat (by rw [List.getElem?_map, List.getElem?_eq_getElem h]; rfl)
/-! ### the readings, one at a time -/
section
variable {σ : L2.St} {H : Hp} {Q : VK} {QT : Bool → Hp → Prop} {QA : List V → Hp → Prop} {D : Ends} {v x y z : V} {ta tb tc te tv : TE} {t u c : TT} {ts us : TS} {tl tr : TA} {r : R2} {g : TG} {gs : TGs} {i j : Nat} {m n : Int} {K : PySem.W.Frag} {a p q C dx : Addr} {f : Str} {xs ys : List V} {fs : List (Str × V)}
theorem w_seq (h : ts { D with nx := us D } σ H) : tSeq ts us D σ H := h
theorem w_next (h : D.nx σ H) : tNext D σ H := h
theorem w_var (h : ∃ v, σ[i]? = some (some v) ∧ Q v H) : tVar i σ H Q := h
theorem w_c (h : Q v H) : tC v σ H Q := h
theorem w_op (h : ta σ H fun x H1 => tb σ H1 fun y H2 => r x y H2 Q) : tOp r ta tb σ H Q := h
theorem w_un {r : V → Hp → VK → Prop} (h : ta σ H fun x H1 => r x H1 Q) : tUn r ta σ H Q := h
theorem w_rI0 {g : Int → Int → V} (h : Q (g m n) H) : rI0 g (.int m) (.int n) H Q := ⟨m, n, rfl, rfl, h⟩
theorem w_mod (h0 : 0 < n) (h : Q (.int (m % n)) H) : rI (fun _ j => 0 < j) (fun i j => .int (i % j)) (.int m) (.int n) H Q := ⟨m, n, rfl, rfl, h0, h⟩
theorem w_div (h0 : 0 < n) (h1 : n < 2 ^ 200) (h : Q (.int (m / n)) H) : rI CDivW (fun i j => .int (i / j)) (.int m) (.int n) H Q := ⟨m, n, rfl, rfl, cdivw_small h0 h1, h⟩
theorem w_shr (h0 : 0 ≤ n) (h : Q (.int (m / 2 ^ n.toNat)) H) : rI (fun _ j => 0 ≤ j) (fun i j => .int (i / 2 ^ j.toNat)) (.int m) (.int n) H Q := ⟨m, n, rfl, rfl, h0, h⟩
theorem w_mul (h1 : -(2 ^ 200) < m) (h2 : m < 2 ^ 200) (h3 : -(2 ^ 200) < n) (h4 : n < 2 ^ 200) (h : Q (.int (m * n)) H) : rI CMulX (fun i j => .int (i * j)) (.int m) (.int n) H Q := ⟨m, n, rfl, rfl, cmulx_small h1 h2 h3 h4, h⟩
theorem w_shl1 (h1 : 0 ≤ n) (h2 : n ≤ 100000) (h : Q (.int (1 * 2 ^ n.toNat)) H) : rI CShl (fun i j => .int (i * 2 ^ j.toNat)) (.int 1) (.int n) H Q := ⟨1, n, rfl, rfl, cshl_one h1 h2, h⟩
theorem w_shl (h1 : -(2 ^ 200) < m) (h2 : m < 2 ^ 200) (h3 : 0 ≤ n) (h4 : n ≤ 100000) (h : Q (.int (m * 2 ^ n.toNat)) H) : rI CShl (fun i j => .int (i * 2 ^ j.toNat)) (.int m) (.int n) H Q := ⟨m, n, rfl, rfl, cshl_small h1 h2 h3 h4, h⟩
theorem w_pow (h0 : CPow m n) (h : Q (.int (m ^ n.toNat)) H) : rI CPow (fun i j => .int (i ^ j.toNat)) (.int m) (.int n) H Q := ⟨m, n, rfl, rfl, h0, h⟩
theorem w_rU {g : Int → V} (h : Q (g m) H) : rU g (.int m) H Q := ⟨m, rfl, h⟩
theorem dec_ii : decide (V.int m = V.int n) = decide (m = n) := by
  by_cases h : m = n
  · rw [h]; simp
  · simp [h]
theorem dec_bb {a b : Bool} : decide (V.bl a = V.bl b) = decide (a = b) := by cases a <;> cases b <;> decide
theorem dec_ss {a b : Str} : decide (V.str a = V.str b) = decide (a = b) := by
  by_cases h : a = b
  · rw [h]; simp
  · simp [h]
theorem w_eqI (h : Q (.bl (decide (m = n))) H) : rEq (.int m) (.int n) H Q := ⟨rfl, by rw [dec_ii]; exact h⟩
theorem w_eqB {a b : Bool} (h : Q (.bl (decide (a = b))) H) : rEq (.bl a) (.bl b) H Q := ⟨rfl, by rw [dec_bb]; exact h⟩
theorem w_eqS {a b : Str} (h : Q (.bl (decide (a = b))) H) : rEq (.str a) (.str b) H Q := ⟨rfl, by rw [dec_ss]; exact h⟩
theorem w_eqNI (h : Q (.bl false) H) : rEq .non (.int n) H Q := ⟨rfl, by rw [decide_eq_false (by simp)]; exact h⟩
theorem w_eqIN (h : Q (.bl false) H) : rEq (.int n) .non H Q := ⟨rfl, by rw [decide_eq_false (by simp)]; exact h⟩
theorem w_neI (h : Q (.bl (!decide (m = n))) H) : rNe (.int m) (.int n) H Q := ⟨rfl, by rw [dec_ii]; exact h⟩
theorem w_neB {a b : Bool} (h : Q (.bl (!decide (a = b))) H) : rNe (.bl a) (.bl b) H Q := ⟨rfl, by rw [dec_bb]; exact h⟩
theorem w_neS {a b : Str} (h : Q (.bl (!decide (a = b))) H) : rNe (.str a) (.str b) H Q := ⟨rfl, by rw [dec_ss]; exact h⟩
theorem w_ixL (hs : SqL K H p xs) (ha : atI xs m = some v) (h : Q v H) : rIxL K (.ref p) (.int m) H Q := ⟨p, xs, m, v, rfl, rfl, hs, ha, h⟩
theorem w_ixT (hs : SqT K H p xs) (ha : atI xs m = some v) (h : Q v H) : rIxT K (.ref p) (.int m) H Q := ⟨p, xs, m, v, rfl, rfl, hs, ha, h⟩
theorem w_ixl (hs : SqL K H p xs) (ha : atI xs m = some v) (h : Q v H) : rIx K (.ref p) (.int m) H Q := .inl ⟨p, xs, m, v, rfl, rfl, hs, ha, h⟩
theorem w_ixt (hs : SqT K H p xs) (ha : atI xs m = some v) (h : Q v H) : rIx K (.ref p) (.int m) H Q := .inr (.inl ⟨p, xs, m, v, rfl, rfl, hs, ha, h⟩)
theorem w_catE (h1 : LsE K H p xs) (h2 : LsE K H q ys) (hz : xs.length + ys.length ≤ sizeLine) (h : ∀ p, H p = none → Q (.ref p) (upd H p (.lst (xs ++ ys)))) : rCatE K (.ref p) (.ref q) H Q := ⟨p, q, xs, ys, rfl, rfl, h1, h2, hz, h⟩
theorem w_rep (h1 : H p = some (.lst xs)) (h2 : -(2 ^ 63) ≤ n) (h3 : n < 2 ^ 63) (h4 : xs.length * n.toNat ≤ sizeLine) (h : ∀ p, H p = none → Q (.ref p) (upd H p (.lst (List.replicate n.toNat xs).flatten))) : rRep (.ref p) (.int n) H Q := ⟨p, n, xs, rfl, rfl, h1, h2, h3, h4, h⟩
theorem w_test (h : te σ H fun x H' => ∃ k, x = .bl k ∧ QT k H') : tTest te σ H QT := h
theorem w_tB (h : te σ H fun x H' => ∃ k, x = .bl k ∧ QT k H') : tB te σ H QT := h
theorem w_bl {b : Bool} {R : Bool → Prop} (h : R b) : ∃ k, V.bl b = .bl k ∧ R k := ⟨b, rfl, h⟩
theorem w_and (h : t σ H fun c H1 => if c = true then u σ H1 QT else QT false H1) : tAnd t u σ H QT := h
theorem w_or (h : t σ H fun c H1 => if c = true then QT true H1 else u σ H1 QT) : tOr t u σ H QT := h
theorem w_not (h : t σ H fun c H1 => QT (!c) H1) : tNot t σ H QT := h
theorem w_andV (h : ta σ H fun x H1 => ∃ c, x = .bl c ∧ if c = true then tb σ H1 Q else Q (.bl false) H1) : tAndV ta tb σ H Q := h
theorem w_orV (h : ta σ H fun x H1 => ∃ c, x = .bl c ∧ if c = true then Q (.bl true) H1 else tb σ H1 Q) : tOrV ta tb σ H Q := h
theorem w_notV (h : ta σ H fun x H1 => ∃ c, x = .bl c ∧ Q (.bl (!c)) H1) : tNotV ta σ H Q := h
theorem w_ifE (h : t σ H fun c H1 => if c = true then ta σ H1 Q else tb σ H1 Q) : tIf t ta tb σ H Q := h
theorem w_asg (h : te σ H fun x H1 => g x σ H1 D.nx) : tAsg te g D σ H := h
theorem w_gn {R : L2.St → Hp → Prop} (h : R (σ.set i (some v)) H) : gName i v σ H R := h
theorem w_gt {R : L2.St → Hp → Prop} {k : Nat} (hs : SqT K H p xs) (hl : xs.length = k) (h : gs xs σ H R) : gTup K k gs (.ref p) σ H R := ⟨p, xs, rfl, hs, hl, h⟩
theorem w_gc {R : L2.St → Hp → Prop} (h : g v σ H fun σ' H' => gs xs σ' H' R) : gCons g gs (v :: xs) σ H R := ⟨v, xs, rfl, h⟩
theorem w_g0 {R : L2.St → Hp → Prop} (h : R σ H) : gNil [] σ H R := ⟨rfl, h⟩
theorem w_gs {R : L2.St → Hp → Prop} {tt : TSet} (h : ta σ H fun o H1 => tb σ H1 fun i H2 => tt o i v H2 fun H3 => R σ H3) : gSub ta tb tt v σ H R := h
theorem w_setL {R : Hp → Prop} (hp : H p = some (.lst xs)) (hj : ixN xs.length m = some j) (h : R (upd H p (.lst (xs.set j v)))) : rSetL (.ref p) (.int m) v H R := ⟨p, xs, m, j, rfl, rfl, hp, hj, h⟩
theorem w_drop (h : te σ H fun _ H1 => D.nx σ H1) : tDrop te D σ H := h
theorem w_ret (h : te σ H D.rt) : tRet te D σ H := h
theorem w_retN (h : D.rt .non H) : tRetN D σ H := h
theorem w_if (h : t σ H fun b H1 => if b = true then ts D σ H1 else us D σ H1) : tIfS t ts us D σ H := h
theorem w_break (h : D.bk σ H) : tBreak D σ H := h
theorem w_cont (h : D.ct σ H) : tCont D σ H := h
theorem w_aug {ti : TIp} (h : ∃ x, σ[i]? = some (some x) ∧ te σ H fun y H1 => ti x y H1 fun z H2 => D.nx (σ.set i (some z)) H2) : tAug i te ti D σ H := h
theorem w_ip {f : Int → Int → Int} (h : Q (.int (f m n)) H) : ipI f (.int m) (.int n) H Q := ⟨m, n, rfl, rfl, h⟩
theorem w_par (h : tl σ H fun vs H1 => ∃ v w, vs = [v, w] ∧ D.nx ((σ.set i (some v)).set j (some w)) H1) : tPar i j tl D σ H := h
theorem w_par2 {R : V → V → Prop} (h : R v x) : ∃ a b, [v, x] = [a, b] ∧ R a b := ⟨v, x, rfl, h⟩
theorem w_nil (h : QA [] H) : tNil σ H QA := h
theorem w_cons (h : ta σ H fun x H1 => tl σ H1 fun xs H2 => QA (x :: xs) H2) : tCons ta tl σ H QA := h
theorem w_call {sp : Sp} {E : XK} (h : tl σ H fun vs H1 => sp vs H1 Q E) : tCall sp [] E tl σ H Q := by
  unfold tCall
  simp only [List.append_nil]
  exact h
theorem w_cb {r : List V → Hp → VK → Prop} (h : tl σ H fun vs H1 => r vs H1 Q) : tCB r tl σ H Q := h
theorem w_tup (h : tl σ H fun xs H1 => xs.length ≤ sizeLine ∧ ∀ p, H1 p = none → Q (.ref p) (upd H1 p (.tup xs))) : tTup tl σ H Q := h
theorem w_lst (h : tl σ H fun xs H1 => xs.length ≤ sizeLine ∧ ∀ p, H1 p = none → Q (.ref p) (upd H1 p (.lst xs))) : tLst tl σ H Q := h
theorem w_sl {r : V → Option Int → Option Int → Hp → VK → Prop} {to tu : TO} (h : te σ H fun x H1 => to σ H1 fun l H2 => tu σ H2 fun u H3 => r x l u H3 Q) : tSl r te to tu σ H Q := h
theorem w_np {R : Option Int → Hp → Prop} (h : R none H) : tNoPart σ H R := h
theorem w_part {R : Option Int → Hp → Prop} (h : te σ H fun x H1 => ∃ i, x = .int i ∧ R (some i) H1) : tPart te σ H R := h
theorem w_partI {R : Int → Prop} (h : R m) : ∃ i, V.int m = .int i ∧ R i := ⟨m, rfl, h⟩
theorem w_slL {lo hi : Option Int} (hs : SqL K H p xs) (h : ∀ q, H q = none → Q (.ref q) (upd H q (.lst (cutV xs lo hi)))) : rSlL K (.ref p) lo hi H Q := ⟨p, xs, rfl, hs, h⟩
theorem w_bm {T : String} {r : V → List V → Hp → VK → Prop} (h : ta σ H fun x H1 => tyV K T x H1 ∧ tl σ H1 fun xs H2 => r x xs H2 Q) : tBM K T r ta tl σ H Q := h
theorem w_bm0 {T : String} {r : V → List V → Hp → VK → Prop} (h : ta σ H fun x H1 => tyV K T x H1 ∧ r x [] H1 Q) : tBM0 K T r ta σ H Q := h
theorem w_tyl {R : Prop} (hs : SqL K H p xs) (h : R) : tyV K "list" (.ref p) H ∧ R := ⟨.inl ⟨rfl, xs, hs⟩, h⟩
theorem w_app (hp : H p = some (.lst xs)) (hl : xs.length < sizeLine) (h : Q .non (upd H p (.lst (xs ++ [v])))) : rAppend (.ref p) [v] H Q := ⟨p, xs, v, rfl, rfl, hp, hl, h⟩
theorem w_rev (hp : H p = some (.lst xs)) (h : Q .non (upd H p (.lst xs.reverse))) : rReverse (.ref p) [] H Q := ⟨p, xs, rfl, rfl, hp, h⟩
theorem w_len {R : List V → Prop} (hs : SqL K H p xs) (h : R xs) : ∃ p' ys, [V.ref p] = [.ref p'] ∧ (SqL K H p' ys ∨ SqT K H p' ys) ∧ R ys := ⟨p, xs, rfl, .inl hs, h⟩
theorem w_lenT {R : List V → Prop} (hs : SqT K H p xs) (h : R xs) : ∃ p' ys, [V.ref p] = [.ref p'] ∧ (SqL K H p' ys ∨ SqT K H p' ys) ∧ R ys := ⟨p, xs, rfl, .inr hs, h⟩
theorem w_isi {s : String} {b : Bool} (hk : kitB "int" s = some b) (h : Q (.bl b) H) : rIsi K [.int m, .ty s] H Q := ⟨_, _, _, _, b, rfl, .ty _, .base (.int _), kit_ty hk, h⟩
theorem w_isb {k : Bool} {s : String} {b : Bool} (hk : kitB "bool" s = some b) (h : Q (.bl b) H) : rIsi K [.bl k, .ty s] H Q := ⟨_, _, _, _, b, rfl, .ty _, .base (.bl _), kit_ty hk, h⟩
theorem w_isn {s : String} {b : Bool} (hk : kitB "NoneType" s = some b) (h : Q (.bl b) H) : rIsi K [.non, .ty s] H Q := ⟨_, _, _, _, b, rfl, .ty _, .base .non, kit_ty hk, h⟩
theorem w_isl {s : String} {b : Bool} (hp : H p = some (.lst xs)) (hk : kitB "list" s = some b) (h : Q (.bl b) H) : rIsi K [.ref p, .ty s] H Q := ⟨_, _, _, _, b, rfl, .ty _, .base (.lst hp), kit_ty hk, h⟩
theorem w_ist {s : String} {b : Bool} (hp : H p = some (.tup xs)) (hk : kitB "tuple" s = some b) (h : Q (.bl b) H) : rIsi K [.ref p, .ty s] H Q := ⟨_, _, _, _, b, rfl, .ty _, .base (.tup hp), kit_ty hk, h⟩
theorem w_2i {R : Int → Int → Prop} (h : R m n) : ∃ i j, [V.int m, V.int n] = [.int i, .int j] ∧ R i j := ⟨m, n, rfl, h⟩
theorem w_1i {R : Int → Prop} (h : R m) : ∃ i, [V.int m] = [.int i] ∧ R i := ⟨m, rfl, h⟩
theorem w_int1 {R : Int → Prop} {S : Prop} (h : R m) : (∃ i, [V.int m] = [.int i] ∧ R i) ∨ S := .inl ⟨m, rfl, h⟩
theorem w_intb {b : Bool} {R : Bool → Prop} {S : Prop} (h : R b) : S ∨ ∃ k, [V.bl b] = [.bl k] ∧ R k := .inr ⟨b, rfl, h⟩
theorem w_isN {R : Prop} (h : R) : V.non = .non ∧ R := ⟨rfl, h⟩
theorem w_fld {v : V} {R : V → Prop} (hp : H p = some (.ins C dx fs)) (hc : Cls K C) (hn : NoAttr K C f) (hl : fs.lookup f = some v) (h : R v) : ∃ a C' dx' fs' v', V.ref p = .ref a ∧ H a = some (.ins C' dx' fs') ∧ Cls K C' ∧ NoAttr K C' f ∧ fs'.lookup f = some v' ∧ R v' := ⟨p, C, dx, fs, v, rfl, hp, hc, hn, hl, h⟩
theorem w_fl (h : ta σ H fun x H1 => ∃ a C dx fs v, x = .ref a ∧ H1 a = some (.ins C dx fs) ∧ Cls K C ∧ NoAttr K C f ∧ fs.lookup f = some v ∧ Q v H1) : tFld K ta f σ H Q := h
theorem w_for {wi : TI} {tu : TS} (h : wi σ H fun J H1 => ∃ W : Nat → Nat → L2.St → Hp → Prop, (∃ m, W 0 m σ H1) ∧ ∀ i m σ H, W i m σ H →
  (J.stop i H ∧ D.nx σ H) ∨ (J.go i H ∧ ∃ N : L2.St → Hp → Prop, (∀ σ' H', N σ' H' → ∃ m', m' < m ∧ W (i + 1) m' σ' H') ∧ ∀ x H', J.yld i H x H' → g x σ H' fun σ2 H2 => tu { D with nx := N, ct := N, bk := D.nx } σ2 H2)) : tFor wi g tu D σ H := h
theorem w_iL {R : It → Hp → Prop} (h : te σ H fun x H1 => ∃ a, x = .ref a ∧ (∃ xs, SqL K H1 a xs) ∧ R (Itl K a) H1) : iList K te σ H R := h
theorem w_iLq {R : Addr → Prop} (hs : SqL K H p xs) (h : R p) : ∃ a, V.ref p = .ref a ∧ (∃ xs, SqL K H a xs) ∧ R a := ⟨p, rfl, ⟨xs, hs⟩, h⟩
theorem w_iTu {R : It → Hp → Prop} (h : te σ H fun x H1 => ∃ a, x = .ref a ∧ (∃ xs, SqT K H1 a xs) ∧ R (Itt K a) H1) : iTup K te σ H R := h
theorem w_iTq {R : Addr → Prop} (hs : SqT K H p xs) (h : R p) : ∃ a, V.ref p = .ref a ∧ (∃ xs, SqT K H a xs) ∧ R a := ⟨p, rfl, ⟨xs, hs⟩, h⟩
theorem w_r1 {R : It → Hp → Prop} (h : tl σ H fun vs H1 => ∃ j : Int, vs = [.int j] ∧ -(2 ^ 62) ≤ j ∧ j < 2 ^ 62 ∧ R (Itr 0 j.toNat) H1) : iRng1 tl σ H R := h
theorem w_r1q {R : Int → Prop} (h1 : -(2 ^ 62) ≤ m) (h2 : m < 2 ^ 62) (h : R m) : ∃ j : Int, [V.int m] = [.int j] ∧ -(2 ^ 62) ≤ j ∧ j < 2 ^ 62 ∧ R j := ⟨m, rfl, h1, h2, h⟩
theorem w_r2 {R : It → Hp → Prop} (h : tl σ H fun vs H1 => ∃ i j : Int, vs = [.int i, .int j] ∧ (-(2 ^ 62) ≤ i ∧ i < 2 ^ 62 ∧ -(2 ^ 62) ≤ j ∧ j < 2 ^ 62) ∧ R (Itr i (j - i).toNat) H1) : iRng2 tl σ H R := h
theorem w_r2q {R : Int → Int → Prop} (h1 : -(2 ^ 62) ≤ m) (h2 : m < 2 ^ 62) (h3 : -(2 ^ 62) ≤ n) (h4 : n < 2 ^ 62) (h : R m n) : ∃ i j : Int, [V.int m, V.int n] = [.int i, .int j] ∧ (-(2 ^ 62) ≤ i ∧ i < 2 ^ 62 ∧ -(2 ^ 62) ≤ j ∧ j < 2 ^ 62) ∧ R i j := ⟨m, n, rfl, ⟨h1, h2, h3, h4⟩, h⟩
theorem w_len1 {R : Prop} (hl : Nat.ble xs.length 1000 = true) (h : R) : xs.length ≤ sizeLine ∧ R := ⟨szle hl, h⟩
end
theorem same_read {K : PySem.W.Frag} {H H' : Hp} {a : Addr} {xs : List V} (e : Same H H') (h : SqT K H a xs) : SqT K H' a xs := by
  rcases h with (h | ⟨o, h⟩) | h
  · exact .inl (.inl (e _ _ h))
  · exact .inl (.inr ⟨o, e _ _ h⟩)
  · exact .inr h
theorem w_iT {A B : Prop} (h : A) : if true = true then A else B := by rw [if_pos rfl]; exact h
theorem w_iF {A B : Prop} (h : B) : if false = true then A else B := by rw [if_neg Bool.false_ne_true]; exact h
theorem w_iNT {A B : Prop} (h : B) : if (!true) = true then A else B := by rw [Bool.not_true, if_neg Bool.false_ne_true]; exact h
theorem w_iNF {A B : Prop} (h : A) : if (!false) = true then A else B := by rw [Bool.not_false, if_pos rfl]; exact h
theorem w_iNN {A B : Prop} {b : Bool} (h : if b = true then A else B) : if (!!b) = true then A else B := by rw [Bool.not_not]; exact h

/-! ### data -/
mutual
theorem dpSame {K : PySem.W.Frag} {H H' : Hp} (e : Same H H') : ∀ (d : PyData) (v : V), Dp K H v d → Dp K H' v d
  | .none, _, h => by cases h; exact .non
  | .bool _, _, h => by cases h; exact .bl _
  | .int _, _, h => by cases h; exact .int _
  | .str _, _, h => by cases h; exact .str _
  | .list ds, _, h => by
    cases h with
    | lst hs ha => exact .lst (e.seq hs) (dpSameAll e ds _ ha)
  | .tuple ds, _, h => by
    cases h with
    | tup hs ha => exact .tup (same_read e hs) (dpSameAll e ds _ ha)
  | .dict _, _, h => by cases h
theorem dpSameAll {K : PySem.W.Frag} {H H' : Hp} (e : Same H H') : ∀ (ds : List PyData) (xs : List V), DpAll K H xs ds → DpAll K H' xs ds
  | [], _, h => by cases h; exact .nil
  | d :: ds, _, h => by
    cases h with
    | cons h1 h2 => exact .cons (dpSame e d _ h1) (dpSameAll e ds _ h2)
end
section
variable {K : PySem.W.Frag} {H H' : Hp} {xs ys : List V} {ds es : List PyData} {v : V} {d : PyData} {a : Addr}
theorem _root_.L2.Dp.same (e : Same H H') (h : Dp K H v d) : Dp K H' v d := dpSame e d v h
theorem _root_.L2.DpAll.same (e : Same H H') (h : DpAll K H xs ds) : DpAll K H' xs ds := dpSameAll e ds xs h
theorem dpaLen : ∀ {xs : List V} {ds : List PyData}, DpAll K H xs ds → xs.length = ds.length
  | _, _, .nil => rfl
  | _, _, .cons _ t => by rw [List.length_cons, List.length_cons, dpaLen t]
theorem dpaGet : ∀ {xs : List V} {ds : List PyData} {i : Nat} {d : PyData}, DpAll K H xs ds → ds[i]? = some d → ∃ v, xs[i]? = some v ∧ Dp K H v d
  | _, _, _, _, .nil, e => by simp at e
  | _, _, 0, _, .cons h _, e => by simp at e; subst e; exact ⟨_, rfl, h⟩
  | _, _, i + 1, _, .cons _ t, e => by
    obtain ⟨v, h1, h2⟩ := dpaGet (i := i) t (by simpa using e)
    exact ⟨v, by simpa using h1, h2⟩
theorem dpaApp : ∀ {xs ys : List V} {ds es : List PyData}, DpAll K H xs ds → DpAll K H ys es → DpAll K H (xs ++ ys) (ds ++ es)
  | _, _, _, _, .nil, h => h
  | _, _, _, _, .cons h t, s => .cons h (dpaApp t s)
theorem dpInts : ∀ ns : List Int, DpAll K H (ns.map V.int) (ns.map PyData.int)
  | [] => .nil
  | n :: r => .cons (.int n) (dpInts r)
theorem dpAll_ints : ∀ {ns : List Int} {xs : List V}, DpAll K H xs (ns.map PyData.int) → xs = ns.map V.int
  | [], _, h => by cases h; rfl
  | n :: r, _, h => by
    cases h with
    | cons h t => cases h; rw [dpAll_ints t]; rfl
theorem dpInt {i : Int} (h : Dp K H v (.int i)) : v = .int i := by cases h; rfl
theorem dpTup (h : Dp K H v (.tuple ds)) : ∃ a xs, v = .ref a ∧ SqT K H a xs ∧ DpAll K H xs ds := by cases h with | tup h1 h2 => exact ⟨_, _, rfl, h1, h2⟩
theorem dpLst (h : Dp K H v (.list ds)) : ∃ a xs, v = .ref a ∧ SqL K H a xs ∧ DpAll K H xs ds := by cases h with | lst h1 h2 => exact ⟨_, _, rfl, h1, h2⟩
theorem dpLstA (h : Dp K H (.ref a) (.list ds)) : ∃ xs, SqL K H a xs ∧ DpAll K H xs ds := by cases h with | lst h1 h2 => exact ⟨_, h1, h2⟩
theorem dpTupA (h : Dp K H (.ref a) (.tuple ds)) : ∃ xs, SqT K H a xs ∧ DpAll K H xs ds := by cases h with | tup h1 h2 => exact ⟨_, h1, h2⟩
end
/-- data that == serves: no dicts, no deeper than n -/
def Good (n : Nat) (d : PyData) : Prop := d.canLay0 = true ∧ d.depth ≤ n
theorem goodInt {n : Nat} {i : Int} : Good n (.int i) := ⟨rfl, Nat.zero_le _⟩
theorem goodBool {n : Nat} {b : Bool} : Good n (.bool b) := ⟨rfl, Nat.zero_le _⟩
theorem goodNone {n : Nat} : Good n .none := ⟨rfl, Nat.zero_le _⟩
theorem goodAll {n : Nat} : ∀ {ds : List PyData}, (∀ d ∈ ds, Good n d) → PyData.canLayAll0 ds = true ∧ PyData.depthAll ds ≤ n
  | [], _ => ⟨rfl, Nat.zero_le _⟩
  | d :: ds, h => by
    obtain ⟨h1, h2⟩ := h d List.mem_cons_self
    obtain ⟨h3, h4⟩ := goodAll fun e he => h e (List.mem_cons_of_mem _ he)
    exact ⟨by simp [PyData.canLayAll0, h1, h3], by simp only [PyData.depthAll]; omega⟩
theorem goodLst {n : Nat} {ds : List PyData} (h : ∀ d ∈ ds, Good n d) : Good (n + 1) (.list ds) := ⟨(goodAll h).1, Nat.succ_le_succ (goodAll h).2⟩
theorem goodTup {n : Nat} {ds : List PyData} (h : ∀ d ∈ ds, Good n d) : Good (n + 1) (.tuple ds) := ⟨(goodAll h).1, Nat.succ_le_succ (goodAll h).2⟩
theorem goodMap {α : Type} {n : Nat} {f : α → PyData} {xs : List α} (h : ∀ x, Good n (f x)) : ∀ d ∈ xs.map f, Good n d := by
  intro d hd
  obtain ⟨x, _, rfl⟩ := List.mem_map.mp hd
  exact h x
theorem Good.mono {n m : Nat} {d : PyData} (h : Good n d) (e : n ≤ m) : Good m d := ⟨h.1, Nat.le_trans h.2 e⟩
theorem Good.shaped {n : Nat} {d : PyData} (h : Good n d) (e : n ≤ 64) : SeqAt.shaped d = true := by
  unfold SeqAt.shaped
  rw [h.1, decide_eq_true (Nat.le_trans h.2 e)]
  rfl
theorem Good.eqv {n : Nat} {d : PyData} (h : Good n d) : PyData.eqv d d = true := SeqAt.eqv_refl d h.1
section
variable {K : PySem.W.Frag} {H : Hp} {x y : V} {d : PyData} {Q : VK} {n : Nat}
/-- two things of the same data are equal -/
theorem w_eqD (h1 : Dp K H x d) (h2 : Dp K H y d) (g : Good n d) (hn : n ≤ 64) (h : Q (.bl true) H) : rEqD K x y H Q := ⟨d, d, h1, h2, g.shaped hn, g.shaped hn, by rw [g.eqv]; exact h⟩
theorem w_neD (h1 : Dp K H x d) (h2 : Dp K H y d) (g : Good n d) (hn : n ≤ 64) (h : Q (.bl false) H) : rNeD K x y H Q := ⟨d, d, h1, h2, g.shaped hn, g.shaped hn, by rw [g.eqv]; exact h⟩
end
/-! ### xs[i] op= e -/
def rGetL (K : PySem.W.Frag) : V → V → Hp → VK → Prop := fun x y H Q => ∃ (p : Addr) (xs : List V) (j : Nat) (v : V), x = .ref p ∧ y = .int j ∧ SqL K H p xs ∧ xs[j]? = some v ∧ Q v H
theorem get_list {X : Cx} : PGet X (rGetL X.K) := by
  intro pins s σ H o i ov iv Q I ro ri h
  obtain ⟨p, xs, j, v, rfl, rfl, hq, he, q⟩ := h
  cases ro
  obtain ⟨t, rfl⟩ := ri
  obtain ⟨its, r, pl, hz⟩ := I.list hq
  obtain ⟨u, eu, ru⟩ := r.get he
  have hj : j < xs.length := (List.getElem?_eq_some_iff.mp he).1
  have hn := line63
  exact wpAny_getItem_list pl.isList (Int.natCast_nonneg j) (by omega) (by simpa using eu) ⟨v, H, I, ru, q⟩
theorem ps_augL {X : Cx} {o i e : Expr} {to ti te : TE} {tip : TIp} {op : Operator} {tpos pos : Pos} (ho : PE X o to) (hi : PE X i ti) (he : PE X e te) (hp : PIp X op tip)
    (ha : ∀ ov iv new, augStore i ov iv new = (do holding [new, ov, iv] (setItem ov iv new); release [new, ov, iv] []; pure .next) := by intros; rfl) : PS X (.AugAssign (.Subscript o i tpos) op e pos) (tAugS to ti te (rGetL X.K) tip rSetL) :=
  ps_augS ho hi get_list he hp set_list ha
section
variable {σ : L2.St} {H : Hp} {Q : VK} {D : Ends} {K : PySem.W.Frag} {p : Addr} {xs : List V} {v : V} {j : Nat}
theorem w_augS {to ti te : TE} {tget : V → V → Hp → VK → Prop} {tip : TIp} {tset : TSet} (h : to σ H fun o H1 => ti σ H1 fun i H2 => tget o i H2 fun x H3 => te σ H3 fun y H4 => tip x y H4 fun z H5 => tset o i z H5 fun H6 => D.nx σ H6) : tAugS to ti te tget tip tset D σ H := h
theorem w_getL (hs : SqL K H p xs) (he : xs[j]? = some v) (h : Q v H) : rGetL K (.ref p) (.int (j : Int)) H Q := ⟨p, xs, j, v, rfl, rfl, hs, he, h⟩
theorem ixN_nat {n j : Nat} (h : j < n) : ixN n (j : Int) = some j := by
  unfold ixN
  rw [if_pos (Int.natCast_nonneg j), if_pos (by omega)]
  simp
end
/-! ### range from nought -/
theorem for_r0 {m : Int} {n : Nat} {g : TG} {tb : TS} {D : Ends} {σ : L2.St} {H : Hp} (hm : m = n) (Pv : Nat → L2.St → Hp → Prop) (h0 : Pv 0 σ H)
    (hs : ∀ i σ H, i < n → Pv i σ H → g (.int (i : Nat)) σ H fun σ2 H2 => tb { D with nx := Pv (i + 1), ct := Pv (i + 1), bk := D.nx } σ2 H2) (hd : ∀ σ H, Pv n σ H → D.nx σ H) :
    ∃ W : Nat → Nat → L2.St → Hp → Prop, (∃ m, W 0 m σ H) ∧ ∀ i k σ H, W i k σ H →
      ((Itr 0 m.toNat).stop i H ∧ D.nx σ H) ∨ ((Itr 0 m.toNat).go i H ∧ ∃ N : L2.St → Hp → Prop, (∀ σ' H', N σ' H' → ∃ m', m' < k ∧ W (i + 1) m' σ' H') ∧ ∀ x H', (Itr 0 m.toNat).yld i H x H' → g x σ H' fun σ2 H2 => tb { D with nx := N, ct := N, bk := D.nx } σ2 H2) := by
  subst hm
  rw [Int.toNat_natCast]
  exact for_range (lo := 0) Pv h0 (fun i σ H hi hp => by rw [Int.zero_add]; exact hs i σ H hi hp) hd
/-! ### bits of numbers from nought on -/
theorem shr_nat (m k : Nat) : (m : Int) / 2 ^ (Int.toNat (k : Int)) = ((m >>> k : Nat) : Int) := by
  rw [Int.toNat_natCast, Nat.shiftRight_eq_div_pow]
  simp
theorem shl_nat (m k : Nat) : (m : Int) * 2 ^ (Int.toNat (k : Int)) = ((m <<< k : Nat) : Int) := by
  rw [Int.toNat_natCast, Nat.shiftLeft_eq]
  simp
theorem shl_one (k : Nat) : (1 : Int) * 2 ^ (Int.toNat (k : Int)) = ((2 ^ k : Nat) : Int) := by
  rw [Int.toNat_natCast, Int.one_mul]
  simp
theorem xor_nat (m n : Nat) : Builtin.bitXor (m : Int) (n : Int) = ((m ^^^ n : Nat) : Int) := by
  have h := Bits.bitXor_pp (x := (m : Int)) (y := (n : Int)) (Int.natCast_nonneg m) (Int.natCast_nonneg n)
  rw [Int.toNat_natCast, Int.toNat_natCast] at h
  exact h
theorem or_nat (m n : Nat) : Builtin.bitOr (m : Int) (n : Int) = ((m ||| n : Nat) : Int) := by
  have h := Bits.bitOr_pp (x := (m : Int)) (y := (n : Int)) (Int.natCast_nonneg m) (Int.natCast_nonneg n)
  rw [Int.toNat_natCast, Int.toNat_natCast] at h
  exact h
theorem and_one (m : Int) (h : 0 ≤ m) : Builtin.bitAnd m 1 = m % 2 := by
  have e := Bits.bitAnd_mask (x := m) 1 h
  simpa using e
theorem bit_nat (m k : Nat) : Builtin.bitAnd ((m : Int) / 2 ^ (Int.toNat (k : Int))) 1 = (((m.testBit k).toNat : Nat) : Int) := by
  rw [shr_nat, and_one _ (Int.natCast_nonneg _), Nat.testBit_eq_decide_div_mod_eq, Nat.shiftRight_eq_div_pow]
  have h : m / 2 ^ k % 2 < 2 := Nat.mod_lt _ (by decide)
  generalize m / 2 ^ k = z at h
  have e : z % 2 = 0 ∨ z % 2 = 1 := by omega
  rcases e with e | e
  · rw [e]; simp; omega
  · rw [e]; simp; omega
theorem bit_dec (m k : Nat) : decide (Builtin.bitAnd ((m : Int) / 2 ^ (Int.toNat (k : Int))) 1 = 1) = m.testBit k := by
  rw [bit_nat]
  cases m.testBit k <;> simp
/-! ### tables by number -/
theorem map_set {α : Type} {f : Nat → α} {m j : Nat} {y : α} : ((List.range m).map f).set j y = (List.range m).map fun r => if r = j then y else f r := by
  apply List.ext_getElem
  · simp
  · intro i h1 h2
    simp only [List.length_set, List.length_map, List.length_range] at h1
    simp only [List.getElem_set, List.getElem_map, List.getElem_range]
    by_cases e : j = i
    · subst e; simp
    · rw [if_neg e, if_neg (Ne.symm e)]
theorem map_at {α : Type} {f : Nat → α} {m j : Nat} (h : j < m) : ((List.range m).map f)[j]? = some (f j) := by
  rw [List.getElem?_map, List.getElem?_range h]
  rfl
theorem map_len {α : Type} {f : Nat → α} {m : Nat} : ((List.range m).map f).length = m := by simp
theorem map_setI {f : Nat → Int} {m j : Nat} {y : Int} : ((List.range m).map fun r => V.int (f r)).set j (V.int y) = (List.range m).map fun r => V.int (if r = j then y else f r) := by
  rw [map_set]
  congr 1
  funext r
  split <;> rfl
/-! ### comprehensions, slices -/
section
variable {σ σ' : L2.St} {H : Hp} {Q : VK} {QT : Bool → Hp → Prop}
theorem w_lc {wi : TI} {g : TG} {tt : TT} {te : TE} {vs : List Nat} (h : wi σ H fun J H1 => ∀ D, New H1 D → ∃ W : Nat → Nat → Hp → Prop, (∃ m, W 0 m (upd H1 D (.lst []))) ∧ ∀ i m H, W i m H →
  (J.stop i H ∧ Q (.ref D) H) ∨ (J.go i H ∧ ∃ Nx : Hp → Prop, (∀ H', Nx H' → ∃ m', m' < m ∧ W (i + 1) m' H') ∧ ∀ x H', J.yld i H x H' → g x (wipe σ vs) H' fun σ2 H2 => wipe σ2 vs = wipe σ vs ∧ tt σ2 H2 fun b H3 =>
    if b = true then te σ2 H3 fun y H4 => ∃ acc, H4 D = some (.lst acc) ∧ acc.length < sizeLine ∧ Nx (upd H4 D (.lst (acc ++ [y]))) else Nx H3)) : tLc wi g tt te vs σ H Q := h
theorem w_wipe {vs : List Nat} {R : Prop} (e : wipe σ vs = wipe σ' vs) (h : R) : wipe σ vs = wipe σ' vs ∧ R := ⟨e, h⟩
theorem w_yes (h : QT true H) : tYes σ H QT := h
theorem cutV_nat (xs : List V) (a b : Nat) : cutV xs (some (a : Int)) (some (b : Int)) = (xs.drop a).take (b - a) := by
  unfold cutV
  rw [HT.sIx_nat, HT.sIx_nat]
  apply List.ext_getElem?
  intro i
  simp only [List.getElem?_take, List.getElem?_drop]
  by_cases ha : a ≤ xs.length
  · rw [Nat.min_eq_left ha]
    by_cases h : i < b - a
    · by_cases h2 : i < min b xs.length - a
      · rw [if_pos h, if_pos h2]
      · rw [if_pos h, if_neg h2, List.getElem?_eq_none (by omega)]
    · rw [if_neg h, if_neg (by omega)]
  · rw [if_neg (by omega)]
    split
    · rw [List.getElem?_eq_none (by omega)]
    · rfl
theorem cutV_from (xs : List V) (a : Nat) : cutV xs (some (a : Int)) none = xs.drop a := by
  unfold cutV
  rw [HT.sIx_nat, HT.sIx_none]
  by_cases h : a ≤ xs.length
  · rw [Nat.min_eq_left h]
    exact List.take_of_length_le (by simp)
  · rw [Nat.min_eq_right (by omega), List.drop_of_length_le (Nat.le_refl _), List.drop_of_length_le (by omega), List.take_nil]
theorem cutV_to (xs : List V) (b : Nat) : cutV xs none (some (b : Int)) = xs.take b := by
  unfold cutV
  rw [HT.sIx_nat, HT.sIx_none, List.drop_zero, Nat.sub_zero]
  by_cases h : b ≤ xs.length
  · rw [Nat.min_eq_left h]
  · rw [Nat.min_eq_right (by omega), List.take_of_length_le (Nat.le_refl _), List.take_of_length_le (by omega)]
end
theorem w_list {K : PySem.W.Frag} {H : Hp} {p : Addr} {xs : List V} {R : List V → Prop} (hs : SqL K H p xs) (h : R xs) : ∃ p' ys, [V.ref p] = [.ref p'] ∧ (SqL K H p' ys ∨ SqT K H p' ys) ∧ R ys := ⟨p, xs, rfl, .inl hs, h⟩
/-! ### a heap without one place -/
def wo (H : Hp) (D : Addr) : Hp := fun b => if b = D then none else H b
section
variable {K : PySem.W.Frag} {H H' H2 : Hp} {D p : Addr} {o : HO} {xs : List V} {ds : List PyData} {v : V} {d : PyData}
theorem wo_same : Same (wo H D) H := fun b o h => by
  unfold wo at h
  split at h
  · cases h
  · exact h
theorem wo_new : New (wo H D) D := if_pos rfl
theorem wo_get (h : H p = some o) (n : p ≠ D) : wo H D p = some o := (if_neg n).trans h
theorem wo_eq : wo (upd H D o) D = wo H D := by
  funext b
  unfold wo
  split
  · rfl
  · rw [upd_ne (by assumption)]
theorem wo_mono (e : Same H H') : Same (wo H D) (wo H' D) := fun b o h => by
  unfold wo at h ⊢
  split at h
  · cases h
  · rw [if_neg (by assumption)]; exact e b o h
theorem same_wo (e : Same H H') (n : New H D) : Same H (wo H' D) := fun b o h => wo_get (e b o h) (ne_new h n)
theorem dpaPush (h : DpAll K (wo H D) xs ds) (e : Same H H2) (hv : Dp K (wo H2 D) v d) : DpAll K (wo (upd H2 D o) D) (xs ++ [v]) (ds ++ [d]) := by
  rw [wo_eq]
  exact dpaApp (h.same (wo_mono e)) (.cons hv .nil)
theorem dpaPushI (h : DpAll K (wo H D) xs ds) {i : Int} : DpAll K (wo (upd H D o) D) (xs ++ [.int i]) (ds ++ [.int i]) := dpaPush h (Same.refl _) (.int i)
end
/-! ### while -/
theorem w_wt {W : Nat → L2.St → Hp → Prop} {tb : TS} {D : Ends} {σ : L2.St} {H : Hp} {m : Nat} (h : tb { D with nx := fun σ' H' => ∃ m', m' < m ∧ W m' σ' H', ct := fun σ' H' => ∃ m', m' < m ∧ W m' σ' H', bk := D.nx } σ H) :
    ∃ N : L2.St → Hp → Prop, (∀ σ' H', N σ' H' → ∃ m', m' < m ∧ W m' σ' H') ∧ tb { D with nx := N, ct := N, bk := D.nx } σ H := ⟨_, fun _ _ h => h, h⟩
theorem and_nat (m n : Nat) : Builtin.bitAnd (m : Int) (n : Int) = ((m &&& n : Nat) : Int) := rfl
/-! ### two ways to read -/
theorem _root_.L2.PE.or {X : Cx} {e : Expr} {t t' : TE} (h : PE X e t) (h' : PE X e t') : PE X e (fun σ H Q => t σ H Q ∨ t' σ H Q) := ⟨fun pins s σ H Q I q => by
  rcases q with q | q
  · exact h.run pins s σ H Q I q
  · exact h'.run pins s σ H Q I q⟩
/-! ### classes by name -/
structure HasMk (P : Program) (w : World) (K : PySem.W.Frag) (mg : Str → Option Value) (base : Heap) (CX : CXT) (k : Nat) (x : Str) (C : Addr) (ps : List Str) (sp : Sp) : Prop where
  ex : ∃ f fd, FnOk P w K mg base CX k f fd ps sp ∧ Mk K C f ∧ mg x = some (.ref C) ∧ Binds K fd ps []
structure HasMeth (P : Program) (w : World) (K : PySem.W.Frag) (mg : Str → Option Value) (base : Heap) (CX : CXT) (k : Nat) (C : Addr) (m : Str) (ps : List Str) (sp : Sp) : Prop where
  ex : ∃ f fd, FnOk P w K mg base CX k f fd ps sp ∧ Cls K C ∧ Meth K C m f ∧ Binds K fd ps []
/-- a method's body, proved once for whatever class holds it -/
structure HasFn (P : Program) (w : World) (K : PySem.W.Frag) (mg : Str → Option Value) (base : Heap) (CX : CXT) (k : Nat) (f : Addr) (ps : List Str) (sp : Sp) : Prop where
  ex : ∃ fd, FnOk P w K mg base CX k f fd ps sp ∧ Binds K fd ps []
section
variable {P : Program} {w : World} {K : PySem.W.Frag} {mg : Str → Option Value} {base : Heap} {x qual : Str} {ps N : List Str} {sp : Sp} {k : Nat}
theorem HasFn.mk' {st : Stmt} {f : Addr} {fd : FuncData} (F : Fun K x qual st f fd) (b : Binds K fd ps []) (S : FnScope N ps (defScope st)) (len : ∀ vs H Q E, sp vs H Q E → vs.length = ps.length)
    (hbody : ∀ (cdv : Value) (A : Around) (outer : List Env) (s : Shared) (H : Hp) (vs : List V) (Q : VK) (E : XK), Room k (A.deeper (envOfC qual (defScope st) s.heap.objs.size f cdv)) → sp vs H Q E →
      ∃ t, PSs (cxOf CX0 P w K mg base N qual (defScope st) f cdv A outer s H E).nox (defBody st) t ∧ t { nx := fun _ H' => Q .non H', rt := Q } (start N vs) H) : HasFn P w K mg base CX0 (k + 1) f ps sp :=
  ⟨fd, F.ok S len hbody, b⟩
theorem HasFn.mkOf {CX : CXT} {f C : Addr} (h : HasFn P w K mg base CX k f ps sp) (M : Mk K C f) (g : mg x = some (.ref C)) : HasMk P w K mg base CX k x C ps sp := by
  obtain ⟨fd, F, b⟩ := h.ex
  exact ⟨f, fd, F, M, g, b⟩
theorem HasFn.meth {CX : CXT} {f C : Addr} {m : Str} (h : HasFn P w K mg base CX k f ps sp) (c : Cls K C) (M : Meth K C m f) : HasMeth P w K mg base CX k C m ps sp := by
  obtain ⟨fd, F, b⟩ := h.ex
  exact ⟨f, fd, F, c, M, b⟩
end
section
variable {X : Cx} {k : Nat} {ps : List Str} {sp : Sp} {x m : Str} {p pos apos : Pos} {e o : Expr} {es : List Expr} {t : TA} {ta : TE} {C : Addr}
theorem pe_mk (h : HasMk X.prog X.w X.K X.mg X.base CX0 k x C ps sp) (hr : Room (k + 1) X.A) (hg : Gl X x) (ha : PA X (e :: es) t) (hdb : (x == ("__debug__" : Str)) = false := by decide) (he : starEach (e :: es) X.env = (false, eval e X.env) :: starEach es X.env := by rfl) (hpl : (backTo pos (starEach es X.env)).any (·.1) = false := by rfl) :
    PE X (.Call (.Name x p) (e :: es) [] pos) (tMake C sp [] E0 t) := by
  obtain ⟨f, fd, F, M, g, b⟩ := h.ex
  exact pe_make M F hr hg g b .nil pass0 ha hdb he hpl
theorem pe_mt {pl : Sem Bool} (h : HasMeth X.prog X.w X.K X.mg X.base CX0 k C m ps sp) (he : PE X o ta) (hr : Room k X.A) (ha : PA X (e :: es) t)
    (hst : starEach (e :: es) X.env = (false, eval e X.env) :: starEach es X.env := by rfl) (hpl : (backTo pos (starEach es X.env)).any (·.1) = false := by rfl)
    (ht : eval (.Call (.Attribute o m apos) (e :: es) [] pos) X.env = (do
      let v ← eval o X.env
      standAt apos.atName
      let (f, first) ← holding [v] (getMethod v m pl)
      callWith pos f first (backTo pos (starEach (e :: es) X.env)) (backToKw pos (keywordEach [] X.env))) := by rfl) :
    PE X (.Call (.Attribute o m apos) (e :: es) [] pos) (tMeth C m sp [] E0 ta t) := by
  obtain ⟨f, fd, F, c, M, b⟩ := h.ex
  exact pe_meth he c M F hr b .nil pass0 ha hst hpl ht
theorem pe_mt0 {pl : Sem Bool} (h : HasMeth X.prog X.w X.K X.mg X.base CX0 k C m ps sp) (he : PE X o ta) (hr : Room k X.A)
    (ht : eval (.Call (.Attribute o m apos) [] [] pos) X.env = (do
      let v ← eval o X.env
      standAt apos.atName
      let (f, first) ← holding [v] (getMethod v m pl)
      callWith pos f first (backTo pos (starEach [] X.env)) (backToKw pos (keywordEach [] X.env))) := by rfl) :
    PE X (.Call (.Attribute o m apos) [] [] pos) (tMeth C m sp [] E0 ta tNil) := by
  obtain ⟨f, fd, F, c, M, b⟩ := h.ex
  exact pe_meth0 he c M F hr b .nil pass0 ht
end
section
variable {σ : L2.St} {H : Hp} {Q : VK} {D : Ends} {K : PySem.W.Frag} {ta tv : TE} {tl : TA} {sp : Sp} {E : XK} {C p dx : Addr} {fs : List (Str × V)} {f m : Str} {v : V}
theorem w_make (h : tl σ H fun vs H1 => ∀ x dx, New H1 x → New H1 dx → dx ≠ x → sp (.ref x :: vs) (upd (upd H1 dx (.own x)) x (.ins C dx [])) (fun v H2 => v = .non ∧ Q (.ref x) H2) E) : tMake C sp [] E tl σ H Q := by
  unfold tMake
  simp only [List.append_nil]
  exact h
theorem w_meth (h : ta σ H fun x H1 => ∃ a dx fs, x = .ref a ∧ H1 a = some (.ins C dx fs) ∧ fs.lookup m = none ∧ tl σ H1 fun vs H2 => sp (x :: vs) H2 Q E) : tMeth C m sp [] E ta tl σ H Q := by
  unfold tMeth
  simp only [List.append_nil]
  exact h
theorem w_methq {R : Prop} (hp : H p = some (.ins C dx fs)) (hl : fs.lookup m = none) (h : R) : ∃ a dx fs, V.ref p = .ref a ∧ H a = some (.ins C dx fs) ∧ fs.lookup m = none ∧ R := ⟨p, dx, fs, rfl, hp, hl, h⟩
theorem w_sf (h : tv σ H fun y H1 => ta σ H1 fun x H2 => ∃ a C dx fs, x = .ref a ∧ H2 a = some (.ins C dx fs) ∧ Cls K C ∧ NoAttr K C f ∧ fs.length < 1000 ∧ D.nx σ (upd H2 a (.ins C dx (putF f y fs)))) : sFld K ta tv f D σ H := h
theorem w_sfq {R : Addr → Addr → Addr → List (Str × V) → Prop} (hp : H p = some (.ins C dx fs)) (hc : Cls K C) (hn : NoAttr K C f) (hl : fs.length < 1000) (h : R p C dx fs) : ∃ a C' dx' fs', V.ref p = .ref a ∧ H a = some (.ins C' dx' fs') ∧ Cls K C' ∧ NoAttr K C' f ∧ fs'.length < 1000 ∧ R a C' dx' fs' := ⟨p, C, dx, fs, rfl, hp, hc, hn, hl, h⟩
end
/-! ### isinstance of an object -/
structure IsoK (K : PySem.W.Frag) (C : Addr) : Prop where
  cl : Cls K C
  oc : PySem.W.findIn K (.ref C) "__class__" = some (some (.builtin "object.__class__"))
  og : PySem.W.specialIn K (.builtin "object.__class__") "__get__" = some (some (.builtin "getset_descriptor.__get__"))
  ot : PySem.W.takesIn K (.builtin "object.__class__") = some true
  om : PySem.W.mroIn K C (.type "object") = some true
theorem w_iso {K : PySem.W.Frag} {H : Hp} {Q : VK} {p C D dx : Addr} {fs : List (Str × V)} {b : Bool} (hp : H p = some (.ins C dx fs)) (I : IsoK K C) (hk : PySem.W.kitOne K (.ref C) (.ref D) = some b) (h : Q (.bl b) H) : rIsi K [.ref p, .ref D] H Q :=
  ⟨_, _, _, _, b, rfl, .own D, .base (.ins hp I.cl I.oc I.og I.ot I.om), hk, h⟩
theorem w_isoN {K : PySem.W.Frag} {H : Hp} {Q : VK} {D : Addr} {b : Bool} (hk : PySem.W.kitOne K (.type "NoneType") (.ref D) = some b) (h : Q (.bl b) H) : rIsi K [.non, .ref D] H Q :=
  ⟨_, _, _, _, b, rfl, .own D, .base .non, hk, h⟩
theorem kit_own {K : PySem.W.Frag} {C D : Addr} {b : Bool} (h1 : PySem.W.isClsIn K D = true) (h2 : PySem.W.typeIn K (.ref D) = some (.type "type")) (h3 : PySem.W.subIn K (.ref C) (.ref D) = some b) (h4 : PySem.W.subIn K (.ref C) (.ref C) = some true) : PySem.W.kitOne K (.ref C) (.ref D) = some b := by
  unfold PySem.W.kitOne
  by_cases e : C = D
  · subst e
    rw [h4] at h3
    cases h3
    rw [if_pos (by simp)]
  · have hn : ¬ ((Value.ref C == Value.ref D) = true) := by
      intro z
      rw [beq_iff_eq] at z
      cases z
      exact e rfl
    rw [if_neg hn]
    unfold PySem.W.kitCls
    have h5 : (PySem.W.clsIn K D).isSome = true := h1
    show (if ((PySem.W.clsIn K D).isSome && PySem.W.typeIn K (.ref D) == some (.type "type")) = true then PySem.W.subIn K (.ref C) (.ref D) else none) = some b
    rw [h5, h2, if_pos (by simp)]
    exact h3
/-! ### range by steps -/
theorem w_r3 {σ : L2.St} {H : Hp} {ta : TA} {R : It → Hp → Prop} (h : ta σ H fun vs H1 => ∃ (i j c : Int) (n : Nat), vs = [.int i, .int j, .int c] ∧ RgC i j c n ∧ R (Itc i c n) H1) : iRng3 ta σ H R := h
theorem w_r3q {i j c : Int} {n : Nat} {R : Int → Int → Nat → Prop} (hc : RgC i j c n) (h : R i c n) : ∃ (i' j' c' : Int) (n' : Nat), [V.int i, V.int j, V.int c] = [.int i', .int j', .int c'] ∧ RgC i' j' c' n' ∧ R i' c' n' := ⟨i, j, c, n, rfl, hc, h⟩
/-! ### ways joined behind a statement -/
def tCutX (t u : TS) : TS := fun D σ H => ∃ M : L2.St → Hp → Prop, t { D with nx := M } σ H ∧ ∀ σ' H', M σ' H' → u D σ' H'
theorem pss_cutX {X : Cx} {st : Stmt} {more : List Stmt} {t u : TS} (h1 : PS X st t) (h2 : PSs X more u) : PSs X (st :: more) (tCutX t u) := ⟨fun pins s σ H D I h => by
  obtain ⟨M, hm, hu⟩ := h
  refine wpAny_execs_cons (thn (h1.run pins s σ H { D with nx := M } I hm) fun f s1 q => ?_)
  cases f with
  | next => obtain ⟨σ1, H1, I1, q1⟩ := q; exact h2.run pins s1 σ1 H1 D I1 (hu σ1 H1 q1)
  | ret v => exact q
  | brk => exact q
  | cont => exact q⟩
theorem w_cut {t u : TS} {D : Ends} {σ : L2.St} {H : Hp} (M : L2.St → Hp → Prop) (h : t { D with nx := M } σ H) (k : ∀ σ' H', M σ' H' → u D σ' H') : tCutX t u D σ H := ⟨M, h, k⟩
/-! ### dicts with number keys; heaps that grow -/
theorem _root_.L2.Same.add {G H : Hp} {q : Addr} {o : HO} (e : Same G H) (h : H q = some o) : Same (upd G q o) H := fun b u hb => by
  by_cases e2 : b = q
  · subst e2
    rw [upd_same] at hb
    rw [h]
    exact hb
  · rw [upd_ne e2] at hb
    exact e b u hb
theorem New.upd {G : Hp} {p q : Addr} {o : HO} (n : New G p) (h : p ≠ q) : New (upd G q o) p := (upd_ne h).trans n
theorem putK_len {kvs : List (Key × V)} {k : Key} {v : V} : (putK kvs k v).length ≤ kvs.length + 1 := by
  unfold putK
  split <;> simp
theorem w_put {σ : L2.St} {H : Hp} {D : Ends} {td ty tv : TE} (h : tv σ H fun v H1 => td σ H1 fun x H2 => ty σ H2 fun y H3 => ∃ a H4, x = .ref a ∧ DPut H3 a y v H4 ∧ D.nx σ H4) : sDPut td ty tv D σ H := h
theorem w_putI {H : Hp} {a : Addr} {kvs : List (Key × V)} {i : Int} {v : V} {R : Hp → Prop} (e : H a = some (.dK kvs)) (hl : kvs.length < sizeLine) (h : R (upd H a (.dK (putK kvs (.inl i) v)))) : ∃ a' H4, V.ref a = .ref a' ∧ DPut H a' (.int i) v H4 ∧ R H4 := ⟨a, _, rfl, DPut.k (k := .inl i) e hl, h⟩
theorem w_getI {H : Hp} {a : Addr} {kvs : List (Key × V)} {i : Int} {v : V} {R : V → Prop} (e : H a = some (.dK kvs)) (hv : valV kvs (.inl i) = some v) (h : R v) : ∃ a' v', V.ref a = .ref a' ∧ DGet H a' (.int i) (some v') ∧ R v' := ⟨a, v, rfl, by rw [← hv]; exact DGet.k (k := .inl i) e, h⟩
theorem w_inI {H : Hp} {a : Addr} {kvs : List (Key × V)} {i : Int} {R : Option V → Prop} (e : H a = some (.dK kvs)) (h : R (valV kvs (.inl i))) : ∃ a' o, V.ref a = .ref a' ∧ DGet H a' (.int i) o ∧ R o := ⟨a, _, rfl, DGet.k (k := .inl i) e, h⟩
theorem w_din {σ : L2.St} {H : Hp} {Q : VK} {td ty : TE} (h : ty σ H fun y H1 => td σ H1 fun x H2 => ∃ a o, x = .ref a ∧ DGet H2 a y o ∧ Q (.bl o.isSome) H2) : tDIn ty td σ H Q := h
theorem w_dni {σ : L2.St} {H : Hp} {Q : VK} {td ty : TE} (h : ty σ H fun y H1 => td σ H1 fun x H2 => ∃ a o, x = .ref a ∧ DGet H2 a y o ∧ Q (.bl (!o.isSome)) H2) : tDNotIn ty td σ H Q := h
theorem w_dg {σ : L2.St} {H : Hp} {Q : VK} {td ty : TE} (h : td σ H fun x H1 => ty σ H1 fun y H2 => ∃ a v, x = .ref a ∧ DGet H2 a y (some v) ∧ Q v H2) : tDGet td ty σ H Q := h
theorem w_dn {σ : L2.St} {H : Hp} {Q : VK} (h : ∀ p, New H p → Q (.ref p) (upd H p (.dK []))) : tDNewK σ H Q := h
/-- a dict with number keys: what it holds -/
def Holds (kvs : List (Key × V)) (S : List Nat) (g : Nat → V) : Prop := kvs.length ≤ S.length ∧ ∀ d : Nat, valV kvs (.inl (d : Int)) = if d ∈ S then some (g d) else none
theorem Holds.nil {g : Nat → V} : Holds [] [] g := ⟨Nat.le_refl _, fun d => by simp [valV]⟩
theorem Holds.put {kvs : List (Key × V)} {S : List Nat} {g : Nat → V} (h : Holds kvs S g) (x : Nat) : Holds (putK kvs (.inl (x : Int)) (g x)) (S ++ [x]) g := by
  refine ⟨by have := putK_len (kvs := kvs) (k := .inl (x : Int)) (v := g x); have := h.1; simp; omega, fun d => ?_⟩
  rw [valV_put, h.2]
  by_cases e : d = x
  · subst e; simp
  · have : ¬ ((.inl (d : Int) : Key) = .inl (x : Int)) := fun z => e (by have := Sum.inl.inj z; omega)
    rw [if_neg this]
    simp [e]
theorem lc_r0 {m : Int} {n : Nat} {g : TG} {tt : TT} {te : TE} {vs : List Nat} {σ : L2.St} {H1 : Hp} {D : Addr} {Qd : Hp → Prop} (hm : m = n) (Pv : Nat → Hp → Prop) (h0 : Pv 0 (upd H1 D (.lst [])))
    (hs : ∀ i H, i < n → Pv i H → g (.int (i : Nat)) (wipe σ vs) H fun σ2 H2 => wipe σ2 vs = wipe σ vs ∧ tt σ2 H2 fun b H3 =>
      if b = true then te σ2 H3 fun y H4 => ∃ acc, H4 D = some (.lst acc) ∧ acc.length < sizeLine ∧ Pv (i + 1) (upd H4 D (.lst (acc ++ [y]))) else Pv (i + 1) H3) (hd : ∀ H, Pv n H → Qd H) :
    ∃ W : Nat → Nat → Hp → Prop, (∃ m, W 0 m (upd H1 D (.lst []))) ∧ ∀ i k H, W i k H →
      ((Itr 0 m.toNat).stop i H ∧ Qd H) ∨ ((Itr 0 m.toNat).go i H ∧ ∃ Nx : Hp → Prop, (∀ H', Nx H' → ∃ m', m' < k ∧ W (i + 1) m' H') ∧ ∀ x H', (Itr 0 m.toNat).yld i H x H' → g x (wipe σ vs) H' fun σ2 H2 => wipe σ2 vs = wipe σ vs ∧ tt σ2 H2 fun b H3 =>
        if b = true then te σ2 H3 fun y H4 => ∃ acc, H4 D = some (.lst acc) ∧ acc.length < sizeLine ∧ Nx (upd H4 D (.lst (acc ++ [y]))) else Nx H3) := by
  subst hm
  rw [Int.toNat_natCast]
  exact lc_range (lo := 0) Pv h0 (fun i H hi hp => by rw [Int.zero_add]; exact hs i H hi hp) hd
theorem w_acc {H : Hp} {D : Addr} {acc : List V} {R : List V → Prop} (h1 : H D = some (.lst acc)) (h2 : acc.length < sizeLine) (h : R acc) : ∃ acc', H D = some (.lst acc') ∧ acc'.length < sizeLine ∧ R acc' := ⟨acc, h1, h2, h⟩
/-! ### enumerate -/
theorem for_enumX {K : PySem.W.Frag} {a : Addr} {xs : List V} {g : TG} {tb : TS} {D : Ends} {σ : L2.St} {H : Hp} (Pv : Nat → L2.St → Hp → Prop) (h0 : Pv 0 σ H) (hl : ∀ i σ H, i ≤ xs.length → Pv i σ H → SqL K H a xs)
    (hs : ∀ i x σ H p, xs[i]? = some x → Pv i σ H → New H p → g (.ref p) σ (upd H p (.tup [.int (i : Nat), x])) fun σ2 H2 => tb { D with nx := Pv (i + 1), ct := Pv (i + 1), bk := D.nx } σ2 H2) (hd : ∀ σ H, Pv xs.length σ H → D.nx σ H) :
    ∃ W : Nat → Nat → L2.St → Hp → Prop, (∃ m, W 0 m σ H) ∧ ∀ i m σ H, W i m σ H →
      ((Ite K a).stop i H ∧ D.nx σ H) ∨ ((Ite K a).go i H ∧ ∃ N : L2.St → Hp → Prop, (∀ σ' H', N σ' H' → ∃ m', m' < m ∧ W (i + 1) m' σ' H') ∧ ∀ x H', (Ite K a).yld i H x H' → g x σ H' fun σ2 H2 => tb { D with nx := N, ct := N, bk := D.nx } σ2 H2) := by
  refine ⟨fun i m σ H => i + m = xs.length ∧ Pv i σ H, ⟨xs.length, by omega, h0⟩, fun i m σ H hW => ?_⟩
  obtain ⟨e, p⟩ := hW
  have q := hl i σ H (by omega) p
  cases m with
  | zero =>
    have e2 : i = xs.length := by omega
    subst e2
    exact .inl ⟨⟨xs, q, Nat.le_refl _⟩, hd σ H p⟩
  | succ m =>
    have hi : i < xs.length := by omega
    refine .inr ⟨⟨xs, xs[i], q, List.getElem?_eq_getElem hi⟩, Pv (i + 1), fun σ' H' h => ⟨m, by omega, by omega, h⟩, fun x H' hy => ?_⟩
    obtain ⟨T, y, rfl, nT, rfl, hx⟩ := hy
    exact hs i y σ H T (hx xs q) p nT
theorem w_enum {σ : L2.St} {H : Hp} {K : PySem.W.Frag} {ta : TA} {R : It → Hp → Prop} (h : ta σ H fun vs H1 => ∃ a xs, vs = [.ref a] ∧ SqL K H1 a xs ∧ R (Ite K a) H1) : iEnum K ta σ H R := h
theorem w_enq {H : Hp} {K : PySem.W.Frag} {p : Addr} {xs : List V} {R : Addr → Prop} (hs : SqL K H p xs) (h : R p) : ∃ a xs, [V.ref p] = [.ref a] ∧ SqL K H a xs ∧ R a := ⟨p, xs, rfl, hs, h⟩

/-! ### rules that name the written part -/
section
variable {X : Cx}
theorem ix_listK (K : PySem.W.Frag) (hK : X.K = K := by rfl) : IxR X (rIxL K) := by subst hK; exact ix_list
theorem ix_tupK (K : PySem.W.Frag) (hK : X.K = K := by rfl) : IxR X (rIxT K) := by subst hK; exact ix_tup
theorem ix_seqK (K : PySem.W.Frag) (hK : X.K = K := by rfl) : IxR X (rIx K) := by subst hK; exact ix_seq
theorem sl_listK (K : PySem.W.Frag) (hK : X.K = K := by rfl) : SlR X (rSlL K) := by subst hK; exact sl_list
def rLenK (K : PySem.W.Frag) : List V → Hp → VK → Prop := fun xs H Q => ∃ p ys, xs = [.ref p] ∧ (SqL K H p ys ∨ SqT K H p ys) ∧ Q (.int ys.length) H
theorem call_lenK (K : PySem.W.Frag) (hK : X.K = K := by rfl) : CallR X (.builtin "len") (rLenK K) := by subst hK; exact call_len_seq
def rListK (K : PySem.W.Frag) : List V → Hp → VK → Prop := fun xs H Q => ∃ p ys, xs = [.ref p] ∧ (SqL K H p ys ∨ SqT K H p ys) ∧ ∀ l, H l = none → Q (.ref l) (upd H l (.lst ys))
theorem call_listK (K : PySem.W.Frag) (hK : X.K = K := by rfl) : CallR X (.type "list") (rListK K) := by subst hK; exact call_list_of
theorem call_isiK' (K : PySem.W.Frag) (hK : X.K = K := by rfl) : CallR X (.builtin "isinstance") (rIsi K) := by subst hK; exact call_isi
theorem cr_sumK (K : PySem.W.Frag) (hc : X.calm = true) (hK : X.K = K := by rfl) : CallR X (.builtin "sum") (rSum K) := by subst hK; exact cr_sum hc
theorem cr_maxK (K : PySem.W.Frag) (hc : X.calm = true) (hK : X.K = K := by rfl) : CallR X (.builtin "max") (rMax K) := by subst hK; exact cr_max hc
theorem cr_minK (K : PySem.W.Frag) (hc : X.calm = true) (hK : X.K = K := by rfl) : CallR X (.builtin "min") (rMin K) := by subst hK; exact cr_min hc
theorem cr_allK (K : PySem.W.Frag) (hc : X.calm = true) (hK : X.K = K := by rfl) : CallR X (.builtin "all") (rAll K) := by subst hK; exact cr_all hc
theorem cr_anyK (K : PySem.W.Frag) (hc : X.calm = true) (hK : X.K = K := by rfl) : CallR X (.builtin "any") (rAny K) := by subst hK; exact cr_any hc
theorem cr_sortedIK (K : PySem.W.Frag) (hK : X.K = K := by rfl) : CallR X (.builtin "sorted") (rSortedI K) := by subst hK; exact cr_sortedI
theorem op_eqDK (K : PySem.W.Frag) (hu : X.A.units + 64 < cLine) (hK : X.K = K := by rfl) : OpR X (compareOp .Eq) (rEqD K) := by subst hK; exact op_eqD hu
theorem op_neDK (K : PySem.W.Frag) (hu : X.A.units + 64 < cLine) (hK : X.K = K := by rfl) : OpR X (compareOp .NotEq) (rNeD K) := by subst hK; exact op_neD hu
theorem op_inK (K : PySem.W.Frag) (hK : X.K = K := by rfl) : OpR X (compareOp .In) (rIn K false) := by subst hK; exact op_in_seq
theorem op_notInK (K : PySem.W.Frag) (hK : X.K = K := by rfl) : OpR X (compareOp .NotIn) (rIn K true) := by subst hK; exact op_notIn_seq
theorem mt_indexK (K : PySem.W.Frag) (hK : X.K = K := by rfl) : MtR X "list.index" (rIndex K) := by subst hK; exact mt_index
theorem w_lenK {K : PySem.W.Frag} {H : Hp} {Q : VK} {p : Addr} {xs : List V} (hs : SqL K H p xs) (h : Q (.int xs.length) H) : rLenK K [.ref p] H Q := ⟨p, xs, rfl, .inl hs, h⟩
theorem w_lenTK {K : PySem.W.Frag} {H : Hp} {Q : VK} {p : Addr} {xs : List V} (hs : SqT K H p xs) (h : Q (.int xs.length) H) : rLenK K [.ref p] H Q := ⟨p, xs, rfl, .inr hs, h⟩
theorem w_listK {K : PySem.W.Frag} {H : Hp} {Q : VK} {p : Addr} {xs : List V} (hs : SqL K H p xs) (h : ∀ l, New H l → Q (.ref l) (upd H l (.lst xs))) : rListK K [.ref p] H Q := ⟨p, xs, rfl, .inl hs, h⟩
end
section
variable {X : Cx} {e o : Expr} {f name : Str} {pos apos cpos : Pos} {ta to : TE} {t : TA} {es : List Expr}
theorem pe_fldK (K : PySem.W.Frag) (he : PE X e ta) (hb : attributeBase e f X.env (eval e X.env) = eval e X.env) (hK : X.K = K := by rfl) : PE X (.Attribute e f pos) (tFld K ta f) := by subst hK; exact pe_fld he hb
theorem pe_bmK (K : PySem.W.Frag) {T : String} {r : V → List V → Hp → VK → Prop} (h : PE X (.Call (.Attribute o name apos) es [] cpos) (tBM X.K T r to t)) (hK : X.K = K := by rfl) : PE X (.Call (.Attribute o name apos) es [] cpos) (tBM K T r to t) := by subst hK; exact h
theorem pe_bm0K (K : PySem.W.Frag) {T : String} {r : V → List V → Hp → VK → Prop} (h : PE X (.Call (.Attribute o name apos) es [] cpos) (tBM0 X.K T r to)) (hK : X.K = K := by rfl) : PE X (.Call (.Attribute o name apos) es [] cpos) (tBM0 K T r to) := by subst hK; exact h
theorem pi_listK (K : PySem.W.Frag) {tg l : Expr} {tl : TE} (hl : PE X l tl) (hK : X.K = K := by rfl) : PI X tg l (iList K tl) := by subst hK; exact pi_list hl
theorem pi_tupK (K : PySem.W.Frag) {tg l : Expr} {tl : TE} (hl : PE X l tl) (hK : X.K = K := by rfl) : PI X tg l (iTup K tl) := by subst hK; exact pi_tup hl
theorem pg_tupK (K : PySem.W.Frag) {es : List Expr} {k n : Nat} {t : TGs} (hc : X.calm = true) (h : PGs X es t) (hn : (assignEach es X.env).length = n := by rfl) (hst : (assignEach es X.env).findIdx? (·.1) = none := by rfl) (hK : X.K = K := by rfl) : PG X (.Tuple es k pos) (gTup K n t) := by subst hK; exact pg_tup hc h hn hst
end
/-! ### list.insert -/
theorem w_ins {H : Hp} {p : Addr} {xs : List V} {m : Int} {v : V} {R : Addr → List V → Int → V → Prop} (hp : H p = some (.lst xs)) (hl : xs.length < sizeLine) (h0 : 0 ≤ m) (h1 : m < 2 ^ 63) (h : R p xs m v) :
    ∃ (l : Addr) (ys : List V) (i : Int) (y : V), V.ref p = .ref l ∧ [V.int m, v] = [.int i, y] ∧ H l = some (.lst ys) ∧ ys.length < sizeLine ∧ 0 ≤ i ∧ i < 2 ^ 63 ∧ R l ys i y := ⟨p, xs, m, v, rfl, rfl, hp, hl, h0, h1, h⟩

/-! ### list(reversed(xs)) -/
section
open PySem PySem.Spec PyProof.Rows RT
variable {prog : Program} {w : World} {A : Around} {s : Shared}
theorem list_init_rev {it l S : Addr} {items : Array Value} {R : Result → Shared → Prop} (hh : A.handled = none) (hit : s.heap.IsRevIter it l ((items.size : Int) - 1)) (hl : s.heap.IsList l items) (hne : l ≠ it) (hSi : S ≠ it) (hSl : S ≠ l)
    (hn : items.size ≤ sizeLine) (hS : s.heap.get? S = some { cls := .type "list", data := .seq #[] })
    (hR : ∀ h' tk acc c', (∀ b o, b ≠ S → b ≠ it → s.heap.get? b = some o → h'.get? b = some o) → h'.get? S = some { cls := .type "list", dict := none, data := .seq acc c', slots := #[] } → ItemsOf (fun i v => items[items.size - 1 - i]? = some v) acc items.size →
      R (.ok (.ret .none)) { s with heap := h', toks := tk }) :
    wpAny (model prog w) A.in1 (Builtin.«list.__init__» ⟨[.ref S, .ref it], []⟩)
      (fun fin s' => match fin with | .done f => R (.ok f) s' | .again c' => c'.quiet = true ∧ codeAny (model prog w) A c' R s') (fun e s' => R (.error e) s') s := by
  show wpAny _ _ (do let old ← Builtin.List.listItems (.ref S); Builtin.List.listUpdate (.ref S) (fun _ => #[]); letGo old.toList.reverse; Builtin.List.listExtendWith (.ref S) (.ref it) .none) _ _ s
  refine wpAny_bind ?_
  unfold Builtin.List.listItems
  refine wpAny_bind (wpAny_seqItems hS rfl (wpAny_pure ?_))
  show wpAny _ _ (updateSeq S (fun _ => #[]) >>= fun _ => letGo (#[] : Array Value).toList.reverse >>= fun _ => Builtin.List.listExtendWith (.ref S) (.ref it) .none) _ _ s
  refine wpAny_bind (wpAny_updateSeq hS rfl ?_)
  have hS2 := Heap.get?_update_self (Obj.mapSeq (fun _ => (#[] : Array Value))) hS rfl
  have oth : ∀ b o, b ≠ S → s.heap.get? b = some o → (s.heap.update S (Obj.mapSeq (fun _ => (#[] : Array Value)))).get? b = some o := fun b o hb e => (Heap.get?_update_other _ _ (Ne.symm hb)).trans e
  refine wpAny_bind (wpAny_letGo ?_)
  have hit2 : (s.heap.update S (Obj.mapSeq (fun _ => (#[] : Array Value)))).IsRevIter it l ((items.size : Int) - 1) := hit.at fun o e => oth it o (Ne.symm hSi) e
  have hl2 : (s.heap.update S (Obj.mapSeq (fun _ => (#[] : Array Value)))).IsList l items := by
    obtain ⟨o, e, r⟩ := hl
    exact ⟨o, oth l o (Ne.symm hSl) e, r⟩
  generalize s.heap.update S (Obj.mapSeq (fun _ => (#[] : Array Value))) = h2 at hS2 oth hit2 hl2 ⊢
  have W := (Walks.listRev (prog := prog) (w := w) (A := A.in1) hh it l hne items).toS
  have hSf : S ∉ [it, l] := by simp only [List.mem_cons, List.not_mem_nil, or_false, not_or]; exact ⟨hSi, hSl⟩
  have hT : ({ s with heap := h2 } : Shared).TypeIs (.ref it) "list_reverseiterator" := Heap.IsRevIter.typeIs (s := { s with heap := h2 }) hit2
  have h1 : Builtin.List.listSameRef (.ref S) (.ref it) = false := by simp [Builtin.List.listSameRef, hSi]
  unfold Builtin.List.listExtendWith
  refine wpAny_bind (wpAny_typeOf hT ?_)
  rw [if_neg (by rw [h1]; decide)]
  refine wpAny_bind (wpAny_pyIter_revIter (s := { s with heap := h2 }) hit2 ?_)
  refine wpAny_bind (wpAny_holding ?_)
  unfold Builtin.List.listLengthHint
  refine wpAny_bind (wpAny_specialOf hT nolen_lri ?_)
  show wpAny _ A.in1 (specialOf (Value.ref it) (Str.ofString "__length_hint__") >>= _) _ _ _
  refine wpAny_bind (wpAny_specialOf hT hint_lri ?_)
  generalize hid : ("list_reverseiterator.__length_hint__" : String) = id0
  wp_delta
  rw [show splitId id0 = some ("list_reverseiterator", "__length_hint__") from by subst hid; decide +kernel]
  subst hid
  refine wpAny_bind (wpAny_isInstance (b := true) hT (by rw [isSubtype_type]; kernel_rfl) ?_)
  refine wpAny_pure ?_
  rw [if_neg (by decide)]
  have e0 : ((items.size : Nat) : Int) - 1 - ((0 : Nat) : Int) = (items.size : Int) - 1 := by omega
  refine wpAny_pure ⟨plainId_quiet F.plain_extend_loop _, codeAny_extend_loopS W hn _ hSf _ items.size 0 _ _ _ rfl (Nat.zero_le _) ⟨Nat.zero_le _, by rw [e0]; exact hit2, hl2⟩ hS2 (ItemsOf.nil _) fun s' acc' c' hm hS' hacc => ?_⟩
  rw [Moved.eq_with hm]
  refine hR s'.heap s'.toks acc' c' (fun b o hb hb2 e => ?_) hS' hacc
  refine hm.heap b o (fun hmem => ?_) (oth b o hb e)
  rcases List.mem_cons.mp hmem with e' | hmem
  · exact hb e'
  · exact hb2 (List.mem_singleton.mp hmem)
theorem call_list_rev {it l : Addr} {items : Array Value} {Q : Value → Shared → Prop} {E : Value → Shared → Prop} (hh : A.handled = none) (hit : s.heap.IsRevIter it l ((items.size : Int) - 1)) (hl : s.heap.IsList l items) (hne : l ≠ it) (hn : items.size ≤ sizeLine)
    (hQ : ∀ h' tk acc c', (∀ b o, b ≠ it → s.heap.get? b = some o → h'.get? b = some o) → h'.get? s.heap.objs.size = some { cls := .type "list", dict := none, data := .seq acc c', slots := #[] } → ItemsOf (fun i v => items[items.size - 1 - i]? = some v) acc items.size →
      Q (.ref s.heap.objs.size) { s with heap := h', toks := tk }) : wpAny (model prog w) A (call (.type "list") [.ref it]) Q E s := by
  obtain ⟨oi, hoi, _⟩ := id hit
  obtain ⟨ol, hol, _⟩ := id hl
  have hSi : s.heap.objs.size ≠ it := Nat.ne_of_gt (Heap.lt_size hoi)
  have hSl : s.heap.objs.size ≠ l := Nat.ne_of_gt (Heap.lt_size hol)
  refine callType_codes (Q₁ := fun obj s₁ => obj = .ref s.heap.objs.size ∧ s₁ = { s with heap := s.heap.push { cls := .type "list", data := .seq #[] } }) PySem.F.called_list (PySem.F.typeCall_list_1 _) PySem.F.entry_list_init
    (code_list_new _ ⟨rfl, rfl⟩) fun obj s₁ h₁ => ?_
  obtain ⟨rfl, rfl⟩ := h₁
  have hS : (s.heap.push { cls := .type "list", data := .seq #[] }).get? s.heap.objs.size = some { cls := .type "list", data := .seq #[] } := Heap.get?_push_size _ rfl
  refine ⟨⟨_, hS, rfl⟩, PySem.F.args_list_init_2 _ _, list_init_rev (A := A.in1) (s := { s with heap := s.heap.push { cls := .type "list", data := .seq #[] } }) hh (hit.at fun o e => Heap.get?_push_of_some _ e) (hl.push _) hne hSi hSl hn hS fun h' tk acc c' hk hS' hacc => ?_⟩
  exact ⟨rfl, hQ h' tk acc c' (fun b o hb e => hk b o (Nat.ne_of_lt (Heap.lt_size e)) hb (Heap.get?_push_of_some _ e)) hS' hacc⟩
end
section
open PySem PySem.Spec PyProof.Rows RT
variable {X : Cx}
def tListRev (K : PySem.W.Frag) (te : TE) : TE := fun σ H Q => te σ H fun v H1 => ∃ (a : Addr) (xs : List V), v = .ref a ∧ SqL K H1 a xs ∧ ∀ q, H1 q = none → Q (.ref q) (upd H1 q (.lst xs.reverse))
theorem pe_listRev {e : Expr} {te : TE} {p p2 pos pos2 : Pos} (K : PySem.W.Frag) (hc : X.calm = true) (hg : Gl X "list") (hm : X.mg "list" = none) (hg2 : Gl X "reversed") (hm2 : X.mg "reversed" = none) (he : PE X e te)
    (hK : X.K = K := by rfl)
    (hs : starEach [e] X.env = (false, eval e X.env) :: starEach [] X.env := by rfl)
    (hs2 : starEach [.Call (.Name "reversed" p2) [e] [] pos2] X.env = (false, eval (.Call (.Name "reversed" p2) [e] [] pos2) X.env) :: starEach [] X.env := by rfl) :
    PE X (.Call (.Name "list" p) [.Call (.Name "reversed" p2) [e] [] pos2] [] pos) (tListRev K te) := by
  subst hK
  refine ⟨fun pins s σ H Q I h => ?_⟩
  refine Call_ (ld_blt I hg hm PyProof.Rows.boot_list (PyProof.Rows.callWith_type1 (args_cons (Call_ (ld_blt I hg2 hm2 PyProof.Rows.boot_reversed (PyProof.Rows.callWith_type1 (args_cons (thn (he.run pins s σ H _ I h) fun u s1 ⟨v, H1, I1, r1, q1⟩ => args_nil ?_) hs) hs rfl))) hs2) hs2 rfl))
  obtain ⟨a, xs, ev, hq, q⟩ := q1
  subst ev
  obtain rfl : u = Value.ref a := r1
  obtain ⟨its, rv, p', hz⟩ := I1.list hq
  refine call_reversed_list p'.isList (args_nil ?_)
  have hl := p'.isList
  obtain ⟨ol, hol, _⟩ := id hl
  have hne : a ≠ s1.heap.objs.size := Nat.ne_of_lt (Heap.lt_size hol)
  have hn : its.toArray.size ≤ sizeLine := by rw [List.size_toArray, ← rv.length]; exact hz
  have hsz : (s1.heap.push (revObj a ((its.toArray.size : Int) - 1))).objs.size = s1.heap.objs.size + 1 := size_push' _ _
  refine call_list_rev (s := { s1 with heap := s1.heap.push (revObj a ((its.toArray.size : Int) - 1)) }) (I1.ok.hd hc) ⟨_, Heap.get?_push_size _ rfl, rfl, rfl⟩ (hl.push _) hne hn fun h' tk acc c' hk hS' hi => ?_
  have hS2 : h'.get? (s1.heap.objs.size + 1) = some { cls := .type "list", dict := none, data := .seq acc c', slots := #[] } := by rw [← hsz]; exact hS'
  have keep : ∀ b u, s1.heap.get? b = some u → h'.get? b = some u := fun b u e => hk b u (Nat.ne_of_lt (Heap.lt_size e)) (Heap.get?_push_of_some _ e)
  refine ⟨.ref (s1.heap.objs.size + 1), upd H1 (s1.heap.objs.size + 1) (.lst xs.reverse), I1.laid (t' := tk) keep (Nat.le_succ _) (show ObjOk X.prog X.w _ _ _ (.lst xs.reverse) from ⟨by rw [List.length_reverse]; exact hz, acc.toList, c', vals_rev rv hi, by rw [Array.toArray_toList]; exact hS2⟩), ?_, q _ (I1.hok.fresh (Nat.le_succ _))⟩
  show Value.ref _ = Value.ref _
  exact congrArg Value.ref hsz
theorem w_lrev {K : PySem.W.Frag} {te : TE} {σ : L2.St} {H : Hp} {Q : VK} (h : te σ H fun v H1 => ∃ (a : Addr) (xs : List V), v = .ref a ∧ SqL K H1 a xs ∧ ∀ q, H1 q = none → Q (.ref q) (upd H1 q (.lst xs.reverse))) : tListRev K te σ H Q := h
end

/-! ### steps of the reading -/
local macro_rules | `(tactic| walk_at "len") => `(tactic| (intro vs H Q E h; first | (obtain ⟨e, _⟩ := h; subst e; rfl) | (obtain ⟨_, e, _⟩ := h; subst e; rfl) | (obtain ⟨_, _, e, _⟩ := h; subst e; rfl) | (obtain ⟨_, _, _, e, _⟩ := h; subst e; rfl) | (obtain ⟨_, _, _, _, e, _⟩ := h; subst e; rfl) | (obtain ⟨_, _, _, _, _, e, _⟩ := h; subst e; rfl) | (obtain ⟨_, _, _, _, _, _, e, _⟩ := h; subst e; rfl) | (obtain ⟨_, _, _, _, _, _, _, e, _⟩ := h; subst e; rfl) | (obtain ⟨_, _, _, _, _, _, _, _, e, _⟩ := h; subst e; rfl) | (obtain ⟨_, _, _, _, _, _, _, _, _, e, _⟩ := h; subst e; rfl) | (obtain ⟨_, _, _, _, _, _, _, _, _, _, e, _⟩ := h; subst e; rfl) | (obtain ⟨_, _, _, _, _, _, _, _, _, _, _, e, _⟩ := h; subst e; rfl)))
/-- p ≠ q -/
local macro_rules | `(tactic| walk_at "ne1") => `(tactic| (refine ne_new (H := ?H) (o := ?o) ?a ?b; (case b => assumption); (case a => walk_at "hp")))
local macro_rules | `(tactic| walk_at "ne") => `(tactic| first
  | assumption | (apply Ne.symm; assumption) | walk_at "ne1" | (apply Ne.symm; walk_at "ne1") | fail)
/-- H p = some o -/
local macro_rules | `(tactic| walk_at "hp") => `(tactic| first
  | assumption
  | exact upd_same
  | (refine (upd_ne ?n).trans ?h; (case n => walk_at "ne"); (case h => walk_at "hp"))
  | (refine Same.get (H := ?H) ?s ?h; (case s => assumption); (case h => assumption)) | fail)
local macro_rules | `(tactic| walk_at "sq") => `(tactic| first
  | assumption
  | exact SqL.of (by walk_at "hp") | exact SqT.of (by walk_at "hp")
  | (refine Same.seq (H := ?H) ?s ?h; (case h => assumption); (case s => walk_at "same"))
  | (refine same_read (H := ?H) ?s ?h; (case h => assumption); (case s => walk_at "same")) | fail)
/-- a later new object was free ahead -/
local macro_rules | `(tactic| walk_at "fr") => `(tactic| first | assumption | (refine New.of (H' := ?H) ?n ?s; (case n => assumption); (case s => walk_at "same")) | fail)
/-- what was tracked stays -/
local macro_rules | `(tactic| walk_at "same") => `(tactic| first | assumption | exact Same.refl _ | (refine Same.new ?_ (by assumption); walk_at "same") | (refine Same.mut ?s ?n; (case n => walk_at "fr"); (case s => walk_at "same")) | (refine Same.trans (H1 := ?H1) ?a ?b; (case b => assumption); (case a => walk_at "same")) | fail)
local macro_rules | `(tactic| walk_at "side") => `(tactic| first | decide | omega | (with_reducible assumption) | fail)
local macro_rules | `(tactic| walk_at "at") => `(tactic| first | rfl | assumption | exact atI_nat (by assumption) | fail)
local macro_rules | `(tactic| walk_at "ll") => `(tactic| first | omega | (simp only [List.length_append, List.length_cons, List.length_nil, List.length_map, List.length_range, List.length_set, List.length_replicate]; omega) | (simp only [List.length_append, List.length_cons, List.length_nil, List.length_map, List.length_range, List.length_set, List.length_replicate] at *; omega) | (simp; done) | (simp; omega) | fail)
local macro_rules | `(tactic| walk_at "ix") => `(tactic| first | assumption | (refine ixN_nat ?_; walk_at "ll") | rfl | fail)
local macro_rules | `(tactic| walk_at "szlt") => `(tactic| first | assumption | (refine szlt ?_; walk_at "ll") | fail)
local macro_rules | `(tactic| walk_at "szk") => `(tactic| first | assumption | (refine szlt ?_; omega) | fail)
/-- one step -/
local macro_rules | `(tactic| walk_at "st") => `(tactic| first
  | with_reducible refine w_iT ?_
  | with_reducible refine w_iF ?_
  | with_reducible refine w_iNT ?_
  | with_reducible refine w_iNF ?_
  | with_reducible refine w_iNN ?_
  | with_reducible refine w_seq ?_
  | with_reducible refine w_asg ?_
  | with_reducible refine w_gn ?_
  | with_reducible refine w_c ?_
  | with_reducible refine w_op ?_
  | with_reducible refine w_ret ?_
  | with_reducible refine w_if ?_
  | with_reducible refine w_test ?_
  | with_reducible refine w_rI0 ?_
  | with_reducible refine w_cons ?_
  | with_reducible refine w_nil ?_
  | with_reducible refine w_call ?_
  | with_reducible refine w_cb ?_
  | with_reducible refine w_drop ?_
  | with_reducible refine w_next ?_
  | with_reducible refine w_eqI ?_
  | with_reducible refine w_neI ?_
  | ((with_reducible refine w_var ?_); refine ⟨_, rfl, ?_⟩)
  | ((with_reducible refine w_aug ?_); refine ⟨_, rfl, ?_⟩)
  | with_reducible refine w_eqB ?_
  | with_reducible refine w_neB ?_
  | with_reducible refine w_tB ?_
  | with_reducible refine w_bl ?_
  | with_reducible refine w_and ?_
  | with_reducible refine w_or ?_
  | with_reducible refine w_not ?_
  | with_reducible refine w_andV ?_
  | with_reducible refine w_orV ?_
  | with_reducible refine w_notV ?_
  | with_reducible refine w_ifE ?_
  | with_reducible refine w_un ?_
  | with_reducible refine w_rU ?_
  | with_reducible refine w_ip ?_
  | with_reducible refine w_gc ?_
  | with_reducible refine w_g0 ?_
  | with_reducible refine w_gs ?_
  | with_reducible refine w_tup ?_
  | with_reducible refine w_lst ?_
  | with_reducible refine w_sl ?_
  | with_reducible refine w_np ?_
  | with_reducible refine w_part ?_
  | with_reducible refine w_partI ?_
  | with_reducible refine w_bm ?_
  | with_reducible refine w_bm0 ?_
  | with_reducible refine w_for ?_
  | with_reducible refine w_lc ?_
  | with_reducible refine w_yes ?_
  | with_reducible refine w_make ?_
  | with_reducible refine w_meth ?_
  | with_reducible refine w_sf ?_
  | with_reducible refine w_r3 ?_
  | with_reducible refine w_din ?_
  | with_reducible refine w_dni ?_
  | with_reducible refine w_dg ?_
  | with_reducible refine w_put ?_
  | with_reducible refine w_dn ?_
  | with_reducible refine w_enum ?_
  | with_reducible refine w_iL ?_
  | with_reducible refine w_iTu ?_
  | with_reducible refine w_r1 ?_
  | with_reducible refine w_r2 ?_
  | with_reducible refine w_int1 ?_
  | with_reducible refine w_intb ?_
  | with_reducible refine w_fl ?_
  | with_reducible refine w_retN ?_
  | with_reducible refine w_break ?_
  | with_reducible refine w_cont ?_
  | with_reducible refine w_par ?_
  | with_reducible refine w_par2 ?_
  | with_reducible refine w_eqS ?_
  | with_reducible refine w_neS ?_
  | with_reducible refine w_eqNI ?_
  | with_reducible refine w_eqIN ?_
  | with_reducible refine w_callS ?_
  | with_reducible refine w_ost ?_
  | with_reducible refine w_xf ?_
  | with_reducible refine w_mko ?_
  | ((with_reducible refine w_mod ?s0 ?_); (case s0 => walk_at "side"))
  | ((with_reducible refine w_div ?s0 ?s1 ?_); (case s0 => walk_at "side"); (case s1 => walk_at "side"))
  | ((with_reducible refine w_shr ?s0 ?_); (case s0 => walk_at "side"))
  | ((with_reducible refine w_shl1 ?s0 ?s1 ?_); (case s0 => walk_at "side"); (case s1 => walk_at "side"))
  | ((with_reducible refine w_mul ?s0 ?s1 ?s2 ?s3 ?_); (case s0 => walk_at "side"); (case s1 => walk_at "side"); (case s2 => walk_at "side"); (case s3 => walk_at "side"))
  | ((with_reducible refine w_shl ?s0 ?s1 ?s2 ?s3 ?_); (case s0 => walk_at "side"); (case s1 => walk_at "side"); (case s2 => walk_at "side"); (case s3 => walk_at "side"))
  | ((with_reducible refine w_r1q ?s0 ?s1 ?_); (case s0 => walk_at "side"); (case s1 => walk_at "side"))
  | ((with_reducible refine w_r2q ?s0 ?s1 ?s2 ?s3 ?_); (case s0 => walk_at "side"); (case s1 => walk_at "side"); (case s2 => walk_at "side"); (case s3 => walk_at "side"))
  | ((with_reducible refine w_ixL (xs := ?xs) (v := ?v) ?s0 ?s1 ?_); (case s0 => walk_at "sq"); (case s1 => walk_at "at"))
  | ((with_reducible refine w_ixT (xs := ?xs) (v := ?v) ?s0 ?s1 ?_); (case s0 => walk_at "sq"); (case s1 => walk_at "at"))
  | ((with_reducible refine w_ixl (xs := ?xs) (v := ?v) ?s0 ?s1 ?_); (case s0 => walk_at "sq"); (case s1 => walk_at "at"))
  | ((with_reducible refine w_ixt (xs := ?xs) (v := ?v) ?s0 ?s1 ?_); (case s0 => walk_at "sq"); (case s1 => walk_at "at"))
  | ((with_reducible refine w_lenK (xs := ?xs) ?s0 ?_); (case s0 => walk_at "sq"))
  | ((with_reducible refine w_lenTK (xs := ?xs) ?s0 ?_); (case s0 => walk_at "sq"))
  | ((with_reducible refine w_listK (xs := ?xs) ?s0 ?_); (case s0 => walk_at "sq"))
  | ((with_reducible refine w_len (xs := ?xs) ?s0 ?_); (case s0 => walk_at "sq"))
  | ((with_reducible refine w_lenT (xs := ?xs) ?s0 ?_); (case s0 => walk_at "sq"))
  | ((with_reducible refine w_iLq (xs := ?xs) ?s0 ?_); (case s0 => walk_at "sq"))
  | ((with_reducible refine w_iTq (xs := ?xs) ?s0 ?_); (case s0 => walk_at "sq"))
  | ((with_reducible refine w_tyl (xs := ?xs) ?s0 ?_); (case s0 => walk_at "sq"))
  | ((with_reducible refine w_slL (xs := ?xs) ?s0 ?_); (case s0 => walk_at "sq"))
  | ((with_reducible refine w_gt (xs := ?xs) ?s0 ?s1 ?_); (case s0 => walk_at "sq"); (case s1 => rfl))
  | ((with_reducible refine w_setL (xs := ?xs) (j := ?j) ?s0 ?s1 ?_); (case s0 => walk_at "hp"); (case s1 => walk_at "ix"))
  | ((with_reducible refine w_app (xs := ?xs) ?s0 ?s1 ?_); (case s0 => walk_at "hp"); (case s1 => walk_at "szlt"))
  | ((with_reducible refine w_rev (xs := ?xs) ?s0 ?_); (case s0 => walk_at "hp"))
  | with_reducible refine w_isi kb_ii ?_
  | with_reducible refine w_isi kb_ib ?_
  | with_reducible refine w_isb kb_bb ?_
  | with_reducible refine w_isb kb_bi ?_
  | with_reducible refine w_isn kb_ni ?_
  | with_reducible refine w_isn kb_nb ?_
  | ((with_reducible refine w_isl (xs := ?xs) ?s0 kb_ll ?_); (case s0 => walk_at "hp"))
  | ((with_reducible refine w_isl (xs := ?xs) ?s0 kb_lt ?_); (case s0 => walk_at "hp"))
  | ((with_reducible refine w_ist (xs := ?xs) ?s0 kb_tt ?_); (case s0 => walk_at "hp"))
  | ((with_reducible refine w_ist (xs := ?xs) ?s0 kb_tl ?_); (case s0 => walk_at "hp"))
  | with_reducible refine w_len1 rfl ?_
  | with_reducible refine w_isN ?_
  | with_reducible refine w_2i ?_
  | with_reducible refine w_1i ?_
  | with_reducible refine w_augS ?_
  | ((with_reducible refine w_getL (xs := ?xs) (v := ?v) ?s0 ?s1 ?_); (case s0 => walk_at "sq"); (case s1 => assumption))
  | ((with_reducible refine w_wipe ?s0 ?_); (case s0 => rfl))
  | ((with_reducible refine w_inI (kvs := ?kvs) ?s0 ?_); (case s0 => walk_at "hp"))
  | ((with_reducible refine w_putI (kvs := ?kvs) ?s0 ?s1 ?_); (case s0 => walk_at "hp"); (case s1 => walk_at "szk"))
  | ((with_reducible refine w_ins (xs := ?xs) ?s0 ?s1 ?s2 ?s3 ?_); (case s0 => walk_at "hp"); (case s1 => walk_at "szlt"); (case s2 => walk_at "side"); (case s3 => walk_at "side"))
  | ((with_reducible refine w_pow ?s0 ?_); (case s0 => exact ⟨by decide, by decide, by decide⟩))
  | ((with_reducible refine ifd (fun h => ?c) (fun _ => ?_)); (case c => exfalso; omega))
  | ((with_reducible refine ifd (fun _ => ?_) (fun h => ?c)); (case c => exfalso; omega))
  | ((with_reducible refine ifnd (fun h => ?c) (fun _ => ?_)); (case c => exfalso; omega))
  | ((with_reducible refine ifnd (fun _ => ?_) (fun h => ?c)); (case c => exfalso; omega))
  | fail)
local macro_rules | `(tactic| walk_at "sts") => `(tactic| repeat (walk_at "st"))

def topS (i : Nat) : Stmt := PySem.Challenge.pw_spinfloor_k21_rows_to_rooms.main.body.getD i (.Pass ⟨0, 0, 0, 0⟩)
abbrev s_beyond : Stmt := topS 1
theorem sc_beyond : FnScope ["link", "room"] ["link", "room"] (defScope s_beyond) := ⟨rfl, rfl, rfl, by decide +kernel, rfl, by decide +kernel, by decide +kernel⟩
abbrev s_row_to : Stmt := topS 2
theorem sc_row_to : FnScope ["links", "via", "room", "row"] ["links", "via", "room"] (defScope s_row_to) := ⟨rfl, rfl, rfl, by decide +kernel, rfl, by decide +kernel, by decide +kernel⟩
abbrev s_law_cell : Stmt := topS 4
theorem sc_law_cell : FnScope ["script", "k"] ["script", "k"] (defScope s_law_cell) := ⟨rfl, rfl, rfl, by decide +kernel, rfl, by decide +kernel, by decide +kernel⟩
abbrev s_law_whole : Stmt := topS 5
theorem sc_law_whole : FnScope ["found"] ["found"] (defScope s_law_whole) := ⟨rfl, rfl, rfl, by decide +kernel, rfl, by decide +kernel, by decide +kernel⟩
abbrev s_law_wood : Stmt := topS 6
theorem sc_law_wood : FnScope ["script", "many", "deep", "before", "hung", "room", "cell"] ["script", "many", "deep"] (defScope s_law_wood) := ⟨rfl, rfl, rfl, by decide +kernel, rfl, by decide +kernel, by decide +kernel⟩
abbrev s_law_laid : Stmt := topS 7
theorem sc_law_laid : FnScope ["script", "before", "backwards", "room", "rooms", "links", "via", "cell"] ["script", "before", "backwards"] (defScope s_law_laid) := ⟨rfl, rfl, rfl, by decide +kernel, rfl, by decide +kernel, by decide +kernel⟩
abbrev s_law : Stmt := topS 8
theorem sc_law : FnScope ["script", "many", "wood", "laid", "room", "due", "at", "links", "via", "found", "number"] ["script"] (defScope s_law) := ⟨rfl, rfl, rfl, by decide +kernel, rfl, by decide +kernel, by decide +kernel⟩
structure Bl (mg : Str → Option Value) : Prop where
  len : mg "len" = none
  isinstance : mg "isinstance" = none
  int : mg "int" = none
  bool : mg "bool" = none
  range : mg "range" = none
  min : mg "min" = none
  list : mg "list" = none
  reversed : mg "reversed" = none
/-! ### data of webs -/
def dRow (r : List Nat) : PyData := .list (r.map fun x : Nat => .int (x : Int))
def dRows (T : List (List Nat)) : PyData := .list (T.map dRow)
def iv (r : List Nat) : List V := r.map fun x : Nat => V.int (x : Int)
theorem iv_len (r : List Nat) : (iv r).length = r.length := by unfold iv; simp
theorem iv_at {r : List Nat} {i : Nat} (h : i < r.length) : (iv r)[i]? = some (.int ((r.getD i 0 : Nat) : Int)) := by
  unfold iv
  rw [List.getElem?_map, List.getD_eq_getElem?_getD, List.getElem?_eq_getElem h]
  rfl
theorem iv_app (r s : List Nat) : iv (r ++ s) = iv r ++ iv s := by unfold iv; simp
theorem take_snoc {l : List Nat} {i : Nat} (h : i < l.length) : l.take (i + 1) = l.take i ++ [l.getD i 0] := by
  rw [List.take_add_one, List.getElem?_eq_getElem h, List.getD_eq_getElem?_getD, List.getElem?_eq_getElem h]
  rfl
theorem iv_flat (r : List Nat) : (iv r).all flatV = true := by
  rw [List.all_eq_true]
  intro v hv
  obtain ⟨x, _, rfl⟩ := List.mem_map.mp hv
  rfl
theorem dpRowA {K : PySem.W.Frag} {H : Hp} {a : Addr} {r : List Nat} (h : Dp K H (.ref a) (dRow r)) : SqL K H a (iv r) := by
  obtain ⟨xs, h1, h2⟩ := dpLstA h
  have e := dpAll_ints (ns := r.map fun x : Nat => (x : Int)) (by rw [List.map_map]; exact h2)
  rw [List.map_map] at e
  have e2 : xs = iv r := e
  rw [← e2]
  exact h1
theorem dpRow {K : PySem.W.Frag} {H : Hp} {a : Addr} {r : List Nat} (h : SqL K H a (iv r)) : Dp K H (.ref a) (dRow r) := by
  have := dpInts (K := K) (H := H) (r.map fun x : Nat => (x : Int))
  rw [List.map_map, List.map_map] at this
  exact .lst h this
theorem goodRow (r : List Nat) : Good 1 (dRow r) := goodLst (goodMap fun _ => goodInt)
theorem goodRows (T : List (List Nat)) : Good 2 (dRows T) := goodLst (goodMap fun r => goodRow r)
theorem w_idx {K : PySem.W.Frag} {H : Hp} {Q : VK} {p : Addr} {r : List Nat} {x : Nat} (hs : SqL K H p (iv r)) (hx : x ∈ r) (h : Q (.int ((r.idxOf x : Nat) : Int)) H) : rIndex K (.ref p) [.int (x : Int)] H Q := by
  have hl : r.idxOf x < r.length := List.idxOf_lt_length_of_mem hx
  refine ⟨p, iv r, .int (x : Int), r.idxOf x, .int ((r.getD (r.idxOf x) 0 : Nat) : Int), rfl, rfl, hs, rfl, iv_flat r, iv_at hl, ?_, ?_, h⟩
  · have : r.getD (r.idxOf x) 0 = x := by
      rw [List.getD_eq_getElem?_getD, List.getElem?_eq_getElem hl]
      exact List.getElem_idxOf hl
    rw [this]
    simp [eqV]
  · intro m z' hm hz
    have hml : m < r.length := by omega
    rw [iv_at hml] at hz
    cases hz
    have hne : r.getD m 0 ≠ x := by
      rw [List.getD_eq_getElem?_getD, List.getElem?_eq_getElem hml]
      have := List.not_of_lt_findIdx (xs := r) (p := (· == x)) hm
      simpa using this
    show (((r.getD m 0 : Nat) : Int) == (x : Int)) = false
    rw [beq_eq_false_iff_ne]
    omega
theorem iv_map (r : List Nat) : iv r = (r.map fun x : Nat => (x : Int)).map V.int := by unfold iv; rw [List.map_map]; rfl

/-! ### rooms and links -/
abbrev Lk := List (Nat × Nat × Nat)
def lka (L : Lk) (k : Nat) : Nat := (L.getD k (0, 0, 0)).1
def lkb (L : Lk) (k : Nat) : Nat := (L.getD k (0, 0, 0)).2.1
def lkw (L : Lk) (k : Nat) : Nat := (L.getD k (0, 0, 0)).2.2
theorem lk_at {L : Lk} {k : Nat} (h : k < L.length) : L[k]? = some (lka L k, lkb L k, lkw L k) := by
  unfold lka lkb lkw
  rw [List.getD_eq_getElem?_getD, List.getElem?_eq_getElem h]
  rfl
def JL (L : Lk) (k a b : Nat) : Prop := (lka L k = a ∧ lkb L k = b) ∨ (lka L k = b ∧ lkb L k = a)
theorem JL.symm {L : Lk} {k a b : Nat} (h : JL L k a b) : JL L k b a := by
  rcases h with h | h
  · exact .inr h
  · exact .inl h
/-- where a link leads from a room -/
def byd (a b r : Nat) : Option Nat := if a = r then some b else if b = r then some a else none
theorem byd_some {L : Lk} {k r o : Nat} (h : byd (lka L k) (lkb L k) r = some o) : JL L k r o ∧ ∀ b, JL L k r b → b = o := by
  unfold byd at h
  split at h
  · rename_i e
    cases h
    refine ⟨.inl ⟨e, rfl⟩, fun b hb => ?_⟩
    rcases hb with ⟨_, h2⟩ | ⟨h1, h2⟩
    · exact h2.symm
    · omega
  · split at h
    · rename_i e1 e2
      cases h
      refine ⟨.inr ⟨rfl, e2⟩, fun b hb => ?_⟩
      rcases hb with ⟨h1, h2⟩ | ⟨h1, h2⟩
      · exact absurd h1 e1
      · exact h1.symm
    · cases h
theorem byd_none {L : Lk} {k r : Nat} (h : byd (lka L k) (lkb L k) r = none) (b : Nat) : ¬ JL L k r b := by
  unfold byd at h
  split at h
  · cases h
  · split at h
    · cases h
    · rintro (⟨h1, h2⟩ | ⟨h1, h2⟩)
      · exact absurd h1 (by assumption)
      · exact absurd h2 (by assumption)
def upF {α : Type} (f : Nat → α) (o : Nat) (v : α) : Nat → α := fun q => if q = o then v else f q
theorem upF_same {α : Type} {f : Nat → α} {o : Nat} {v : α} : upF f o v o = v := if_pos rfl
theorem upF_ne {α : Type} {f : Nat → α} {o q : Nat} {v : α} (h : q ≠ o) : upF f o v q = f q := if_neg h
/-- fares from s, with the last links and an order of the rooms -/
structure FareOk (n : Nat) (L : Lk) (s : Nat) (far via : Nat → Option Nat) (rk : Nat → Nat) : Prop where
  s0 : far s = some 0
  sv : via s = none
  lt : ∀ r, far r ≠ none → r < n
  un : ∀ r, far r = none → via r = none
  edge : ∀ k a b, k < L.length → JL L k a b → ∀ x, far a = some x → ∃ y, far b = some y ∧ y ≤ x + lkw L k
  back : ∀ r, r ≠ s → ∀ y, far r = some y → ∃ k q x, via r = some k ∧ k < L.length ∧ JL L k q r ∧ far q = some x ∧ y = x + lkw L k ∧ rk q < rk r
  rkl : ∀ r, far r ≠ none → rk r < n
/-- the search under way: P tells which links have been looked along -/
structure DI (n : Nat) (L : Lk) (s : Nat) (P : Nat → Nat → Prop) (far via : Nat → Option Nat) (dn : Nat → Bool) (rk : Nat → Nat) (c : Nat) : Prop where
  s0 : far s = some 0
  sv : via s = none
  lt : ∀ r, far r ≠ none → r < n
  un : ∀ r, far r = none → via r = none
  dr : ∀ r, dn r = true → far r ≠ none
  mono : ∀ q r x y, dn q = true → far q = some x → dn r = false → far r = some y → x ≤ y
  rel : ∀ k a b, k < L.length → P k a → JL L k a b → dn a = true → ∀ x, far a = some x → ∃ y, far b = some y ∧ y ≤ x + lkw L k
  back : ∀ r, r ≠ s → ∀ y, far r = some y → ∃ k q x, via r = some k ∧ k < L.length ∧ JL L k q r ∧ dn q = true ∧ far q = some x ∧ y = x + lkw L k ∧ (dn r = true → rk q < rk r)
  rkl : ∀ r, dn r = true → rk r < c
section
variable {n s c : Nat} {L : Lk} {P : Nat → Nat → Prop} {far via : Nat → Option Nat} {dn : Nat → Bool} {rk : Nat → Nat}
theorem DI.zero (hs : s < n) : DI n L s (fun _ _ => True) (upF (fun _ => none) s (some 0)) (fun _ => none) (fun _ => false) (fun _ => 0) 0 := by
  refine ⟨upF_same, rfl, fun r h => ?_, fun _ _ => rfl, fun _ h => (by cases h), fun _ _ _ _ h => (by cases h), fun _ _ _ _ _ _ h => (by cases h), fun r hr y h => ?_, fun _ h => (by cases h)⟩
  · by_cases e : r = s
    · subst e; exact hs
    · rw [upF_ne e] at h; exact absurd rfl h
  · rw [upF_ne hr] at h; cases h
theorem DI.open (h : DI n L s (fun _ _ => True) far via dn rk c) {r x : Nat} (hr : dn r = false) (hx : far r = some x) (hmin : ∀ q y, dn q = false → far q = some y → x ≤ y) :
    DI n L s (fun k a => a ≠ r ∨ k < 0) far via (upF dn r true) (upF rk r c) (c + 1) ∧ ∀ q y, upF dn r true q = true → far q = some y → y ≤ x := by
  refine ⟨⟨h.s0, h.sv, h.lt, h.un, fun q hq => ?_, fun q t y z hq hy ht hz => ?_, fun k a b hk hP hj ha y hy => ?_, fun t ht y hy => ?_, fun q hq => ?_⟩, fun q y hq hy => ?_⟩
  · by_cases e : q = r
    · subst e; rw [hx]; simp
    · rw [upF_ne e] at hq; exact h.dr q hq
  · have et : t ≠ r := fun e => by subst e; rw [upF_same] at ht; cases ht
    rw [upF_ne et] at ht
    by_cases e : q = r
    · subst e
      rw [hx] at hy; cases hy
      exact hmin t z ht hz
    · rw [upF_ne e] at hq; exact h.mono q t y z hq hy ht hz
  · rcases hP with hP | hP
    · rw [upF_ne hP] at ha; exact h.rel k a b hk trivial hj ha y hy
    · omega
  · obtain ⟨k, q, z, h1, h2, h3, h4, h5, h6, h7⟩ := h.back t ht y hy
    have eq : q ≠ r := fun e => by subst e; rw [hr] at h4; cases h4
    refine ⟨k, q, z, h1, h2, h3, by rw [upF_ne eq]; exact h4, h5, h6, fun ht2 => ?_⟩
    rw [upF_ne eq]
    by_cases e : t = r
    · subst e; rw [upF_same]; exact h.rkl q h4
    · rw [upF_ne e] at ht2 ⊢; exact h7 ht2
  · by_cases e : q = r
    · subst e; rw [upF_same]; omega
    · rw [upF_ne e] at hq ⊢; have := h.rkl q hq; omega
  · by_cases e : q = r
    · subst e; rw [hx] at hy; cases hy; exact Nat.le_refl _
    · rw [upF_ne e] at hq; exact h.mono q r y x hq hy hr hx
theorem DI.close (h : DI n L s P far via dn rk c) (hP : ∀ k a, k < L.length → P k a) : DI n L s (fun _ _ => True) far via dn rk c :=
  ⟨h.s0, h.sv, h.lt, h.un, h.dr, h.mono, fun k a b hk _ => h.rel k a b hk (hP k a hk), h.back, h.rkl⟩
theorem DI.skip {r j : Nat} (h : DI n L s (fun k a => a ≠ r ∨ k < j) far via dn rk c) (hj : ∀ b, JL L j r b → ∀ x, far r = some x → ∃ y, far b = some y ∧ y ≤ x + lkw L j) : DI n L s (fun k a => a ≠ r ∨ k < j + 1) far via dn rk c := by
  refine ⟨h.s0, h.sv, h.lt, h.un, h.dr, h.mono, fun k a b hk hP hjl ha x hx => ?_, h.back, h.rkl⟩
  by_cases e : a ≠ r
  · exact h.rel k a b hk (.inl e) hjl ha x hx
  · have ea : a = r := Classical.not_not.mp e
    subst ea
    by_cases ek : k = j
    · subst ek; exact hj b hjl x hx
    · refine h.rel k a b hk (.inr ?_) hjl ha x hx
      rcases hP with h | h
      · exact absurd rfl h
      · omega
theorem DI.relax {r j o x : Nat} (h : DI n L s (fun k a => a ≠ r ∨ k < j) far via dn rk c) (htop : ∀ q y, dn q = true → far q = some y → y ≤ x) (hr : dn r = true) (hx : far r = some x) (hj : j < L.length) (hjl : JL L j r o) (huq : ∀ b, JL L j r b → b = o) (hon : o < n) (ho : dn o = false)
    (hlt : ∀ y, far o = some y → x + lkw L j < y) : DI n L s (fun k a => a ≠ r ∨ k < j + 1) (upF far o (some (x + lkw L j))) (upF via o (some j)) dn rk c ∧ ∀ q y, dn q = true → upF far o (some (x + lkw L j)) q = some y → y ≤ x := by
  have hor : o ≠ r := fun e => by subst e; rw [hr] at ho; cases ho
  have hos : s ≠ o := fun e => by
    subst e
    have := hlt 0 h.s0
    omega
  have hdo : ∀ q, dn q = true → q ≠ o := fun q hq e => by subst e; rw [hq] at ho; cases ho
  refine ⟨⟨by rw [upF_ne hos]; exact h.s0, by rw [upF_ne hos]; exact h.sv, fun q hq => ?_, fun q hq => ?_, fun q hq => ?_, fun q t y z hq hy ht hz => ?_, fun k a b hk hP hjk ha y hy => ?_, fun t ht y hy => ?_, h.rkl⟩, fun q y hq hy => ?_⟩
  · by_cases e : q = o
    · subst e; exact hon
    · rw [upF_ne e] at hq; exact h.lt q hq
  · by_cases e : q = o
    · subst e; rw [upF_same] at hq; cases hq
    · rw [upF_ne e] at hq ⊢; exact h.un q hq
  · rw [upF_ne (hdo q hq)]; exact h.dr q hq
  · rw [upF_ne (hdo q hq)] at hy
    have := htop q y hq hy
    by_cases e : t = o
    · subst e; rw [upF_same] at hz; cases hz; omega
    · rw [upF_ne e] at hz; exact h.mono q t y z hq hy ht hz
  · rw [upF_ne (hdo a ha)] at hy
    by_cases ea : a = r ∧ k = j
    · obtain ⟨ea, ek⟩ := ea
      subst ea ek
      rw [hx] at hy; cases hy
      have := huq b hjk
      subst this
      exact ⟨_, upF_same, Nat.le_refl _⟩
    · obtain ⟨z, hz, hz2⟩ := h.rel k a b hk (by
        rcases hP with h | h
        · exact .inl h
        · by_cases e : a = r
          · exact .inr (by have : k ≠ j := fun z => ea ⟨e, z⟩; omega)
          · exact .inl e) hjk ha y hy
      by_cases eb : b = o
      · subst eb
        have := hlt z hz
        exact ⟨_, upF_same, by omega⟩
      · exact ⟨z, by rw [upF_ne eb]; exact hz, hz2⟩
  · by_cases e : t = o
    · subst e
      rw [upF_same] at hy; cases hy
      exact ⟨j, r, x, upF_same, hj, hjl, hr, by rw [upF_ne (Ne.symm hor)]; exact hx, rfl, fun z => by rw [ho] at z; cases z⟩
    · rw [upF_ne e] at hy
      obtain ⟨k, q, z, h1, h2, h3, h4, h5, h6, h7⟩ := h.back t ht y hy
      exact ⟨k, q, z, by rw [upF_ne e]; exact h1, h2, h3, h4, by rw [upF_ne (hdo q h4)]; exact h5, h6, h7⟩
  · rw [upF_ne (hdo q hq)] at hy
    exact htop q y hq hy
theorem DI.done (h : DI n L s (fun _ _ => True) far via dn rk c) (hc : c ≤ n) (hd : ∀ r, far r ≠ none → dn r = true) : FareOk n L s far via rk := by
  refine ⟨h.s0, h.sv, h.lt, h.un, fun k a b hk hj x hx => h.rel k a b hk trivial hj (hd a (by rw [hx]; simp)) x hx, fun r hr y hy => ?_, fun r hr => ?_⟩
  · obtain ⟨k, q, z, h1, h2, h3, h4, h5, h6, h7⟩ := h.back r hr y hy
    exact ⟨k, q, z, h1, h2, h3, h5, h6, h7 (hd r (by rw [hy]; simp))⟩
  · have := h.rkl r (hd r hr); omega
end
def cnf (f : Nat → Bool) : Nat → Nat
  | 0 => 0
  | m + 1 => cnf f m + (if f m = true then 0 else 1)
theorem cnf_congr {f g : Nat → Bool} : ∀ {m : Nat}, (∀ i, i < m → f i = g i) → cnf f m = cnf g m
  | 0, _ => rfl
  | m + 1, h => by
    show cnf f m + (if f m = true then 0 else 1) = cnf g m + (if g m = true then 0 else 1)
    rw [cnf_congr fun i hi => h i (by omega), h m (by omega)]
theorem cnf_set {f : Nat → Bool} {r : Nat} (hf : f r = false) : ∀ {m : Nat}, r < m → cnf (upF f r true) m + 1 = cnf f m
  | 0, h => absurd h (by omega)
  | m + 1, h => by
    show cnf (upF f r true) m + (if upF f r true m = true then 0 else 1) + 1 = cnf f m + (if f m = true then 0 else 1)
    by_cases e : r = m
    · subst e
      rw [upF_same, hf, cnf_congr fun i hi => upF_ne (f := f) (v := true) (show i ≠ r by omega)]
      simp
    · rw [upF_ne (fun z => e z.symm), ← cnf_set hf (show r < m by omega)]
      omega
theorem cnf_none : ∀ m, cnf (fun _ => false) m = m
  | 0 => rfl
  | m + 1 => by
    show cnf (fun _ => false) m + 1 = m + 1
    rw [cnf_none m]
/-! ### lists by room -/
abbrev ov : Option Nat → V
  | none => .non
  | some x => .int (x : Nat)
def ovs (f : Nat → Option Nat) (n : Nat) : List V := (List.range n).map fun r => ov (f r)
def bls (f : Nat → Bool) (n : Nat) : List V := (List.range n).map fun r => V.bl (f r)
theorem ovs_len (f : Nat → Option Nat) (n : Nat) : (ovs f n).length = n := by unfold ovs; simp
theorem bls_len (f : Nat → Bool) (n : Nat) : (bls f n).length = n := by unfold bls; simp
theorem ovs_at {f : Nat → Option Nat} {n r : Nat} (h : r < n) : (ovs f n)[r]? = some (ov (f r)) := map_at h
theorem bls_at {f : Nat → Bool} {n r : Nat} (h : r < n) : (bls f n)[r]? = some (.bl (f r)) := map_at h
theorem ovs_set (f : Nat → Option Nat) (n j : Nat) (v : Option Nat) : (ovs f n).set j (ov v) = ovs (upF f j v) n := by
  unfold ovs
  rw [map_set]
  refine List.map_congr_left fun r _ => ?_
  by_cases e : r = j
  · subst e; rw [if_pos rfl, upF_same]
  · rw [if_neg e, upF_ne e]
theorem bls_set (f : Nat → Bool) (n j : Nat) (v : Bool) : (bls f n).set j (.bl v) = bls (upF f j v) n := by
  unfold bls
  rw [map_set]
  refine List.map_congr_left fun r _ => ?_
  by_cases e : r = j
  · subst e; rw [if_pos rfl, upF_same]
  · rw [if_neg e, upF_ne e]
theorem rep_one (n : Nat) (v : V) : (List.replicate n [v]).flatten = (List.range n).map fun _ => v := by
  have : (List.replicate n [v]).flatten = List.replicate n v := by
    induction n with
    | zero => rfl
    | succ n ih => rw [List.replicate_succ, List.flatten_cons, ih, List.replicate_succ]; rfl
  refine List.ext_getElem (by simp) fun i h1 h2 => ?_
  simp [this]
theorem rep_ov (n : Nat) : (List.replicate n [V.non]).flatten = ovs (fun _ => none) n := rep_one n .non
theorem rep_bl (n : Nat) (b : Bool) : (List.replicate n [V.bl b]).flatten = bls (fun _ => b) n := rep_one n (.bl b)
theorem dec_int_non (i : Int) : decide (V.int i = V.non) = false := decide_eq_false (by simp)
theorem dec_ov (o : Option Nat) : decide (ov o = V.non) = o.isNone := by cases o <;> simp [ov]
def dLk (l : Nat × Nat × Nat) : PyData := .tuple ([((l.1 : Nat) : Int), ((l.2.1 : Nat) : Int), ((l.2.2 : Nat) : Int)].map PyData.int)
def dLks (L : Lk) : PyData := .list (L.map dLk)
theorem dpLkAt {K : PySem.W.Frag} {H : Hp} {xs : List V} {L : Lk} (h : DpAll K H xs (L.map dLk)) {i : Nat} (hi : i < L.length) : ∃ p, xs[i]? = some (.ref p) ∧ SqT K H p [.int (lka L i : Nat), .int (lkb L i : Nat), .int (lkw L i : Nat)] := by
  obtain ⟨v, h1, h2⟩ := dpaGet (i := i) (d := dLk (lka L i, lkb L i, lkw L i)) h (by rw [List.getElem?_map, lk_at hi]; rfl)
  obtain ⟨p, ys, rfl, h3, h4⟩ := dpTup h2
  have := dpAll_ints h4
  rw [this] at h3
  exact ⟨p, h1, h3⟩
theorem goodLk (l : Nat × Nat × Nat) : Good 1 (dLk l) := goodTup (goodMap fun _ => goodInt)
theorem goodLks (L : Lk) : Good 2 (dLks L) := goodLst (goodMap goodLk)
/-! ### walks -/
inductive Wk (L : Lk) : Nat → Nat → Nat → Prop
  | refl (a : Nat) : Wk L a a 0
  | step {a b c l k : Nat} : Wk L a b l → k < L.length → JL L k b c → Wk L a c (l + lkw L k)
theorem Wk.trans {L : Lk} {a b c l m : Nat} (h : Wk L a b l) (h' : Wk L b c m) : Wk L a c (l + m) := by
  induction h' with
  | refl => exact h
  | step _ hk hj ih => rw [← Nat.add_assoc]; exact .step ih hk hj
theorem Wk.symm {L : Lk} {a b l : Nat} (h : Wk L a b l) : Wk L b a l := by
  induction h with
  | refl => exact .refl _
  | step _ hk hj ih =>
    have := (Wk.step (.refl _) hk hj.symm).trans ih
    rw [Nat.zero_add, Nat.add_comm] at this
    exact this
section
variable {n s : Nat} {L : Lk} {far via : Nat → Option Nat} {rk : Nat → Nat}
theorem FareOk.walk (h : FareOk n L s far via rk) : ∀ (m r y : Nat), rk r ≤ m → far r = some y → Wk L s r y
  | m, r, y, hm, hy => by
    by_cases e : r = s
    · subst e
      rw [h.s0] at hy
      cases hy
      exact .refl _
    · obtain ⟨k, q, x, h1, h2, h3, h4, h5, h6⟩ := h.back r e y hy
      match m, hm with
      | 0, hm => omega
      | m + 1, hm =>
        have := FareOk.walk h m q x (by omega) h4
        rw [h5]
        exact .step this h2 h3
theorem FareOk.wk (h : FareOk n L s far via rk) {r y : Nat} (hy : far r = some y) : Wk L s r y := h.walk _ r y (Nat.le_refl _) hy
theorem FareOk.le (h : FareOk n L s far via rk) {a b l : Nat} (hw : Wk L a b l) : ∀ {x : Nat}, far a = some x → ∃ y, far b = some y ∧ y ≤ x + l := by
  induction hw with
  | refl => exact fun hx => ⟨_, hx, by omega⟩
  | step _ hk hj ih =>
    intro x hx
    obtain ⟨y, hy, hle⟩ := ih hx
    obtain ⟨z, hz, hle2⟩ := h.edge _ _ _ hk hj y hy
    exact ⟨z, hz, by omega⟩
theorem FareOk.flip (h : FareOk n L s far via rk) {t : Nat} {far' via' : Nat → Option Nat} {rk' : Nat → Nat} (h' : FareOk n L t far' via' rk') : far t = far' s := by
  cases e : far t with
  | some y =>
    obtain ⟨z, hz, hle⟩ := h'.le (h.wk e).symm h'.s0
    obtain ⟨y', hy', hle'⟩ := h.le (h'.wk hz).symm h.s0
    rw [e] at hy'
    cases hy'
    rw [hz]
    congr 1
    omega
  | none =>
    cases e' : far' s with
    | none => rfl
    | some z =>
      obtain ⟨y, hy, _⟩ := h.le (h'.wk e').symm h.s0
      rw [e] at hy
      cases hy
/-- what is reached -/
def WholeL (L : Lk) (n : Nat) : Prop := ∀ C : Nat → Bool, C 0 = true → (∀ k, k < L.length → C (lka L k) = C (lkb L k)) → ∀ r, r < n → C r = true
theorem Wk.closed {a b l : Nat} (h : Wk L a b l) (C : Nat → Bool) (hC : ∀ k, k < L.length → C (lka L k) = C (lkb L k)) : C b = C a := by
  induction h with
  | refl => rfl
  | step _ hk hj ih =>
    rw [← ih]
    have := hC _ hk
    rcases hj with ⟨h1, h2⟩ | ⟨h1, h2⟩
    · rw [h1, h2] at this; exact this.symm
    · rw [h1, h2] at this; exact this
theorem FareOk.whole (h : FareOk n L 0 far via rk) : (∀ r, r < n → far r ≠ none) ↔ WholeL L n := by
  refine ⟨fun hr C h0 hC r hrn => ?_, fun hw r hrn hfr => ?_⟩
  · obtain ⟨y, hy⟩ := Option.ne_none_iff_exists'.mp (hr r hrn)
    rw [(h.wk hy).closed C hC, h0]
  · have := hw (fun r => (far r).isSome) (by show (far 0).isSome = true; rw [h.s0]; rfl) (fun k hk => by
      show (far (lka L k)).isSome = (far (lkb L k)).isSome
      cases e1 : far (lka L k) with
      | some x =>
        obtain ⟨y, hy, _⟩ := h.edge k _ _ hk (.inl ⟨rfl, rfl⟩) x e1
        rw [hy]; rfl
      | none =>
        cases e2 : far (lkb L k) with
        | none => rfl
        | some y =>
          obtain ⟨x, hx, _⟩ := h.edge k _ _ hk (.inr ⟨rfl, rfl⟩) y e2
          rw [e1] at hx; cases hx) r hrn
    simp [hfr] at this
/-- the rooms along a row -/
structure WayOk (n : Nat) (L : Lk) (s : Nat) (far : Nat → Option Nat) (rk : Nat → Nat) (ks rs : List Nat) (r : Nat) : Prop where
  len : rs.length = ks.length + 1
  fst : rs.getD 0 0 = s
  lst : rs.getD ks.length 0 = r
  f0 : far s = some 0
  step : ∀ j, j < ks.length → ks.getD j 0 < L.length ∧ JL L (ks.getD j 0) (rs.getD j 0) (rs.getD (j + 1) 0) ∧ rk (rs.getD j 0) < rk (rs.getD (j + 1) 0) ∧ rs.getD (j + 1) 0 < n ∧ ∃ x, far (rs.getD j 0) = some x ∧ far (rs.getD (j + 1) 0) = some (x + lkw L (ks.getD j 0))
theorem getD_app {l : List Nat} {a i : Nat} : (l ++ [a]).getD i 0 = if i = l.length then a else l.getD i 0 := by
  rw [List.getD_eq_getElem?_getD, List.getD_eq_getElem?_getD, List.getElem?_append]
  by_cases e : i = l.length
  · subst e; simp
  · by_cases e2 : i < l.length
    · rw [if_pos e2, if_neg e]
    · rw [if_neg e2, if_neg e, List.getElem?_eq_none (by simp; omega), List.getElem?_eq_none (by omega)]
theorem WayOk.mono {ks rs : List Nat} {r : Nat} (h : WayOk n L s far rk ks rs r) : ∀ j, j ≤ ks.length → ∀ i, i < j → rk (rs.getD i 0) < rk (rs.getD j 0)
  | 0, _, i, hi => absurd hi (by omega)
  | j + 1, hj, i, hi => by
    have h1 := (h.step j (by omega)).2.2.1
    by_cases e : i = j
    · subst e; exact h1
    · have := WayOk.mono h j (by omega) i (by omega)
      omega
end

/-! ### fares -/
section
variable {P : Program} {w : World} {K : PySem.W.Frag} {mg : Str → Option Value} {base : Heap}
def spBeyond (K : PySem.W.Frag) : Sp := fun vs H Q _ => ∃ (p : Addr) (a b w r : Nat), vs = [.ref p, .int r] ∧ SqT K H p [.int a, .int b, .int w] ∧ Q (ov (byd a b r)) H
theorem ok_beyond {f : Addr} {fd : FuncData} (F : Fun K "beyond" "beyond" s_beyond f fd) (gf : mg "beyond" = some (.ref f)) (B : Bl mg) : Has P w K mg base CX0 1 "beyond" ["link", "room"] (spBeyond K) := by
  refine Has.mk' F gf (F.binds (ps := ["link", "room"]) fun _ _ _ _ _ _ us hl => match us, hl with | [_, _], _ => rfl) sc_beyond (by walk_at "len") (fun cdv A outer s H vs Q E hr h => ?_)
  obtain ⟨p, a, b, w, r, rfl, hp, q⟩ := h
  unfold byd at q
  refine ⟨_, (pss_cons (ps_if (pt_cmpR op_eq (pe_ix (ix_tupK K) (pv 0) pe_int (fun _ _ => rfl)) (pv 1) (nomark _)) (pss_one (ps_ret (pe_ix (ix_tupK K) (pv 0) pe_int (fun _ _ => rfl)))) pss_nil)
 (pss_cons (ps_if (pt_cmpR op_eq (pe_ix (ix_tupK K) (pv 0) pe_int (fun _ _ => rfl)) (pv 1) (nomark _)) (pss_one (ps_ret (pe_ix (ix_tupK K) (pv 0) pe_int (fun _ _ => rfl)))) pss_nil)
 (pss_one (ps_ret pe_non)))), ?_⟩
  walk_at "sts"
  refine ifd (fun hc => ?_) (fun hc => ?_)
  · walk_at "sts"
    rw [if_pos (by omega)] at q
    exact q
  · walk_at "sts"
    rw [if_neg (by omega)] at q
    refine ifd (fun hd => ?_) (fun hd => ?_)
    · walk_at "sts"
      rw [if_pos (by omega)] at q
      exact q
    · walk_at "sts"
      rw [if_neg (by omega)] at q
      exact q
end

/-! ### the row of links that leads to a room -/
inductive RowL (L : Lk) (via : Nat → Option Nat) : Nat → List Nat → Prop
  | nil {r : Nat} : via r = none → RowL L via r []
  | cons {r k q : Nat} {ks : List Nat} : via r = some k → JL L k q r → RowL L via q ks → RowL L via r (ks ++ [k])
/-- back from r by the links of via: what is told from r on, behind what is told of q, is r's row -/
def BackL (L : Lk) (via : Nat → Option Nat) (r q : Nat) (js : List Nat) : Prop := ∀ ks, RowL L via q ks → RowL L via r (ks ++ js.reverse)
structure ViaOk (n : Nat) (L : Lk) (via : Nat → Option Nat) (rk : Nat → Nat) : Prop where
  ok : ∀ r, r < n → ∀ k, via r = some k → k < L.length ∧ ∃ q, JL L k q r ∧ q < n ∧ rk q < rk r
theorem FareOk.via {n s : Nat} {L : Lk} {far via : Nat → Option Nat} {rk : Nat → Nat} (h : FareOk n L s far via rk) : ViaOk n L via rk := ⟨fun r hr k hk => by
  by_cases e : r = s
  · subst e; rw [h.sv] at hk; cases hk
  · cases hf : far r with
    | none => rw [h.un r hf] at hk; cases hk
    | some y =>
      obtain ⟨k', q, x, h1, h2, h3, h4, h5, h6⟩ := h.back r e y hf
      rw [h1] at hk
      cases hk
      exact ⟨h2, q, h3, h.lt q (by rw [h4]; simp), h6⟩⟩
section
variable {P : Program} {w : World} {K : PySem.W.Frag} {mg : Str → Option Value} {base : Heap}
def spRowTo (K : PySem.W.Frag) : Sp := fun vs H Q _ => ∃ (pl pu : Addr) (L : Lk) (n r : Nat) (via : Nat → Option Nat) (rk : Nat → Nat), vs = [.ref pl, .ref pu, .int r] ∧ Dp K H (.ref pl) (dLks L) ∧ SqL K H pu (ovs via n) ∧ ViaOk n L via rk ∧ r < n ∧ n ≤ 1000 ∧ rk r ≤ 1000 ∧
  ∀ p H' ks, Same H H' → New H p → H' p = some (.lst (iv ks)) → RowL L via r ks → Q (.ref p) H'
theorem ok_row_to {f : Addr} {fd : FuncData} (F : Fun K "row_to" "row_to" s_row_to f fd) (gf : mg "row_to" = some (.ref f)) (B : Bl mg) (h_beyond : Has P w K mg base CX0 1 "beyond" ["link", "room"] (spBeyond K)) : Has P w K mg base CX0 2 "row_to" ["links", "via", "room"] (spRowTo K) := by
  refine Has.mk' F gf (F.binds (ps := ["links", "via", "room"]) fun _ _ _ _ _ _ us hl => match us, hl with | [_, _, _], _ => rfl) sc_row_to (by walk_at "len") (fun cdv A outer s H vs Q E hr h => ?_)
  obtain ⟨pl, pu, L, n, r, via, rk, rfl, hL, hu, hV, hrn, hn, hrk, q⟩ := h
  obtain ⟨ls, hl, hls⟩ := dpLstA hL
  refine ⟨_, (pss_cons (ps_set (i := 3) sc_row_to.nd rfl (.inl rfl) (pe_lst pa_nil))
 (pss_cons (ps_while PassesOwn.never (pt_cmpR op_notN (pe_ix (ix_listK K) (pv 1) (pv 2) (fun _ _ => rfl)) pe_non (nomark _)) (pss_cons (ps_expr (pe_bmK K (pe_bm PySem.F.plainAttrs_list PySem.F.slot_list_append PySem.F.type_list_append mt_append (pv 3) (pa_cons (pe_ix (ix_listK K) (pv 1) (pv 2) (fun _ _ => rfl)) pa_nil))))
 (pss_one (ps_set (i := 2) sc_row_to.nd rfl (.inl rfl) (pe_fn h_beyond (hr.mono (by decide)) (by rfl) (pa_cons (pe_ix (ix_listK K) (pv 0) (pe_ix (ix_listK K) (pv 1) (pv 2) (fun _ _ => rfl)) (fun _ _ => rfl)) (pa_cons (pv 2) pa_nil)))))))
 (pss_cons (ps_expr (pe_bm0K K (pe_bm0 PySem.F.plainAttrs_list PySem.F.slot_list_reverse PySem.F.type_list_reverse mt_reverse (pv 3))))
 (pss_one (ps_ret (pv 3)))))), ?_⟩
  walk_at "sts"
  refine w_new fun p np => ?_
  walk_at "sts"
  refine ⟨fun k σ H' => ∃ (t : Nat) (js : List Nat), σ = [some (.ref pl), some (.ref pu), some (.int (t : Nat)), some (.ref p)] ∧ Same H H' ∧ H' p = some (.lst (iv js)) ∧ t < n ∧ BackL L via r t js ∧ rk t = k ∧ js.length + rk t ≤ rk r,
    ⟨_, r, [], rfl, same_upd np, upd_same, hrn, fun ks h => by simpa using h, rfl, by simp⟩, ?_⟩
  rintro k σ H' ⟨t, js, rfl, s1, l1, ht, hB, rfl, hj⟩
  have hu1 := s1.seq hu
  have hl1 := s1.seq hl
  have ft := ovs_at (f := via) ht
  walk_at "sts"
  rw [dec_ov]
  cases hv : via t with
  | none =>
    rw [Option.isNone_none]
    walk_at "sts"
    refine q p _ js.reverse (s1.mut np) np ?_ ?_
    · rw [upd_same]
      unfold iv
      rw [List.map_reverse]
    · have := hB [] (.nil hv)
      simpa using this
  | some k =>
    obtain ⟨hk, u, hju, hun, hrku⟩ := hV.ok t ht k hv
    rw [hv] at ft
    have hsl : (iv js).length < sizeLine := szlt (by rw [iv_len]; omega)
    rw [Option.isNone_some]
    walk_at "sts"
    refine w_wt ?_
    walk_at "sts"
    have s2 : Same H (upd H' p (.lst (iv js ++ [.int (k : Nat)]))) := s1.mut np
    have l2 : upd H' p (.lst (iv js ++ [.int (k : Nat)])) p = some (.lst (iv (js ++ [k]))) := by rw [upd_same, iv_app]; rfl
    generalize upd H' p (.lst (iv js ++ [.int (k : Nat)])) = H2 at s2 l2 ⊢
    have hu2 := s2.seq hu
    have hl2 := s2.seq hl
    obtain ⟨pk, e1, e2⟩ := dpLkAt hls hk
    have e3 := same_read s2 e2
    walk_at "sts"
    refine ⟨pk, _, _, _, t, rfl, e3, ?_⟩
    have hby : byd (lka L k) (lkb L k) t = some u := by
      unfold byd
      rcases hju with ⟨a1, a2⟩ | ⟨a1, a2⟩
      · by_cases e : lka L k = t
        · rw [if_pos e, a2, ← e, a1]
        · rw [if_neg e, if_pos a2, a1]
      · rw [if_pos a1, a2]
    rw [hby]
    walk_at "sts"
    refine ⟨_, hrku, u, js ++ [k], rfl, s2, l2, hun, fun ks hks => ?_, rfl, by simp; omega⟩
    rw [List.reverse_append]
    have := hB (ks ++ [k]) (.cons hv hju hks)
    simpa using this
end
theorem RowL.way {n s : Nat} {L : Lk} {far via : Nat → Option Nat} {rk : Nat → Nat} (h : FareOk n L s far via rk) {r : Nat} {ks : List Nat} (hr : RowL L via r ks) : far r ≠ none → ∃ rs, WayOk n L s far rk ks rs r := by
  induction hr with
  | @nil r hv =>
    intro hf
    have e : r = s := Classical.byContradiction fun e => by
      obtain ⟨y, hy⟩ := Option.ne_none_iff_exists'.mp hf
      obtain ⟨k, q, x, h1, _⟩ := h.back r e y hy
      rw [hv] at h1; cases h1
    subst e
    exact ⟨[r], rfl, rfl, rfl, h.s0, fun j hj => absurd hj (by simp)⟩
  | @cons r k q ks hv hj _ ih =>
    intro hf
    have e : r ≠ s := fun e => by subst e; rw [h.sv] at hv; cases hv
    obtain ⟨y, hy⟩ := Option.ne_none_iff_exists'.mp hf
    obtain ⟨k', q', x, h1, h2, h3, h4, h5, h6⟩ := h.back r e y hy
    rw [hv] at h1
    cases h1
    have eq : q' = q := by
      rcases hj with ⟨a1, a2⟩ | ⟨a1, a2⟩ <;> rcases h3 with ⟨b1, b2⟩ | ⟨b1, b2⟩ <;> omega
    subst eq
    obtain ⟨rs, hw⟩ := ih (by rw [h4]; simp)
    have hl := hw.len
    refine ⟨rs ++ [r], by simp [hl], ?_, ?_, h.s0, fun j hj' => ?_⟩
    · rw [getD_app, if_neg (by omega)]; exact hw.fst
    · rw [getD_app, if_pos (by simp [hl])]
    · rw [getD_app, getD_app, getD_app]
      have hj2 : j < ks.length + 1 := by simpa using hj'
      by_cases ej : j = ks.length
      · subst ej
        rw [if_pos rfl, if_neg (by omega), if_pos (by omega), hw.lst]
        exact ⟨h2, h3, h6, h.lt r hf, x, h4, by rw [hy, h5]⟩
      · rw [if_neg ej, if_neg (by omega), if_neg (by omega)]
        exact hw.step j (by omega)
theorem WayOk.rank {n s : Nat} {L : Lk} {far : Nat → Option Nat} {rk : Nat → Nat} {ks rs : List Nat} {r : Nat} (h : WayOk n L s far rk ks rs r) : ∀ j, j ≤ ks.length → j ≤ rk (rs.getD j 0)
  | 0, _ => Nat.zero_le _
  | j + 1, hj => by
    have h1 := (h.step j (by omega)).2.2.1
    have := WayOk.rank h j (by omega)
    omega

/-! ### a made list of links -/
def LkAt (K : PySem.W.Frag) (H : Hp) (p : Addr) (L : Lk) : Prop := ∃ xs, H p = some (.lst xs) ∧ DpAll K (wo H p) xs (L.map dLk)
theorem LkAt.dp {K : PySem.W.Frag} {H : Hp} {p : Addr} {L : Lk} (h : LkAt K H p L) : Dp K H (.ref p) (dLks L) := by
  obtain ⟨xs, h1, h2⟩ := h
  exact .lst (SqL.of h1) (h2.same wo_same)

section
variable {P : Program} {w : World} {K : PySem.W.Frag} {mg : Str → Option Value} {base : Heap}
def spCell (K : PySem.W.Frag) : Sp := fun vs H Q _ => ∃ (p : Addr) (ns : List Int) (k : Nat), vs = [.ref p, .int k] ∧ SqL K H p (ns.map V.int) ∧ Q (.int (ns.getD k 0)) H
theorem ok_law_cell {f : Addr} {fd : FuncData} (F : Fun K "_law_cell" "_law_cell" s_law_cell f fd) (gf : mg "_law_cell" = some (.ref f)) (B : Bl mg) : Has P w K mg base CX0 1 "_law_cell" ["script", "k"] (spCell K) := by
  refine Has.mk' F gf (F.binds (ps := ["script", "k"]) fun _ _ _ _ _ _ us hl => match us, hl with | [_, _], _ => rfl) sc_law_cell (by walk_at "len") (fun cdv A outer s H vs Q E hr h => ?_)
  obtain ⟨p, ns, k, rfl, hp, q⟩ := h
  refine ⟨_, (pss_cons (ps_if (pt_cmpR op_lt (pv 1) (pe_callB (call_lenK K) (by rfl) B.len (by decide +kernel) (pa_cons (pv 0) pa_nil)) (nomark _)) (pss_one (ps_ret (pe_ix (ix_listK K) (pv 0) (pv 1) (fun _ _ => rfl)))) pss_nil)
 (pss_one (ps_ret pe_int))), ?_⟩
  walk_at "sts"
  refine ifd (fun hc => ?_) (fun hc => ?_)
  · rw [List.length_map] at hc
    have e : (ns.map V.int)[k]? = some (.int (ns.getD k 0)) := by
      rw [List.getElem?_map, List.getD_eq_getElem?_getD, List.getElem?_eq_getElem (by omega)]
      rfl
    walk_at "sts"
    exact q
  · rw [List.length_map] at hc
    walk_at "sts"
    rw [List.getD_eq_getElem?_getD, List.getElem?_eq_none (by omega)] at q
    exact q
end

section
variable {P : Program} {w : World} {K : PySem.W.Frag} {mg : Str → Option Value} {base : Heap}
def spIsInt : Sp := fun vs H Q _ => ∃ i : Int, vs = [.int i] ∧ Q (.bl true) H
theorem ok_law_whole {f : Addr} {fd : FuncData} (F : Fun K "_law_whole" "_law_whole" s_law_whole f fd) (gf : mg "_law_whole" = some (.ref f)) (B : Bl mg) : Has P w K mg base CX0 1 "_law_whole" ["found"] spIsInt := by
  refine Has.mk' F gf (F.binds (ps := ["found"]) fun _ _ _ _ _ _ us hl => match us, hl with | [_], _ => rfl) sc_law_whole (by walk_at "len") (fun cdv A outer s H vs Q E hr h => ?_)
  obtain ⟨i, rfl, q⟩ := h
  refine ⟨_, (pss_one (ps_ret (pe_and (pe_callB (call_isiK' K) (by rfl) B.isinstance (by decide +kernel) (pa_cons (pv 0) (pa_cons (pe_bltn (v := .ty "int") (by rfl) B.int (by decide +kernel) rfl) pa_nil))) (pe_one (pe_not (pe_callB (call_isiK' K) (by rfl) B.isinstance (by decide +kernel) (pa_cons (pv 0) (pa_cons (pe_bltn (v := .ty "bool") (by rfl) B.bool (by decide +kernel) rfl) pa_nil)))))))), ?_⟩
  walk_at "sts"
  exact q
end

section
variable {P : Program} {w : World} {K : PySem.W.Frag} {mg : Str → Option Value} {base : Heap}
def spLaw (K : PySem.W.Frag) : Sp := fun vs H Q _ => ∃ (a : Addr) (ns : List Int), vs = [.ref a] ∧ LsE K H a (ns.map V.int) ∧ ns.length ≤ 63 ∧ (∀ z ∈ ns, Builtin.Int.intBits z ≤ 1048576) ∧ ∀ H', Q (.bl true) H'
end
theorem modN (z : Int) {n : Nat} (h : 0 < n) : ∃ k : Nat, z % (n : Int) = (k : Int) ∧ k < n := by
  have h1 := Int.emod_nonneg z (show (n : Int) ≠ 0 by omega)
  have h2 := Int.emod_lt_of_pos z (show (0 : Int) < n by omega)
  exact ⟨(z % (n : Int)).toNat, by omega, by omega⟩

section
variable {P : Program} {w : World} {K : PySem.W.Frag} {mg : Str → Option Value} {base : Heap}
structure Wood (n : Nat) (bf : Nat → Option Nat) (hs : List Nat) (i : Nat) : Prop where
  z : bf 0 = none
  z0 : 0 ∈ hs
  lt : ∀ h ∈ hs, h < i
  par : ∀ r p, bf r = some p → p < r ∧ p ∈ hs ∧ r < i
  hung : ∀ h ∈ hs, h ≠ 0 → bf h ≠ none
  len : hs.length ≤ i
theorem Wood.skip {n i : Nat} {bf : Nat → Option Nat} {hs : List Nat} (h : Wood n bf hs i) : Wood n bf hs (i + 1) := ⟨h.z, h.z0, fun x hx => by have := h.lt x hx; omega, fun r p e => by have := h.par r p e; exact ⟨this.1, this.2.1, by omega⟩, h.hung, by have := h.len; omega⟩
theorem Wood.add {n i p : Nat} {bf : Nat → Option Nat} {hs : List Nat} (h : Wood n bf hs i) (hi : 0 < i) (hp : p ∈ hs) : Wood n (upF bf i (some p)) (hs ++ [i]) (i + 1) := by
  refine ⟨by rw [upF_ne (by omega)]; exact h.z, by simp [h.z0], fun x hx => ?_, fun r q e => ?_, fun x hx hx0 => ?_, by have := h.len; simp; omega⟩
  · rcases List.mem_append.mp hx with hx | hx
    · have := h.lt x hx; omega
    · simp at hx; omega
  · by_cases er : r = i
    · subst er
      rw [upF_same] at e
      cases e
      exact ⟨h.lt p hp, by simp [hp], by omega⟩
    · rw [upF_ne er] at e
      have := h.par r q e
      exact ⟨this.1, by simp [this.2.1], by omega⟩
  · by_cases er : x = i
    · subst er; rw [upF_same]; simp
    · rw [upF_ne er]
      rcases List.mem_append.mp hx with hx | hx
      · exact h.hung x hx hx0
      · simp at hx; omega
def spWood (K : PySem.W.Frag) : Sp := fun vs H Q _ => ∃ (a : Addr) (ns : List Int) (n : Nat) (b : Bool), vs = [.ref a, .int n, .bl b] ∧ SqL K H a (ns.map V.int) ∧ 1 ≤ n ∧ n ≤ 1000 ∧
  ∀ p pb ph H' bf hs, Same H H' → New H p → New H pb → New H ph → H' p = some (.tup [.ref pb, .ref ph]) → H' pb = some (.lst (ovs bf n)) → H' ph = some (.lst (iv hs)) → Wood n bf hs n → Q (.ref p) H'
theorem ok_law_wood {f : Addr} {fd : FuncData} (F : Fun K "_law_wood" "_law_wood" s_law_wood f fd) (gf : mg "_law_wood" = some (.ref f)) (B : Bl mg) (h_law_cell : Has P w K mg base CX0 1 "_law_cell" ["script", "k"] (spCell K)) : Has P w K mg base CX0 2 "_law_wood" ["script", "many", "deep"] (spWood K) := by
  refine Has.mk' F gf (F.binds (ps := ["script", "many", "deep"]) fun _ _ _ _ _ _ us hl => match us, hl with | [_, _, _], _ => rfl) sc_law_wood (by walk_at "len") (fun cdv A outer s H vs Q E hr h => ?_)
  obtain ⟨a, ns, n, b, rfl, hS, hn1, hn, q⟩ := h
  refine ⟨_, (pss_cons (ps_set (i := 3) sc_law_wood.nd rfl (.inl rfl) (pe_op op_rep (pe_lst (pa_cons pe_non pa_nil)) (pv 1)))
 (pss_cons (ps_set (i := 4) sc_law_wood.nd rfl (.inl rfl) (pe_lst (pa_cons pe_int pa_nil)))
 (pss_cons (ps_for PassesOwn.never rfl (pi_range2 (by rfl) B.range (pa_cons pe_int (pa_cons (pv 1) pa_nil))) (pg_name (i := 5) sc_law_wood.nd rfl (.inl rfl)) (pss_cons (ps_set (i := 6) sc_law_wood.nd rfl (.inl rfl) (pe_fn h_law_cell (hr.mono (by decide)) (by rfl) (pa_cons (pv 0) (pa_cons (pe_op op_add pe_int (pv 5)) pa_nil))))
 (pss_one (ps_if (PW.pt (pw_and (pt_cmpR op_le (pv 5) pe_int (nomark _)) (pw_and1 (pt_cmpR op_ne (pe_op op_mod (pv 6) pe_int) pe_int (nomark _))))) (pss_cons (ps_if (pt_val (pv 2)) (pss_one (ps_asg (pe_ix (ix_listK K) (pv 4) (pe_op op_sub (pe_op op_sub (pe_callB (call_lenK K) (by rfl) B.len (by decide +kernel) (pa_cons (pv 4) pa_nil)) pe_int) (pe_op op_mod (pe_op op_fdivW (pv 6) pe_int) (pe_callB (call_min2 rfl) (by rfl) B.min (by decide +kernel) (pa_cons pe_int (pa_cons (pe_callB (call_lenK K) (by rfl) B.len (by decide +kernel) (pa_cons (pv 4) pa_nil)) pa_nil))))) (fun _ _ => rfl)) (pg_sub (pv 3) (pv 5) set_list))) (pss_one (ps_asg (pe_ix (ix_listK K) (pv 4) (pe_op op_mod (pe_op op_fdivW (pv 6) pe_int) (pe_callB (call_lenK K) (by rfl) B.len (by decide +kernel) (pa_cons (pv 4) pa_nil))) (fun _ _ => rfl)) (pg_sub (pv 3) (pv 5) set_list))))
 (pss_one (ps_expr (pe_bmK K (pe_bm PySem.F.plainAttrs_list PySem.F.slot_list_append PySem.F.type_list_append mt_append (pv 4) (pa_cons (pv 5) pa_nil)))))) pss_nil))))
 (pss_one (ps_ret (pe_tup (pa_cons (pv 3) (pa_cons (pv 4) pa_nil)))))))), ?_⟩
  walk_at "sts"
  refine w_new fun p0 n0 => ?_
  walk_at "sts"
  refine w_rep upd_same (by omega) (by omega) (by rw [Int.toNat_natCast]; simp; exact Nat.le_trans hn (by decide)) ?_
  refine w_new fun pb nb => ?_
  rw [Int.toNat_natCast, rep_ov]
  have s1 : Same H (upd (upd H p0 (.lst [.non])) pb (.lst (ovs (fun _ => none) n))) := (same_upd n0).trans (same_upd nb)
  have f1 : upd (upd H p0 (.lst [.non])) pb (.lst (ovs (fun _ => none) n)) pb = some (.lst (ovs (fun _ => none) n)) := upd_same
  have nb' : New H pb := nb.of (same_upd n0)
  generalize upd (upd H p0 (.lst [.non])) pb (.lst (ovs (fun _ => none) n)) = H1 at s1 f1 ⊢
  clear nb n0
  walk_at "sts"
  refine w_new fun ph nh => ?_
  have hbh : pb ≠ ph := ne_new f1 nh
  have nh' : New H ph := nh.of s1
  have s2 := s1.trans (same_upd (o := .lst [.int 0]) nh)
  have f2 := (same_upd (o := .lst [.int 0]) nh) _ _ f1
  walk_at "sts"
  rw [show ((n : Int) - 1).toNat = n - 1 by omega]
  refine for_range (lo := 1) (n := n - 1) (fun i σ H' => ∃ (bf : Nat → Option Nat) (hs : List Nat) (y5 y6 : Option V), σ = [some (.ref a), some (.int (n : Nat)), some (.bl b), some (.ref pb), some (.ref ph), y5, y6] ∧ Same H H' ∧ H' pb = some (.lst (ovs bf n)) ∧ H' ph = some (.lst (iv hs)) ∧ Wood n bf hs (i + 1)) ?_ ?_ ?_
  · exact ⟨fun _ => none, [0], _, _, rfl, s2, f2, upd_same, ⟨rfl, by simp, fun h hh => (by simp at hh; omega), fun r p e => (by cases e), fun h hh h0 => (by simp at hh; omega), by simp⟩⟩
  · rintro i σ H' hi ⟨bf, hs, y5, y6, rfl, s3, f3, h3, hW⟩
    rw [show (1 : Int) + (i : Int) = ((i + 1 : Nat) : Int) by omega]
    have hS3 := s3.seq hS
    have hlen := hW.len
    have hpos : 0 < hs.length := List.length_pos_of_mem hW.z0
    have hvl := iv_len hs
    walk_at "sts"
    rw [show (1 : Int) + ((i + 1 : Nat) : Int) = ((i + 2 : Nat) : Int) by omega]
    refine ⟨a, ns, i + 2, rfl, hS3, ?_⟩
    generalize ns.getD (i + 2) 0 = c
    have hixb : ixN (ovs bf n).length ((i + 1 : Nat) : Int) = some (i + 1) := ixN_nat (by rw [ovs_len]; omega)
    have hsl : (iv hs).length < sizeLine := szlt (by rw [hvl]; omega)
    have fin : ∀ (j : Nat) (H4 : Hp), j < hs.length → H4 = upd H' pb (.lst ((ovs bf n).set (i + 1) (.int (hs.getD j 0 : Nat)))) → Same H H4 ∧ H4 ph = some (.lst (iv hs)) ∧ ∃ bf', upd H4 ph (.lst (iv hs ++ [.int ((i + 1 : Nat) : Int)])) pb = some (.lst (ovs bf' n)) ∧ upd H4 ph (.lst (iv hs ++ [.int ((i + 1 : Nat) : Int)])) ph = some (.lst (iv (hs ++ [i + 1]))) ∧ Wood n bf' (hs ++ [i + 1]) (i + 1 + 1) := by
      rintro j H4 hj rfl
      refine ⟨s3.mut nb', by rw [upd_ne (Ne.symm hbh)]; exact h3, upF bf (i + 1) (some (hs.getD j 0)), ?_, by rw [upd_same, iv_app]; rfl, hW.add (by omega) ?_⟩
      · rw [upd_ne hbh, upd_same, show V.int (hs.getD j 0 : Nat) = ov (some (hs.getD j 0)) from rfl, ovs_set]
      · rw [List.getD_eq_getElem?_getD, List.getElem?_eq_getElem hj]; exact List.getElem_mem hj
    walk_at "sts"
    refine ifd (fun h30 => ?_) (fun h30 => ?_)
    · walk_at "sts"
      refine ifnd (fun h5 => ?_) (fun h5 => ?_)
      · cases b with
        | true =>
          walk_at "sts"
          rw [hvl]
          obtain ⟨mm, hmm, hm1, hm2⟩ : ∃ mm : Nat, (if ((hs.length : Nat) : Int) < 2 then ((hs.length : Nat) : Int) else 2) = (mm : Int) ∧ 0 < mm ∧ mm ≤ hs.length := by
            split
            · exact ⟨hs.length, rfl, hpos, Nat.le_refl _⟩
            · exact ⟨2, rfl, by omega, by omega⟩
          rw [hmm]
          obtain ⟨k, hk, hk2⟩ := modN (c / 5) hm1
          walk_at "sts"
          rw [hk, show (((hs.length : Nat) : Int) - 1 - (k : Int)) = ((hs.length - 1 - k : Nat) : Int) by omega]
          have hj : hs.length - 1 - k < hs.length := by omega
          have hat := iv_at hj
          obtain ⟨g1, g2, bf', g3, g4, g5⟩ := fin _ _ hj rfl
          walk_at "sts"
          generalize upd H' pb (.lst ((ovs bf n).set (i + 1) (.int (hs.getD (hs.length - 1 - k) 0 : Nat)))) = H4 at g1 g2 g3 g4 ⊢
          walk_at "sts"
          exact ⟨bf', _, _, _, rfl, g1.mut nh', g3, g4, g5⟩
        | false =>
          walk_at "sts"
          rw [hvl]
          obtain ⟨k, hk, hk2⟩ := modN (c / 5) hpos
          walk_at "sts"
          rw [hk]
          have hat := iv_at hk2
          obtain ⟨g1, g2, bf', g3, g4, g5⟩ := fin _ _ hk2 rfl
          walk_at "sts"
          generalize upd H' pb (.lst ((ovs bf n).set (i + 1) (.int (hs.getD k 0 : Nat)))) = H4 at g1 g2 g3 g4 ⊢
          walk_at "sts"
          exact ⟨bf', _, _, _, rfl, g1.mut nh', g3, g4, g5⟩
      · walk_at "sts"
        exact ⟨bf, hs, _, _, rfl, s3, f3, h3, hW.skip⟩
    · walk_at "sts"
      exact ⟨bf, hs, _, _, rfl, s3, f3, h3, hW.skip⟩
  · rintro σ H' ⟨bf, hs, y5, y6, rfl, s3, f3, h3, hW⟩
    walk_at "sts"
    refine w_new fun p np => ?_
    rw [show n - 1 + 1 = n by omega] at hW
    exact q p pb ph _ bf hs (s3.trans (same_upd np)) (np.of s3) nb' nh' upd_same (same_upd np _ _ f3) (same_upd np _ _ h3) hW
theorem wo2_upd {H : Hp} {p q : Addr} {o : HO} : wo (wo (upd H p o) q) p = wo (wo H q) p := by
  funext b
  unfold wo
  by_cases e : b = p
  · rw [if_pos e, if_pos e]
  · rw [if_neg e, if_neg e, upd_ne e]
theorem snoc_at (L : Lk) (l : Nat × Nat × Nat) : lka (L ++ [l]) L.length = l.1 ∧ lkb (L ++ [l]) L.length = l.2.1 ∧ lkw (L ++ [l]) L.length = l.2.2 := by
  have e : (L ++ [l]).getD L.length (0, 0, 0) = l := by
    rw [List.getD_eq_getElem?_getD, List.getElem?_append_right (by omega), Nat.sub_self]
    rfl
  unfold lka lkb lkw
  rw [e]
  exact ⟨rfl, rfl, rfl⟩
/-- the links that lead to the rooms ahead -/
structure LaidOk (n : Nat) (bf via : Nat → Option Nat) (L : Lk) : Prop where
  non : ∀ r, r < n → (via r = none ↔ bf r = none)
  ok : ∀ r k, via r = some k → k < L.length ∧ ∃ p, bf r = some p ∧ JL L k p r
def spLaid (K : PySem.W.Frag) : Sp := fun vs H Q _ => ∃ (a pb : Addr) (ns : List Int) (n : Nat) (bf : Nat → Option Nat) (b : Bool), vs = [.ref a, .ref pb, .bl b] ∧ SqL K H a (ns.map V.int) ∧ SqL K H pb (ovs bf n) ∧ n ≤ 1000 ∧
  ∀ p pl pu H' L via, Same H H' → New H p → New H pl → New H pu → H' p = some (.tup [.ref pl, .ref pu]) → LkAt K H' pl L → H' pu = some (.lst (ovs via n)) → LaidOk n bf via L → L.length ≤ n → Q (.ref p) H'
theorem ok_law_laid {f : Addr} {fd : FuncData} (F : Fun K "_law_laid" "_law_laid" s_law_laid f fd) (gf : mg "_law_laid" = some (.ref f)) (B : Bl mg) (h_law_cell : Has P w K mg base CX0 1 "_law_cell" ["script", "k"] (spCell K)) : Has P w K mg base CX0 2 "_law_laid" ["script", "before", "backwards"] (spLaid K) := by
  refine Has.mk' F gf (F.binds (ps := ["script", "before", "backwards"]) fun _ _ _ _ _ _ us hl => match us, hl with | [_, _, _], _ => rfl) sc_law_laid (by walk_at "len") (fun cdv A outer s H vs Q E hr h => ?_)
  obtain ⟨a, pb, ns, n, bf, b, rfl, hS, hB, hn, q⟩ := h
  have hol := ovs_len bf n
  refine ⟨_, (pss_cons (ps_setLc (i := 4) (own := [("room", 3)]) rfl sc_law_laid.nd rfl rfl (sw_true rfl rfl rfl (by decide +kernel)) (pi_range1 (by rfl) B.range (pa_cons (pe_callB (call_lenK K) (by rfl) B.len (by decide +kernel) (pa_cons (pv 1) pa_nil)) pa_nil)) (blkOk_by (own := [("room", 3)]) (N := ["script", "before", "backwards", "room", "rooms", "links", "via", "cell"]) (sc := defScope s_law_laid) (by decide +kernel)) (fun _ _ _ _ _ => pg_name (i := 3) sc_law_laid.nd rfl (Or.inl rfl)) (fun _ _ _ _ _ => (pts_one (pt_cmpR op_notN (pe_ix (ix_listK K) (pv 1) (pv 3) (fun _ _ => rfl)) pe_non (nomark _)))) (fun _ _ _ _ _ => (pv 3)))
 (pss_cutX (ps_if (pt_val (pv 2)) (pss_one (ps_set (i := 4) sc_law_laid.nd rfl (.inl rfl) (pe_listRev K rfl (by rfl) B.list (by rfl) B.reversed (pv 4)))) pss_nil)
 (pss_cons (ps_set (i := 5) sc_law_laid.nd rfl (.inl rfl) (pe_lst pa_nil))
 (pss_cons (ps_set (i := 6) sc_law_laid.nd rfl (.inl rfl) (pe_op op_rep (pe_lst (pa_cons pe_non pa_nil)) (pe_callB (call_lenK K) (by rfl) B.len (by decide +kernel) (pa_cons (pv 1) pa_nil))))
 (pss_cons (ps_for PassesOwn.never rfl (pi_listK K (pv 4)) (pg_name (i := 3) sc_law_laid.nd rfl (.inl rfl)) (pss_cons (ps_set (i := 7) sc_law_laid.nd rfl (.inl rfl) (pe_fn h_law_cell (hr.mono (by decide)) (by rfl) (pa_cons (pv 0) (pa_cons (pe_op op_add pe_int (pv 3)) pa_nil))))
 (pss_cons (ps_asg (pe_callB (call_lenK K) (by rfl) B.len (by decide +kernel) (pa_cons (pv 5) pa_nil)) (pg_sub (pv 6) (pv 3) set_list))
 (pss_one (ps_if (pt_cmpR op_eq (pe_op op_mod (pv 7) pe_int) pe_int (nomark _)) (pss_one (ps_expr (pe_bmK K (pe_bm PySem.F.plainAttrs_list PySem.F.slot_list_append PySem.F.type_list_append mt_append (pv 5) (pa_cons (pe_tup (pa_cons (pv 3) (pa_cons (pe_ix (ix_listK K) (pv 1) (pv 3) (fun _ _ => rfl)) (pa_cons (pe_op op_mod (pe_op op_fdivW (pv 7) pe_int) (pe_op op_add (pe_op op_pow pe_int pe_int) pe_int)) pa_nil)))) pa_nil))))) (pss_one (ps_expr (pe_bmK K (pe_bm PySem.F.plainAttrs_list PySem.F.slot_list_append PySem.F.type_list_append mt_append (pv 5) (pa_cons (pe_tup (pa_cons (pe_ix (ix_listK K) (pv 1) (pv 3) (fun _ _ => rfl)) (pa_cons (pv 3) (pa_cons (pe_op op_mod (pe_op op_fdivW (pv 7) pe_int) (pe_op op_add (pe_op op_pow pe_int pe_int) pe_int)) pa_nil)))) pa_nil))))))))))
 (pss_one (ps_ret (pe_tup (pa_cons (pv 5) (pa_cons (pv 6) pa_nil)))))))))), ?_⟩
  walk_at "sts"
  intro D nD
  refine lc_r0 (n := n) ?_ (fun i H' => H' D = some (.lst (iv ((List.range i).filter fun r => (bf r).isSome))) ∧ Same H H') ?_ ?_ ?_
  · rw [hol]
  · exact ⟨upd_same, same_upd nD⟩
  · rintro i H' hi ⟨l1, s1⟩
    have hB1 := s1.seq hB
    have fi := ovs_at (f := bf) hi
    have hle : ((List.range i).filter fun r => (bf r).isSome).length ≤ i := by have := List.length_filter_le (fun r => (bf r).isSome) (List.range i); simpa using this
    walk_at "sts"
    rw [dec_ov, List.range_succ, List.filter_append]
    cases hb : bf i with
    | none =>
      rw [Option.isNone_none]
      rw [List.filter_cons_of_neg (by simp [hb]), List.filter_nil, List.append_nil]
      walk_at "sts"
      exact ⟨l1, s1⟩
    | some p =>
      rw [Option.isNone_some]
      rw [List.filter_cons_of_pos (by simp [hb]), List.filter_nil]
      walk_at "sts"
      refine ⟨_, l1, szlt (by rw [iv_len]; omega), ?_, s1.mut nD⟩
      rw [upd_same, iv_app]
      rfl
  rintro H1 ⟨l1, s1⟩
  have l1S := SqL.of (K := K) l1
  have hfm : ∀ r, r ∈ (List.range n).filter (fun r => (bf r).isSome) ↔ r < n ∧ bf r ≠ none := fun r => by
    rw [List.mem_filter, List.mem_range]
    cases bf r <;> simp
  have hfn : ((List.range n).filter fun r => (bf r).isSome).Nodup := List.nodup_range.filter _
  have hfl : ((List.range n).filter fun r => (bf r).isSome).length ≤ n := by have := List.length_filter_le (fun r => (bf r).isSome) (List.range n); simpa using this
  generalize (List.range n).filter (fun r => (bf r).isSome) = rl at l1 l1S hfm hfn hfl
  walk_at "sts"
  refine w_cut (fun σ' H2 => ∃ (pr : Addr) (rs : List Nat), σ' = [some (.ref a), some (.ref pb), some (.bl b), none, some (.ref pr), none, none, none] ∧ Same H1 H2 ∧ H2 pr = some (.lst (iv rs)) ∧ rs.Perm rl) ?_ ?_
  · walk_at "sts"
    cases b with
    | true =>
      walk_at "sts"
      refine w_lrev ?_
      walk_at "sts"
      refine ⟨D, iv rl, rfl, l1S, fun pr npr => ?_⟩
      walk_at "sts"
      refine ⟨pr, rl.reverse, rfl, same_upd npr, ?_, List.reverse_perm rl⟩
      rw [upd_same]
      unfold iv
      rw [List.map_reverse]
    | false =>
      walk_at "sts"
      exact ⟨D, rl, rfl, Same.refl _, l1, .refl _⟩
  rintro σ' H2 ⟨pr, rs, rfl, s2, l2, hrs⟩
  have hrm : ∀ r, r ∈ rs ↔ r < n ∧ bf r ≠ none := fun r => hrs.mem_iff.trans (hfm r)
  have hrn := hrs.nodup_iff.mpr hfn
  have hrl : rs.length ≤ n := by rw [hrs.length_eq]; exact hfl
  have s12 := s1.trans s2
  walk_at "sts"
  refine w_new fun pl npl => ?_
  have s3 := same_upd (o := .lst []) npl
  have l3 : upd H2 pl (.lst []) pl = some (.lst []) := upd_same
  have l2' := s3 _ _ l2
  generalize upd H2 pl (.lst []) = H3 at s3 l3 l2' ⊢
  have hB3 := (s12.trans s3).seq hB
  walk_at "sts"
  refine w_new fun p0 n0 => ?_
  walk_at "sts"
  rw [hol]
  refine w_rep upd_same (by omega) (by omega) (by rw [Int.toNat_natCast]; simp; exact Nat.le_trans hn (by decide)) ?_
  refine w_new fun pu npu => ?_
  rw [Int.toNat_natCast, rep_ov]
  have s4 : Same H3 (upd (upd H3 p0 (.lst [.non])) pu (.lst (ovs (fun _ => none) n))) := (same_upd n0).trans (same_upd npu)
  have l4 : upd (upd H3 p0 (.lst [.non])) pu (.lst (ovs (fun _ => none) n)) pu = some (.lst (ovs (fun _ => none) n)) := upd_same
  have npu' : New H3 pu := npu.of (same_upd n0)
  have l34 := s4 _ _ l3
  have l24 := s4 _ _ l2'
  generalize upd (upd H3 p0 (.lst [.non])) pu (.lst (ovs (fun _ => none) n)) = H4 at s4 l4 l34 l24 ⊢
  have nplH : New H pl := npl.of s12
  have npuH : New H pu := npu'.of (s12.trans s3)
  have dlu : pl ≠ pu := ne_new l3 npu'
  have dru : pr ≠ pu := ne_new l2' npu'
  have drl : pr ≠ pl := ne_new l2 npl
  have s04 := (s12.trans s3).trans s4
  walk_at "sts"
  refine for_list (xs := iv rs) (fun i σ H' => ∃ (L : Lk) (xs : List V) (via : Nat → Option Nat) (y3 y7 : Option V), σ = [some (.ref a), some (.ref pb), some (.bl b), y3, some (.ref pr), some (.ref pl), some (.ref pu), y7] ∧ Same H H' ∧ H' pr = some (.lst (iv rs)) ∧ H' pl = some (.lst xs) ∧ H' pu = some (.lst (ovs via n)) ∧ DpAll K (wo (wo H' pu) pl) xs (L.map dLk) ∧ L.length = i ∧
      (∀ r, via r ≠ none ↔ r ∈ rs.take i) ∧ ∀ r k, via r = some k → k < L.length ∧ ∃ p, bf r = some p ∧ JL L k p r) ?_ ?_ ?_ ?_
  · exact ⟨[], [], fun _ => none, _, _, rfl, s04, l24, l34, l4, .nil, rfl, fun r => by simp, fun r k h => by cases h⟩
  · rintro i σ H' _ ⟨_, _, _, _, _, _, _, g, _⟩
    exact SqL.of g
  · rintro i v σ H' hv ⟨L, xs, via, y3, y7, rfl, g, lr, ll, lu, hdp, hLi, hvm, hvo⟩
    have hi : i < rs.length := by rw [← iv_len]; exact (List.getElem?_eq_some_iff.mp hv).1
    rw [iv_at hi] at hv
    cases hv
    have hmem : rs.getD i 0 ∈ rs := by rw [List.getD_eq_getElem?_getD, List.getElem?_eq_getElem hi]; exact List.getElem_mem hi
    have hnot : rs.getD i 0 ∉ rs.take i := fun h => by
      obtain ⟨j, hj, e⟩ := List.getElem_of_mem h
      rw [List.getElem_take, List.getD_eq_getElem?_getD, List.getElem?_eq_getElem hi] at e
      rw [List.length_take] at hj
      have := (List.getElem_inj hrn).mp e
      omega
    rw [take_snoc hi]
    generalize rs.getD i 0 = room at hmem hnot ⊢
    obtain ⟨hroom, hbr⟩ := (hrm room).mp hmem
    obtain ⟨p, hp⟩ : ∃ p, bf room = some p := by
      cases e : bf room with
      | none => exact absurd e hbr
      | some p => exact ⟨p, rfl⟩
    have hS5 := g.seq hS
    have hB5 := g.seq hB
    have fb := ovs_at (f := bf) hroom
    rw [hp] at fb
    have hxl : xs.length = L.length := by have := dpaLen hdp; simpa using this
    have llS := SqL.of (K := K) ll
    walk_at "sts"
    rw [show (1 : Int) + (room : Int) = ((room + 1 : Nat) : Int) by omega]
    refine ⟨a, ns, room + 1, rfl, hS5, ?_⟩
    generalize ns.getD (room + 1) 0 = c
    have hix : ixN (ovs via n).length ((room : Nat) : Int) = some room := ixN_nat (by rw [ovs_len]; exact hroom)
    walk_at "sts"
    rw [hxl, show V.int ((L.length : Nat) : Int) = ov (some L.length) from rfl, ovs_set]
    have g2 : Same H (upd H' pu (.lst (ovs (upF via room (some L.length)) n))) := g.mut npuH
    have lr2 : upd H' pu (.lst (ovs (upF via room (some L.length)) n)) pr = some (.lst (iv rs)) := (upd_ne dru).trans lr
    have ll2 : upd H' pu (.lst (ovs (upF via room (some L.length)) n)) pl = some (.lst xs) := (upd_ne dlu).trans ll
    have lu2 : upd H' pu (.lst (ovs (upF via room (some L.length)) n)) pu = some (.lst (ovs (upF via room (some L.length)) n)) := upd_same
    have hdp2 : DpAll K (wo (wo (upd H' pu (.lst (ovs (upF via room (some L.length)) n))) pu) pl) xs (L.map dLk) := by rw [wo_eq]; exact hdp
    generalize upd H' pu (.lst (ovs (upF via room (some L.length)) n)) = H5 at g2 lr2 ll2 lu2 hdp2 ⊢
    have hB6 := g2.seq hB
    have hsl : xs.length < sizeLine := szlt (by omega)
    have p31 : (10 : Int) ^ Int.toNat 31 + 1 = 10000000000000000000000000000001 := by decide
    obtain ⟨wt, hwt⟩ : ∃ wt : Nat, c / 7 % 10000000000000000000000000000001 = (wt : Int) := ⟨(c / 7 % 10000000000000000000000000000001).toNat, by omega⟩
    have fin : ∀ (l : Nat × Nat × Nat) (pt : Addr), (l.1 = p ∧ l.2.1 = room) ∨ (l.1 = room ∧ l.2.1 = p) → New H5 pt →
        Same H (upd (upd H5 pt (.tup [.int (l.1 : Nat), .int (l.2.1 : Nat), .int (l.2.2 : Nat)])) pl (.lst (xs ++ [.ref pt]))) ∧ upd (upd H5 pt (.tup [.int (l.1 : Nat), .int (l.2.1 : Nat), .int (l.2.2 : Nat)])) pl (.lst (xs ++ [.ref pt])) pr = some (.lst (iv rs)) ∧
        upd (upd H5 pt (.tup [.int (l.1 : Nat), .int (l.2.1 : Nat), .int (l.2.2 : Nat)])) pl (.lst (xs ++ [.ref pt])) pl = some (.lst (xs ++ [.ref pt])) ∧ upd (upd H5 pt (.tup [.int (l.1 : Nat), .int (l.2.1 : Nat), .int (l.2.2 : Nat)])) pl (.lst (xs ++ [.ref pt])) pu = some (.lst (ovs (upF via room (some L.length)) n)) ∧
        DpAll K (wo (wo (upd (upd H5 pt (.tup [.int (l.1 : Nat), .int (l.2.1 : Nat), .int (l.2.2 : Nat)])) pl (.lst (xs ++ [.ref pt]))) pu) pl) (xs ++ [.ref pt]) ((L ++ [l]).map dLk) ∧ (L ++ [l]).length = i + 1 ∧ (∀ r, upF via room (some L.length) r ≠ none ↔ r ∈ rs.take i ++ [room]) ∧ ∀ r k, upF via room (some L.length) r = some k → k < (L ++ [l]).length ∧ ∃ p, bf r = some p ∧ JL (L ++ [l]) k p r := by
      intro l pt hl npt
      have sp := same_upd (o := .tup [V.int (l.1 : Nat), V.int (l.2.1 : Nat), V.int (l.2.2 : Nat)]) npt
      have t1 : pr ≠ pt := ne_new lr2 npt
      have t2 : pl ≠ pt := ne_new ll2 npt
      have t3 : pu ≠ pt := ne_new lu2 npt
      refine ⟨(g2.trans sp).mut nplH, (upd_ne drl).trans (sp _ _ lr2), upd_same, (upd_ne (Ne.symm dlu)).trans (sp _ _ lu2), ?_, by simp; omega, fun r => ?_, fun r k hk => ?_⟩
      · rw [wo2_upd, List.map_append]
        refine dpaApp (hdp2.same (wo_mono (wo_mono sp))) (.cons ?_ .nil)
        exact .tup (xs := [V.int (l.1 : Nat), V.int (l.2.1 : Nat), V.int (l.2.2 : Nat)]) (SqT.of (wo_get (wo_get upd_same (Ne.symm t3)) (Ne.symm t2))) (dpInts [((l.1 : Nat) : Int), ((l.2.1 : Nat) : Int), ((l.2.2 : Nat) : Int)])
      · by_cases e : r = room
        · subst e; rw [upF_same]; simp
        · rw [upF_ne e, hvm r]; simp [e]
      · by_cases e : r = room
        · subst e
          rw [upF_same] at hk
          cases hk
          obtain ⟨b1, b2, b3⟩ := snoc_at L l
          refine ⟨by simp, p, hp, ?_⟩
          unfold JL
          rw [b1, b2]
          exact hl
        · rw [upF_ne e] at hk
          obtain ⟨k1, p', k2, k3⟩ := hvo r k hk
          have hg : (L ++ [l]).getD k (0, 0, 0) = L.getD k (0, 0, 0) := by rw [List.getD_eq_getElem?_getD, List.getD_eq_getElem?_getD, List.getElem?_append_left k1]
          refine ⟨by simp; omega, p', k2, ?_⟩
          unfold JL lka lkb
          rw [hg]
          exact k3
    walk_at "sts"
    refine ifd (fun hc => ?_) (fun hc => ?_)
    · walk_at "sts"
      rw [p31]
      walk_at "sts"
      rw [hwt]
      refine w_new fun pt nt => ?_
      have ht := fin (room, p, wt) pt (.inr ⟨rfl, rfl⟩) nt
      have ll3 := (same_upd (o := .tup [V.int (room : Nat), V.int (p : Nat), V.int (wt : Nat)]) nt) _ _ ll2
      walk_at "sts"
      exact ⟨_, _, _, _, _, rfl, ht⟩
    · walk_at "sts"
      rw [p31]
      walk_at "sts"
      rw [hwt]
      refine w_new fun pt nt => ?_
      have ht := fin (p, room, wt) pt (.inl ⟨rfl, rfl⟩) nt
      have ll3 := (same_upd (o := .tup [V.int (p : Nat), V.int (room : Nat), V.int (wt : Nat)]) nt) _ _ ll2
      walk_at "sts"
      exact ⟨_, _, _, _, _, rfl, ht⟩
  · rintro σ H' ⟨L, xs, via, y3, y7, rfl, g, lr, ll, lu, hdp, hLi, hvm, hvo⟩
    rw [iv_len] at hLi hvm
    rw [List.take_length] at hvm
    walk_at "sts"
    refine w_new fun pt nt => ?_
    have sp := same_upd (o := .tup [V.ref pl, V.ref pu]) nt
    refine q pt pl pu _ L via (g.trans sp) (nt.of g) nplH npuH upd_same ⟨xs, sp _ _ ll, hdp.same ((wo_mono wo_same).trans (wo_mono sp))⟩ (sp _ _ lu) ⟨fun r hr => ?_, hvo⟩ (by omega)
    constructor
    · intro h
      exact Classical.byContradiction fun z => (hvm r).mpr ((hrm r).mpr ⟨hr, z⟩) h
    · intro h
      exact Classical.byContradiction fun z => ((hrm r).mp ((hvm r).mp z)).2 h
end
section
variable {P : Program} {w : World} {K : PySem.W.Frag} {mg : Str → Option Value} {base : Heap}
theorem RowL.uniq {L : Lk} {via : Nat → Option Nat} {r : Nat} {ks : List Nat} (h : RowL L via r ks) : ∀ {ks'}, RowL L via r ks' → ks = ks' := by
  induction h with
  | nil h0 =>
    intro ks' h'
    cases h' with
    | nil _ => rfl
    | cons h1 _ _ => rw [h0] at h1; cases h1
  | @cons r k q ks h0 hj _ ih =>
    intro ks' h'
    cases h' with
    | nil h1 => rw [h0] at h1; cases h1
    | @cons _ k' q' ks' h1 hj' h2 =>
      rw [h0] at h1
      cases h1
      have : q = q' := by
        unfold JL at hj hj'
        omega
      subst this
      rw [ih h2]
def dOv : Option Nat → PyData
  | none => .none
  | some x => .int (x : Nat)
theorem ins0 (xs : List V) (v : V) : xs.take (Int.toNat 0) ++ [v] ++ xs.drop (Int.toNat 0) = v :: xs := by simp
theorem dp_ov {H : Hp} (o : Option Nat) : Dp K H (ov o) (dOv o) := by
  cases o with
  | none => exact .non
  | some x => exact .int _
theorem dp_ovs {H : Hp} (f : Nat → Option Nat) : ∀ l : List Nat, DpAll K H (l.map fun r => ov (f r)) (l.map fun r => dOv (f r))
  | [] => .nil
  | r :: l => .cons (dp_ov (f r)) (dp_ovs f l)
theorem good_ovs (f : Nat → Option Nat) (l : List Nat) : Good 1 (.list (l.map fun r => dOv (f r))) := goodLst (goodMap fun r => by
  cases f r with
  | none => exact goodNone
  | some x => exact goodInt)
theorem ok_law {f : Addr} {fd : FuncData} (F : Fun K "law" "law" s_law f fd) (B : Bl mg) (h_law_wood : Has P w K mg base CX0 2 "_law_wood" ["script", "many", "deep"] (spWood K)) (h_law_laid : Has P w K mg base CX0 2 "_law_laid" ["script", "before", "backwards"] (spLaid K)) (h_row_to : Has P w K mg base CX0 2 "row_to" ["links", "via", "room"] (spRowTo K)) (h_law_cell : Has P w K mg base CX0 1 "_law_cell" ["script", "k"] (spCell K)) (h_law_whole : Has P w K mg base CX0 1 "_law_whole" ["found"] spIsInt) : FnOk P w K mg base CX0 3 f fd ["script"] (spLaw K) := by
  refine F.ok sc_law (by walk_at "len") (fun cdv A outer s H vs Q E hr h => ?_)
  obtain ⟨a, ns, rfl, hS, hlen, _, q⟩ := h
  have hS0 := hS.sq
  refine ⟨_, (pss_cons (ps_set (i := 1) sc_law.nd rfl (.inl rfl) (pe_op op_add pe_int (pe_op op_mod (pe_fn h_law_cell (hr.mono (by decide)) (by rfl) (pa_cons (pv 0) (pa_cons pe_int pa_nil))) pe_int)))
 (pss_cons (ps_set (i := 2) sc_law.nd rfl (.inl rfl) (pe_fn h_law_wood (hr.mono (by decide)) (by rfl) (pa_cons (pv 0) (pa_cons (pv 1) (pa_cons (pe_cmpR op_eq (pe_op op_mod (pe_op op_fdivW (pe_fn h_law_cell (hr.mono (by decide)) (by rfl) (pa_cons (pv 0) (pa_cons pe_int pa_nil))) pe_int) pe_int) pe_int (nomark _)) pa_nil)))))
 (pss_cons (ps_set (i := 3) sc_law.nd rfl (.inl rfl) (pe_fn h_law_laid (hr.mono (by decide)) (by rfl) (pa_cons (pv 0) (pa_cons (pe_ix (ix_tupK K) (pv 2) pe_int (fun _ _ => rfl)) (pa_cons (pe_cmpR op_eq (pe_op op_mod (pe_op op_fdivW (pe_fn h_law_cell (hr.mono (by decide)) (by rfl) (pa_cons (pv 0) (pa_cons pe_int pa_nil))) pe_int) pe_int) pe_int (nomark _)) pa_nil)))))
 (pss_cons (ps_set (i := 4) sc_law.nd rfl (.inl rfl) (pe_ix (ix_listK K) (pe_ix (ix_tupK K) (pv 2) pe_int (fun _ _ => rfl)) (pe_op op_mod (pe_fn h_law_cell (hr.mono (by decide)) (by rfl) (pa_cons (pv 0) (pa_cons pe_int pa_nil))) (pe_callB (call_lenK K) (by rfl) B.len (by decide +kernel) (pa_cons (pe_ix (ix_tupK K) (pv 2) pe_int (fun _ _ => rfl)) pa_nil))) (fun _ _ => rfl)))
 (pss_cons (ps_set (i := 5) sc_law.nd rfl (.inl rfl) (pe_lst pa_nil))
 (pss_cons (ps_set (i := 6) sc_law.nd rfl (.inl rfl) (pv 4))
 (pss_cons (ps_while PassesOwn.never (pt_cmpR op_ne (pv 6) pe_int (nomark _)) (pss_cons (ps_expr (pe_bmK K (pe_bm PySem.F.plainAttrs_list PySem.F.slot_list_insert PySem.F.type_list_insert mt_insert (pv 5) (pa_cons pe_int (pa_cons (pe_ix (ix_listK K) (pe_ix (ix_tupK K) (pv 3) pe_int (fun _ _ => rfl)) (pv 6) (fun _ _ => rfl)) pa_nil)))))
 (pss_one (ps_set (i := 6) sc_law.nd rfl (.inl rfl) (pe_ix (ix_listK K) (pe_ix (ix_tupK K) (pv 2) pe_int (fun _ _ => rfl)) (pv 6) (fun _ _ => rfl))))))
 (pss_cons (ps_set (i := 7) sc_law.nd rfl (.inl rfl) (pe_callTy (call_listK K) (by rfl) B.list (by decide +kernel) (pa_cons (pe_ix (ix_tupK K) (pv 3) pe_int (fun _ _ => rfl)) pa_nil)))
 (pss_cons (ps_set (i := 8) sc_law.nd rfl (.inl rfl) (pe_callTy (call_listK K) (by rfl) B.list (by decide +kernel) (pa_cons (pe_ix (ix_tupK K) (pv 3) pe_int (fun _ _ => rfl)) pa_nil)))
 (pss_cons (ps_set (i := 9) sc_law.nd rfl (.inl rfl) (pe_fn h_row_to (hr.mono (by decide)) (by rfl) (pa_cons (pv 7) (pa_cons (pv 8) (pa_cons (pv 4) pa_nil)))))
 (pss_cons (ps_if (PW.pt (pw_or (pt_cmpR (op_neDK K hr.units) (pv 7) (pe_ix (ix_tupK K) (pv 3) pe_int (fun _ _ => rfl)) (nomark _)) (pw_or1 (pt_cmpR (op_neDK K hr.units) (pv 8) (pe_ix (ix_tupK K) (pv 3) pe_int (fun _ _ => rfl)) (nomark _))))) (pss_one (ps_ret pe_bl)) pss_nil)
 (pss_cons (ps_if (PW.pt (pw_or (pt_not (pt_val (pe_callB (call_isiK' K) (by rfl) B.isinstance (by decide +kernel) (pa_cons (pv 9) (pa_cons (pe_bltn (v := .ty "list") (by rfl) B.list (by decide +kernel) rfl) pa_nil))))) (pw_or1 (pt_cmpR op_ne (pe_callB (call_lenK K) (by rfl) B.len (by decide +kernel) (pa_cons (pv 9) pa_nil)) (pe_callB (call_lenK K) (by rfl) B.len (by decide +kernel) (pa_cons (pv 5) pa_nil)) (nomark _))))) (pss_one (ps_ret pe_bl)) pss_nil)
 (pss_cons (ps_for PassesOwn.never rfl (pi_listK K (pv 9)) (pg_name (i := 10) sc_law.nd rfl (.inl rfl)) (pss_one (ps_if (pt_not (pt_val (pe_fn h_law_whole (hr.mono (by decide)) (by rfl) (pa_cons (pv 10) pa_nil)))) (pss_one (ps_ret pe_bl)) pss_nil)))
 (pss_one (ps_ret (pe_cmpR (op_eqDK K hr.units) (pv 9) (pv 5) (nomark _))))))))))))))))), ?_⟩
  walk_at "sts"
  refine ⟨a, ns, 0, rfl, hS0, ?_⟩
  generalize ns.getD 0 0 = z0
  walk_at "sts"
  obtain ⟨n, hn, hn1, hn2⟩ : ∃ n : Nat, 1 + z0 % 40 = (n : Int) ∧ 1 ≤ n ∧ n ≤ 40 := ⟨(1 + z0 % 40).toNat, by omega, by omega, by omega⟩
  rw [hn]
  walk_at "sts"
  refine ⟨a, ns, 0, rfl, hS0, ?_⟩
  generalize ns.getD 0 0 = z0'
  walk_at "sts"
  refine ⟨a, ns, n, _, rfl, hS0, hn1, by omega, fun p pb ph H1 bf hs s1 n1 nb nh hp hpb hph hW => ?_⟩
  have hS1 := s1.seq hS0
  have hpt := SqT.of (K := K) hp
  walk_at "sts"
  refine ⟨a, ns, 0, rfl, hS1, ?_⟩
  generalize ns.getD 0 0 = z0''
  walk_at "sts"
  refine ⟨a, pb, ns, n, bf, _, rfl, hS1, SqL.of hpb, by omega, fun p2 pl pu H2 L via s2 n2 nl nu hp2 hL hu hok hLn => ?_⟩
  have hS2 := s2.seq hS1
  have hpt2 := same_read s2 hpt
  have hph2 := SqL.of (K := K) (s2 _ _ hph)
  have hp2t := SqT.of (K := K) hp2
  have hpos : 0 < hs.length := List.length_pos_of_mem hW.z0
  walk_at "sts"
  refine ⟨a, ns, 1, rfl, hS2, ?_⟩
  generalize ns.getD 1 0 = z1
  walk_at "sts"
  rw [iv_len]
  obtain ⟨c, hc, hc2⟩ := modN z1 hpos
  walk_at "sts"
  rw [hc]
  have hat := iv_at hc2
  have hmem : hs.getD c 0 ∈ hs := by rw [List.getD_eq_getElem?_getD, List.getElem?_eq_getElem hc2]; exact List.getElem_mem hc2
  generalize hs.getD c 0 = room at hat hmem
  have hroom := hW.lt room hmem
  walk_at "sts"
  refine w_new fun pd npd => ?_
  have sd := same_upd (o := .lst []) npd
  have ld : upd H2 pd (.lst []) pd = some (.lst (iv [])) := upd_same
  generalize upd H2 pd (.lst []) = H3 at sd ld ⊢
  walk_at "sts"
  refine ⟨fun k σ H' => ∃ (t : Nat) (js : List Nat), σ = [some (.ref a), some (.int (n : Nat)), some (.ref p), some (.ref p2), some (.int (room : Nat)), some (.ref pd), some (.int (t : Nat)), none, none, none, none] ∧ Same H2 H' ∧ H' pd = some (.lst (iv js)) ∧ t ∈ hs ∧ (∀ ks, RowL L via t ks → RowL L via room (ks ++ js)) ∧ js.length + t ≤ room ∧ k = t,
    ⟨room, room, [], rfl, sd, ld, hmem, fun ks h => by simpa using h, by simp, rfl⟩, ?_⟩
  rintro k σ H' ⟨t, js, rfl, s3, l3, htm, hB, hj, rfl⟩
  have htn := hW.lt k htm
  have hpt3 := same_read s3 hpt2
  have hp2t3 := same_read s3 hp2t
  have hu3 := SqL.of (K := K) (s3 _ _ hu)
  have hb3 := SqL.of (K := K) (s3 _ _ (s2 _ _ hpb))
  walk_at "sts"
  refine ifnd (fun h0 => w_wt ?_) (fun h0 => ?_)
  · have hbk := hW.hung k htm (by omega)
    obtain ⟨p', hp'⟩ : ∃ p', bf k = some p' := by
      cases e : bf k with
      | none => exact absurd e hbk
      | some p' => exact ⟨p', rfl⟩
    have hvk : via k ≠ none := fun e => hbk ((hok.non k htn).mp e)
    obtain ⟨j, hj2⟩ : ∃ j, via k = some j := by
      cases e : via k with
      | none => exact absurd e hvk
      | some j => exact ⟨j, rfl⟩
    obtain ⟨hjl, p'', e1, hjj⟩ := hok.ok k j hj2
    rw [hp'] at e1
    cases e1
    obtain ⟨q1, q2, _⟩ := hW.par k p' hp'
    have fv := ovs_at (f := via) htn
    rw [hj2] at fv
    have fb := ovs_at (f := bf) htn
    rw [hp'] at fb
    have hsl : (iv js).length < sizeLine := szlt (by rw [iv_len]; omega)
    have fix : ∀ H5, H5 = upd H' pd (.lst (.int (j : Nat) :: iv js)) → Same H2 H5 ∧ H5 pd = some (.lst (iv (j :: js))) := by
      rintro H5 rfl
      exact ⟨s3.mut npd, upd_same⟩
    walk_at "sts"
    rw [ins0]
    obtain ⟨H5, hH5⟩ : ∃ H5, H5 = upd H' pd (.lst (.int (j : Nat) :: iv js)) := ⟨_, rfl⟩
    rw [← hH5]
    obtain ⟨s5, l5⟩ := fix H5 hH5
    have hpt5 := same_read s5 hpt2
    have hb5 := SqL.of (K := K) (s5 _ _ (s2 _ _ hpb))
    walk_at "sts"
    refine ⟨p', q1, p', j :: js, rfl, s5, l5, q2, fun ks h => ?_, by simp; omega, rfl⟩
    have := hB (ks ++ [j]) (.cons hj2 hjj h)
    simpa using this
  · have hk0 : k = 0 := by omega
    subst hk0
    have hrow := hB [] (.nil ((hok.non 0 htn).mpr hW.z))
    rw [List.nil_append] at hrow
    obtain ⟨ls, hl, hls⟩ := dpLstA (hL.dp.same s3)
    have hll : ls.length = L.length := by have := dpaLen hls; simpa using this
    walk_at "sts"
    refine w_new fun pc nc => ?_
    have s5 := same_upd (o := .lst ls) nc
    have l5 : upd H' pc (.lst ls) pc = some (.lst ls) := upd_same
    have hLc : Dp K (upd H' pc (.lst ls)) (.ref pc) (dLks L) := .lst (SqL.of upd_same) (hls.same s5)
    have hLo := (hL.dp.same s3).same s5
    have hu5 := s5.seq hu3
    have hp2t5 := same_read s5 hp2t3
    have ld5 := s5 _ _ l3
    generalize upd H' pc (.lst ls) = H5 at s5 l5 hLc hLo hu5 hp2t5 ld5 ⊢
    walk_at "sts"
    refine w_new fun pv nv => ?_
    have s6 := same_upd (o := .lst (ovs via n)) nv
    have l6 : upd H5 pv (.lst (ovs via n)) pv = some (.lst (ovs via n)) := upd_same
    have hLc6 := hLc.same s6
    have hLo6 := hLo.same s6
    have hu6 := s6.seq hu5
    have hp2t6 := same_read s6 hp2t5
    have ld6 := s6 _ _ ld5
    generalize upd H5 pv (.lst (ovs via n)) = H6 at s6 l6 hLc6 hLo6 hu6 hp2t6 ld6 ⊢
    walk_at "sts"
    refine ⟨pc, pv, L, n, room, via, id, rfl, hLc6, SqL.of l6, ⟨fun r hr k hk => ?_⟩, hroom, by omega, by show room ≤ 1000; omega, fun p9 H9 ks s9 n9 h9 hR => ?_⟩
    · obtain ⟨k1, p', k2, k3⟩ := hok.ok r k hk
      obtain ⟨k4, _, _⟩ := hW.par r p' k2
      exact ⟨k1, p', k3, by omega, k4⟩
    have e := hR.uniq hrow
    subst e
    have hLc9 := hLc6.same s9
    have hLo9 := hLo6.same s9
    have hu9 := s9.seq hu6
    have hp2t9 := same_read s9 hp2t6
    have ld9 := SqL.of (K := K) (s9 _ _ ld6)
    have l9 := SqL.of (K := K) (s9 _ _ l6)
    have h9S := SqL.of (K := K) h9
    walk_at "sts"
    refine w_neD hLc9 hLo9 (goodLks L) (by decide) ?_
    walk_at "sts"
    refine w_neD (.lst l9 (dp_ovs via (List.range n))) (.lst hu9 (dp_ovs via (List.range n))) (good_ovs via _) (by decide) ?_
    walk_at "sts"
    refine for_list (xs := iv ks) (fun i σ H' => ∃ (y : Option V), σ = [some (.ref a), some (.int (n : Nat)), some (.ref p), some (.ref p2), some (.int (room : Nat)), some (.ref pd), some (.int ((0 : Nat) : Int)), some (.ref pc), some (.ref pv), some (.ref p9), y] ∧ H' = H9) ?_ ?_ ?_ ?_
    · exact ⟨_, rfl, rfl⟩
    · rintro i σ H' _ ⟨_, rfl, rfl⟩
      exact h9S
    · rintro i v σ H' hv ⟨y, rfl, rfl⟩
      have hi : i < ks.length := by rw [← iv_len]; exact (List.getElem?_eq_some_iff.mp hv).1
      rw [iv_at hi] at hv
      cases hv
      walk_at "sts"
      refine ⟨_, rfl, ?_⟩
      walk_at "sts"
      exact ⟨_, rfl, rfl⟩
    · rintro σ H' ⟨y, rfl, rfl⟩
      walk_at "sts"
      refine w_eqD (dpRow h9S) (dpRow ld9) (goodRow ks) (by decide) ?_
      exact q _
end
theorem all_mk {l : PySem.W.OpenLaw} {w : World} {K : PySem.W.Frag} {h : Heap} {mg : Str → Option Value} {fa f0 f1 f2 f3 f4 f5 f6  : Addr} (X : K.In h) (G : h.Ns mainGlobals mg) (hfa : mg "law" = some (.ref fa))
    {od0 an0 od1 an1 od2 an2 od3 an3 od4 an4 od5 an5 od6 an6 : Option Addr} {sl0 sl1 sl2 sl3 sl4 sl5 sl6 : Array (Option Value)} {oc0 kV0 dc0 pm0 cd0 ct0 oc1 kV1 dc1 pm1 cd1 ct1 oc2 kV2 dc2 pm2 cd2 ct2 oc3 kV3 dc3 pm3 cd3 ct3 oc4 kV4 dc4 pm4 cd4 ct4 oc5 kV5 dc5 pm5 cd5 ct5 oc6 kV6 dc6 pm6 cd6 ct6 : Value}
    (a0 : PySem.W.nsIn K mainGlobals "beyond" = some (some (.ref f0)))
    (l0 : K.lookup f0 = some ⟨oc0, od0, .func (PySem.W.fnOf "beyond" "beyond" (defArgs s_beyond) (defBody s_beyond) (defScope s_beyond) .none kV0 dc0 pm0 an0 cd0 ct0), sl0⟩)
    (c0 : PySem.W.codeIn K cd0 "beyond" = true)
    (k0 : PySem.W.keepIn K (.ref f0) = true)
    (a1 : PySem.W.nsIn K mainGlobals "row_to" = some (some (.ref f1)))
    (l1 : K.lookup f1 = some ⟨oc1, od1, .func (PySem.W.fnOf "row_to" "row_to" (defArgs s_row_to) (defBody s_row_to) (defScope s_row_to) .none kV1 dc1 pm1 an1 cd1 ct1), sl1⟩)
    (c1 : PySem.W.codeIn K cd1 "row_to" = true)
    (k1 : PySem.W.keepIn K (.ref f1) = true)
    (a2 : PySem.W.nsIn K mainGlobals "_law_cell" = some (some (.ref f2)))
    (l2 : K.lookup f2 = some ⟨oc2, od2, .func (PySem.W.fnOf "_law_cell" "_law_cell" (defArgs s_law_cell) (defBody s_law_cell) (defScope s_law_cell) .none kV2 dc2 pm2 an2 cd2 ct2), sl2⟩)
    (c2 : PySem.W.codeIn K cd2 "_law_cell" = true)
    (k2 : PySem.W.keepIn K (.ref f2) = true)
    (a3 : PySem.W.nsIn K mainGlobals "_law_whole" = some (some (.ref f3)))
    (l3 : K.lookup f3 = some ⟨oc3, od3, .func (PySem.W.fnOf "_law_whole" "_law_whole" (defArgs s_law_whole) (defBody s_law_whole) (defScope s_law_whole) .none kV3 dc3 pm3 an3 cd3 ct3), sl3⟩)
    (c3 : PySem.W.codeIn K cd3 "_law_whole" = true)
    (k3 : PySem.W.keepIn K (.ref f3) = true)
    (a4 : PySem.W.nsIn K mainGlobals "_law_wood" = some (some (.ref f4)))
    (l4 : K.lookup f4 = some ⟨oc4, od4, .func (PySem.W.fnOf "_law_wood" "_law_wood" (defArgs s_law_wood) (defBody s_law_wood) (defScope s_law_wood) .none kV4 dc4 pm4 an4 cd4 ct4), sl4⟩)
    (c4 : PySem.W.codeIn K cd4 "_law_wood" = true)
    (k4 : PySem.W.keepIn K (.ref f4) = true)
    (a5 : PySem.W.nsIn K mainGlobals "_law_laid" = some (some (.ref f5)))
    (l5 : K.lookup f5 = some ⟨oc5, od5, .func (PySem.W.fnOf "_law_laid" "_law_laid" (defArgs s_law_laid) (defBody s_law_laid) (defScope s_law_laid) .none kV5 dc5 pm5 an5 cd5 ct5), sl5⟩)
    (c5 : PySem.W.codeIn K cd5 "_law_laid" = true)
    (k5 : PySem.W.keepIn K (.ref f5) = true)
    (a6 : PySem.W.nsIn K mainGlobals "law" = some (some (.ref f6)))
    (l6 : K.lookup f6 = some ⟨oc6, od6, .func (PySem.W.fnOf "law" "law" (defArgs s_law) (defBody s_law) (defScope s_law) .none kV6 dc6 pm6 an6 cd6 ct6), sl6⟩)
    (c6 : PySem.W.codeIn K cd6 "law" = true)
    (k6 : PySem.W.keepIn K (.ref f6) = true)
    (z_len : PySem.W.nsIn K mainGlobals "len" = some none)
    (z_isinstance : PySem.W.nsIn K mainGlobals "isinstance" = some none)
    (z_int : PySem.W.nsIn K mainGlobals "int" = some none)
    (z_bool : PySem.W.nsIn K mainGlobals "bool" = some none)
    (z_range : PySem.W.nsIn K mainGlobals "range" = some none)
    (z_min : PySem.W.nsIn K mainGlobals "min" = some none)
    (z_list : PySem.W.nsIn K mainGlobals "list" = some none)
    (z_reversed : PySem.W.nsIn K mainGlobals "reversed" = some none)
    : ∃ fd : FuncData, (∀ (s : Shared) (v : Value), BindsTo s fd ⟨[v], []⟩ [("script", v)]) ∧ ∀ base : Heap, K.In base → base.Ns mainGlobals mg → FnOk l.prog w K mg base CX0 3 fa fd ["script"] (spLaw K) := by
  have e := hfa.symm.trans (PySem.W.mg_of X G a6)
  cases e
  have B : Bl mg := ⟨PySem.W.mg_none_of X G z_len, PySem.W.mg_none_of X G z_isinstance, PySem.W.mg_none_of X G z_int, PySem.W.mg_none_of X G z_bool, PySem.W.mg_none_of X G z_range, PySem.W.mg_none_of X G z_min, PySem.W.mg_none_of X G z_list, PySem.W.mg_none_of X G z_reversed⟩
  refine ⟨PySem.W.fnOf "law" "law" (defArgs s_law) (defBody s_law) (defScope s_law) .none kV6 dc6 pm6 an6 cd6 ct6, fun s v => .of_eq rfl, fun base _ _ => ?_⟩
  have h_beyond := ok_beyond (P := l.prog) (w := w) (base := base) (fun_mk (st := s_beyond) l0 c0 k0) (PySem.W.mg_of X G a0) B 
  have h_row_to := ok_row_to (P := l.prog) (w := w) (base := base) (fun_mk (st := s_row_to) l1 c1 k1) (PySem.W.mg_of X G a1) B h_beyond
  have h_law_cell := ok_law_cell (P := l.prog) (w := w) (base := base) (fun_mk (st := s_law_cell) l2 c2 k2) (PySem.W.mg_of X G a2) B 
  have h_law_whole := ok_law_whole (P := l.prog) (w := w) (base := base) (fun_mk (st := s_law_whole) l3 c3 k3) (PySem.W.mg_of X G a3) B 
  have h_law_wood := ok_law_wood (P := l.prog) (w := w) (base := base) (fun_mk (st := s_law_wood) l4 c4 k4) (PySem.W.mg_of X G a4) B h_law_cell
  have h_law_laid := ok_law_laid (P := l.prog) (w := w) (base := base) (fun_mk (st := s_law_laid) l5 c5 k5) (PySem.W.mg_of X G a5) B h_law_cell
  exact ok_law (P := l.prog) (w := w) (base := base) (fun_mk (st := s_law) l6 c6 k6) B h_law_wood h_law_laid h_row_to h_law_cell h_law_whole
end Sf
open PySem PySem.W PyProof.Rows
set_option maxRecDepth 100000 in
set_option maxHeartbeats 0 in
theorem PySem.Challenge.cw_spinfloor_k21_rows_to_rooms_holds : PySem.Challenge.rw_spinfloor_k21_rows_to_rooms.Holds := by
  w_on; o_law; k_head; (case hw => w_witness2)
  k_fill
  refine Sf.walk_ofE (l := PySem.Challenge.rw_spinfloor_k21_rows_to_rooms) (n := 63) (k := 3) (sp := Sf.spLaw) rfl (by decide) rfl ⟨rfl, by decide, by decide⟩ (fun w h Y => PySem.W.kIn_of Y) ?F (fun _ _ a ns hl hb hS => ⟨a, ns, rfl, hS, hl, hb, fun _ => rfl⟩)
  case F =>
    intro w mg fa h KX G hmg
    refine' Sf.all_mk KX G hmg ?a0 ?l0 ?c0 ?k0 ?a1 ?l1 ?c1 ?k1 ?a2 ?l2 ?c2 ?k2 ?a3 ?l3 ?c3 ?k3 ?a4 ?l4 ?c4 ?k4 ?a5 ?l5 ?c5 ?k5 ?a6 ?l6 ?c6 ?k6 ?z_len ?z_isinstance ?z_int ?z_bool ?z_range ?z_min ?z_list ?z_reversed
    (case a0 => k_is); (case l0 => k_is); (case c0 => k_is); (case k0 => k_is); (case a1 => k_is); (case l1 => k_is); (case c1 => k_is); (case k1 => k_is); (case a2 => k_is); (case l2 => k_is); (case c2 => k_is); (case k2 => k_is); (case a3 => k_is); (case l3 => k_is); (case c3 => k_is); (case k3 => k_is); (case a4 => k_is); (case l4 => k_is); (case c4 => k_is); (case k4 => k_is); (case a5 => k_is); (case l5 => k_is); (case c5 => k_is); (case k5 => k_is); (case a6 => k_is); (case l6 => k_is); (case c6 => k_is); (case k6 => k_is); (case z_len => k_is); (case z_isinstance => k_is); (case z_int => k_is); (case z_bool => k_is); (case z_range => k_is); (case z_min => k_is); (case z_list => k_is); (case z_reversed => k_is)

