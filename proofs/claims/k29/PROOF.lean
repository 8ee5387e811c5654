
import PyProof.Rows.All
import Wide.All
import OpenK.AllK
import Wide.FinOn
import HandS.ForMost
import HandS.Wide
import HandS.WideBits
import HandS.IsInst
import HandS.More
import HandS.EndBits
import HandS.SortInts
import KE.SortData
import HandS.TupLe
import PySem.Challenge.RW_spinfloor_k29_papers_examined
set_option Elab.async false
set_option linter.all false
set_option pp.deepTerms false
set_option pp.deepTerms.threshold 6
set_option maxRecDepth 100000
set_option maxHeartbeats 8000000
namespace Sf
open PySem PySem.Spec PyProof.Rows L2

/-! ### defs by name -/
structure Has (P : Program) (w : World) (K : PySem.W.Frag) (mg : Str → Option Value) (base : Heap) (CX : CXT) (k : Nat) (x : Str) (ps : List Str) (sp : Sp) : Prop where
  ex : ∃ f fd, FnOk P w K mg base CX k f fd ps sp ∧ mg x = some (.ref f) ∧ PySem.W.keepIn K (.ref f) = true ∧ Binds K fd ps []
section
variable {P : Program} {w : World} {K : PySem.W.Frag} {mg : Str → Option Value} {base : Heap} {x qual : Str} {ps N : List Str} {sp : Sp} {k : Nat}
theorem Has.mk' {st : Stmt} {f : Addr} {fd : FuncData} (F : Fun K x qual st f fd) (gf : mg x = some (.ref f)) (b : Binds K fd ps []) (S : FnScope N ps (defScope st)) (len : ∀ vs H Q E, sp vs H Q E → vs.length = ps.length)
    (hbody : ∀ (cdv : Value) (A : Around) (outer : List Env) (s : Shared) (H : Hp) (vs : List V) (Q : VK) (E : XK), Room k (A.deeper (envOfC qual (defScope st) s.heap.objs.size f cdv)) → sp vs H Q E →
      ∃ t, PSs (cxOf CX0 P w K mg base N qual (defScope st) f cdv A outer s H E).nox (defBody st) t ∧ t { nx := fun _ H' => Q .non H', rt := Q } (start N vs) H) : Has P w K mg base CX0 (k + 1) x ps sp :=
  ⟨f, fd, F.ok S len hbody, gf, F.kp, b⟩
end
section
variable {X : Cx} {k : Nat} {ps : List Str} {sp : Sp} {x : Str} {p pos : Pos} {e : Expr} {es : List Expr} {t : TA}
theorem pe_fn (h : Has X.prog X.w X.K X.mg X.base CX0 k x ps sp) (hr : Room k X.A) (hg : Gl X x) (ha : PA X (e :: es) t) (hdb : (x == ("__debug__" : Str)) = false := by decide) (he : starEach (e :: es) X.env = (false, eval e X.env) :: starEach es X.env := by rfl) (hpl : (backTo pos (starEach es X.env)).any (·.1) = false := by rfl) :
    PE X (.Call (.Name x p) (e :: es) [] pos) (tCall sp [] E0 t) := by
  obtain ⟨f, fd, F, gf, kp, b⟩ := h.ex
  exact pe_call F hr hg gf kp b .nil pass0 ha hdb he hpl
theorem pe_fn0 (h : Has X.prog X.w X.K X.mg X.base CX0 k x ps sp) (hr : Room k X.A) (hg : Gl X x) (hdb : (x == ("__debug__" : Str)) = false := by decide) :
    PE X (.Call (.Name x p) [] [] pos) (tCall sp [] E0 tNil) := by
  obtain ⟨f, fd, F, gf, kp, b⟩ := h.ex
  exact pe_call0 F hr hg gf kp b .nil pass0 hdb
end
/-! ### lists whose object is known to the sign; the sum of two -/
def LsE (K : PySem.W.Frag) (H : Hp) (a : Addr) (xs : List V) : Prop :=
  Rd H a (.lst xs) ∨ ∃ (its : List Value) (n : Nat), K.lookup a = some { cls := .type "list", data := .seq its.toArray n } ∧ Vals xs its ∧ xs.length ≤ sizeLine
theorem LsE.sq {K : PySem.W.Frag} {H : Hp} {a : Addr} {xs : List V} (h : LsE K H a xs) : SqL K H a xs := by
  rcases h with h | ⟨its, n, h1, h2, h3⟩
  · exact .inl h
  · exact .inr ⟨_, its.toArray, n, h1, rfl, rfl, rfl, by rw [List.size_toArray, ← h2.length]; exact h3, by simpa using h2⟩
theorem LsE.of {K : PySem.W.Frag} {H : Hp} {a : Addr} {xs : List V} (h : H a = some (.lst xs)) : LsE K H a xs := .inl (.inl h)
theorem LsE.same {K : PySem.W.Frag} {H H' : Hp} {a : Addr} {xs : List V} (e : Same H H') (h : LsE K H a xs) : LsE K H' a xs := by
  rcases h with (h | ⟨o, h⟩) | h
  · exact .inl (.inl (e _ _ h))
  · exact .inl (.inr ⟨o, e _ _ h⟩)
  · exact .inr h
section
variable {X : Cx}
theorem LsE.obj {pins : List (Addr × Obj)} {σ : L2.St} {H : Hp} {s : Shared} {a : Addr} {xs : List V} (I : Inv X pins σ H s) (h : LsE X.K H a xs) :
    ∃ (its : List Value) (n : Nat), Vals xs its ∧ s.heap.get? a = some { cls := .type "list", data := .seq its.toArray n } := by
  rcases h with h | ⟨its, n, h1, h2, _⟩
  · obtain ⟨_, its, n, r, e⟩ := h.ok I.hok
    exact ⟨its, n, r, e⟩
  · exact ⟨its, n, h2, I.kIn a _ h1⟩
def rCatE (K : PySem.W.Frag) : R2 := fun x y H Q => ∃ l b xs zs, x = .ref l ∧ y = .ref b ∧ LsE K H l xs ∧ LsE K H b zs ∧ xs.length + zs.length ≤ sizeLine ∧ ∀ p, H p = none → Q (.ref p) (upd H p (.lst (xs ++ zs)))
theorem op_catE : OpR X (binaryOp .Add) (rCatE X.K) := by
  intro pins s σ H x y v u Q I rx ry h
  obtain ⟨l, b, xs, zs, rfl, rfl, hl, hb, hz, q⟩ := h
  cases rx
  cases ry
  obtain ⟨ix, n, rl, el⟩ := hl.obj I
  obtain ⟨iz, m, rb, eb⟩ := hb.obj I
  refine PySem.P.add_list el eb ?_ (by simp only [List.size_toArray, ← rl.length, ← rb.length]; exact hz)
  have join : ix.toArray ++ iz.toArray = (ix ++ iz).toArray := by simp
  rw [join]
  exact ⟨.ref s.heap.objs.size, _, I.lnew (t' := s.toks) (rl.append rb) (by simpa using hz), rfl, q _ I.fresh⟩
end
/-! ### tests -/
theorem ifd {c A B : Prop} [Decidable c] (h1 : c → A) (h2 : ¬ c → B) : if decide c = true then A else B := by
  by_cases h : c
  · simp only [h, decide_true, if_true]; exact h1 h
  · simp only [h, decide_false, Bool.false_eq_true, if_false]; exact h2 h
theorem ifnd {c A B : Prop} [Decidable c] (h1 : ¬ c → A) (h2 : c → B) : if (!decide c) = true then A else B := by
  by_cases h : c
  · simp only [h, decide_true, Bool.not_true, Bool.false_eq_true, if_false]; exact h2 h
  · simp only [h, decide_false, Bool.not_false, if_true]; exact h1 h
theorem ifb {b : Bool} {A B : Prop} (h1 : b = true → A) (h2 : b = false → B) : if b = true then A else B := by
  cases b with
  | true => exact h1 rfl
  | false => exact h2 rfl
theorem ifT {b : Bool} {A B : Prop} (hb : b = true) (h : A) : if b = true then A else B := by rw [if_pos hb]; exact h
theorem ifF {b : Bool} {A B : Prop} (hb : b = false) (h : B) : if b = true then A else B := by rw [hb]; exact h
theorem int_eq {i j : Int} : (V.int i = V.int j) = (i = j) := by simp
theorem same_upd {H : Hp} {p : Addr} {o : HO} (h : H p = none) : Same H (upd H p o) := fun b x e => by
  rw [upd_ne (ne_of_none e h)]
  exact e
/-- a place that is free -/
def New (H : Hp) (p : Addr) : Prop := H p = none
theorem w_new {H : Hp} {R : Addr → Prop} (h : ∀ p, New H p → R p) : ∀ p, H p = none → R p := h
theorem ne_new {H : Hp} {a b : Addr} {o : HO} (h : H a = some o) (n : New H b) : a ≠ b := ne_of_none h n
/-- one more object over what was tracked at H -/
theorem _root_.L2.Same.new {H H' : Hp} {p : Addr} {o : HO} (e : Same H H') (h : New H' p) : Same H (upd H' p o) := e.trans (same_upd h)
theorem _root_.L2.Same.get {H H' : Hp} {p : Addr} {o : HO} (e : Same H H') (h : H p = some o) : H' p = some o := e p o h
theorem New.of {H H' : Hp} {p : Addr} (n : New H' p) (e : Same H H') : New H p := e.free n
/-- an object that H does not track is changed -/
theorem _root_.L2.Same.mut {H H' : Hp} {p : Addr} {o : HO} (e : Same H H') (h : New H p) : Same H (upd H' p o) := fun b x hb => by
  rw [upd_ne (ne_of_none hb h)]
  exact e b x hb
/-! ### isinstance of ints and bools -/
theorem kb_ii : kitB "int" "int" = some true := by decide +kernel
theorem kb_ib : kitB "int" "bool" = some false := by decide +kernel
theorem kb_bb : kitB "bool" "bool" = some true := by decide +kernel
theorem kb_bi : kitB "bool" "int" = some true := by decide +kernel
theorem kb_ll : kitB "list" "list" = some true := by decide +kernel
theorem kb_tt : kitB "tuple" "tuple" = some true := by decide +kernel
theorem kb_ni : kitB "NoneType" "int" = some false := by decide +kernel
theorem kb_nb : kitB "NoneType" "bool" = some false := by decide +kernel
theorem kb_tl : kitB "tuple" "list" = some false := by decide +kernel
theorem kb_lt : kitB "list" "tuple" = some false := by decide +kernel
/-! ### the law's end, the script's list known to the sign, its bits told -/
theorem walk_ofE {l : PySem.W.OpenLaw} {n k : Nat} {q : Program} {loose : List Str} {XP : (Str → Option Value) → Heap → Prop} {YP : World → Heap → Prop} {d : DefRec} {K : Params → PySem.W.Frag} {sp : PySem.W.Frag → Sp}
    (hn : l.most = some n) (hn2 : n ≤ sizeLine) (hdf : d.params.defaults = []) (hr : Room k callerA) (hY : ∀ (w : World) (h : Heap), YP w h → (K w.params).In h)
    (F : ∀ (w : World) (mg : Str → Option Value) (fa : Addr) (h : Heap), (K w.params).In h → h.Ns mainGlobals mg → mg d.name = some (.ref fa) →
      ∃ fd : FuncData, (∀ (s : Shared) (u : Value), BindsTo s fd ⟨[u], []⟩ [("script", u)]) ∧ ∀ base : Heap, (K w.params).In base → base.Ns mainGlobals mg → FnOk l.prog w (K w.params) mg base CX0 k fa fd ["script"] (sp (K w.params)))
    (hsp : ∀ (K : PySem.W.Frag) (H : Hp) (a : Addr) (ns : List Int), ns.length ≤ n → (∀ z ∈ ns, Builtin.Int.intBits z ≤ 1048576) → LsE K H a (ns.map V.int) → sp K [.ref a] H (fun v _ => v = .bl true) fun _ _ _ => False) :
    PySem.W.WalkO q loose XP YP l.row.toRowW d [] (fun f vs => PySem.call f vs) := by
  refine Att.attach_callB hn hdf fun w s₀ s₁ mg mb fa o pm cd doc a vs ns G Y ho hd hcd hmg hobj hints hlen hbits hg => ?_
  obtain ⟨fd, hb, hF⟩ := F w mg fa _ (hY w _ Y) G.T.g hmg
  refine law_call (hY w _ Y) G.T.g G.T.b G.T.builtins G.T.nolimit hg hobj hints (Nat.le_trans hlen hn2) hr hF hb (fun H _ hS => hsp _ H a ns hlen hbits ?_) fun _ _ _ h => h
  rcases hS with h | ⟨ob, its, m, hk, h1, h2, h3, h4, h5⟩
  · exact .inl h
  · have e := (hY w _ Y) a ob hk
    rw [hobj] at e
    cases e
    cases h3
    exact .inr ⟨vs, _, hk, by simpa using h5, by rw [List.length_map]; exact Nat.le_trans hlen hn2⟩
/-! ### bounds of operators -/
theorem cdivw_small {i j : Int} (h : 0 < j) (h2 : j < 2 ^ 200) : CDivW i j := wide_div (b := 200) h (by omega) (by decide) (by decide)
theorem nab_lt {i : Int} {a : Nat} (h1 : -(2 ^ a) < i) (h2 : i < 2 ^ a) : i.natAbs < 2 ^ a := by
  have e : ((2 ^ a : Nat) : Int) = (2 : Int) ^ a := by simp
  omega
theorem cmulx_small {i j : Int} (h1 : -(2 ^ 200) < i) (h2 : i < 2 ^ 200) (h3 : -(2 ^ 200) < j) (h4 : j < 2 ^ 200) : CMulX i j := mulx_ok (nab_lt h1 h2) (nab_lt h3 h4) (by decide)
theorem cshl_one {j : Int} (h : 0 ≤ j) (h2 : j ≤ 100000) : CShl 1 j := by
  have e : ((j.toNat : Nat) : Int) = j := Int.toNat_of_nonneg h
  rw [← e]
  exact shl_ok (n := 1) (by decide) (by omega)
theorem cshl_small {i j : Int} (h0 : -(2 ^ 200) < i) (h1 : i < 2 ^ 200) (h : 0 ≤ j) (h2 : j ≤ 100000) : CShl i j := by
  have e : ((j.toNat : Nat) : Int) = j := Int.toNat_of_nonneg h
  rw [← e]
  exact shl_ok (n := 200) (nab_lt h0 h1) (by omega)
theorem szle {α : Type} {xs : List α} (h : Nat.ble xs.length 1000 = true) : xs.length ≤ sizeLine := Nat.le_trans (Nat.le_of_ble_eq_true h) (by decide)
theorem szlt {α : Type} {xs : List α} (h : xs.length < 1000000) : xs.length < sizeLine := Nat.lt_of_lt_of_le h (by decide)
theorem atI_get {α : Type} {xs : List α} {i : Int} {j : Nat} (e : i = j) (h : j < xs.length) : atI xs i = some xs[j] := by
  subst e
  exact atI_nat (List.getElem?_eq_getElem h)
theorem atI_map {α β : Type} {f : α → β} {xs : List α} {i : Int} {j : Nat} (e : i = j) (h : j < xs.length) : atI (xs.map f) i = some (f xs[j]) := by
  subst e
  exact atI_nat (by rw [List.getElem?_map, List.getElem?_eq_getElem h]; rfl)
/-! ### the readings, one at a time -/
section
variable {σ : L2.St} {H : Hp} {Q : VK} {QT : Bool → Hp → Prop} {QA : List V → Hp → Prop} {D : Ends} {v x y z : V} {ta tb tc te tv : TE} {t u c : TT} {ts us : TS} {tl tr : TA} {r : R2} {g : TG} {gs : TGs} {i j : Nat} {m n : Int} {K : PySem.W.Frag} {a p q C dx : Addr} {f : Str} {xs ys : List V} {fs : List (Str × V)}
theorem w_seq (h : ts { D with nx := us D } σ H) : tSeq ts us D σ H := h
theorem w_next (h : D.nx σ H) : tNext D σ H := h
theorem w_var (h : ∃ v, σ[i]? = some (some v) ∧ Q v H) : tVar i σ H Q := h
theorem w_c (h : Q v H) : tC v σ H Q := h
theorem w_op (h : ta σ H fun x H1 => tb σ H1 fun y H2 => r x y H2 Q) : tOp r ta tb σ H Q := h
theorem w_un {r : V → Hp → VK → Prop} (h : ta σ H fun x H1 => r x H1 Q) : tUn r ta σ H Q := h
theorem w_rI0 {g : Int → Int → V} (h : Q (g m n) H) : rI0 g (.int m) (.int n) H Q := ⟨m, n, rfl, rfl, h⟩
theorem w_mod (h0 : 0 < n) (h : Q (.int (m % n)) H) : rI (fun _ j => 0 < j) (fun i j => .int (i % j)) (.int m) (.int n) H Q := ⟨m, n, rfl, rfl, h0, h⟩
theorem w_div (h0 : 0 < n) (h1 : n < 2 ^ 200) (h : Q (.int (m / n)) H) : rI CDivW (fun i j => .int (i / j)) (.int m) (.int n) H Q := ⟨m, n, rfl, rfl, cdivw_small h0 h1, h⟩
theorem w_shr (h0 : 0 ≤ n) (h : Q (.int (m / 2 ^ n.toNat)) H) : rI (fun _ j => 0 ≤ j) (fun i j => .int (i / 2 ^ j.toNat)) (.int m) (.int n) H Q := ⟨m, n, rfl, rfl, h0, h⟩
theorem w_mul (h1 : -(2 ^ 200) < m) (h2 : m < 2 ^ 200) (h3 : -(2 ^ 200) < n) (h4 : n < 2 ^ 200) (h : Q (.int (m * n)) H) : rI CMulX (fun i j => .int (i * j)) (.int m) (.int n) H Q := ⟨m, n, rfl, rfl, cmulx_small h1 h2 h3 h4, h⟩
theorem w_shl1 (h1 : 0 ≤ n) (h2 : n ≤ 100000) (h : Q (.int (1 * 2 ^ n.toNat)) H) : rI CShl (fun i j => .int (i * 2 ^ j.toNat)) (.int 1) (.int n) H Q := ⟨1, n, rfl, rfl, cshl_one h1 h2, h⟩
theorem w_shl (h1 : -(2 ^ 200) < m) (h2 : m < 2 ^ 200) (h3 : 0 ≤ n) (h4 : n ≤ 100000) (h : Q (.int (m * 2 ^ n.toNat)) H) : rI CShl (fun i j => .int (i * 2 ^ j.toNat)) (.int m) (.int n) H Q := ⟨m, n, rfl, rfl, cshl_small h1 h2 h3 h4, h⟩
theorem w_pow (h0 : CPow m n) (h : Q (.int (m ^ n.toNat)) H) : rI CPow (fun i j => .int (i ^ j.toNat)) (.int m) (.int n) H Q := ⟨m, n, rfl, rfl, h0, h⟩
theorem w_rU {g : Int → V} (h : Q (g m) H) : rU g (.int m) H Q := ⟨m, rfl, h⟩
theorem dec_ii : decide (V.int m = V.int n) = decide (m = n) := by
  by_cases h : m = n
  · rw [h]; simp
  · simp [h]
theorem dec_bb {a b : Bool} : decide (V.bl a = V.bl b) = decide (a = b) := by cases a <;> cases b <;> decide
theorem dec_ss {a b : Str} : decide (V.str a = V.str b) = decide (a = b) := by
  by_cases h : a = b
  · rw [h]; simp
  · simp [h]
theorem w_eqI (h : Q (.bl (decide (m = n))) H) : rEq (.int m) (.int n) H Q := ⟨rfl, by rw [dec_ii]; exact h⟩
theorem w_eqB {a b : Bool} (h : Q (.bl (decide (a = b))) H) : rEq (.bl a) (.bl b) H Q := ⟨rfl, by rw [dec_bb]; exact h⟩
theorem w_eqS {a b : Str} (h : Q (.bl (decide (a = b))) H) : rEq (.str a) (.str b) H Q := ⟨rfl, by rw [dec_ss]; exact h⟩
theorem w_eqNI (h : Q (.bl false) H) : rEq .non (.int n) H Q := ⟨rfl, by rw [decide_eq_false (by simp)]; exact h⟩
theorem w_eqIN (h : Q (.bl false) H) : rEq (.int n) .non H Q := ⟨rfl, by rw [decide_eq_false (by simp)]; exact h⟩
theorem w_neI (h : Q (.bl (!decide (m = n))) H) : rNe (.int m) (.int n) H Q := ⟨rfl, by rw [dec_ii]; exact h⟩
theorem w_neB {a b : Bool} (h : Q (.bl (!decide (a = b))) H) : rNe (.bl a) (.bl b) H Q := ⟨rfl, by rw [dec_bb]; exact h⟩
theorem w_neS {a b : Str} (h : Q (.bl (!decide (a = b))) H) : rNe (.str a) (.str b) H Q := ⟨rfl, by rw [dec_ss]; exact h⟩
theorem w_ixL (hs : SqL K H p xs) (ha : atI xs m = some v) (h : Q v H) : rIxL K (.ref p) (.int m) H Q := ⟨p, xs, m, v, rfl, rfl, hs, ha, h⟩
theorem w_ixT (hs : SqT K H p xs) (ha : atI xs m = some v) (h : Q v H) : rIxT K (.ref p) (.int m) H Q := ⟨p, xs, m, v, rfl, rfl, hs, ha, h⟩
theorem w_ixl (hs : SqL K H p xs) (ha : atI xs m = some v) (h : Q v H) : rIx K (.ref p) (.int m) H Q := .inl ⟨p, xs, m, v, rfl, rfl, hs, ha, h⟩
theorem w_ixt (hs : SqT K H p xs) (ha : atI xs m = some v) (h : Q v H) : rIx K (.ref p) (.int m) H Q := .inr (.inl ⟨p, xs, m, v, rfl, rfl, hs, ha, h⟩)
theorem w_catE (h1 : LsE K H p xs) (h2 : LsE K H q ys) (hz : xs.length + ys.length ≤ sizeLine) (h : ∀ p, H p = none → Q (.ref p) (upd H p (.lst (xs ++ ys)))) : rCatE K (.ref p) (.ref q) H Q := ⟨p, q, xs, ys, rfl, rfl, h1, h2, hz, h⟩
theorem w_rep (h1 : H p = some (.lst xs)) (h2 : -(2 ^ 63) ≤ n) (h3 : n < 2 ^ 63) (h4 : xs.length * n.toNat ≤ sizeLine) (h : ∀ p, H p = none → Q (.ref p) (upd H p (.lst (List.replicate n.toNat xs).flatten))) : rRep (.ref p) (.int n) H Q := ⟨p, n, xs, rfl, rfl, h1, h2, h3, h4, h⟩
theorem w_test (h : te σ H fun x H' => ∃ k, x = .bl k ∧ QT k H') : tTest te σ H QT := h
theorem w_tB (h : te σ H fun x H' => ∃ k, x = .bl k ∧ QT k H') : tB te σ H QT := h
theorem w_bl {b : Bool} {R : Bool → Prop} (h : R b) : ∃ k, V.bl b = .bl k ∧ R k := ⟨b, rfl, h⟩
theorem w_and (h : t σ H fun c H1 => if c = true then u σ H1 QT else QT false H1) : tAnd t u σ H QT := h
theorem w_or (h : t σ H fun c H1 => if c = true then QT true H1 else u σ H1 QT) : tOr t u σ H QT := h
theorem w_not (h : t σ H fun c H1 => QT (!c) H1) : tNot t σ H QT := h
theorem w_andV (h : ta σ H fun x H1 => ∃ c, x = .bl c ∧ if c = true then tb σ H1 Q else Q (.bl false) H1) : tAndV ta tb σ H Q := h
theorem w_orV (h : ta σ H fun x H1 => ∃ c, x = .bl c ∧ if c = true then Q (.bl true) H1 else tb σ H1 Q) : tOrV ta tb σ H Q := h
theorem w_notV (h : ta σ H fun x H1 => ∃ c, x = .bl c ∧ Q (.bl (!c)) H1) : tNotV ta σ H Q := h
theorem w_ifE (h : t σ H fun c H1 => if c = true then ta σ H1 Q else tb σ H1 Q) : tIf t ta tb σ H Q := h
theorem w_asg (h : te σ H fun x H1 => g x σ H1 D.nx) : tAsg te g D σ H := h
theorem w_gn {R : L2.St → Hp → Prop} (h : R (σ.set i (some v)) H) : gName i v σ H R := h
theorem w_gt {R : L2.St → Hp → Prop} {k : Nat} (hs : SqT K H p xs) (hl : xs.length = k) (h : gs xs σ H R) : gTup K k gs (.ref p) σ H R := ⟨p, xs, rfl, hs, hl, h⟩
theorem w_gc {R : L2.St → Hp → Prop} (h : g v σ H fun σ' H' => gs xs σ' H' R) : gCons g gs (v :: xs) σ H R := ⟨v, xs, rfl, h⟩
theorem w_g0 {R : L2.St → Hp → Prop} (h : R σ H) : gNil [] σ H R := ⟨rfl, h⟩
theorem w_gs {R : L2.St → Hp → Prop} {tt : TSet} (h : ta σ H fun o H1 => tb σ H1 fun i H2 => tt o i v H2 fun H3 => R σ H3) : gSub ta tb tt v σ H R := h
theorem w_setL {R : Hp → Prop} (hp : H p = some (.lst xs)) (hj : ixN xs.length m = some j) (h : R (upd H p (.lst (xs.set j v)))) : rSetL (.ref p) (.int m) v H R := ⟨p, xs, m, j, rfl, rfl, hp, hj, h⟩
theorem w_drop (h : te σ H fun _ H1 => D.nx σ H1) : tDrop te D σ H := h
theorem w_ret (h : te σ H D.rt) : tRet te D σ H := h
theorem w_retN (h : D.rt .non H) : tRetN D σ H := h
theorem w_if (h : t σ H fun b H1 => if b = true then ts D σ H1 else us D σ H1) : tIfS t ts us D σ H := h
theorem w_break (h : D.bk σ H) : tBreak D σ H := h
theorem w_cont (h : D.ct σ H) : tCont D σ H := h
theorem w_aug {ti : TIp} (h : ∃ x, σ[i]? = some (some x) ∧ te σ H fun y H1 => ti x y H1 fun z H2 => D.nx (σ.set i (some z)) H2) : tAug i te ti D σ H := h
theorem w_ip {f : Int → Int → Int} (h : Q (.int (f m n)) H) : ipI f (.int m) (.int n) H Q := ⟨m, n, rfl, rfl, h⟩
theorem w_par (h : tl σ H fun vs H1 => ∃ v w, vs = [v, w] ∧ D.nx ((σ.set i (some v)).set j (some w)) H1) : tPar i j tl D σ H := h
theorem w_par2 {R : V → V → Prop} (h : R v x) : ∃ a b, [v, x] = [a, b] ∧ R a b := ⟨v, x, rfl, h⟩
theorem w_nil (h : QA [] H) : tNil σ H QA := h
theorem w_cons (h : ta σ H fun x H1 => tl σ H1 fun xs H2 => QA (x :: xs) H2) : tCons ta tl σ H QA := h
theorem w_call {sp : Sp} {E : XK} (h : tl σ H fun vs H1 => sp vs H1 Q E) : tCall sp [] E tl σ H Q := by
  unfold tCall
  simp only [List.append_nil]
  exact h
theorem w_cb {r : List V → Hp → VK → Prop} (h : tl σ H fun vs H1 => r vs H1 Q) : tCB r tl σ H Q := h
theorem w_tup (h : tl σ H fun xs H1 => xs.length ≤ sizeLine ∧ ∀ p, H1 p = none → Q (.ref p) (upd H1 p (.tup xs))) : tTup tl σ H Q := h
theorem w_lst (h : tl σ H fun xs H1 => xs.length ≤ sizeLine ∧ ∀ p, H1 p = none → Q (.ref p) (upd H1 p (.lst xs))) : tLst tl σ H Q := h
theorem w_sl {r : V → Option Int → Option Int → Hp → VK → Prop} {to tu : TO} (h : te σ H fun x H1 => to σ H1 fun l H2 => tu σ H2 fun u H3 => r x l u H3 Q) : tSl r te to tu σ H Q := h
theorem w_np {R : Option Int → Hp → Prop} (h : R none H) : tNoPart σ H R := h
theorem w_part {R : Option Int → Hp → Prop} (h : te σ H fun x H1 => ∃ i, x = .int i ∧ R (some i) H1) : tPart te σ H R := h
theorem w_partI {R : Int → Prop} (h : R m) : ∃ i, V.int m = .int i ∧ R i := ⟨m, rfl, h⟩
theorem w_slL {lo hi : Option Int} (hs : SqL K H p xs) (h : ∀ q, H q = none → Q (.ref q) (upd H q (.lst (cutV xs lo hi)))) : rSlL K (.ref p) lo hi H Q := ⟨p, xs, rfl, hs, h⟩
theorem w_bm {T : String} {r : V → List V → Hp → VK → Prop} (h : ta σ H fun x H1 => tyV K T x H1 ∧ tl σ H1 fun xs H2 => r x xs H2 Q) : tBM K T r ta tl σ H Q := h
theorem w_bm0 {T : String} {r : V → List V → Hp → VK → Prop} (h : ta σ H fun x H1 => tyV K T x H1 ∧ r x [] H1 Q) : tBM0 K T r ta σ H Q := h
theorem w_tyl {R : Prop} (hs : SqL K H p xs) (h : R) : tyV K "list" (.ref p) H ∧ R := ⟨.inl ⟨rfl, xs, hs⟩, h⟩
theorem w_app (hp : H p = some (.lst xs)) (hl : xs.length < sizeLine) (h : Q .non (upd H p (.lst (xs ++ [v])))) : rAppend (.ref p) [v] H Q := ⟨p, xs, v, rfl, rfl, hp, hl, h⟩
theorem w_rev (hp : H p = some (.lst xs)) (h : Q .non (upd H p (.lst xs.reverse))) : rReverse (.ref p) [] H Q := ⟨p, xs, rfl, rfl, hp, h⟩
theorem w_len {R : List V → Prop} (hs : SqL K H p xs) (h : R xs) : ∃ p' ys, [V.ref p] = [.ref p'] ∧ (SqL K H p' ys ∨ SqT K H p' ys) ∧ R ys := ⟨p, xs, rfl, .inl hs, h⟩
theorem w_lenT {R : List V → Prop} (hs : SqT K H p xs) (h : R xs) : ∃ p' ys, [V.ref p] = [.ref p'] ∧ (SqL K H p' ys ∨ SqT K H p' ys) ∧ R ys := ⟨p, xs, rfl, .inr hs, h⟩
theorem w_isi {s : String} {b : Bool} (hk : kitB "int" s = some b) (h : Q (.bl b) H) : rIsi K [.int m, .ty s] H Q := ⟨_, _, _, _, b, rfl, .ty _, .base (.int _), kit_ty hk, h⟩
theorem w_isb {k : Bool} {s : String} {b : Bool} (hk : kitB "bool" s = some b) (h : Q (.bl b) H) : rIsi K [.bl k, .ty s] H Q := ⟨_, _, _, _, b, rfl, .ty _, .base (.bl _), kit_ty hk, h⟩
theorem w_isn {s : String} {b : Bool} (hk : kitB "NoneType" s = some b) (h : Q (.bl b) H) : rIsi K [.non, .ty s] H Q := ⟨_, _, _, _, b, rfl, .ty _, .base .non, kit_ty hk, h⟩
theorem w_isl {s : String} {b : Bool} (hp : H p = some (.lst xs)) (hk : kitB "list" s = some b) (h : Q (.bl b) H) : rIsi K [.ref p, .ty s] H Q := ⟨_, _, _, _, b, rfl, .ty _, .base (.lst hp), kit_ty hk, h⟩
theorem w_ist {s : String} {b : Bool} (hp : H p = some (.tup xs)) (hk : kitB "tuple" s = some b) (h : Q (.bl b) H) : rIsi K [.ref p, .ty s] H Q := ⟨_, _, _, _, b, rfl, .ty _, .base (.tup hp), kit_ty hk, h⟩
theorem w_2i {R : Int → Int → Prop} (h : R m n) : ∃ i j, [V.int m, V.int n] = [.int i, .int j] ∧ R i j := ⟨m, n, rfl, h⟩
theorem w_1i {R : Int → Prop} (h : R m) : ∃ i, [V.int m] = [.int i] ∧ R i := ⟨m, rfl, h⟩
theorem w_int1 {R : Int → Prop} {S : Prop} (h : R m) : (∃ i, [V.int m] = [.int i] ∧ R i) ∨ S := .inl ⟨m, rfl, h⟩
theorem w_intb {b : Bool} {R : Bool → Prop} {S : Prop} (h : R b) : S ∨ ∃ k, [V.bl b] = [.bl k] ∧ R k := .inr ⟨b, rfl, h⟩
theorem w_isN {R : Prop} (h : R) : V.non = .non ∧ R := ⟨rfl, h⟩
theorem w_fld {v : V} {R : V → Prop} (hp : H p = some (.ins C dx fs)) (hc : Cls K C) (hn : NoAttr K C f) (hl : fs.lookup f = some v) (h : R v) : ∃ a C' dx' fs' v', V.ref p = .ref a ∧ H a = some (.ins C' dx' fs') ∧ Cls K C' ∧ NoAttr K C' f ∧ fs'.lookup f = some v' ∧ R v' := ⟨p, C, dx, fs, v, rfl, hp, hc, hn, hl, h⟩
theorem w_fl (h : ta σ H fun x H1 => ∃ a C dx fs v, x = .ref a ∧ H1 a = some (.ins C dx fs) ∧ Cls K C ∧ NoAttr K C f ∧ fs.lookup f = some v ∧ Q v H1) : tFld K ta f σ H Q := h
theorem w_for {wi : TI} {tu : TS} (h : wi σ H fun J H1 => ∃ W : Nat → Nat → L2.St → Hp → Prop, (∃ m, W 0 m σ H1) ∧ ∀ i m σ H, W i m σ H →
  (J.stop i H ∧ D.nx σ H) ∨ (J.go i H ∧ ∃ N : L2.St → Hp → Prop, (∀ σ' H', N σ' H' → ∃ m', m' < m ∧ W (i + 1) m' σ' H') ∧ ∀ x H', J.yld i H x H' → g x σ H' fun σ2 H2 => tu { D with nx := N, ct := N, bk := D.nx } σ2 H2)) : tFor wi g tu D σ H := h
theorem w_iL {R : It → Hp → Prop} (h : te σ H fun x H1 => ∃ a, x = .ref a ∧ (∃ xs, SqL K H1 a xs) ∧ R (Itl K a) H1) : iList K te σ H R := h
theorem w_iLq {R : Addr → Prop} (hs : SqL K H p xs) (h : R p) : ∃ a, V.ref p = .ref a ∧ (∃ xs, SqL K H a xs) ∧ R a := ⟨p, rfl, ⟨xs, hs⟩, h⟩
theorem w_iTu {R : It → Hp → Prop} (h : te σ H fun x H1 => ∃ a, x = .ref a ∧ (∃ xs, SqT K H1 a xs) ∧ R (Itt K a) H1) : iTup K te σ H R := h
theorem w_iTq {R : Addr → Prop} (hs : SqT K H p xs) (h : R p) : ∃ a, V.ref p = .ref a ∧ (∃ xs, SqT K H a xs) ∧ R a := ⟨p, rfl, ⟨xs, hs⟩, h⟩
theorem w_r1 {R : It → Hp → Prop} (h : tl σ H fun vs H1 => ∃ j : Int, vs = [.int j] ∧ -(2 ^ 62) ≤ j ∧ j < 2 ^ 62 ∧ R (Itr 0 j.toNat) H1) : iRng1 tl σ H R := h
theorem w_r1q {R : Int → Prop} (h1 : -(2 ^ 62) ≤ m) (h2 : m < 2 ^ 62) (h : R m) : ∃ j : Int, [V.int m] = [.int j] ∧ -(2 ^ 62) ≤ j ∧ j < 2 ^ 62 ∧ R j := ⟨m, rfl, h1, h2, h⟩
theorem w_r2 {R : It → Hp → Prop} (h : tl σ H fun vs H1 => ∃ i j : Int, vs = [.int i, .int j] ∧ (-(2 ^ 62) ≤ i ∧ i < 2 ^ 62 ∧ -(2 ^ 62) ≤ j ∧ j < 2 ^ 62) ∧ R (Itr i (j - i).toNat) H1) : iRng2 tl σ H R := h
theorem w_r2q {R : Int → Int → Prop} (h1 : -(2 ^ 62) ≤ m) (h2 : m < 2 ^ 62) (h3 : -(2 ^ 62) ≤ n) (h4 : n < 2 ^ 62) (h : R m n) : ∃ i j : Int, [V.int m, V.int n] = [.int i, .int j] ∧ (-(2 ^ 62) ≤ i ∧ i < 2 ^ 62 ∧ -(2 ^ 62) ≤ j ∧ j < 2 ^ 62) ∧ R i j := ⟨m, n, rfl, ⟨h1, h2, h3, h4⟩, h⟩
theorem w_len1 {R : Prop} (hl : Nat.ble xs.length 1000 = true) (h : R) : xs.length ≤ sizeLine ∧ R := ⟨szle hl, h⟩
end
theorem same_read {K : PySem.W.Frag} {H H' : Hp} {a : Addr} {xs : List V} (e : Same H H') (h : SqT K H a xs) : SqT K H' a xs := by
  rcases h with (h | ⟨o, h⟩) | h
  · exact .inl (.inl (e _ _ h))
  · exact .inl (.inr ⟨o, e _ _ h⟩)
  · exact .inr h
theorem w_iT {A B : Prop} (h : A) : if true = true then A else B := by rw [if_pos rfl]; exact h
theorem w_iF {A B : Prop} (h : B) : if false = true then A else B := by rw [if_neg Bool.false_ne_true]; exact h
theorem w_iNT {A B : Prop} (h : B) : if (!true) = true then A else B := by rw [Bool.not_true, if_neg Bool.false_ne_true]; exact h
theorem w_iNF {A B : Prop} (h : A) : if (!false) = true then A else B := by rw [Bool.not_false, if_pos rfl]; exact h
theorem w_iNN {A B : Prop} {b : Bool} (h : if b = true then A else B) : if (!!b) = true then A else B := by rw [Bool.not_not]; exact h

/-! ### data -/
mutual
theorem dpSame {K : PySem.W.Frag} {H H' : Hp} (e : Same H H') : ∀ (d : PyData) (v : V), Dp K H v d → Dp K H' v d
  | .none, _, h => by cases h; exact .non
  | .bool _, _, h => by cases h; exact .bl _
  | .int _, _, h => by cases h; exact .int _
  | .str _, _, h => by cases h; exact .str _
  | .list ds, _, h => by
    cases h with
    | lst hs ha => exact .lst (e.seq hs) (dpSameAll e ds _ ha)
  | .tuple ds, _, h => by
    cases h with
    | tup hs ha => exact .tup (same_read e hs) (dpSameAll e ds _ ha)
  | .dict _, _, h => by cases h
theorem dpSameAll {K : PySem.W.Frag} {H H' : Hp} (e : Same H H') : ∀ (ds : List PyData) (xs : List V), DpAll K H xs ds → DpAll K H' xs ds
  | [], _, h => by cases h; exact .nil
  | d :: ds, _, h => by
    cases h with
    | cons h1 h2 => exact .cons (dpSame e d _ h1) (dpSameAll e ds _ h2)
end
section
variable {K : PySem.W.Frag} {H H' : Hp} {xs ys : List V} {ds es : List PyData} {v : V} {d : PyData} {a : Addr}
theorem _root_.L2.Dp.same (e : Same H H') (h : Dp K H v d) : Dp K H' v d := dpSame e d v h
theorem _root_.L2.DpAll.same (e : Same H H') (h : DpAll K H xs ds) : DpAll K H' xs ds := dpSameAll e ds xs h
theorem dpaLen : ∀ {xs : List V} {ds : List PyData}, DpAll K H xs ds → xs.length = ds.length
  | _, _, .nil => rfl
  | _, _, .cons _ t => by rw [List.length_cons, List.length_cons, dpaLen t]
theorem dpaGet : ∀ {xs : List V} {ds : List PyData} {i : Nat} {d : PyData}, DpAll K H xs ds → ds[i]? = some d → ∃ v, xs[i]? = some v ∧ Dp K H v d
  | _, _, _, _, .nil, e => by simp at e
  | _, _, 0, _, .cons h _, e => by simp at e; subst e; exact ⟨_, rfl, h⟩
  | _, _, i + 1, _, .cons _ t, e => by
    obtain ⟨v, h1, h2⟩ := dpaGet (i := i) t (by simpa using e)
    exact ⟨v, by simpa using h1, h2⟩
theorem dpaApp : ∀ {xs ys : List V} {ds es : List PyData}, DpAll K H xs ds → DpAll K H ys es → DpAll K H (xs ++ ys) (ds ++ es)
  | _, _, _, _, .nil, h => h
  | _, _, _, _, .cons h t, s => .cons h (dpaApp t s)
theorem dpInts : ∀ ns : List Int, DpAll K H (ns.map V.int) (ns.map PyData.int)
  | [] => .nil
  | n :: r => .cons (.int n) (dpInts r)
theorem dpAll_ints : ∀ {ns : List Int} {xs : List V}, DpAll K H xs (ns.map PyData.int) → xs = ns.map V.int
  | [], _, h => by cases h; rfl
  | n :: r, _, h => by
    cases h with
    | cons h t => cases h; rw [dpAll_ints t]; rfl
theorem dpInt {i : Int} (h : Dp K H v (.int i)) : v = .int i := by cases h; rfl
theorem dpTup (h : Dp K H v (.tuple ds)) : ∃ a xs, v = .ref a ∧ SqT K H a xs ∧ DpAll K H xs ds := by cases h with | tup h1 h2 => exact ⟨_, _, rfl, h1, h2⟩
theorem dpLst (h : Dp K H v (.list ds)) : ∃ a xs, v = .ref a ∧ SqL K H a xs ∧ DpAll K H xs ds := by cases h with | lst h1 h2 => exact ⟨_, _, rfl, h1, h2⟩
theorem dpLstA (h : Dp K H (.ref a) (.list ds)) : ∃ xs, SqL K H a xs ∧ DpAll K H xs ds := by cases h with | lst h1 h2 => exact ⟨_, h1, h2⟩
theorem dpTupA (h : Dp K H (.ref a) (.tuple ds)) : ∃ xs, SqT K H a xs ∧ DpAll K H xs ds := by cases h with | tup h1 h2 => exact ⟨_, h1, h2⟩
end
/-- data that == serves: no dicts, no deeper than n -/
def Good (n : Nat) (d : PyData) : Prop := d.canLay0 = true ∧ d.depth ≤ n
theorem goodInt {n : Nat} {i : Int} : Good n (.int i) := ⟨rfl, Nat.zero_le _⟩
theorem goodBool {n : Nat} {b : Bool} : Good n (.bool b) := ⟨rfl, Nat.zero_le _⟩
theorem goodNone {n : Nat} : Good n .none := ⟨rfl, Nat.zero_le _⟩
theorem goodAll {n : Nat} : ∀ {ds : List PyData}, (∀ d ∈ ds, Good n d) → PyData.canLayAll0 ds = true ∧ PyData.depthAll ds ≤ n
  | [], _ => ⟨rfl, Nat.zero_le _⟩
  | d :: ds, h => by
    obtain ⟨h1, h2⟩ := h d List.mem_cons_self
    obtain ⟨h3, h4⟩ := goodAll fun e he => h e (List.mem_cons_of_mem _ he)
    exact ⟨by simp [PyData.canLayAll0, h1, h3], by simp only [PyData.depthAll]; omega⟩
theorem goodLst {n : Nat} {ds : List PyData} (h : ∀ d ∈ ds, Good n d) : Good (n + 1) (.list ds) := ⟨(goodAll h).1, Nat.succ_le_succ (goodAll h).2⟩
theorem goodTup {n : Nat} {ds : List PyData} (h : ∀ d ∈ ds, Good n d) : Good (n + 1) (.tuple ds) := ⟨(goodAll h).1, Nat.succ_le_succ (goodAll h).2⟩
theorem goodMap {α : Type} {n : Nat} {f : α → PyData} {xs : List α} (h : ∀ x, Good n (f x)) : ∀ d ∈ xs.map f, Good n d := by
  intro d hd
  obtain ⟨x, _, rfl⟩ := List.mem_map.mp hd
  exact h x
theorem Good.mono {n m : Nat} {d : PyData} (h : Good n d) (e : n ≤ m) : Good m d := ⟨h.1, Nat.le_trans h.2 e⟩
theorem Good.shaped {n : Nat} {d : PyData} (h : Good n d) (e : n ≤ 64) : SeqAt.shaped d = true := by
  unfold SeqAt.shaped
  rw [h.1, decide_eq_true (Nat.le_trans h.2 e)]
  rfl
theorem Good.eqv {n : Nat} {d : PyData} (h : Good n d) : PyData.eqv d d = true := SeqAt.eqv_refl d h.1
section
variable {K : PySem.W.Frag} {H : Hp} {x y : V} {d : PyData} {Q : VK} {n : Nat}
/-- two things of the same data are equal -/
theorem w_eqD (h1 : Dp K H x d) (h2 : Dp K H y d) (g : Good n d) (hn : n ≤ 64) (h : Q (.bl true) H) : rEqD K x y H Q := ⟨d, d, h1, h2, g.shaped hn, g.shaped hn, by rw [g.eqv]; exact h⟩
theorem w_neD (h1 : Dp K H x d) (h2 : Dp K H y d) (g : Good n d) (hn : n ≤ 64) (h : Q (.bl false) H) : rNeD K x y H Q := ⟨d, d, h1, h2, g.shaped hn, g.shaped hn, by rw [g.eqv]; exact h⟩
end
/-! ### xs[i] op= e -/
def rGetL (K : PySem.W.Frag) : V → V → Hp → VK → Prop := fun x y H Q => ∃ (p : Addr) (xs : List V) (j : Nat) (v : V), x = .ref p ∧ y = .int j ∧ SqL K H p xs ∧ xs[j]? = some v ∧ Q v H
theorem get_list {X : Cx} : PGet X (rGetL X.K) := by
  intro pins s σ H o i ov iv Q I ro ri h
  obtain ⟨p, xs, j, v, rfl, rfl, hq, he, q⟩ := h
  cases ro
  obtain ⟨t, rfl⟩ := ri
  obtain ⟨its, r, pl, hz⟩ := I.list hq
  obtain ⟨u, eu, ru⟩ := r.get he
  have hj : j < xs.length := (List.getElem?_eq_some_iff.mp he).1
  have hn := line63
  exact wpAny_getItem_list pl.isList (Int.natCast_nonneg j) (by omega) (by simpa using eu) ⟨v, H, I, ru, q⟩
theorem ps_augL {X : Cx} {o i e : Expr} {to ti te : TE} {tip : TIp} {op : Operator} {tpos pos : Pos} (ho : PE X o to) (hi : PE X i ti) (he : PE X e te) (hp : PIp X op tip)
    (ha : ∀ ov iv new, augStore i ov iv new = (do holding [new, ov, iv] (setItem ov iv new); release [new, ov, iv] []; pure .next) := by intros; rfl) : PS X (.AugAssign (.Subscript o i tpos) op e pos) (tAugS to ti te (rGetL X.K) tip rSetL) :=
  ps_augS ho hi get_list he hp set_list ha
section
variable {σ : L2.St} {H : Hp} {Q : VK} {D : Ends} {K : PySem.W.Frag} {p : Addr} {xs : List V} {v : V} {j : Nat}
theorem w_augS {to ti te : TE} {tget : V → V → Hp → VK → Prop} {tip : TIp} {tset : TSet} (h : to σ H fun o H1 => ti σ H1 fun i H2 => tget o i H2 fun x H3 => te σ H3 fun y H4 => tip x y H4 fun z H5 => tset o i z H5 fun H6 => D.nx σ H6) : tAugS to ti te tget tip tset D σ H := h
theorem w_getL (hs : SqL K H p xs) (he : xs[j]? = some v) (h : Q v H) : rGetL K (.ref p) (.int (j : Int)) H Q := ⟨p, xs, j, v, rfl, rfl, hs, he, h⟩
theorem ixN_nat {n j : Nat} (h : j < n) : ixN n (j : Int) = some j := by
  unfold ixN
  rw [if_pos (Int.natCast_nonneg j), if_pos (by omega)]
  simp
end
/-! ### range from nought -/
theorem for_r0 {m : Int} {n : Nat} {g : TG} {tb : TS} {D : Ends} {σ : L2.St} {H : Hp} (hm : m = n) (Pv : Nat → L2.St → Hp → Prop) (h0 : Pv 0 σ H)
    (hs : ∀ i σ H, i < n → Pv i σ H → g (.int (i : Nat)) σ H fun σ2 H2 => tb { D with nx := Pv (i + 1), ct := Pv (i + 1), bk := D.nx } σ2 H2) (hd : ∀ σ H, Pv n σ H → D.nx σ H) :
    ∃ W : Nat → Nat → L2.St → Hp → Prop, (∃ m, W 0 m σ H) ∧ ∀ i k σ H, W i k σ H →
      ((Itr 0 m.toNat).stop i H ∧ D.nx σ H) ∨ ((Itr 0 m.toNat).go i H ∧ ∃ N : L2.St → Hp → Prop, (∀ σ' H', N σ' H' → ∃ m', m' < k ∧ W (i + 1) m' σ' H') ∧ ∀ x H', (Itr 0 m.toNat).yld i H x H' → g x σ H' fun σ2 H2 => tb { D with nx := N, ct := N, bk := D.nx } σ2 H2) := by
  subst hm
  rw [Int.toNat_natCast]
  exact for_range (lo := 0) Pv h0 (fun i σ H hi hp => by rw [Int.zero_add]; exact hs i σ H hi hp) hd
/-! ### bits of numbers from nought on -/
theorem shr_nat (m k : Nat) : (m : Int) / 2 ^ (Int.toNat (k : Int)) = ((m >>> k : Nat) : Int) := by
  rw [Int.toNat_natCast, Nat.shiftRight_eq_div_pow]
  simp
theorem shl_nat (m k : Nat) : (m : Int) * 2 ^ (Int.toNat (k : Int)) = ((m <<< k : Nat) : Int) := by
  rw [Int.toNat_natCast, Nat.shiftLeft_eq]
  simp
theorem shl_one (k : Nat) : (1 : Int) * 2 ^ (Int.toNat (k : Int)) = ((2 ^ k : Nat) : Int) := by
  rw [Int.toNat_natCast, Int.one_mul]
  simp
theorem xor_nat (m n : Nat) : Builtin.bitXor (m : Int) (n : Int) = ((m ^^^ n : Nat) : Int) := by
  have h := Bits.bitXor_pp (x := (m : Int)) (y := (n : Int)) (Int.natCast_nonneg m) (Int.natCast_nonneg n)
  rw [Int.toNat_natCast, Int.toNat_natCast] at h
  exact h
theorem or_nat (m n : Nat) : Builtin.bitOr (m : Int) (n : Int) = ((m ||| n : Nat) : Int) := by
  have h := Bits.bitOr_pp (x := (m : Int)) (y := (n : Int)) (Int.natCast_nonneg m) (Int.natCast_nonneg n)
  rw [Int.toNat_natCast, Int.toNat_natCast] at h
  exact h
theorem and_one (m : Int) (h : 0 ≤ m) : Builtin.bitAnd m 1 = m % 2 := by
  have e := Bits.bitAnd_mask (x := m) 1 h
  simpa using e
theorem bit_nat (m k : Nat) : Builtin.bitAnd ((m : Int) / 2 ^ (Int.toNat (k : Int))) 1 = (((m.testBit k).toNat : Nat) : Int) := by
  rw [shr_nat, and_one _ (Int.natCast_nonneg _), Nat.testBit_eq_decide_div_mod_eq, Nat.shiftRight_eq_div_pow]
  have h : m / 2 ^ k % 2 < 2 := Nat.mod_lt _ (by decide)
  generalize m / 2 ^ k = z at h
  have e : z % 2 = 0 ∨ z % 2 = 1 := by omega
  rcases e with e | e
  · rw [e]; simp; omega
  · rw [e]; simp; omega
theorem bit_dec (m k : Nat) : decide (Builtin.bitAnd ((m : Int) / 2 ^ (Int.toNat (k : Int))) 1 = 1) = m.testBit k := by
  rw [bit_nat]
  cases m.testBit k <;> simp
/-! ### tables by number -/
theorem map_set {α : Type} {f : Nat → α} {m j : Nat} {y : α} : ((List.range m).map f).set j y = (List.range m).map fun r => if r = j then y else f r := by
  apply List.ext_getElem
  · simp
  · intro i h1 h2
    simp only [List.length_set, List.length_map, List.length_range] at h1
    simp only [List.getElem_set, List.getElem_map, List.getElem_range]
    by_cases e : j = i
    · subst e; simp
    · rw [if_neg e, if_neg (Ne.symm e)]
theorem map_at {α : Type} {f : Nat → α} {m j : Nat} (h : j < m) : ((List.range m).map f)[j]? = some (f j) := by
  rw [List.getElem?_map, List.getElem?_range h]
  rfl
theorem map_len {α : Type} {f : Nat → α} {m : Nat} : ((List.range m).map f).length = m := by simp
theorem map_setI {f : Nat → Int} {m j : Nat} {y : Int} : ((List.range m).map fun r => V.int (f r)).set j (V.int y) = (List.range m).map fun r => V.int (if r = j then y else f r) := by
  rw [map_set]
  congr 1
  funext r
  split <;> rfl
/-! ### comprehensions, slices -/
section
variable {σ σ' : L2.St} {H : Hp} {Q : VK} {QT : Bool → Hp → Prop}
theorem w_lc {wi : TI} {g : TG} {tt : TT} {te : TE} {vs : List Nat} (h : wi σ H fun J H1 => ∀ D, New H1 D → ∃ W : Nat → Nat → Hp → Prop, (∃ m, W 0 m (upd H1 D (.lst []))) ∧ ∀ i m H, W i m H →
  (J.stop i H ∧ Q (.ref D) H) ∨ (J.go i H ∧ ∃ Nx : Hp → Prop, (∀ H', Nx H' → ∃ m', m' < m ∧ W (i + 1) m' H') ∧ ∀ x H', J.yld i H x H' → g x (wipe σ vs) H' fun σ2 H2 => wipe σ2 vs = wipe σ vs ∧ tt σ2 H2 fun b H3 =>
    if b = true then te σ2 H3 fun y H4 => ∃ acc, H4 D = some (.lst acc) ∧ acc.length < sizeLine ∧ Nx (upd H4 D (.lst (acc ++ [y]))) else Nx H3)) : tLc wi g tt te vs σ H Q := h
theorem w_wipe {vs : List Nat} {R : Prop} (e : wipe σ vs = wipe σ' vs) (h : R) : wipe σ vs = wipe σ' vs ∧ R := ⟨e, h⟩
theorem w_yes (h : QT true H) : tYes σ H QT := h
theorem cutV_nat (xs : List V) (a b : Nat) : cutV xs (some (a : Int)) (some (b : Int)) = (xs.drop a).take (b - a) := by
  unfold cutV
  rw [HT.sIx_nat, HT.sIx_nat]
  apply List.ext_getElem?
  intro i
  simp only [List.getElem?_take, List.getElem?_drop]
  by_cases ha : a ≤ xs.length
  · rw [Nat.min_eq_left ha]
    by_cases h : i < b - a
    · by_cases h2 : i < min b xs.length - a
      · rw [if_pos h, if_pos h2]
      · rw [if_pos h, if_neg h2, List.getElem?_eq_none (by omega)]
    · rw [if_neg h, if_neg (by omega)]
  · rw [if_neg (by omega)]
    split
    · rw [List.getElem?_eq_none (by omega)]
    · rfl
theorem cutV_from (xs : List V) (a : Nat) : cutV xs (some (a : Int)) none = xs.drop a := by
  unfold cutV
  rw [HT.sIx_nat, HT.sIx_none]
  by_cases h : a ≤ xs.length
  · rw [Nat.min_eq_left h]
    exact List.take_of_length_le (by simp)
  · rw [Nat.min_eq_right (by omega), List.drop_of_length_le (Nat.le_refl _), List.drop_of_length_le (by omega), List.take_nil]
theorem cutV_to (xs : List V) (b : Nat) : cutV xs none (some (b : Int)) = xs.take b := by
  unfold cutV
  rw [HT.sIx_nat, HT.sIx_none, List.drop_zero, Nat.sub_zero]
  by_cases h : b ≤ xs.length
  · rw [Nat.min_eq_left h]
  · rw [Nat.min_eq_right (by omega), List.take_of_length_le (Nat.le_refl _), List.take_of_length_le (by omega)]
end
theorem w_list {K : PySem.W.Frag} {H : Hp} {p : Addr} {xs : List V} {R : List V → Prop} (hs : SqL K H p xs) (h : R xs) : ∃ p' ys, [V.ref p] = [.ref p'] ∧ (SqL K H p' ys ∨ SqT K H p' ys) ∧ R ys := ⟨p, xs, rfl, .inl hs, h⟩
/-! ### a heap without one place -/
def wo (H : Hp) (D : Addr) : Hp := fun b => if b = D then none else H b
section
variable {K : PySem.W.Frag} {H H' H2 : Hp} {D p : Addr} {o : HO} {xs : List V} {ds : List PyData} {v : V} {d : PyData}
theorem wo_same : Same (wo H D) H := fun b o h => by
  unfold wo at h
  split at h
  · cases h
  · exact h
theorem wo_new : New (wo H D) D := if_pos rfl
theorem wo_get (h : H p = some o) (n : p ≠ D) : wo H D p = some o := (if_neg n).trans h
theorem wo_eq : wo (upd H D o) D = wo H D := by
  funext b
  unfold wo
  split
  · rfl
  · rw [upd_ne (by assumption)]
theorem wo_mono (e : Same H H') : Same (wo H D) (wo H' D) := fun b o h => by
  unfold wo at h ⊢
  split at h
  · cases h
  · rw [if_neg (by assumption)]; exact e b o h
theorem same_wo (e : Same H H') (n : New H D) : Same H (wo H' D) := fun b o h => wo_get (e b o h) (ne_new h n)
theorem dpaPush (h : DpAll K (wo H D) xs ds) (e : Same H H2) (hv : Dp K (wo H2 D) v d) : DpAll K (wo (upd H2 D o) D) (xs ++ [v]) (ds ++ [d]) := by
  rw [wo_eq]
  exact dpaApp (h.same (wo_mono e)) (.cons hv .nil)
theorem dpaPushI (h : DpAll K (wo H D) xs ds) {i : Int} : DpAll K (wo (upd H D o) D) (xs ++ [.int i]) (ds ++ [.int i]) := dpaPush h (Same.refl _) (.int i)
end
/-! ### while -/
theorem w_wt {W : Nat → L2.St → Hp → Prop} {tb : TS} {D : Ends} {σ : L2.St} {H : Hp} {m : Nat} (h : tb { D with nx := fun σ' H' => ∃ m', m' < m ∧ W m' σ' H', ct := fun σ' H' => ∃ m', m' < m ∧ W m' σ' H', bk := D.nx } σ H) :
    ∃ N : L2.St → Hp → Prop, (∀ σ' H', N σ' H' → ∃ m', m' < m ∧ W m' σ' H') ∧ tb { D with nx := N, ct := N, bk := D.nx } σ H := ⟨_, fun _ _ h => h, h⟩
theorem and_nat (m n : Nat) : Builtin.bitAnd (m : Int) (n : Int) = ((m &&& n : Nat) : Int) := rfl
/-! ### two ways to read -/
theorem _root_.L2.PE.or {X : Cx} {e : Expr} {t t' : TE} (h : PE X e t) (h' : PE X e t') : PE X e (fun σ H Q => t σ H Q ∨ t' σ H Q) := ⟨fun pins s σ H Q I q => by
  rcases q with q | q
  · exact h.run pins s σ H Q I q
  · exact h'.run pins s σ H Q I q⟩
/-- the same, for an item of a comprehension -/
def tOrE (t t' : TE) : TE := fun σ H Q => t σ H Q ∨ t' σ H Q
theorem _root_.L2.PE.orD {X : Cx} {e : Expr} {t t' : TE} (h : PE X e t) (h' : PE X e t') : PE X e (tOrE t t') := PE.or h h'
theorem w_orE {t t' : TE} {σ : L2.St} {H : Hp} {Q : VK} (h : t σ H Q ∨ t' σ H Q) : tOrE t t' σ H Q := h
/-! ### classes by name -/
structure HasMk (P : Program) (w : World) (K : PySem.W.Frag) (mg : Str → Option Value) (base : Heap) (CX : CXT) (k : Nat) (x : Str) (C : Addr) (ps : List Str) (sp : Sp) : Prop where
  ex : ∃ f fd, FnOk P w K mg base CX k f fd ps sp ∧ Mk K C f ∧ mg x = some (.ref C) ∧ Binds K fd ps []
structure HasMeth (P : Program) (w : World) (K : PySem.W.Frag) (mg : Str → Option Value) (base : Heap) (CX : CXT) (k : Nat) (C : Addr) (m : Str) (ps : List Str) (sp : Sp) : Prop where
  ex : ∃ f fd, FnOk P w K mg base CX k f fd ps sp ∧ Cls K C ∧ Meth K C m f ∧ Binds K fd ps []
/-- a method's body, proved once for whatever class holds it -/
structure HasFn (P : Program) (w : World) (K : PySem.W.Frag) (mg : Str → Option Value) (base : Heap) (CX : CXT) (k : Nat) (f : Addr) (ps : List Str) (sp : Sp) : Prop where
  ex : ∃ fd, FnOk P w K mg base CX k f fd ps sp ∧ Binds K fd ps []
section
variable {P : Program} {w : World} {K : PySem.W.Frag} {mg : Str → Option Value} {base : Heap} {x qual : Str} {ps N : List Str} {sp : Sp} {k : Nat}
theorem HasFn.mk' {st : Stmt} {f : Addr} {fd : FuncData} (F : Fun K x qual st f fd) (b : Binds K fd ps []) (S : FnScope N ps (defScope st)) (len : ∀ vs H Q E, sp vs H Q E → vs.length = ps.length)
    (hbody : ∀ (cdv : Value) (A : Around) (outer : List Env) (s : Shared) (H : Hp) (vs : List V) (Q : VK) (E : XK), Room k (A.deeper (envOfC qual (defScope st) s.heap.objs.size f cdv)) → sp vs H Q E →
      ∃ t, PSs (cxOf CX0 P w K mg base N qual (defScope st) f cdv A outer s H E).nox (defBody st) t ∧ t { nx := fun _ H' => Q .non H', rt := Q } (start N vs) H) : HasFn P w K mg base CX0 (k + 1) f ps sp :=
  ⟨fd, F.ok S len hbody, b⟩
theorem HasFn.mkOf {CX : CXT} {f C : Addr} (h : HasFn P w K mg base CX k f ps sp) (M : Mk K C f) (g : mg x = some (.ref C)) : HasMk P w K mg base CX k x C ps sp := by
  obtain ⟨fd, F, b⟩ := h.ex
  exact ⟨f, fd, F, M, g, b⟩
theorem HasFn.meth {CX : CXT} {f C : Addr} {m : Str} (h : HasFn P w K mg base CX k f ps sp) (c : Cls K C) (M : Meth K C m f) : HasMeth P w K mg base CX k C m ps sp := by
  obtain ⟨fd, F, b⟩ := h.ex
  exact ⟨f, fd, F, c, M, b⟩
end
section
variable {X : Cx} {k : Nat} {ps : List Str} {sp : Sp} {x m : Str} {p pos apos : Pos} {e o : Expr} {es : List Expr} {t : TA} {ta : TE} {C : Addr}
theorem pe_mk (h : HasMk X.prog X.w X.K X.mg X.base CX0 k x C ps sp) (hr : Room (k + 1) X.A) (hg : Gl X x) (ha : PA X (e :: es) t) (hdb : (x == ("__debug__" : Str)) = false := by decide) (he : starEach (e :: es) X.env = (false, eval e X.env) :: starEach es X.env := by rfl) (hpl : (backTo pos (starEach es X.env)).any (·.1) = false := by rfl) :
    PE X (.Call (.Name x p) (e :: es) [] pos) (tMake C sp [] E0 t) := by
  obtain ⟨f, fd, F, M, g, b⟩ := h.ex
  exact pe_make M F hr hg g b .nil pass0 ha hdb he hpl
theorem pe_mt {pl : Sem Bool} (h : HasMeth X.prog X.w X.K X.mg X.base CX0 k C m ps sp) (he : PE X o ta) (hr : Room k X.A) (ha : PA X (e :: es) t)
    (hst : starEach (e :: es) X.env = (false, eval e X.env) :: starEach es X.env := by rfl) (hpl : (backTo pos (starEach es X.env)).any (·.1) = false := by rfl)
    (ht : eval (.Call (.Attribute o m apos) (e :: es) [] pos) X.env = (do
      let v ← eval o X.env
      standAt apos.atName
      let (f, first) ← holding [v] (getMethod v m pl)
      callWith pos f first (backTo pos (starEach (e :: es) X.env)) (backToKw pos (keywordEach [] X.env))) := by rfl) :
    PE X (.Call (.Attribute o m apos) (e :: es) [] pos) (tMeth C m sp [] E0 ta t) := by
  obtain ⟨f, fd, F, c, M, b⟩ := h.ex
  exact pe_meth he c M F hr b .nil pass0 ha hst hpl ht
theorem pe_mt0 {pl : Sem Bool} (h : HasMeth X.prog X.w X.K X.mg X.base CX0 k C m ps sp) (he : PE X o ta) (hr : Room k X.A)
    (ht : eval (.Call (.Attribute o m apos) [] [] pos) X.env = (do
      let v ← eval o X.env
      standAt apos.atName
      let (f, first) ← holding [v] (getMethod v m pl)
      callWith pos f first (backTo pos (starEach [] X.env)) (backToKw pos (keywordEach [] X.env))) := by rfl) :
    PE X (.Call (.Attribute o m apos) [] [] pos) (tMeth C m sp [] E0 ta tNil) := by
  obtain ⟨f, fd, F, c, M, b⟩ := h.ex
  exact pe_meth0 he c M F hr b .nil pass0 ht
end
section
variable {σ : L2.St} {H : Hp} {Q : VK} {D : Ends} {K : PySem.W.Frag} {ta tv : TE} {tl : TA} {sp : Sp} {E : XK} {C p dx : Addr} {fs : List (Str × V)} {f m : Str} {v : V}
theorem w_make (h : tl σ H fun vs H1 => ∀ x dx, New H1 x → New H1 dx → dx ≠ x → sp (.ref x :: vs) (upd (upd H1 dx (.own x)) x (.ins C dx [])) (fun v H2 => v = .non ∧ Q (.ref x) H2) E) : tMake C sp [] E tl σ H Q := by
  unfold tMake
  simp only [List.append_nil]
  exact h
theorem w_meth (h : ta σ H fun x H1 => ∃ a dx fs, x = .ref a ∧ H1 a = some (.ins C dx fs) ∧ fs.lookup m = none ∧ tl σ H1 fun vs H2 => sp (x :: vs) H2 Q E) : tMeth C m sp [] E ta tl σ H Q := by
  unfold tMeth
  simp only [List.append_nil]
  exact h
theorem w_methq {R : Prop} (hp : H p = some (.ins C dx fs)) (hl : fs.lookup m = none) (h : R) : ∃ a dx fs, V.ref p = .ref a ∧ H a = some (.ins C dx fs) ∧ fs.lookup m = none ∧ R := ⟨p, dx, fs, rfl, hp, hl, h⟩
theorem w_sf (h : tv σ H fun y H1 => ta σ H1 fun x H2 => ∃ a C dx fs, x = .ref a ∧ H2 a = some (.ins C dx fs) ∧ Cls K C ∧ NoAttr K C f ∧ fs.length < 1000 ∧ D.nx σ (upd H2 a (.ins C dx (putF f y fs)))) : sFld K ta tv f D σ H := h
theorem w_sfq {R : Addr → Addr → Addr → List (Str × V) → Prop} (hp : H p = some (.ins C dx fs)) (hc : Cls K C) (hn : NoAttr K C f) (hl : fs.length < 1000) (h : R p C dx fs) : ∃ a C' dx' fs', V.ref p = .ref a ∧ H a = some (.ins C' dx' fs') ∧ Cls K C' ∧ NoAttr K C' f ∧ fs'.length < 1000 ∧ R a C' dx' fs' := ⟨p, C, dx, fs, rfl, hp, hc, hn, hl, h⟩
end
/-! ### isinstance of an object -/
structure IsoK (K : PySem.W.Frag) (C : Addr) : Prop where
  cl : Cls K C
  oc : PySem.W.findIn K (.ref C) "__class__" = some (some (.builtin "object.__class__"))
  og : PySem.W.specialIn K (.builtin "object.__class__") "__get__" = some (some (.builtin "getset_descriptor.__get__"))
  ot : PySem.W.takesIn K (.builtin "object.__class__") = some true
  om : PySem.W.mroIn K C (.type "object") = some true
theorem w_iso {K : PySem.W.Frag} {H : Hp} {Q : VK} {p C D dx : Addr} {fs : List (Str × V)} {b : Bool} (hp : H p = some (.ins C dx fs)) (I : IsoK K C) (hk : PySem.W.kitOne K (.ref C) (.ref D) = some b) (h : Q (.bl b) H) : rIsi K [.ref p, .ref D] H Q :=
  ⟨_, _, _, _, b, rfl, .own D, .base (.ins hp I.cl I.oc I.og I.ot I.om), hk, h⟩
theorem w_isoN {K : PySem.W.Frag} {H : Hp} {Q : VK} {D : Addr} {b : Bool} (hk : PySem.W.kitOne K (.type "NoneType") (.ref D) = some b) (h : Q (.bl b) H) : rIsi K [.non, .ref D] H Q :=
  ⟨_, _, _, _, b, rfl, .own D, .base .non, hk, h⟩
theorem kit_own {K : PySem.W.Frag} {C D : Addr} {b : Bool} (h1 : PySem.W.isClsIn K D = true) (h2 : PySem.W.typeIn K (.ref D) = some (.type "type")) (h3 : PySem.W.subIn K (.ref C) (.ref D) = some b) (h4 : PySem.W.subIn K (.ref C) (.ref C) = some true) : PySem.W.kitOne K (.ref C) (.ref D) = some b := by
  unfold PySem.W.kitOne
  by_cases e : C = D
  · subst e
    rw [h4] at h3
    cases h3
    rw [if_pos (by simp)]
  · have hn : ¬ ((Value.ref C == Value.ref D) = true) := by
      intro z
      rw [beq_iff_eq] at z
      cases z
      exact e rfl
    rw [if_neg hn]
    unfold PySem.W.kitCls
    have h5 : (PySem.W.clsIn K D).isSome = true := h1
    show (if ((PySem.W.clsIn K D).isSome && PySem.W.typeIn K (.ref D) == some (.type "type")) = true then PySem.W.subIn K (.ref C) (.ref D) else none) = some b
    rw [h5, h2, if_pos (by simp)]
    exact h3
/-! ### range by steps -/
theorem w_r3 {σ : L2.St} {H : Hp} {ta : TA} {R : It → Hp → Prop} (h : ta σ H fun vs H1 => ∃ (i j c : Int) (n : Nat), vs = [.int i, .int j, .int c] ∧ RgC i j c n ∧ R (Itc i c n) H1) : iRng3 ta σ H R := h
theorem w_r3q {i j c : Int} {n : Nat} {R : Int → Int → Nat → Prop} (hc : RgC i j c n) (h : R i c n) : ∃ (i' j' c' : Int) (n' : Nat), [V.int i, V.int j, V.int c] = [.int i', .int j', .int c'] ∧ RgC i' j' c' n' ∧ R i' c' n' := ⟨i, j, c, n, rfl, hc, h⟩
/-! ### ways joined behind a statement -/
def tCutX (t u : TS) : TS := fun D σ H => ∃ M : L2.St → Hp → Prop, t { D with nx := M } σ H ∧ ∀ σ' H', M σ' H' → u D σ' H'
theorem pss_cutX {X : Cx} {st : Stmt} {more : List Stmt} {t u : TS} (h1 : PS X st t) (h2 : PSs X more u) : PSs X (st :: more) (tCutX t u) := ⟨fun pins s σ H D I h => by
  obtain ⟨M, hm, hu⟩ := h
  refine wpAny_execs_cons (thn (h1.run pins s σ H { D with nx := M } I hm) fun f s1 q => ?_)
  cases f with
  | next => obtain ⟨σ1, H1, I1, q1⟩ := q; exact h2.run pins s1 σ1 H1 D I1 (hu σ1 H1 q1)
  | ret v => exact q
  | brk => exact q
  | cont => exact q⟩
theorem w_cut {t u : TS} {D : Ends} {σ : L2.St} {H : Hp} (M : L2.St → Hp → Prop) (h : t { D with nx := M } σ H) (k : ∀ σ' H', M σ' H' → u D σ' H') : tCutX t u D σ H := ⟨M, h, k⟩
/-! ### dicts with number keys; heaps that grow -/
theorem _root_.L2.Same.add {G H : Hp} {q : Addr} {o : HO} (e : Same G H) (h : H q = some o) : Same (upd G q o) H := fun b u hb => by
  by_cases e2 : b = q
  · subst e2
    rw [upd_same] at hb
    rw [h]
    exact hb
  · rw [upd_ne e2] at hb
    exact e b u hb
theorem New.upd {G : Hp} {p q : Addr} {o : HO} (n : New G p) (h : p ≠ q) : New (upd G q o) p := (upd_ne h).trans n
theorem putK_len {kvs : List (Key × V)} {k : Key} {v : V} : (putK kvs k v).length ≤ kvs.length + 1 := by
  unfold putK
  split <;> simp
theorem w_put {σ : L2.St} {H : Hp} {D : Ends} {td ty tv : TE} (h : tv σ H fun v H1 => td σ H1 fun x H2 => ty σ H2 fun y H3 => ∃ a H4, x = .ref a ∧ DPut H3 a y v H4 ∧ D.nx σ H4) : sDPut td ty tv D σ H := h
theorem w_putI {H : Hp} {a : Addr} {kvs : List (Key × V)} {i : Int} {v : V} {R : Hp → Prop} (e : H a = some (.dK kvs)) (hl : kvs.length < sizeLine) (h : R (upd H a (.dK (putK kvs (.inl i) v)))) : ∃ a' H4, V.ref a = .ref a' ∧ DPut H a' (.int i) v H4 ∧ R H4 := ⟨a, _, rfl, DPut.k (k := .inl i) e hl, h⟩
theorem w_getI {H : Hp} {a : Addr} {kvs : List (Key × V)} {i : Int} {v : V} {R : V → Prop} (e : H a = some (.dK kvs)) (hv : valV kvs (.inl i) = some v) (h : R v) : ∃ a' v', V.ref a = .ref a' ∧ DGet H a' (.int i) (some v') ∧ R v' := ⟨a, v, rfl, by rw [← hv]; exact DGet.k (k := .inl i) e, h⟩
theorem w_inI {H : Hp} {a : Addr} {kvs : List (Key × V)} {i : Int} {R : Option V → Prop} (e : H a = some (.dK kvs)) (h : R (valV kvs (.inl i))) : ∃ a' o, V.ref a = .ref a' ∧ DGet H a' (.int i) o ∧ R o := ⟨a, _, rfl, DGet.k (k := .inl i) e, h⟩
theorem w_din {σ : L2.St} {H : Hp} {Q : VK} {td ty : TE} (h : ty σ H fun y H1 => td σ H1 fun x H2 => ∃ a o, x = .ref a ∧ DGet H2 a y o ∧ Q (.bl o.isSome) H2) : tDIn ty td σ H Q := h
theorem w_dni {σ : L2.St} {H : Hp} {Q : VK} {td ty : TE} (h : ty σ H fun y H1 => td σ H1 fun x H2 => ∃ a o, x = .ref a ∧ DGet H2 a y o ∧ Q (.bl (!o.isSome)) H2) : tDNotIn ty td σ H Q := h
theorem w_dg {σ : L2.St} {H : Hp} {Q : VK} {td ty : TE} (h : td σ H fun x H1 => ty σ H1 fun y H2 => ∃ a v, x = .ref a ∧ DGet H2 a y (some v) ∧ Q v H2) : tDGet td ty σ H Q := h
theorem w_dn {σ : L2.St} {H : Hp} {Q : VK} (h : ∀ p, New H p → Q (.ref p) (upd H p (.dK []))) : tDNewK σ H Q := h
/-- a dict with number keys: what it holds -/
def Holds (kvs : List (Key × V)) (S : List Nat) (g : Nat → V) : Prop := kvs.length ≤ S.length ∧ ∀ d : Nat, valV kvs (.inl (d : Int)) = if d ∈ S then some (g d) else none
theorem Holds.nil {g : Nat → V} : Holds [] [] g := ⟨Nat.le_refl _, fun d => by simp [valV]⟩
theorem Holds.put {kvs : List (Key × V)} {S : List Nat} {g : Nat → V} (h : Holds kvs S g) (x : Nat) : Holds (putK kvs (.inl (x : Int)) (g x)) (S ++ [x]) g := by
  refine ⟨by have := putK_len (kvs := kvs) (k := .inl (x : Int)) (v := g x); have := h.1; simp; omega, fun d => ?_⟩
  rw [valV_put, h.2]
  by_cases e : d = x
  · subst e; simp
  · have : ¬ ((.inl (d : Int) : Key) = .inl (x : Int)) := fun z => e (by have := Sum.inl.inj z; omega)
    rw [if_neg this]
    simp [e]
theorem lc_r0 {m : Int} {n : Nat} {g : TG} {tt : TT} {te : TE} {vs : List Nat} {σ : L2.St} {H1 : Hp} {D : Addr} {Qd : Hp → Prop} (hm : m = n) (Pv : Nat → Hp → Prop) (h0 : Pv 0 (upd H1 D (.lst [])))
    (hs : ∀ i H, i < n → Pv i H → g (.int (i : Nat)) (wipe σ vs) H fun σ2 H2 => wipe σ2 vs = wipe σ vs ∧ tt σ2 H2 fun b H3 =>
      if b = true then te σ2 H3 fun y H4 => ∃ acc, H4 D = some (.lst acc) ∧ acc.length < sizeLine ∧ Pv (i + 1) (upd H4 D (.lst (acc ++ [y]))) else Pv (i + 1) H3) (hd : ∀ H, Pv n H → Qd H) :
    ∃ W : Nat → Nat → Hp → Prop, (∃ m, W 0 m (upd H1 D (.lst []))) ∧ ∀ i k H, W i k H →
      ((Itr 0 m.toNat).stop i H ∧ Qd H) ∨ ((Itr 0 m.toNat).go i H ∧ ∃ Nx : Hp → Prop, (∀ H', Nx H' → ∃ m', m' < k ∧ W (i + 1) m' H') ∧ ∀ x H', (Itr 0 m.toNat).yld i H x H' → g x (wipe σ vs) H' fun σ2 H2 => wipe σ2 vs = wipe σ vs ∧ tt σ2 H2 fun b H3 =>
        if b = true then te σ2 H3 fun y H4 => ∃ acc, H4 D = some (.lst acc) ∧ acc.length < sizeLine ∧ Nx (upd H4 D (.lst (acc ++ [y]))) else Nx H3) := by
  subst hm
  rw [Int.toNat_natCast]
  exact lc_range (lo := 0) Pv h0 (fun i H hi hp => by rw [Int.zero_add]; exact hs i H hi hp) hd
theorem w_acc {H : Hp} {D : Addr} {acc : List V} {R : List V → Prop} (h1 : H D = some (.lst acc)) (h2 : acc.length < sizeLine) (h : R acc) : ∃ acc', H D = some (.lst acc') ∧ acc'.length < sizeLine ∧ R acc' := ⟨acc, h1, h2, h⟩
/-! ### enumerate -/
theorem for_enumX {K : PySem.W.Frag} {a : Addr} {xs : List V} {g : TG} {tb : TS} {D : Ends} {σ : L2.St} {H : Hp} (Pv : Nat → L2.St → Hp → Prop) (h0 : Pv 0 σ H) (hl : ∀ i σ H, i ≤ xs.length → Pv i σ H → SqL K H a xs)
    (hs : ∀ i x σ H p, xs[i]? = some x → Pv i σ H → New H p → g (.ref p) σ (upd H p (.tup [.int (i : Nat), x])) fun σ2 H2 => tb { D with nx := Pv (i + 1), ct := Pv (i + 1), bk := D.nx } σ2 H2) (hd : ∀ σ H, Pv xs.length σ H → D.nx σ H) :
    ∃ W : Nat → Nat → L2.St → Hp → Prop, (∃ m, W 0 m σ H) ∧ ∀ i m σ H, W i m σ H →
      ((Ite K a).stop i H ∧ D.nx σ H) ∨ ((Ite K a).go i H ∧ ∃ N : L2.St → Hp → Prop, (∀ σ' H', N σ' H' → ∃ m', m' < m ∧ W (i + 1) m' σ' H') ∧ ∀ x H', (Ite K a).yld i H x H' → g x σ H' fun σ2 H2 => tb { D with nx := N, ct := N, bk := D.nx } σ2 H2) := by
  refine ⟨fun i m σ H => i + m = xs.length ∧ Pv i σ H, ⟨xs.length, by omega, h0⟩, fun i m σ H hW => ?_⟩
  obtain ⟨e, p⟩ := hW
  have q := hl i σ H (by omega) p
  cases m with
  | zero =>
    have e2 : i = xs.length := by omega
    subst e2
    exact .inl ⟨⟨xs, q, Nat.le_refl _⟩, hd σ H p⟩
  | succ m =>
    have hi : i < xs.length := by omega
    refine .inr ⟨⟨xs, xs[i], q, List.getElem?_eq_getElem hi⟩, Pv (i + 1), fun σ' H' h => ⟨m, by omega, by omega, h⟩, fun x H' hy => ?_⟩
    obtain ⟨T, y, rfl, nT, rfl, hx⟩ := hy
    exact hs i y σ H T (hx xs q) p nT
theorem w_enum {σ : L2.St} {H : Hp} {K : PySem.W.Frag} {ta : TA} {R : It → Hp → Prop} (h : ta σ H fun vs H1 => ∃ a xs, vs = [.ref a] ∧ SqL K H1 a xs ∧ R (Ite K a) H1) : iEnum K ta σ H R := h
theorem w_enq {H : Hp} {K : PySem.W.Frag} {p : Addr} {xs : List V} {R : Addr → Prop} (hs : SqL K H p xs) (h : R p) : ∃ a xs, [V.ref p] = [.ref a] ∧ SqL K H a xs ∧ R a := ⟨p, xs, rfl, hs, h⟩

/-! ### rules that name the written part -/
section
variable {X : Cx}
theorem ix_listK (K : PySem.W.Frag) (hK : X.K = K := by rfl) : IxR X (rIxL K) := by subst hK; exact ix_list
theorem ix_tupK (K : PySem.W.Frag) (hK : X.K = K := by rfl) : IxR X (rIxT K) := by subst hK; exact ix_tup
theorem ix_seqK (K : PySem.W.Frag) (hK : X.K = K := by rfl) : IxR X (rIx K) := by subst hK; exact ix_seq
theorem sl_listK (K : PySem.W.Frag) (hK : X.K = K := by rfl) : SlR X (rSlL K) := by subst hK; exact sl_list
def rLenK (K : PySem.W.Frag) : List V → Hp → VK → Prop := fun xs H Q => ∃ p ys, xs = [.ref p] ∧ (SqL K H p ys ∨ SqT K H p ys) ∧ Q (.int ys.length) H
theorem call_lenK (K : PySem.W.Frag) (hK : X.K = K := by rfl) : CallR X (.builtin "len") (rLenK K) := by subst hK; exact call_len_seq
def rListK (K : PySem.W.Frag) : List V → Hp → VK → Prop := fun xs H Q => ∃ p ys, xs = [.ref p] ∧ (SqL K H p ys ∨ SqT K H p ys) ∧ ∀ l, H l = none → Q (.ref l) (upd H l (.lst ys))
theorem call_listK (K : PySem.W.Frag) (hK : X.K = K := by rfl) : CallR X (.type "list") (rListK K) := by subst hK; exact call_list_of
theorem call_isiK' (K : PySem.W.Frag) (hK : X.K = K := by rfl) : CallR X (.builtin "isinstance") (rIsi K) := by subst hK; exact call_isi
theorem cr_sumK (K : PySem.W.Frag) (hc : X.calm = true) (hK : X.K = K := by rfl) : CallR X (.builtin "sum") (rSum K) := by subst hK; exact cr_sum hc
theorem cr_maxK (K : PySem.W.Frag) (hc : X.calm = true) (hK : X.K = K := by rfl) : CallR X (.builtin "max") (rMax K) := by subst hK; exact cr_max hc
theorem cr_minK (K : PySem.W.Frag) (hc : X.calm = true) (hK : X.K = K := by rfl) : CallR X (.builtin "min") (rMin K) := by subst hK; exact cr_min hc
theorem cr_allK (K : PySem.W.Frag) (hc : X.calm = true) (hK : X.K = K := by rfl) : CallR X (.builtin "all") (rAll K) := by subst hK; exact cr_all hc
theorem cr_anyK (K : PySem.W.Frag) (hc : X.calm = true) (hK : X.K = K := by rfl) : CallR X (.builtin "any") (rAny K) := by subst hK; exact cr_any hc
theorem cr_sortedIK (K : PySem.W.Frag) (hK : X.K = K := by rfl) : CallR X (.builtin "sorted") (rSortedI K) := by subst hK; exact cr_sortedI
theorem op_eqDK (K : PySem.W.Frag) (hu : X.A.units + 64 < cLine) (hK : X.K = K := by rfl) : OpR X (compareOp .Eq) (rEqD K) := by subst hK; exact op_eqD hu
theorem op_neDK (K : PySem.W.Frag) (hu : X.A.units + 64 < cLine) (hK : X.K = K := by rfl) : OpR X (compareOp .NotEq) (rNeD K) := by subst hK; exact op_neD hu
theorem op_inK (K : PySem.W.Frag) (hK : X.K = K := by rfl) : OpR X (compareOp .In) (rIn K false) := by subst hK; exact op_in_seq
theorem op_notInK (K : PySem.W.Frag) (hK : X.K = K := by rfl) : OpR X (compareOp .NotIn) (rIn K true) := by subst hK; exact op_notIn_seq
theorem mt_indexK (K : PySem.W.Frag) (hK : X.K = K := by rfl) : MtR X "list.index" (rIndex K) := by subst hK; exact mt_index
theorem w_lenK {K : PySem.W.Frag} {H : Hp} {Q : VK} {p : Addr} {xs : List V} (hs : SqL K H p xs) (h : Q (.int xs.length) H) : rLenK K [.ref p] H Q := ⟨p, xs, rfl, .inl hs, h⟩
theorem w_lenTK {K : PySem.W.Frag} {H : Hp} {Q : VK} {p : Addr} {xs : List V} (hs : SqT K H p xs) (h : Q (.int xs.length) H) : rLenK K [.ref p] H Q := ⟨p, xs, rfl, .inr hs, h⟩
theorem w_listK {K : PySem.W.Frag} {H : Hp} {Q : VK} {p : Addr} {xs : List V} (hs : SqL K H p xs) (h : ∀ l, New H l → Q (.ref l) (upd H l (.lst xs))) : rListK K [.ref p] H Q := ⟨p, xs, rfl, .inl hs, h⟩
end
section
variable {X : Cx} {e o : Expr} {f name : Str} {pos apos cpos : Pos} {ta to : TE} {t : TA} {es : List Expr}
theorem pe_fldK (K : PySem.W.Frag) (he : PE X e ta) (hb : attributeBase e f X.env (eval e X.env) = eval e X.env) (hK : X.K = K := by rfl) : PE X (.Attribute e f pos) (tFld K ta f) := by subst hK; exact pe_fld he hb
theorem pe_bmK (K : PySem.W.Frag) {T : String} {r : V → List V → Hp → VK → Prop} (h : PE X (.Call (.Attribute o name apos) es [] cpos) (tBM X.K T r to t)) (hK : X.K = K := by rfl) : PE X (.Call (.Attribute o name apos) es [] cpos) (tBM K T r to t) := by subst hK; exact h
theorem pe_bm0K (K : PySem.W.Frag) {T : String} {r : V → List V → Hp → VK → Prop} (h : PE X (.Call (.Attribute o name apos) es [] cpos) (tBM0 X.K T r to)) (hK : X.K = K := by rfl) : PE X (.Call (.Attribute o name apos) es [] cpos) (tBM0 K T r to) := by subst hK; exact h
theorem pi_listK (K : PySem.W.Frag) {tg l : Expr} {tl : TE} (hl : PE X l tl) (hK : X.K = K := by rfl) : PI X tg l (iList K tl) := by subst hK; exact pi_list hl
theorem pi_tupK (K : PySem.W.Frag) {tg l : Expr} {tl : TE} (hl : PE X l tl) (hK : X.K = K := by rfl) : PI X tg l (iTup K tl) := by subst hK; exact pi_tup hl
theorem pg_tupK (K : PySem.W.Frag) {es : List Expr} {k n : Nat} {t : TGs} (hc : X.calm = true) (h : PGs X es t) (hn : (assignEach es X.env).length = n := by rfl) (hst : (assignEach es X.env).findIdx? (·.1) = none := by rfl) (hK : X.K = K := by rfl) : PG X (.Tuple es k pos) (gTup K n t) := by subst hK; exact pg_tup hc h hn hst
end
/-! ### list.insert -/
theorem w_ins {H : Hp} {p : Addr} {xs : List V} {m : Int} {v : V} {R : Addr → List V → Int → V → Prop} (hp : H p = some (.lst xs)) (hl : xs.length < sizeLine) (h0 : 0 ≤ m) (h1 : m < 2 ^ 63) (h : R p xs m v) :
    ∃ (l : Addr) (ys : List V) (i : Int) (y : V), V.ref p = .ref l ∧ [V.int m, v] = [.int i, y] ∧ H l = some (.lst ys) ∧ ys.length < sizeLine ∧ 0 ≤ i ∧ i < 2 ^ 63 ∧ R l ys i y := ⟨p, xs, m, v, rfl, rfl, hp, hl, h0, h1, h⟩

/-! ### steps of the reading -/
local macro_rules | `(tactic| walk_at "len") => `(tactic| (intro vs H Q E h; first | (obtain ⟨e, _⟩ := h; subst e; rfl) | (obtain ⟨_, e, _⟩ := h; subst e; rfl) | (obtain ⟨_, _, e, _⟩ := h; subst e; rfl) | (obtain ⟨_, _, _, e, _⟩ := h; subst e; rfl) | (obtain ⟨_, _, _, _, e, _⟩ := h; subst e; rfl) | (obtain ⟨_, _, _, _, _, e, _⟩ := h; subst e; rfl) | (obtain ⟨_, _, _, _, _, _, e, _⟩ := h; subst e; rfl) | (obtain ⟨_, _, _, _, _, _, _, e, _⟩ := h; subst e; rfl) | (obtain ⟨_, _, _, _, _, _, _, _, e, _⟩ := h; subst e; rfl) | (obtain ⟨_, _, _, _, _, _, _, _, _, e, _⟩ := h; subst e; rfl) | (obtain ⟨_, _, _, _, _, _, _, _, _, _, e, _⟩ := h; subst e; rfl) | (obtain ⟨_, _, _, _, _, _, _, _, _, _, _, e, _⟩ := h; subst e; rfl)))
/-- p ≠ q -/
local macro_rules | `(tactic| walk_at "ne1") => `(tactic| (refine ne_new (H := ?H) (o := ?o) ?a ?b; (case b => assumption); (case a => walk_at "hp")))
local macro_rules | `(tactic| walk_at "ne") => `(tactic| first
  | assumption | (apply Ne.symm; assumption) | walk_at "ne1" | (apply Ne.symm; walk_at "ne1") | fail)
/-- H p = some o -/
local macro_rules | `(tactic| walk_at "hp") => `(tactic| first
  | assumption
  | exact upd_same
  | (refine (upd_ne ?n).trans ?h; (case n => walk_at "ne"); (case h => walk_at "hp"))
  | (refine Same.get (H := ?H) ?s ?h; (case s => assumption); (case h => assumption)) | fail)
local macro_rules | `(tactic| walk_at "sq") => `(tactic| first
  | assumption
  | exact SqL.of (by walk_at "hp") | exact SqT.of (by walk_at "hp")
  | (refine Same.seq (H := ?H) ?s ?h; (case h => assumption); (case s => walk_at "same"))
  | (refine same_read (H := ?H) ?s ?h; (case h => assumption); (case s => walk_at "same")) | fail)
/-- a later new object was free ahead -/
local macro_rules | `(tactic| walk_at "fr") => `(tactic| first | assumption | (refine New.of (H' := ?H) ?n ?s; (case n => assumption); (case s => walk_at "same")) | fail)
/-- what was tracked stays -/
local macro_rules | `(tactic| walk_at "same") => `(tactic| first | assumption | exact Same.refl _ | (refine Same.new ?_ (by assumption); walk_at "same") | (refine Same.mut ?s ?n; (case n => walk_at "fr"); (case s => walk_at "same")) | (refine Same.trans (H1 := ?H1) ?a ?b; (case b => assumption); (case a => walk_at "same")) | fail)
local macro_rules | `(tactic| walk_at "side") => `(tactic| first | decide | omega | (with_reducible assumption) | fail)
local macro_rules | `(tactic| walk_at "at") => `(tactic| first | rfl | assumption | exact atI_nat (by assumption) | fail)
local macro_rules | `(tactic| walk_at "ll") => `(tactic| first | omega | (simp only [List.length_append, List.length_cons, List.length_nil, List.length_map, List.length_range, List.length_set, List.length_replicate]; omega) | (simp only [List.length_append, List.length_cons, List.length_nil, List.length_map, List.length_range, List.length_set, List.length_replicate] at *; omega) | (simp; done) | (simp; omega) | fail)
local macro_rules | `(tactic| walk_at "ix") => `(tactic| first | assumption | (refine ixN_nat ?_; walk_at "ll") | rfl | fail)
local macro_rules | `(tactic| walk_at "szlt") => `(tactic| first | assumption | (refine szlt ?_; walk_at "ll") | fail)
local macro_rules | `(tactic| walk_at "szk") => `(tactic| first | assumption | (refine szlt ?_; omega) | fail)
/-- one step -/
local macro_rules | `(tactic| walk_at "st") => `(tactic| first
  | with_reducible refine w_iT ?_
  | with_reducible refine w_iF ?_
  | with_reducible refine w_iNT ?_
  | with_reducible refine w_iNF ?_
  | with_reducible refine w_iNN ?_
  | with_reducible refine w_seq ?_
  | with_reducible refine w_asg ?_
  | with_reducible refine w_gn ?_
  | with_reducible refine w_c ?_
  | with_reducible refine w_op ?_
  | with_reducible refine w_ret ?_
  | with_reducible refine w_if ?_
  | with_reducible refine w_test ?_
  | with_reducible refine w_rI0 ?_
  | with_reducible refine w_cons ?_
  | with_reducible refine w_nil ?_
  | with_reducible refine w_call ?_
  | with_reducible refine w_cb ?_
  | with_reducible refine w_drop ?_
  | with_reducible refine w_next ?_
  | with_reducible refine w_eqI ?_
  | with_reducible refine w_neI ?_
  | ((with_reducible refine w_var ?_); refine ⟨_, rfl, ?_⟩)
  | ((with_reducible refine w_aug ?_); refine ⟨_, rfl, ?_⟩)
  | with_reducible refine w_eqB ?_
  | with_reducible refine w_neB ?_
  | with_reducible refine w_tB ?_
  | with_reducible refine w_bl ?_
  | with_reducible refine w_and ?_
  | with_reducible refine w_or ?_
  | with_reducible refine w_not ?_
  | with_reducible refine w_andV ?_
  | with_reducible refine w_orV ?_
  | with_reducible refine w_notV ?_
  | with_reducible refine w_ifE ?_
  | with_reducible refine w_un ?_
  | with_reducible refine w_rU ?_
  | with_reducible refine w_ip ?_
  | with_reducible refine w_gc ?_
  | with_reducible refine w_g0 ?_
  | with_reducible refine w_gs ?_
  | with_reducible refine w_tup ?_
  | with_reducible refine w_lst ?_
  | with_reducible refine w_sl ?_
  | with_reducible refine w_np ?_
  | with_reducible refine w_part ?_
  | with_reducible refine w_partI ?_
  | with_reducible refine w_bm ?_
  | with_reducible refine w_bm0 ?_
  | with_reducible refine w_for ?_
  | with_reducible refine w_lc ?_
  | with_reducible refine w_yes ?_
  | with_reducible refine w_make ?_
  | with_reducible refine w_meth ?_
  | with_reducible refine w_sf ?_
  | with_reducible refine w_r3 ?_
  | with_reducible refine w_din ?_
  | with_reducible refine w_dni ?_
  | with_reducible refine w_dg ?_
  | with_reducible refine w_put ?_
  | with_reducible refine w_dn ?_
  | with_reducible refine w_enum ?_
  | with_reducible refine w_iL ?_
  | with_reducible refine w_iTu ?_
  | with_reducible refine w_r1 ?_
  | with_reducible refine w_r2 ?_
  | with_reducible refine w_int1 ?_
  | with_reducible refine w_intb ?_
  | with_reducible refine w_fl ?_
  | with_reducible refine w_retN ?_
  | with_reducible refine w_break ?_
  | with_reducible refine w_cont ?_
  | with_reducible refine w_par ?_
  | with_reducible refine w_par2 ?_
  | with_reducible refine w_eqS ?_
  | with_reducible refine w_neS ?_
  | with_reducible refine w_eqNI ?_
  | with_reducible refine w_eqIN ?_
  | with_reducible refine w_callS ?_
  | with_reducible refine w_ost ?_
  | with_reducible refine w_xf ?_
  | with_reducible refine w_mko ?_
  | ((with_reducible refine w_mod ?s0 ?_); (case s0 => walk_at "side"))
  | ((with_reducible refine w_div ?s0 ?s1 ?_); (case s0 => walk_at "side"); (case s1 => walk_at "side"))
  | ((with_reducible refine w_shr ?s0 ?_); (case s0 => walk_at "side"))
  | ((with_reducible refine w_shl1 ?s0 ?s1 ?_); (case s0 => walk_at "side"); (case s1 => walk_at "side"))
  | ((with_reducible refine w_mul ?s0 ?s1 ?s2 ?s3 ?_); (case s0 => walk_at "side"); (case s1 => walk_at "side"); (case s2 => walk_at "side"); (case s3 => walk_at "side"))
  | ((with_reducible refine w_shl ?s0 ?s1 ?s2 ?s3 ?_); (case s0 => walk_at "side"); (case s1 => walk_at "side"); (case s2 => walk_at "side"); (case s3 => walk_at "side"))
  | ((with_reducible refine w_r1q ?s0 ?s1 ?_); (case s0 => walk_at "side"); (case s1 => walk_at "side"))
  | ((with_reducible refine w_r2q ?s0 ?s1 ?s2 ?s3 ?_); (case s0 => walk_at "side"); (case s1 => walk_at "side"); (case s2 => walk_at "side"); (case s3 => walk_at "side"))
  | ((with_reducible refine w_ixL (xs := ?xs) (v := ?v) ?s0 ?s1 ?_); (case s0 => walk_at "sq"); (case s1 => walk_at "at"))
  | ((with_reducible refine w_ixT (xs := ?xs) (v := ?v) ?s0 ?s1 ?_); (case s0 => walk_at "sq"); (case s1 => walk_at "at"))
  | ((with_reducible refine w_ixl (xs := ?xs) (v := ?v) ?s0 ?s1 ?_); (case s0 => walk_at "sq"); (case s1 => walk_at "at"))
  | ((with_reducible refine w_ixt (xs := ?xs) (v := ?v) ?s0 ?s1 ?_); (case s0 => walk_at "sq"); (case s1 => walk_at "at"))
  | ((with_reducible refine w_lenK (xs := ?xs) ?s0 ?_); (case s0 => walk_at "sq"))
  | ((with_reducible refine w_lenTK (xs := ?xs) ?s0 ?_); (case s0 => walk_at "sq"))
  | ((with_reducible refine w_listK (xs := ?xs) ?s0 ?_); (case s0 => walk_at "sq"))
  | ((with_reducible refine w_len (xs := ?xs) ?s0 ?_); (case s0 => walk_at "sq"))
  | ((with_reducible refine w_lenT (xs := ?xs) ?s0 ?_); (case s0 => walk_at "sq"))
  | ((with_reducible refine w_iLq (xs := ?xs) ?s0 ?_); (case s0 => walk_at "sq"))
  | ((with_reducible refine w_iTq (xs := ?xs) ?s0 ?_); (case s0 => walk_at "sq"))
  | ((with_reducible refine w_tyl (xs := ?xs) ?s0 ?_); (case s0 => walk_at "sq"))
  | ((with_reducible refine w_slL (xs := ?xs) ?s0 ?_); (case s0 => walk_at "sq"))
  | ((with_reducible refine w_gt (xs := ?xs) ?s0 ?s1 ?_); (case s0 => walk_at "sq"); (case s1 => rfl))
  | ((with_reducible refine w_setL (xs := ?xs) (j := ?j) ?s0 ?s1 ?_); (case s0 => walk_at "hp"); (case s1 => walk_at "ix"))
  | ((with_reducible refine w_app (xs := ?xs) ?s0 ?s1 ?_); (case s0 => walk_at "hp"); (case s1 => walk_at "szlt"))
  | ((with_reducible refine w_rev (xs := ?xs) ?s0 ?_); (case s0 => walk_at "hp"))
  | with_reducible refine w_isi kb_ii ?_
  | with_reducible refine w_isi kb_ib ?_
  | with_reducible refine w_isb kb_bb ?_
  | with_reducible refine w_isb kb_bi ?_
  | with_reducible refine w_isn kb_ni ?_
  | with_reducible refine w_isn kb_nb ?_
  | ((with_reducible refine w_isl (xs := ?xs) ?s0 kb_ll ?_); (case s0 => walk_at "hp"))
  | ((with_reducible refine w_isl (xs := ?xs) ?s0 kb_lt ?_); (case s0 => walk_at "hp"))
  | ((with_reducible refine w_ist (xs := ?xs) ?s0 kb_tt ?_); (case s0 => walk_at "hp"))
  | ((with_reducible refine w_ist (xs := ?xs) ?s0 kb_tl ?_); (case s0 => walk_at "hp"))
  | with_reducible refine w_len1 rfl ?_
  | with_reducible refine w_isN ?_
  | with_reducible refine w_2i ?_
  | with_reducible refine w_1i ?_
  | with_reducible refine w_augS ?_
  | ((with_reducible refine w_getL (xs := ?xs) (v := ?v) ?s0 ?s1 ?_); (case s0 => walk_at "sq"); (case s1 => assumption))
  | ((with_reducible refine w_wipe ?s0 ?_); (case s0 => rfl))
  | ((with_reducible refine w_inI (kvs := ?kvs) ?s0 ?_); (case s0 => walk_at "hp"))
  | ((with_reducible refine w_putI (kvs := ?kvs) ?s0 ?s1 ?_); (case s0 => walk_at "hp"); (case s1 => walk_at "szk"))
  | ((with_reducible refine w_ins (xs := ?xs) ?s0 ?s1 ?s2 ?s3 ?_); (case s0 => walk_at "hp"); (case s1 => walk_at "szlt"); (case s2 => walk_at "side"); (case s3 => walk_at "side"))
  | ((with_reducible refine w_pow ?s0 ?_); (case s0 => exact ⟨by decide, by decide, by decide⟩))
  | ((with_reducible refine ifd (fun h => ?c) (fun _ => ?_)); (case c => exfalso; omega))
  | ((with_reducible refine ifd (fun _ => ?_) (fun h => ?c)); (case c => exfalso; omega))
  | ((with_reducible refine ifnd (fun h => ?c) (fun _ => ?_)); (case c => exfalso; omega))
  | ((with_reducible refine ifnd (fun _ => ?_) (fun h => ?c)); (case c => exfalso; omega))
  | fail)
local macro_rules | `(tactic| walk_at "sts") => `(tactic| repeat (walk_at "st"))

def topS (i : Nat) : Stmt := PySem.Challenge.pw_spinfloor_k29_papers_examined.main.body.getD i (.Pass ⟨0, 0, 0, 0⟩)
abbrev s_ones : Stmt := topS 1
theorem sc_ones : FnScope ["mask", "many"] ["mask"] (defScope s_ones) := ⟨rfl, rfl, rfl, by decide +kernel, rfl, by decide +kernel, by decide +kernel⟩
abbrev s_odd : Stmt := topS 2
theorem sc_odd : FnScope ["mask"] ["mask"] (defScope s_odd) := ⟨rfl, rfl, rfl, by decide +kernel, rfl, by decide +kernel, by decide +kernel⟩
abbrev s_odd_ends : Stmt := topS 4
theorem sc_odd_ends : FnScope ["links", "used", "found", "k"] ["links", "used"] (defScope s_odd_ends) := ⟨rfl, rfl, rfl, by decide +kernel, rfl, by decide +kernel, by decide +kernel⟩
abbrev s_stands : Stmt := topS 6
theorem sc_stands : FnScope ["many", "marks", "pair"] ["many", "marks", "pair"] (defScope s_stands) := ⟨rfl, rfl, rfl, by decide +kernel, rfl, by decide +kernel, by decide +kernel⟩
abbrev s_paid : Stmt := topS 7
theorem sc_paid : FnScope ["link", "paper", "found", "pair"] ["link", "paper"] (defScope s_paid) := ⟨rfl, rfl, rfl, by decide +kernel, rfl, by decide +kernel, by decide +kernel⟩
abbrev s_cost_of : Stmt := topS 8
theorem sc_cost_of : FnScope ["links", "used", "found", "k"] ["links", "used"] (defScope s_cost_of) := ⟨rfl, rfl, rfl, by decide +kernel, rfl, by decide +kernel, by decide +kernel⟩
abbrev s_examined : Stmt := topS 9
theorem sc_examined : FnScope ["many", "links", "marks", "used", "paper", "pair", "link"] ["many", "links", "marks", "used", "paper"] (defScope s_examined) := ⟨rfl, rfl, rfl, by decide +kernel, rfl, by decide +kernel, by decide +kernel⟩
abbrev s_law_cell_at : Stmt := topS 11
theorem sc_law_cell_at : FnScope ["script", "k"] ["script", "k"] (defScope s_law_cell_at) := ⟨rfl, rfl, rfl, by decide +kernel, rfl, by decide +kernel, by decide +kernel⟩
abbrev s_law_rooms_by : Stmt := topS 12
theorem sc_law_rooms_by : FnScope ["cell", "many", "keys", "room", "pair"] ["cell", "many"] (defScope s_law_rooms_by) := ⟨rfl, rfl, rfl, by decide +kernel, rfl, by decide +kernel, by decide +kernel⟩
abbrev s_law_links_by : Stmt := topS 13
theorem sc_law_links_by : FnScope ["script", "rooms", "many", "prices", "links", "k", "mixed", "one", "two", "more"] ["script", "rooms", "many", "prices"] (defScope s_law_links_by) := ⟨rfl, rfl, rfl, by decide +kernel, rfl, by decide +kernel, by decide +kernel⟩
abbrev s_law_paper_by : Stmt := topS 14
theorem sc_law_paper_by : FnScope ["script", "rooms", "many", "prices", "paper", "k", "cell", "mask", "price"] ["script", "rooms", "many", "prices"] (defScope s_law_paper_by) := ⟨rfl, rfl, rfl, by decide +kernel, rfl, by decide +kernel, by decide +kernel⟩
abbrev s_law_paper_put : Stmt := topS 15
theorem sc_law_paper_put : FnScope ["paper", "way", "cell", "many", "marks", "at", "mask", "price", "fresh", "last"] ["paper", "way", "cell", "many", "marks"] (defScope s_law_paper_put) := ⟨rfl, rfl, rfl, by decide +kernel, rfl, by decide +kernel, by decide +kernel⟩
abbrev s_law_odd : Stmt := topS 16
theorem sc_law_odd : FnScope ["mask", "count"] ["mask"] (defScope s_law_odd) := ⟨rfl, rfl, rfl, by decide +kernel, rfl, by decide +kernel, by decide +kernel⟩
abbrev s_law_due : Stmt := topS 17
theorem sc_law_due : FnScope ["many", "links", "marks", "used", "paper", "cost", "ends", "k", "pair", "link", "dues"] ["many", "links", "marks", "used", "paper"] (defScope s_law_due) := ⟨rfl, rfl, rfl, by decide +kernel, rfl, by decide +kernel, by decide +kernel⟩
abbrev s_law : Stmt := topS 18
theorem sc_law : FnScope ["script", "many", "rooms", "prices", "k", "links", "paper", "used", "marks", "way", "cell", "at", "handed", "found", "room"] ["script"] (defScope s_law) := ⟨rfl, rfl, rfl, by decide +kernel, rfl, by decide +kernel, by decide +kernel⟩
structure Bl (mg : Str → Option Value) : Prop where
  range : mg "range" = none
  len : mg "len" = none
  sum : mg "sum" = none
  sorted : mg "sorted" = none
  min : mg "min" = none
  list : mg "list" = none
  isinstance : mg "isinstance" = none
  bool : mg "bool" = none
  max : mg "max" = none
/-! ### lists as sets -/
theorem perm_of_nodup {α : Type} [DecidableEq α] {xs ys : List α} (hx : xs.Nodup) (hy : ys.Nodup) (h : ∀ a, a ∈ xs ↔ a ∈ ys) : xs.Perm ys := by
  rw [List.perm_iff_count]
  intro a
  rw [List.Nodup.count hx, List.Nodup.count hy]
  by_cases e : a ∈ xs
  · rw [if_pos e, if_pos ((h a).mp e)]
  · rw [if_neg e, if_neg (fun z => e ((h a).mpr z))]
theorem len_of_nodup {α : Type} [DecidableEq α] {xs ys : List α} (hx : xs.Nodup) (hy : ys.Nodup) (h : ∀ a, a ∈ xs ↔ a ∈ ys) : xs.length = ys.length := (perm_of_nodup hx hy h).length_eq
theorem nodup_sub_len {α : Type} [DecidableEq α] : ∀ {xs ys : List α}, xs.Nodup → (∀ a ∈ xs, a ∈ ys) → xs.length ≤ ys.length
  | [], _, _, _ => Nat.zero_le _
  | x :: xs, ys, hx, h => by
    have hx' := List.nodup_cons.mp hx
    have ih := nodup_sub_len (ys := ys.erase x) hx'.2 fun a ha => by
      have : a ≠ x := fun e => hx'.1 (e ▸ ha)
      exact (List.mem_erase_of_ne this).mpr (h a (List.mem_cons_of_mem _ ha))
    have hm := h x List.mem_cons_self
    have := List.length_erase_of_mem hm
    have hp : 0 < ys.length := List.length_pos_of_mem hm
    rw [List.length_cons]
    omega
/-- as many as there are: all -/
theorem nodup_full {α : Type} [DecidableEq α] {xs ys : List α} (hx : xs.Nodup) (hs : ∀ a ∈ xs, a ∈ ys) (hl : ys.length ≤ xs.length) : ∀ a ∈ ys, a ∈ xs := fun a ha => by
  by_cases e : a ∈ xs
  · exact e
  · have : (a :: xs).Nodup := List.nodup_cons.mpr ⟨e, hx⟩
    have h2 := nodup_sub_len this (fun b hb => by rcases List.mem_cons.mp hb with r | r; exact r ▸ ha; exact hs b r)
    rw [List.length_cons] at h2
    omega
/-! ### the next one in a list that goes round -/

theorem sorted_eq : ∀ {xs ys : List Nat}, xs.Pairwise (· < ·) → ys.Pairwise (· < ·) → (∀ a, a ∈ xs ↔ a ∈ ys) → xs = ys
  | [], [], _, _, _ => rfl
  | [], y :: ys, _, _, h => absurd ((h y).mpr List.mem_cons_self) (by simp)
  | x :: xs, [], _, _, h => absurd ((h x).mp List.mem_cons_self) (by simp)
  | x :: xs, y :: ys, h1, h2, h => by
    obtain ⟨a1, a2⟩ := List.pairwise_cons.mp h1
    obtain ⟨b1, b2⟩ := List.pairwise_cons.mp h2
    have e : x = y := by
      rcases List.mem_cons.mp ((h x).mp List.mem_cons_self) with e | e
      · exact e
      · rcases List.mem_cons.mp ((h y).mpr List.mem_cons_self) with e2 | e2
        · exact e2.symm
        · have := a1 _ e2; have := b1 _ e; omega
    subst e
    rw [sorted_eq a2 b2 fun a => ?_]
    constructor
    · intro ha
      rcases List.mem_cons.mp ((h a).mp (List.mem_cons_of_mem _ ha)) with e | e
      · have := a1 _ ha; omega
      · exact e
    · intro ha
      rcases List.mem_cons.mp ((h a).mpr (List.mem_cons_of_mem _ ha)) with e | e
      · have := b1 _ ha; omega
      · exact e

/-! ### data of webs -/
def dRow (r : List Nat) : PyData := .list (r.map fun x : Nat => .int (x : Int))
def dRows (T : List (List Nat)) : PyData := .list (T.map dRow)
def iv (r : List Nat) : List V := r.map fun x : Nat => V.int (x : Int)
theorem iv_len (r : List Nat) : (iv r).length = r.length := by unfold iv; simp
theorem iv_at {r : List Nat} {i : Nat} (h : i < r.length) : (iv r)[i]? = some (.int ((r.getD i 0 : Nat) : Int)) := by
  unfold iv
  rw [List.getElem?_map, List.getD_eq_getElem?_getD, List.getElem?_eq_getElem h]
  rfl
theorem iv_app (r s : List Nat) : iv (r ++ s) = iv r ++ iv s := by unfold iv; simp
theorem take_snoc {l : List Nat} {i : Nat} (h : i < l.length) : l.take (i + 1) = l.take i ++ [l.getD i 0] := by
  rw [List.take_add_one, List.getElem?_eq_getElem h, List.getD_eq_getElem?_getD, List.getElem?_eq_getElem h]
  rfl
theorem iv_flat (r : List Nat) : (iv r).all flatV = true := by
  rw [List.all_eq_true]
  intro v hv
  obtain ⟨x, _, rfl⟩ := List.mem_map.mp hv
  rfl
theorem dpRowA {K : PySem.W.Frag} {H : Hp} {a : Addr} {r : List Nat} (h : Dp K H (.ref a) (dRow r)) : SqL K H a (iv r) := by
  obtain ⟨xs, h1, h2⟩ := dpLstA h
  have e := dpAll_ints (ns := r.map fun x : Nat => (x : Int)) (by rw [List.map_map]; exact h2)
  rw [List.map_map] at e
  have e2 : xs = iv r := e
  rw [← e2]
  exact h1
theorem dpRow {K : PySem.W.Frag} {H : Hp} {a : Addr} {r : List Nat} (h : SqL K H a (iv r)) : Dp K H (.ref a) (dRow r) := by
  have := dpInts (K := K) (H := H) (r.map fun x : Nat => (x : Int))
  rw [List.map_map, List.map_map] at this
  exact .lst h this
theorem goodRow (r : List Nat) : Good 1 (dRow r) := goodLst (goodMap fun _ => goodInt)
theorem goodRows (T : List (List Nat)) : Good 2 (dRows T) := goodLst (goodMap fun r => goodRow r)
theorem w_idx {K : PySem.W.Frag} {H : Hp} {Q : VK} {p : Addr} {r : List Nat} {x : Nat} (hs : SqL K H p (iv r)) (hx : x ∈ r) (h : Q (.int ((r.idxOf x : Nat) : Int)) H) : rIndex K (.ref p) [.int (x : Int)] H Q := by
  have hl : r.idxOf x < r.length := List.idxOf_lt_length_of_mem hx
  refine ⟨p, iv r, .int (x : Int), r.idxOf x, .int ((r.getD (r.idxOf x) 0 : Nat) : Int), rfl, rfl, hs, rfl, iv_flat r, iv_at hl, ?_, ?_, h⟩
  · have : r.getD (r.idxOf x) 0 = x := by
      rw [List.getD_eq_getElem?_getD, List.getElem?_eq_getElem hl]
      exact List.getElem_idxOf hl
    rw [this]
    simp [eqV]
  · intro m z' hm hz
    have hml : m < r.length := by omega
    rw [iv_at hml] at hz
    cases hz
    have hne : r.getD m 0 ≠ x := by
      rw [List.getD_eq_getElem?_getD, List.getElem?_eq_getElem hml]
      have := List.not_of_lt_findIdx (xs := r) (p := (· == x)) hm
      simpa using this
    show (((r.getD m 0 : Nat) : Int) == (x : Int)) = false
    rw [beq_eq_false_iff_ne]
    omega
theorem iv_map (r : List Nat) : iv r = (r.map fun x : Nat => (x : Int)).map V.int := by unfold iv; rw [List.map_map]; rfl

/-! ### lists whose members stand beside them -/
theorem wo_self {H : Hp} {D : Addr} (h : H D = none) : wo H D = H := by
  funext b
  by_cases e : b = D
  · subst e; rw [h]; exact if_pos rfl
  · exact if_neg e
def GrD (K : PySem.W.Frag) (H : Hp) (D : Addr) (ds : List PyData) : Prop := ∃ xs, H D = some (.lst xs) ∧ DpAll K (wo H D) xs ds
theorem GrD.new {K : PySem.W.Frag} {H : Hp} {D : Addr} : GrD K (upd H D (.lst [])) D [] := ⟨[], upd_same, .nil⟩
theorem GrD.same {K : PySem.W.Frag} {H H' : Hp} {D : Addr} {ds : List PyData} (h : GrD K H D ds) (e : Same H H') : GrD K H' D ds := by
  obtain ⟨xs, h1, h2⟩ := h
  exact ⟨xs, e _ _ h1, h2.same (wo_mono e)⟩
theorem GrD.dp {K : PySem.W.Frag} {H : Hp} {D : Addr} {ds : List PyData} (h : GrD K H D ds) : Dp K H (.ref D) (.list ds) := by
  obtain ⟨xs, h1, h2⟩ := h
  exact .lst (SqL.of h1) (h2.same wo_same)
/-- put at the end, the list laid aside while the member was made -/
theorem GrD.put {K : PySem.W.Frag} {H H' : Hp} {D : Addr} {ds : List PyData} {d : PyData} {v : V} {xs : List V} (h : DpAll K (wo H D) xs ds) (e : Same (wo H D) H') (n : H' D = none) (hv : Dp K H' v d) {o : HO} : GrD K (upd (upd H' D o) D (.lst (xs ++ [v]))) D (ds ++ [d]) := by
  refine ⟨xs ++ [v], upd_same, ?_⟩
  rw [wo_eq, wo_eq, wo_self n]
  exact dpaApp (h.same e) (.cons hv .nil)
/-- put at the end -/
theorem GrD.push {K : PySem.W.Frag} {H H' : Hp} {D : Addr} {ds : List PyData} {d : PyData} {v : V} {xs : List V} (h : DpAll K (wo H D) xs ds) (e : Same H H') (hv : Dp K (wo H' D) v d) : GrD K (upd H' D (.lst (xs ++ [v]))) D (ds ++ [d]) :=
  ⟨xs ++ [v], upd_same, dpaPush h e hv⟩
theorem GrD.len {K : PySem.W.Frag} {H : Hp} {D : Addr} {xs : List V} {ds : List PyData} (h : DpAll K (wo H D) xs ds) : xs.length = ds.length := dpaLen h
theorem range_snoc {α : Type} (f : Nat → α) (i : Nat) : (List.range (i + 1)).map f = (List.range i).map f ++ [f i] := by rw [List.range_succ, List.map_append]; rfl
theorem w_islS {K : PySem.W.Frag} {H : Hp} {Q : VK} {p : Addr} {xs : List V} {s : String} {b : Bool} (hp : SqL K H p xs) (hk : kitB "list" s = some b) (h : Q (.bl b) H) : rIsi K [.ref p, .ty s] H Q := by
  rcases hp with (hp | ⟨o, hp⟩) | ⟨o, its, n, h1, h2, _⟩
  · exact ⟨_, _, _, _, b, rfl, .ty _, .base (.lst hp), kit_ty hk, h⟩
  · exact ⟨_, _, _, _, b, rfl, .ty _, .base (.frz hp), kit_ty hk, h⟩
  · exact ⟨_, _, _, _, b, rfl, .ty _, .kList h1 h2, kit_ty hk, h⟩
theorem range_put {α β : Type} (g : α → β) (A : Nat → α) (f : α) (i : Nat) : (List.range (i + 1)).map (fun s => g (if s = i then f else A s)) = (List.range i).map (fun s => g (A s)) ++ [g f] := by
  rw [range_snoc, if_pos rfl, List.map_congr_left fun s hs => by rw [if_neg (by have := List.mem_range.mp hs; omega)]]

/-! ### rooms and links -/
abbrev Lk := List (Nat × Nat × Nat)
def lka (L : Lk) (k : Nat) : Nat := (L.getD k (0, 0, 0)).1
def lkb (L : Lk) (k : Nat) : Nat := (L.getD k (0, 0, 0)).2.1
def lkw (L : Lk) (k : Nat) : Nat := (L.getD k (0, 0, 0)).2.2
theorem lk_at {L : Lk} {k : Nat} (h : k < L.length) : L[k]? = some (lka L k, lkb L k, lkw L k) := by
  unfold lka lkb lkw
  rw [List.getD_eq_getElem?_getD, List.getElem?_eq_getElem h]
  rfl
def JL (L : Lk) (k a b : Nat) : Prop := (lka L k = a ∧ lkb L k = b) ∨ (lka L k = b ∧ lkb L k = a)
theorem JL.symm {L : Lk} {k a b : Nat} (h : JL L k a b) : JL L k b a := by
  rcases h with h | h
  · exact .inr h
  · exact .inl h
/-- where a link leads from a room -/
def byd (a b r : Nat) : Option Nat := if a = r then some b else if b = r then some a else none
theorem byd_some {L : Lk} {k r o : Nat} (h : byd (lka L k) (lkb L k) r = some o) : JL L k r o ∧ ∀ b, JL L k r b → b = o := by
  unfold byd at h
  split at h
  · rename_i e
    cases h
    refine ⟨.inl ⟨e, rfl⟩, fun b hb => ?_⟩
    rcases hb with ⟨_, h2⟩ | ⟨h1, h2⟩
    · exact h2.symm
    · omega
  · split at h
    · rename_i e1 e2
      cases h
      refine ⟨.inr ⟨rfl, e2⟩, fun b hb => ?_⟩
      rcases hb with ⟨h1, h2⟩ | ⟨h1, h2⟩
      · exact absurd h1 e1
      · exact h1.symm
    · cases h
theorem byd_none {L : Lk} {k r : Nat} (h : byd (lka L k) (lkb L k) r = none) (b : Nat) : ¬ JL L k r b := by
  unfold byd at h
  split at h
  · cases h
  · split at h
    · cases h
    · rintro (⟨h1, h2⟩ | ⟨h1, h2⟩)
      · exact absurd h1 (by assumption)
      · exact absurd h2 (by assumption)
def upF {α : Type} (f : Nat → α) (o : Nat) (v : α) : Nat → α := fun q => if q = o then v else f q
theorem upF_same {α : Type} {f : Nat → α} {o : Nat} {v : α} : upF f o v o = v := if_pos rfl
theorem upF_ne {α : Type} {f : Nat → α} {o q : Nat} {v : α} (h : q ≠ o) : upF f o v q = f q := if_neg h
/-- fares from s, with the last links and an order of the rooms -/
structure FareOk (n : Nat) (L : Lk) (s : Nat) (far via : Nat → Option Nat) (rk : Nat → Nat) : Prop where
  s0 : far s = some 0
  sv : via s = none
  lt : ∀ r, far r ≠ none → r < n
  un : ∀ r, far r = none → via r = none
  edge : ∀ k a b, k < L.length → JL L k a b → ∀ x, far a = some x → ∃ y, far b = some y ∧ y ≤ x + lkw L k
  back : ∀ r, r ≠ s → ∀ y, far r = some y → ∃ k q x, via r = some k ∧ k < L.length ∧ JL L k q r ∧ far q = some x ∧ y = x + lkw L k ∧ rk q < rk r
  rkl : ∀ r, far r ≠ none → rk r < n
/-- the search under way: P tells which links have been looked along -/
structure DI (n : Nat) (L : Lk) (s : Nat) (P : Nat → Nat → Prop) (far via : Nat → Option Nat) (dn : Nat → Bool) (rk : Nat → Nat) (c : Nat) : Prop where
  s0 : far s = some 0
  sv : via s = none
  lt : ∀ r, far r ≠ none → r < n
  un : ∀ r, far r = none → via r = none
  dr : ∀ r, dn r = true → far r ≠ none
  mono : ∀ q r x y, dn q = true → far q = some x → dn r = false → far r = some y → x ≤ y
  rel : ∀ k a b, k < L.length → P k a → JL L k a b → dn a = true → ∀ x, far a = some x → ∃ y, far b = some y ∧ y ≤ x + lkw L k
  back : ∀ r, r ≠ s → ∀ y, far r = some y → ∃ k q x, via r = some k ∧ k < L.length ∧ JL L k q r ∧ dn q = true ∧ far q = some x ∧ y = x + lkw L k ∧ (dn r = true → rk q < rk r)
  rkl : ∀ r, dn r = true → rk r < c
section
variable {n s c : Nat} {L : Lk} {P : Nat → Nat → Prop} {far via : Nat → Option Nat} {dn : Nat → Bool} {rk : Nat → Nat}
theorem DI.zero (hs : s < n) : DI n L s (fun _ _ => True) (upF (fun _ => none) s (some 0)) (fun _ => none) (fun _ => false) (fun _ => 0) 0 := by
  refine ⟨upF_same, rfl, fun r h => ?_, fun _ _ => rfl, fun _ h => (by cases h), fun _ _ _ _ h => (by cases h), fun _ _ _ _ _ _ h => (by cases h), fun r hr y h => ?_, fun _ h => (by cases h)⟩
  · by_cases e : r = s
    · subst e; exact hs
    · rw [upF_ne e] at h; exact absurd rfl h
  · rw [upF_ne hr] at h; cases h
theorem DI.open (h : DI n L s (fun _ _ => True) far via dn rk c) {r x : Nat} (hr : dn r = false) (hx : far r = some x) (hmin : ∀ q y, dn q = false → far q = some y → x ≤ y) :
    DI n L s (fun k a => a ≠ r ∨ k < 0) far via (upF dn r true) (upF rk r c) (c + 1) ∧ ∀ q y, upF dn r true q = true → far q = some y → y ≤ x := by
  refine ⟨⟨h.s0, h.sv, h.lt, h.un, fun q hq => ?_, fun q t y z hq hy ht hz => ?_, fun k a b hk hP hj ha y hy => ?_, fun t ht y hy => ?_, fun q hq => ?_⟩, fun q y hq hy => ?_⟩
  · by_cases e : q = r
    · subst e; rw [hx]; simp
    · rw [upF_ne e] at hq; exact h.dr q hq
  · have et : t ≠ r := fun e => by subst e; rw [upF_same] at ht; cases ht
    rw [upF_ne et] at ht
    by_cases e : q = r
    · subst e
      rw [hx] at hy; cases hy
      exact hmin t z ht hz
    · rw [upF_ne e] at hq; exact h.mono q t y z hq hy ht hz
  · rcases hP with hP | hP
    · rw [upF_ne hP] at ha; exact h.rel k a b hk trivial hj ha y hy
    · omega
  · obtain ⟨k, q, z, h1, h2, h3, h4, h5, h6, h7⟩ := h.back t ht y hy
    have eq : q ≠ r := fun e => by subst e; rw [hr] at h4; cases h4
    refine ⟨k, q, z, h1, h2, h3, by rw [upF_ne eq]; exact h4, h5, h6, fun ht2 => ?_⟩
    rw [upF_ne eq]
    by_cases e : t = r
    · subst e; rw [upF_same]; exact h.rkl q h4
    · rw [upF_ne e] at ht2 ⊢; exact h7 ht2
  · by_cases e : q = r
    · subst e; rw [upF_same]; omega
    · rw [upF_ne e] at hq ⊢; have := h.rkl q hq; omega
  · by_cases e : q = r
    · subst e; rw [hx] at hy; cases hy; exact Nat.le_refl _
    · rw [upF_ne e] at hq; exact h.mono q r y x hq hy hr hx
theorem DI.close (h : DI n L s P far via dn rk c) (hP : ∀ k a, k < L.length → P k a) : DI n L s (fun _ _ => True) far via dn rk c :=
  ⟨h.s0, h.sv, h.lt, h.un, h.dr, h.mono, fun k a b hk _ => h.rel k a b hk (hP k a hk), h.back, h.rkl⟩
theorem DI.skip {r j : Nat} (h : DI n L s (fun k a => a ≠ r ∨ k < j) far via dn rk c) (hj : ∀ b, JL L j r b → ∀ x, far r = some x → ∃ y, far b = some y ∧ y ≤ x + lkw L j) : DI n L s (fun k a => a ≠ r ∨ k < j + 1) far via dn rk c := by
  refine ⟨h.s0, h.sv, h.lt, h.un, h.dr, h.mono, fun k a b hk hP hjl ha x hx => ?_, h.back, h.rkl⟩
  by_cases e : a ≠ r
  · exact h.rel k a b hk (.inl e) hjl ha x hx
  · have ea : a = r := Classical.not_not.mp e
    subst ea
    by_cases ek : k = j
    · subst ek; exact hj b hjl x hx
    · refine h.rel k a b hk (.inr ?_) hjl ha x hx
      rcases hP with h | h
      · exact absurd rfl h
      · omega
theorem DI.relax {r j o x : Nat} (h : DI n L s (fun k a => a ≠ r ∨ k < j) far via dn rk c) (htop : ∀ q y, dn q = true → far q = some y → y ≤ x) (hr : dn r = true) (hx : far r = some x) (hj : j < L.length) (hjl : JL L j r o) (huq : ∀ b, JL L j r b → b = o) (hon : o < n) (ho : dn o = false)
    (hlt : ∀ y, far o = some y → x + lkw L j < y) : DI n L s (fun k a => a ≠ r ∨ k < j + 1) (upF far o (some (x + lkw L j))) (upF via o (some j)) dn rk c ∧ ∀ q y, dn q = true → upF far o (some (x + lkw L j)) q = some y → y ≤ x := by
  have hor : o ≠ r := fun e => by subst e; rw [hr] at ho; cases ho
  have hos : s ≠ o := fun e => by
    subst e
    have := hlt 0 h.s0
    omega
  have hdo : ∀ q, dn q = true → q ≠ o := fun q hq e => by subst e; rw [hq] at ho; cases ho
  refine ⟨⟨by rw [upF_ne hos]; exact h.s0, by rw [upF_ne hos]; exact h.sv, fun q hq => ?_, fun q hq => ?_, fun q hq => ?_, fun q t y z hq hy ht hz => ?_, fun k a b hk hP hjk ha y hy => ?_, fun t ht y hy => ?_, h.rkl⟩, fun q y hq hy => ?_⟩
  · by_cases e : q = o
    · subst e; exact hon
    · rw [upF_ne e] at hq; exact h.lt q hq
  · by_cases e : q = o
    · subst e; rw [upF_same] at hq; cases hq
    · rw [upF_ne e] at hq ⊢; exact h.un q hq
  · rw [upF_ne (hdo q hq)]; exact h.dr q hq
  · rw [upF_ne (hdo q hq)] at hy
    have := htop q y hq hy
    by_cases e : t = o
    · subst e; rw [upF_same] at hz; cases hz; omega
    · rw [upF_ne e] at hz; exact h.mono q t y z hq hy ht hz
  · rw [upF_ne (hdo a ha)] at hy
    by_cases ea : a = r ∧ k = j
    · obtain ⟨ea, ek⟩ := ea
      subst ea ek
      rw [hx] at hy; cases hy
      have := huq b hjk
      subst this
      exact ⟨_, upF_same, Nat.le_refl _⟩
    · obtain ⟨z, hz, hz2⟩ := h.rel k a b hk (by
        rcases hP with h | h
        · exact .inl h
        · by_cases e : a = r
          · exact .inr (by have : k ≠ j := fun z => ea ⟨e, z⟩; omega)
          · exact .inl e) hjk ha y hy
      by_cases eb : b = o
      · subst eb
        have := hlt z hz
        exact ⟨_, upF_same, by omega⟩
      · exact ⟨z, by rw [upF_ne eb]; exact hz, hz2⟩
  · by_cases e : t = o
    · subst e
      rw [upF_same] at hy; cases hy
      exact ⟨j, r, x, upF_same, hj, hjl, hr, by rw [upF_ne (Ne.symm hor)]; exact hx, rfl, fun z => by rw [ho] at z; cases z⟩
    · rw [upF_ne e] at hy
      obtain ⟨k, q, z, h1, h2, h3, h4, h5, h6, h7⟩ := h.back t ht y hy
      exact ⟨k, q, z, by rw [upF_ne e]; exact h1, h2, h3, h4, by rw [upF_ne (hdo q h4)]; exact h5, h6, h7⟩
  · rw [upF_ne (hdo q hq)] at hy
    exact htop q y hq hy
theorem DI.done (h : DI n L s (fun _ _ => True) far via dn rk c) (hc : c ≤ n) (hd : ∀ r, far r ≠ none → dn r = true) : FareOk n L s far via rk := by
  refine ⟨h.s0, h.sv, h.lt, h.un, fun k a b hk hj x hx => h.rel k a b hk trivial hj (hd a (by rw [hx]; simp)) x hx, fun r hr y hy => ?_, fun r hr => ?_⟩
  · obtain ⟨k, q, z, h1, h2, h3, h4, h5, h6, h7⟩ := h.back r hr y hy
    exact ⟨k, q, z, h1, h2, h3, h5, h6, h7 (hd r (by rw [hy]; simp))⟩
  · have := h.rkl r (hd r hr); omega
end
def cnf (f : Nat → Bool) : Nat → Nat
  | 0 => 0
  | m + 1 => cnf f m + (if f m = true then 0 else 1)
theorem cnf_congr {f g : Nat → Bool} : ∀ {m : Nat}, (∀ i, i < m → f i = g i) → cnf f m = cnf g m
  | 0, _ => rfl
  | m + 1, h => by
    show cnf f m + (if f m = true then 0 else 1) = cnf g m + (if g m = true then 0 else 1)
    rw [cnf_congr fun i hi => h i (by omega), h m (by omega)]
theorem cnf_set {f : Nat → Bool} {r : Nat} (hf : f r = false) : ∀ {m : Nat}, r < m → cnf (upF f r true) m + 1 = cnf f m
  | 0, h => absurd h (by omega)
  | m + 1, h => by
    show cnf (upF f r true) m + (if upF f r true m = true then 0 else 1) + 1 = cnf f m + (if f m = true then 0 else 1)
    by_cases e : r = m
    · subst e
      rw [upF_same, hf, cnf_congr fun i hi => upF_ne (f := f) (v := true) (show i ≠ r by omega)]
      simp
    · rw [upF_ne (fun z => e z.symm), ← cnf_set hf (show r < m by omega)]
      omega
theorem cnf_none : ∀ m, cnf (fun _ => false) m = m
  | 0 => rfl
  | m + 1 => by
    show cnf (fun _ => false) m + 1 = m + 1
    rw [cnf_none m]
/-! ### lists by room -/
abbrev ov : Option Nat → V
  | none => .non
  | some x => .int (x : Nat)
def ovs (f : Nat → Option Nat) (n : Nat) : List V := (List.range n).map fun r => ov (f r)
def bls (f : Nat → Bool) (n : Nat) : List V := (List.range n).map fun r => V.bl (f r)
theorem ovs_len (f : Nat → Option Nat) (n : Nat) : (ovs f n).length = n := by unfold ovs; simp
theorem bls_len (f : Nat → Bool) (n : Nat) : (bls f n).length = n := by unfold bls; simp
theorem ovs_at {f : Nat → Option Nat} {n r : Nat} (h : r < n) : (ovs f n)[r]? = some (ov (f r)) := map_at h
theorem bls_at {f : Nat → Bool} {n r : Nat} (h : r < n) : (bls f n)[r]? = some (.bl (f r)) := map_at h
theorem ovs_set (f : Nat → Option Nat) (n j : Nat) (v : Option Nat) : (ovs f n).set j (ov v) = ovs (upF f j v) n := by
  unfold ovs
  rw [map_set]
  refine List.map_congr_left fun r _ => ?_
  by_cases e : r = j
  · subst e; rw [if_pos rfl, upF_same]
  · rw [if_neg e, upF_ne e]
theorem bls_set (f : Nat → Bool) (n j : Nat) (v : Bool) : (bls f n).set j (.bl v) = bls (upF f j v) n := by
  unfold bls
  rw [map_set]
  refine List.map_congr_left fun r _ => ?_
  by_cases e : r = j
  · subst e; rw [if_pos rfl, upF_same]
  · rw [if_neg e, upF_ne e]
theorem rep_one (n : Nat) (v : V) : (List.replicate n [v]).flatten = (List.range n).map fun _ => v := by
  have : (List.replicate n [v]).flatten = List.replicate n v := by
    induction n with
    | zero => rfl
    | succ n ih => rw [List.replicate_succ, List.flatten_cons, ih, List.replicate_succ]; rfl
  refine List.ext_getElem (by simp) fun i h1 h2 => ?_
  simp [this]
theorem rep_ov (n : Nat) : (List.replicate n [V.non]).flatten = ovs (fun _ => none) n := rep_one n .non
theorem rep_bl (n : Nat) (b : Bool) : (List.replicate n [V.bl b]).flatten = bls (fun _ => b) n := rep_one n (.bl b)
theorem dec_int_non (i : Int) : decide (V.int i = V.non) = false := decide_eq_false (by simp)
theorem dec_ov (o : Option Nat) : decide (ov o = V.non) = o.isNone := by cases o <;> simp [ov]
def dLk (l : Nat × Nat × Nat) : PyData := .tuple ([((l.1 : Nat) : Int), ((l.2.1 : Nat) : Int), ((l.2.2 : Nat) : Int)].map PyData.int)
def dLks (L : Lk) : PyData := .list (L.map dLk)
theorem dpLkAt {K : PySem.W.Frag} {H : Hp} {xs : List V} {L : Lk} (h : DpAll K H xs (L.map dLk)) {i : Nat} (hi : i < L.length) : ∃ p, xs[i]? = some (.ref p) ∧ SqT K H p [.int (lka L i : Nat), .int (lkb L i : Nat), .int (lkw L i : Nat)] := by
  obtain ⟨v, h1, h2⟩ := dpaGet (i := i) (d := dLk (lka L i, lkb L i, lkw L i)) h (by rw [List.getElem?_map, lk_at hi]; rfl)
  obtain ⟨p, ys, rfl, h3, h4⟩ := dpTup h2
  have := dpAll_ints h4
  rw [this] at h3
  exact ⟨p, h1, h3⟩
theorem goodLk (l : Nat × Nat × Nat) : Good 1 (dLk l) := goodTup (goodMap fun _ => goodInt)
theorem goodLks (L : Lk) : Good 2 (dLks L) := goodLst (goodMap goodLk)
/-! ### walks -/
inductive Wk (L : Lk) : Nat → Nat → Nat → Prop
  | refl (a : Nat) : Wk L a a 0
  | step {a b c l k : Nat} : Wk L a b l → k < L.length → JL L k b c → Wk L a c (l + lkw L k)
theorem Wk.trans {L : Lk} {a b c l m : Nat} (h : Wk L a b l) (h' : Wk L b c m) : Wk L a c (l + m) := by
  induction h' with
  | refl => exact h
  | step _ hk hj ih => rw [← Nat.add_assoc]; exact .step ih hk hj
theorem Wk.symm {L : Lk} {a b l : Nat} (h : Wk L a b l) : Wk L b a l := by
  induction h with
  | refl => exact .refl _
  | step _ hk hj ih =>
    have := (Wk.step (.refl _) hk hj.symm).trans ih
    rw [Nat.zero_add, Nat.add_comm] at this
    exact this
section
variable {n s : Nat} {L : Lk} {far via : Nat → Option Nat} {rk : Nat → Nat}
theorem FareOk.walk (h : FareOk n L s far via rk) : ∀ (m r y : Nat), rk r ≤ m → far r = some y → Wk L s r y
  | m, r, y, hm, hy => by
    by_cases e : r = s
    · subst e
      rw [h.s0] at hy
      cases hy
      exact .refl _
    · obtain ⟨k, q, x, h1, h2, h3, h4, h5, h6⟩ := h.back r e y hy
      match m, hm with
      | 0, hm => omega
      | m + 1, hm =>
        have := FareOk.walk h m q x (by omega) h4
        rw [h5]
        exact .step this h2 h3
theorem FareOk.wk (h : FareOk n L s far via rk) {r y : Nat} (hy : far r = some y) : Wk L s r y := h.walk _ r y (Nat.le_refl _) hy
theorem FareOk.le (h : FareOk n L s far via rk) {a b l : Nat} (hw : Wk L a b l) : ∀ {x : Nat}, far a = some x → ∃ y, far b = some y ∧ y ≤ x + l := by
  induction hw with
  | refl => exact fun hx => ⟨_, hx, by omega⟩
  | step _ hk hj ih =>
    intro x hx
    obtain ⟨y, hy, hle⟩ := ih hx
    obtain ⟨z, hz, hle2⟩ := h.edge _ _ _ hk hj y hy
    exact ⟨z, hz, by omega⟩
theorem FareOk.flip (h : FareOk n L s far via rk) {t : Nat} {far' via' : Nat → Option Nat} {rk' : Nat → Nat} (h' : FareOk n L t far' via' rk') : far t = far' s := by
  cases e : far t with
  | some y =>
    obtain ⟨z, hz, hle⟩ := h'.le (h.wk e).symm h'.s0
    obtain ⟨y', hy', hle'⟩ := h.le (h'.wk hz).symm h.s0
    rw [e] at hy'
    cases hy'
    rw [hz]
    congr 1
    omega
  | none =>
    cases e' : far' s with
    | none => rfl
    | some z =>
      obtain ⟨y, hy, _⟩ := h.le (h'.wk e').symm h.s0
      rw [e] at hy
      cases hy
/-- what is reached -/
def WholeL (L : Lk) (n : Nat) : Prop := ∀ C : Nat → Bool, C 0 = true → (∀ k, k < L.length → C (lka L k) = C (lkb L k)) → ∀ r, r < n → C r = true
theorem Wk.closed {a b l : Nat} (h : Wk L a b l) (C : Nat → Bool) (hC : ∀ k, k < L.length → C (lka L k) = C (lkb L k)) : C b = C a := by
  induction h with
  | refl => rfl
  | step _ hk hj ih =>
    rw [← ih]
    have := hC _ hk
    rcases hj with ⟨h1, h2⟩ | ⟨h1, h2⟩
    · rw [h1, h2] at this; exact this.symm
    · rw [h1, h2] at this; exact this
theorem FareOk.whole (h : FareOk n L 0 far via rk) : (∀ r, r < n → far r ≠ none) ↔ WholeL L n := by
  refine ⟨fun hr C h0 hC r hrn => ?_, fun hw r hrn hfr => ?_⟩
  · obtain ⟨y, hy⟩ := Option.ne_none_iff_exists'.mp (hr r hrn)
    rw [(h.wk hy).closed C hC, h0]
  · have := hw (fun r => (far r).isSome) (by show (far 0).isSome = true; rw [h.s0]; rfl) (fun k hk => by
      show (far (lka L k)).isSome = (far (lkb L k)).isSome
      cases e1 : far (lka L k) with
      | some x =>
        obtain ⟨y, hy, _⟩ := h.edge k _ _ hk (.inl ⟨rfl, rfl⟩) x e1
        rw [hy]; rfl
      | none =>
        cases e2 : far (lkb L k) with
        | none => rfl
        | some y =>
          obtain ⟨x, hx, _⟩ := h.edge k _ _ hk (.inr ⟨rfl, rfl⟩) y e2
          rw [e1] at hx; cases hx) r hrn
    simp [hfr] at this
/-- the rooms along a row -/
structure WayOk (n : Nat) (L : Lk) (s : Nat) (far : Nat → Option Nat) (rk : Nat → Nat) (ks rs : List Nat) (r : Nat) : Prop where
  len : rs.length = ks.length + 1
  fst : rs.getD 0 0 = s
  lst : rs.getD ks.length 0 = r
  f0 : far s = some 0
  step : ∀ j, j < ks.length → ks.getD j 0 < L.length ∧ JL L (ks.getD j 0) (rs.getD j 0) (rs.getD (j + 1) 0) ∧ rk (rs.getD j 0) < rk (rs.getD (j + 1) 0) ∧ rs.getD (j + 1) 0 < n ∧ ∃ x, far (rs.getD j 0) = some x ∧ far (rs.getD (j + 1) 0) = some (x + lkw L (ks.getD j 0))
theorem getD_app {l : List Nat} {a i : Nat} : (l ++ [a]).getD i 0 = if i = l.length then a else l.getD i 0 := by
  rw [List.getD_eq_getElem?_getD, List.getD_eq_getElem?_getD, List.getElem?_append]
  by_cases e : i = l.length
  · subst e; simp
  · by_cases e2 : i < l.length
    · rw [if_pos e2, if_neg e]
    · rw [if_neg e2, if_neg e, List.getElem?_eq_none (by simp; omega), List.getElem?_eq_none (by omega)]
theorem WayOk.mono {ks rs : List Nat} {r : Nat} (h : WayOk n L s far rk ks rs r) : ∀ j, j ≤ ks.length → ∀ i, i < j → rk (rs.getD i 0) < rk (rs.getD j 0)
  | 0, _, i, hi => absurd hi (by omega)
  | j + 1, hj, i, hi => by
    have h1 := (h.step j (by omega)).2.2.1
    by_cases e : i = j
    · subst e; exact h1
    · have := WayOk.mono h j (by omega) i (by omega)
      omega
end

/-! ### pairings of a list -/
inductive PL (d : Nat → Nat → Nat) : List Nat → Nat → Prop
  | nil : PL d [] 0
  | cons {l l' : List Nat} {a b c : Nat} : l.Perm (a :: b :: l') → PL d l' c → PL d l (c + d a b)
section
variable {d : Nat → Nat → Nat} {l l' m : List Nat} {a b c x : Nat}
theorem PL.perm (h : PL d l c) (p : l.Perm m) : PL d m c := by
  cases h with
  | nil => rw [← List.Perm.nil_eq p]; exact .nil
  | cons q h' => exact .cons (p.symm.trans q) h'
theorem PL.nil_eq (h : PL d [] c) : c = 0 := by
  generalize e : ([] : List Nat) = l0 at h
  cases h with
  | nil => rfl
  | cons q _ => subst e; have := q.length_eq; simp at this
/-- the mate of a -/
theorem PL.mate (hs : ∀ x y, d x y = d y x) (h : PL d l c) : a ∈ l → ∃ x l' c', l.Perm (a :: x :: l') ∧ PL d l' c' ∧ c = c' + d a x := by
  induction h with
  | nil => intro h; simp at h
  | @cons l0 l1 u v c0 p h' ih =>
    intro ha
    rcases List.mem_cons.mp (p.mem_iff.mp ha) with e | ha2
    · subst e; exact ⟨v, l1, c0, p, h', rfl⟩
    · rcases List.mem_cons.mp ha2 with e | ha3
      · subst e; exact ⟨u, l1, c0, p.trans (.swap _ _ _), h', by rw [hs]⟩
      · obtain ⟨x, l2, c2, q, h2, e2⟩ := ih ha3
        refine ⟨x, u :: v :: l2, c2 + d u v, ?_, .cons (.refl _) h2, by omega⟩
        refine p.trans ?_
        have q2 : (u :: v :: l1).Perm (u :: v :: a :: x :: l2) := (q.cons v).cons u
        refine q2.trans ?_
        have : (u :: v :: a :: x :: l2).Perm (a :: u :: v :: x :: l2) := ((List.Perm.swap a v _).cons u).trans (.swap _ _ _)
        refine this.trans (.cons _ ?_)
        exact ((List.Perm.swap x v _).cons u).trans (.swap _ _ _)
theorem PL.map {d' : Nat → Nat → Nat} {f : Nat → Nat} (h : PL d l c) (e : ∀ x ∈ l, ∀ y ∈ l, d' (f x) (f y) = d x y) : PL d' (l.map f) c := by
  induction h with
  | nil => exact .nil
  | @cons l0 l1 u v c0 p h' ih =>
    have hm : ∀ z ∈ l1, z ∈ l0 := fun z hz => p.mem_iff.mpr (by simp [hz])
    have := PL.cons (d := d') (p.map f) (ih fun x hx y hy => e x (hm x hx) y (hm y hy))
    rw [e u (p.mem_iff.mpr (by simp)) v (p.mem_iff.mpr (by simp))] at this
    exact this
/-- one end moved, put in or taken out at a, and at b -/
def flip (l : List Nat) (a : Nat) : List Nat := if a ∈ l then l.erase a else a :: l
theorem flip_nodup (h : l.Nodup) : (flip l a).Nodup := by
  unfold flip
  split
  · exact h.erase _
  · exact List.nodup_cons.mpr ⟨by assumption, h⟩
theorem flip_mem (h : l.Nodup) : x ∈ flip l a ↔ (x ∈ l ∧ x ≠ a) ∨ (x = a ∧ a ∉ l) := by
  unfold flip
  split
  · rename_i ha
    rw [h.mem_erase_iff]
    constructor
    · rintro ⟨h1, h2⟩; exact .inl ⟨h2, h1⟩
    · rintro (⟨h1, h2⟩ | ⟨h1, h2⟩)
      · exact ⟨h2, h1⟩
      · exact absurd ha h2
  · rename_i ha
    rw [List.mem_cons]
    constructor
    · rintro (h1 | h1)
      · exact .inr ⟨h1, ha⟩
      · exact .inl ⟨h1, fun e => ha (e ▸ h1)⟩
    · rintro (⟨h1, _⟩ | ⟨h1, _⟩)
      · exact .inr h1
      · exact .inl h1
/-- a metric -/
structure Met (d : Nat → Nat → Nat) (n : Nat) : Prop where
  symm : ∀ x y, d x y = d y x
  tri : ∀ x y z, x < n → y < n → z < n → d x z ≤ d x y + d y z
theorem PL.flip2 {n : Nat} (M : Met d n) (h : PL d l c) (hl : ∀ x ∈ l, x < n) (hn : l.Nodup) (ha : a < n) (hb : b < n) (hab : a ≠ b) : ∃ c', PL d (flip (flip l a) b) c' ∧ c' ≤ c + d a b := by
  by_cases h1 : a ∈ l
  · obtain ⟨x, l1, c1, p1, q1, e1⟩ := h.mate M.symm h1
    have hx : x < n := hl x (p1.mem_iff.mpr (by simp))
    have pe : (flip l a).Perm (x :: l1) := by
      unfold flip
      rw [if_pos h1]
      have := p1.erase a
      rw [List.erase_cons_head] at this
      exact this
    have hn1 : (x :: l1).Nodup := pe.nodup_iff.mp (flip_nodup hn)
    by_cases h2 : b ∈ l
    · have hb1 : b ∈ x :: l1 := pe.mem_iff.mp ((flip_mem hn).mpr (.inl ⟨h2, Ne.symm hab⟩))
      have pe2 : (flip (flip l a) b).Perm ((x :: l1).erase b) := by
        have : b ∈ flip l a := pe.mem_iff.mpr hb1
        rw [show flip (flip l a) b = (flip l a).erase b from if_pos this]
        exact pe.erase b
      rcases List.mem_cons.mp hb1 with e | hb2
      · subst e
        rw [List.erase_cons_head] at pe2
        exact ⟨c1, q1.perm pe2.symm, by omega⟩
      · obtain ⟨y, l2, c2, p2, q2, e2⟩ := q1.mate M.symm hb2
        have hy : y < n := hl y (p1.mem_iff.mpr (by simp [p2.mem_iff.mpr (show y ∈ b :: y :: l2 by simp)]))
        have hbx : b ≠ x := fun e => (List.nodup_cons.mp hn1).1 (e ▸ hb2)
        refine ⟨c2 + d x y, .cons ?_ q2, ?_⟩
        · refine pe2.trans ?_
          rw [List.erase_cons_tail (by simpa using fun e => hbx e.symm)]
          have := p2.erase b
          rw [List.erase_cons_head] at this
          exact this.cons x
        · have t1 := M.tri x a y hx ha hy
          have t2 := M.tri a b y ha hb hy
          have s1 := M.symm x a
          omega
    · have hb1 : b ∉ flip l a := fun z => by
        rcases (flip_mem hn).mp z with ⟨z, _⟩ | ⟨z, _⟩
        · exact h2 z
        · exact hab z.symm
      refine ⟨c1 + d b x, .cons (a := b) (b := x) (l' := l1) ?_ q1, ?_⟩
      · rw [show flip (flip l a) b = b :: flip l a from if_neg hb1]
        exact pe.cons b
      · have t1 := M.tri b a x hb ha hx
        have s1 := M.symm b a
        omega
  · have hn2 : (a :: l).Nodup := List.nodup_cons.mpr ⟨h1, hn⟩
    have pe : flip l a = a :: l := if_neg h1
    by_cases h2 : b ∈ l
    · obtain ⟨x, l1, c1, p1, q1, e1⟩ := h.mate M.symm h2
      have hx : x < n := hl x (p1.mem_iff.mpr (by simp))
      refine ⟨c1 + d a x, .cons (a := a) (b := x) (l' := l1) ?_ q1, ?_⟩
      · rw [pe, show flip (a :: l) b = (a :: l).erase b from if_pos (by simp [h2]), List.erase_cons_tail (by simpa using hab)]
        have := p1.erase b
        rw [List.erase_cons_head] at this
        exact this.cons a
      · have t1 := M.tri a b x ha hb hx
        omega
    · refine ⟨c + d a b, .cons (a := a) (b := b) (l' := l) ?_ h, Nat.le_refl _⟩
      rw [pe, show flip (a :: l) b = b :: a :: l from if_neg (by simp [h2, Ne.symm hab])]
      exact .swap _ _ _
end
/-! ### least lengths -/
theorem least_nat {P : Nat → Prop} : ∀ m, P m → ∃ k, P k ∧ ∀ j, P j → k ≤ j
  | m, h => by
    by_cases hx : ∃ j, P j ∧ j < m
    · obtain ⟨j, hj, hlt⟩ := hx
      exact least_nat j hj
    · exact ⟨m, h, fun j hj => by
        rcases Nat.lt_or_ge j m with h2 | h2
        · exact absurd ⟨j, hj, h2⟩ hx
        · exact h2⟩
  termination_by m => m
def IsDist (L : Lk) (a b y : Nat) : Prop := Wk L a b y ∧ ∀ l, Wk L a b l → y ≤ l
noncomputable def dist (L : Lk) (a b : Nat) : Nat := @Classical.epsilon Nat ⟨0⟩ fun y => IsDist L a b y
theorem dist_ok {L : Lk} {a b l : Nat} (h : Wk L a b l) : IsDist L a b (dist L a b) := by
  obtain ⟨y, h1, h2⟩ := least_nat (P := fun y => Wk L a b y) l h
  exact @Classical.epsilon_spec_aux Nat ⟨0⟩ (fun y => IsDist L a b y) ⟨y, h1, h2⟩
theorem IsDist.eq {L : Lk} {a b y z : Nat} (h : IsDist L a b y) (k : IsDist L a b z) : y = z := Nat.le_antisymm (h.2 _ k.1) (k.2 _ h.1)
theorem IsDist.symm {L : Lk} {a b y : Nat} (h : IsDist L a b y) : IsDist L b a y := ⟨h.1.symm, fun l hl => h.2 l hl.symm⟩
theorem dist_symm (L : Lk) (a b : Nat) : dist L a b = dist L b a := by
  unfold dist
  congr 1
  funext y
  exact propext ⟨fun h => h.symm, fun h => h.symm⟩
theorem FareOk.isd {n s : Nat} {L : Lk} {far via : Nat → Option Nat} {rk : Nat → Nat} (h : FareOk n L s far via rk) {r y : Nat} (hy : far r = some y) : dist L s r = y := by
  have hw := h.wk hy
  have k : IsDist L s r y := ⟨hw, fun l hl => by
    obtain ⟨z, hz, hle⟩ := h.le hl h.s0
    rw [hy] at hz
    cases hz
    omega⟩
  exact (dist_ok hw).eq k
theorem WholeL.wk {L : Lk} {n : Nat} (h : WholeL L n) {r : Nat} (hr : r < n) : ∃ l, Wk L 0 r l := by
  haveI : ∀ r, Decidable (∃ l, Wk L 0 r l) := fun _ => Classical.propDecidable _
  have := h (fun r => decide (∃ l, Wk L 0 r l)) (decide_eq_true ⟨0, .refl 0⟩) (fun k hk => by
    have e : (∃ l, Wk L 0 (lka L k) l) ↔ (∃ l, Wk L 0 (lkb L k) l) := ⟨fun ⟨l, hl⟩ => ⟨_, .step hl hk (.inl ⟨rfl, rfl⟩)⟩, fun ⟨l, hl⟩ => ⟨_, .step hl hk (.inr ⟨rfl, rfl⟩)⟩⟩
    show decide _ = decide _
    by_cases h1 : ∃ l, Wk L 0 (lka L k) l
    · rw [decide_eq_true h1, decide_eq_true (e.mp h1)]
    · rw [decide_eq_false h1, decide_eq_false (fun z => h1 (e.mpr z))]) r hr
  exact of_decide_eq_true this
theorem WholeL.wk2 {L : Lk} {n : Nat} (h : WholeL L n) {a b : Nat} (ha : a < n) (hb : b < n) : ∃ l, Wk L a b l := by
  obtain ⟨l, hl⟩ := h.wk ha
  obtain ⟨m, hm⟩ := h.wk hb
  exact ⟨_, hl.symm.trans hm⟩
theorem WholeL.met {L : Lk} {n : Nat} (h : WholeL L n) : Met (dist L) n := ⟨fun x y => dist_symm L x y, fun x y z hx hy hz => by
  obtain ⟨l, hl⟩ := h.wk2 hx hy
  obtain ⟨m, hm⟩ := h.wk2 hy hz
  have a := dist_ok hl
  have b := dist_ok hm
  have := a.1.trans b.1
  exact (dist_ok this).2 _ this⟩
/-! ### sets of links -/
def oddL (L : Lk) (u : Nat) : Nat → Nat
  | 0 => 0
  | k + 1 => if u.testBit k = true then oddL L u k ^^^ 2 ^ lka L k ^^^ 2 ^ lkb L k else oddL L u k
def lcost (L : Lk) (u : Nat) : Nat → Nat
  | 0 => 0
  | k + 1 => if u.testBit k = true then lcost L u k + lkw L k else lcost L u k
/-- the rooms of a mask, as a list -/
def ML (l : List Nat) (m : Nat) : Prop := l.Nodup ∧ ∀ q, q ∈ l ↔ m.testBit q = true
theorem ML.perm {l l' : List Nat} {m : Nat} (h : ML l m) (h' : ML l' m) : l.Perm l' := perm_of_nodup h.1 h'.1 fun a => (h.2 a).trans (h'.2 a).symm
theorem ML.zero : ML [] 0 := ⟨List.nodup_nil, fun q => by simp⟩
theorem ML.flip {l : List Nat} {m a : Nat} (h : ML l m) : ML (Sf.flip l a) (m ^^^ 2 ^ a) := by
  refine ⟨flip_nodup h.1, fun q => ?_⟩
  rw [flip_mem h.1, Nat.testBit_xor, Nat.testBit_two_pow, h.2, h.2]
  by_cases e : a = q
  · subst e
    rw [decide_eq_true rfl]
    cases m.testBit a <;> simp
  · rw [decide_eq_false e]
    cases m.testBit q <;> simp [Ne.symm e]
/-- each set of links costs no less than some pairing of its odd ends -/
theorem join_ge {L : Lk} {n : Nat} (hw : WholeL L n) (hb : ∀ k, k < L.length → lka L k < n ∧ lkb L k < n) (u : Nat) : ∀ k, k ≤ L.length → ∃ l c, ML l (oddL L u k) ∧ (∀ x ∈ l, x < n) ∧ PL (dist L) l c ∧ c ≤ lcost L u k
  | 0, _ => ⟨[], 0, ML.zero, fun x hx => by simp at hx, .nil, Nat.le_refl _⟩
  | k + 1, hk => by
    obtain ⟨l, c, h1, h2, h3, h4⟩ := join_ge hw hb u k (by omega)
    have hbk := hb k (by omega)
    by_cases hu : u.testBit k = true
    · have e1 : oddL L u (k + 1) = oddL L u k ^^^ 2 ^ lka L k ^^^ 2 ^ lkb L k := if_pos hu
      have e2 : lcost L u (k + 1) = lcost L u k + lkw L k := if_pos hu
      rw [e1, e2]
      by_cases hab : lka L k = lkb L k
      · refine ⟨l, c, ?_, h2, h3, by omega⟩
        rw [hab, Nat.xor_assoc, Nat.xor_self, Nat.xor_zero]
        exact h1
      · obtain ⟨c', h5, h6⟩ := h3.flip2 hw.met h2 h1.1 hbk.1 hbk.2 hab
        refine ⟨_, c', (h1.flip).flip, fun x hx => ?_, h5, ?_⟩
        · rcases (flip_mem (flip_nodup h1.1)).mp hx with ⟨hx, _⟩ | ⟨hx, _⟩
          · rcases (flip_mem h1.1).mp hx with ⟨hx, _⟩ | ⟨hx, _⟩
            · exact h2 x hx
            · rw [hx]; exact hbk.1
          · rw [hx]; exact hbk.2
        · have w : Wk L (lka L k) (lkb L k) (0 + lkw L k) := .step (.refl _) (by omega) (.inl ⟨rfl, rfl⟩)
          have := (dist_ok w).2 _ w
          omega
    · have e1 : oddL L u (k + 1) = oddL L u k := if_neg hu
      have e2 : lcost L u (k + 1) = lcost L u k := if_neg hu
      rw [e1, e2]
      exact ⟨l, c, h1, h2, h3, h4⟩
/-- one link put in or taken out -/
theorem xor5 (t p q r s : Nat) : t ^^^ r ^^^ s ^^^ p ^^^ q = t ^^^ p ^^^ q ^^^ r ^^^ s := Nat.eq_of_testBit_eq fun i => by
  simp only [Nat.testBit_xor]
  cases t.testBit i <;> cases p.testBit i <;> cases q.testBit i <;> cases r.testBit i <;> cases s.testBit i <;> rfl
theorem xor2 (t r s : Nat) : t ^^^ r ^^^ s ^^^ r ^^^ s = t := Nat.eq_of_testBit_eq fun i => by
  simp only [Nat.testBit_xor]
  cases t.testBit i <;> cases r.testBit i <;> cases s.testBit i <;> rfl
theorem oddL_flip (L : Lk) (u j : Nat) : ∀ k, oddL L (u ^^^ 2 ^ j) k = if j < k then oddL L u k ^^^ 2 ^ lka L j ^^^ 2 ^ lkb L j else oddL L u k
  | 0 => by rw [if_neg (by omega)]; rfl
  | k + 1 => by
    have hb : (u ^^^ 2 ^ j).testBit k = xor (u.testBit k) (decide (j = k)) := by rw [Nat.testBit_xor, Nat.testBit_two_pow]
    have e1 : oddL L (u ^^^ 2 ^ j) (k + 1) = if (u ^^^ 2 ^ j).testBit k = true then oddL L (u ^^^ 2 ^ j) k ^^^ 2 ^ lka L k ^^^ 2 ^ lkb L k else oddL L (u ^^^ 2 ^ j) k := rfl
    have e2 : oddL L u (k + 1) = if u.testBit k = true then oddL L u k ^^^ 2 ^ lka L k ^^^ 2 ^ lkb L k else oddL L u k := rfl
    rw [e1, e2, hb, oddL_flip L u j k]
    by_cases e : j = k
    · subst e
      rw [if_neg (Nat.lt_irrefl j), if_pos (Nat.lt_succ_self j), decide_eq_true rfl]
      cases u.testBit j with
      | false => rfl
      | true => exact (xor2 _ _ _).symm
    · rw [decide_eq_false e, Bool.xor_false]
      by_cases hk : j < k
      · rw [if_pos hk, if_pos (show j < k + 1 by omega)]
        split
        · exact xor5 _ _ _ _ _
        · rfl
      · rw [if_neg hk, if_neg (show ¬ j < k + 1 by omega)]
theorem lcost_flip (L : Lk) (u j : Nat) : ∀ k, lcost L (u ^^^ 2 ^ j) k ≤ lcost L u k + (if j < k then lkw L j else 0)
  | 0 => Nat.zero_le _
  | k + 1 => by
    have hb : (u ^^^ 2 ^ j).testBit k = xor (u.testBit k) (decide (j = k)) := by rw [Nat.testBit_xor, Nat.testBit_two_pow]
    have ih := lcost_flip L u j k
    have e1 : lcost L (u ^^^ 2 ^ j) (k + 1) = if (u ^^^ 2 ^ j).testBit k = true then lcost L (u ^^^ 2 ^ j) k + lkw L k else lcost L (u ^^^ 2 ^ j) k := rfl
    have e2 : lcost L u (k + 1) = if u.testBit k = true then lcost L u k + lkw L k else lcost L u k := rfl
    rw [e1, e2, hb]
    by_cases e : j = k
    · subst e
      rw [if_neg (Nat.lt_irrefl j)] at ih
      rw [decide_eq_true rfl, if_pos (Nat.lt_succ_self j)]
      cases u.testBit j with
      | false => show lcost L (u ^^^ 2 ^ j) j + lkw L j ≤ lcost L u j + lkw L j; omega
      | true => show lcost L (u ^^^ 2 ^ j) j ≤ lcost L u j + lkw L j + lkw L j; omega
    · rw [decide_eq_false e, Bool.xor_false]
      by_cases hk : j < k
      · rw [if_pos hk] at ih
        rw [if_pos (show j < k + 1 by omega)]
        split <;> omega
      · rw [if_neg hk] at ih
        rw [if_neg (show ¬ j < k + 1 by omega)]
        split <;> omega

/-! ### bits of a set, ascending -/
def bl (x k : Nat) : List Nat := (List.range k).filter fun q => x.testBit q
theorem bl_succ (x k : Nat) : bl x (k + 1) = if x.testBit k = true then bl x k ++ [k] else bl x k := by
  unfold bl
  rw [List.range_succ, List.filter_append]
  split
  · rename_i h; rw [List.filter_cons_of_pos h, List.filter_nil]
  · rename_i h; rw [List.filter_cons_of_neg h, List.filter_nil, List.append_nil]
theorem bl_len (x k : Nat) : (bl x k).length ≤ k := by
  unfold bl
  have := List.length_filter_le (fun q => x.testBit q) (List.range k)
  rw [List.length_range] at this
  exact this
theorem bl_sorted (x k : Nat) : (bl x k).Pairwise (· < ·) := (List.pairwise_lt_range (n := k)).filter _
theorem bl_mem {x n q : Nat} (h : x < 2 ^ n) : q ∈ bl x n ↔ x.testBit q = true := by
  unfold bl
  rw [List.mem_filter, List.mem_range]
  refine ⟨fun h => h.2, fun hb => ⟨?_, hb⟩⟩
  rcases Nat.lt_or_ge q n with h1 | h1
  · exact h1
  · have := Nat.testBit_lt_two_pow (Nat.lt_of_lt_of_le h (Nat.pow_le_pow_right (by decide) h1))
    rw [this] at hb
    cases hb
theorem bl_ml {x n : Nat} (h : x < 2 ^ n) : ML (bl x n) x := ⟨(List.nodup_range).filter _, fun _ => bl_mem h⟩
theorem shr_zero {x n k : Nat} (h : x < 2 ^ n) (hk : n ≤ k) : x >>> k = 0 := by
  rw [Nat.shiftRight_eq_div_pow]
  exact Nat.div_eq_of_lt (Nat.lt_of_lt_of_le h (Nat.pow_le_pow_right (by decide) hk))
theorem bl_done {x k : Nat} (h : x >>> k = 0) : x < 2 ^ k := by
  rw [Nat.shiftRight_eq_div_pow] at h
  exact (Nat.div_eq_zero_iff_lt (Nat.two_pow_pos k)).mp h
theorem bl_eq {x n m : Nat} (h : x < 2 ^ n) (h2 : x < 2 ^ m) : bl x n = bl x m := by
  exact sorted_eq (bl_sorted x n) (bl_sorted x m) fun a => (bl_mem h).trans (bl_mem h2).symm
theorem nat_zero : ∀ z : Nat, ¬ (0 < (z : Int)) → z = 0 := fun z h => by omega
section
variable {P : Program} {w : World} {K : PySem.W.Frag} {mg : Str → Option Value} {base : Heap}
end

theorem ml_len {l l' : List Nat} {g : Nat} (h : ML l g) (h' : ML l' g) : l.length = l'.length := (h.perm h').length_eq
theorem lcost_le {L : Lk} {B : Nat} (h : ∀ k, lkw L k ≤ B) (U : Nat) : ∀ k, lcost L U k ≤ k * B
  | 0 => by show 0 ≤ _; omega
  | k + 1 => by
    have := lcost_le h U k
    have := h k
    unfold lcost
    rw [Nat.succ_mul]
    split <;> omega

/-! ### how many bits -/
def cnt (m : Nat) : Nat → Nat
  | 0 => 0
  | n + 1 => cnt m n + (m.testBit n).toNat
theorem cnt_congr {m k : Nat} : ∀ n, (∀ i, i < n → m.testBit i = k.testBit i) → cnt m n = cnt k n
  | 0, _ => rfl
  | n + 1, h => by
    unfold cnt
    rw [cnt_congr n fun i hi => h i (by omega), h n (by omega)]
theorem cnt_flip {m k a : Nat} : ∀ n, a < n → (∀ i, i ≠ a → m.testBit i = k.testBit i) → m.testBit a = false → k.testBit a = true → cnt k n = cnt m n + 1
  | 0, h, _, _, _ => absurd h (by omega)
  | n + 1, h, he, h0, h1 => by
    unfold cnt
    by_cases e : a = n
    · subst e
      rw [cnt_congr a fun i hi => he i (by omega), h0, h1]
      simp
    · rw [cnt_flip n (by omega) he h0 h1, he n (fun z => e z.symm)]
      omega
theorem cnt_zero : ∀ n, cnt 0 n = 0
  | 0 => rfl
  | n + 1 => by unfold cnt; rw [cnt_zero n]; simp
theorem cnt_full (N : Nat) : ∀ n, n ≤ N → cnt (2 ^ N - 1) n = n
  | 0, _ => rfl
  | n + 1, h => by
    unfold cnt
    rw [cnt_full N n (by omega), Nat.testBit_two_pow_sub_one]
    simp
    omega
/-- the least bit taken out -/
theorem low_out {m : Nat} (h : 0 < m) : ∃ a, m.testBit a = true ∧ (m &&& (m - 1)).testBit a = false ∧ (∀ i, i ≠ a → (m &&& (m - 1)).testBit i = m.testBit i) := by
  obtain ⟨a, q, e, ho⟩ : ∃ a q, m = (2 * q + 1) * 2 ^ a ∧ True := by
    induction m using Nat.strongRecOn with
    | _ m ih =>
      by_cases hm : m % 2 = 1
      · exact ⟨0, m / 2, by omega, True.intro⟩
      · obtain ⟨a, q, e, _⟩ := ih (m / 2) (by omega) (by omega)
        exact ⟨a + 1, q, by rw [Nat.pow_succ, ← Nat.mul_assoc, ← e]; omega, True.intro⟩
  have hp : 0 < 2 ^ a := Nat.two_pow_pos a
  have e1 : m = 2 ^ a * (2 * q) + 2 ^ a := by rw [e]; rw [Nat.mul_comm]; rw [Nat.mul_add, Nat.mul_one]
  have e2 : m - 1 = 2 ^ a * (2 * q) + (2 ^ a - 1) := by omega
  have b1 : ∀ i, m.testBit i = if i < a then false else (2 * q + 1).testBit (i - a) := fun i => by
    rw [e, Nat.mul_comm, Nat.testBit_two_pow_mul]
    by_cases h : i < a
    · rw [if_pos h]; simp; omega
    · rw [if_neg h]; simp; omega
  have b2 : ∀ i, (m - 1).testBit i = if i < a then true else (2 * q).testBit (i - a) := fun i => by
    rw [e2, Nat.testBit_two_pow_mul_add _ (by omega)]
    by_cases h : i < a
    · rw [if_pos h, if_pos h, Nat.testBit_two_pow_sub_one]; simp [h]
    · rw [if_neg h, if_neg h]
  refine ⟨a, ?_, ?_, fun i hi => ?_⟩
  · rw [b1, if_neg (by omega), Nat.sub_self, Nat.testBit_zero]; simp
  · rw [Nat.testBit_and, b2, if_neg (by omega), Nat.sub_self, Nat.testBit_zero]; simp
  · rw [Nat.testBit_and, b1, b2]
    by_cases h : i < a
    · rw [if_pos h]; simp
    · rw [if_neg h, if_neg h]
      obtain ⟨j, hj⟩ : ∃ j, i - a = j + 1 := ⟨i - a - 1, by omega⟩
      rw [hj, Nat.testBit_succ, Nat.testBit_succ, show (2 * q + 1) / 2 = q by omega, show 2 * q / 2 = q by omega]
      simp
theorem low_cnt {m : Nat} (h : 0 < m) (hb : m < 2 ^ 80) : cnt (m &&& (m - 1)) 80 + 1 = cnt m 80 ∧ (m &&& (m - 1)) < m := by
  obtain ⟨a, h1, h2, h3⟩ := low_out h
  have ha : a < 80 := Nat.lt_of_not_le fun z => by
    rw [Nat.testBit_lt_two_pow (Nat.lt_of_lt_of_le hb (Nat.pow_le_pow_right (by decide) z))] at h1
    cases h1
  refine ⟨(cnt_flip 80 ha (fun i hi => h3 i hi) h2 h1).symm, ?_⟩
  have := Nat.and_le_right (n := m) (m := m - 1)
  omega
theorem bl_cnt (x : Nat) : ∀ k, (bl x k).length = cnt x k
  | 0 => rfl
  | k + 1 => by
    rw [bl_succ]
    show _ = cnt x k + (x.testBit k).toNat
    cases h : x.testBit k with
    | true => simp [bl_cnt x k]
    | false => simp [bl_cnt x k]
theorem ml_cnt {l : List Nat} {x : Nat} (h : ML l x) (hx : x < 2 ^ 80) : l.length = cnt x 80 := by
  rw [ml_len h (bl_ml hx), bl_cnt]
section
variable {P : Program} {w : World} {K : PySem.W.Frag} {mg : Str → Option Value} {base : Heap}
def spOnes : Sp := fun vs H Q _ => ∃ m : Nat, vs = [.int m] ∧ m < 2 ^ 80 ∧ Q (.int (cnt m 80 : Nat)) H
theorem ok_ones {f : Addr} {fd : FuncData} (F : Fun K "ones" "ones" s_ones f fd) (gf : mg "ones" = some (.ref f)) (B : Bl mg) : Has P w K mg base CX0 1 "ones" ["mask"] spOnes := by
  refine Has.mk' F gf (F.binds (ps := ["mask"]) fun _ _ _ _ _ _ us hl => match us, hl with | [_], _ => rfl) sc_ones (by walk_at "len") (fun cdv A outer s H vs Q E hr h => ?_)
  obtain ⟨m, rfl, hm, q⟩ := h
  refine ⟨_, (pss_cons (ps_set (i := 1) sc_ones.nd rfl (.inl rfl) pe_int)
 (pss_cons (ps_while PassesOwn.never (pt_cmpR op_gt (pv 0) pe_int (nomark _)) (pss_cons (ps_set (i := 0) sc_ones.nd rfl (.inl rfl) (pe_op op_and (pv 0) (pe_op op_sub (pv 0) pe_int)))
 (pss_one (ps_aug (i := 1) sc_ones.nd rfl (.inl rfl) pe_int ip_add))))
 (pss_one (ps_ret (pv 1))))), ?_⟩
  walk_at "sts"
  refine ⟨fun k σ H' => ∃ c : Nat, σ = [some (.int k), some (.int c)] ∧ H' = H ∧ k < 2 ^ 80 ∧ c + cnt k 80 = cnt m 80, ⟨m, 0, rfl, rfl, hm, by omega⟩, ?_⟩
  rintro k σ H' ⟨c, rfl, rfl, hk, hc⟩
  walk_at "sts"
  refine ifd (fun h0 => w_wt ?_) (fun h0 => ?_)
  · obtain ⟨l1, l2⟩ := low_cnt (m := k) (by omega) hk
    walk_at "sts"
    rw [show (k : Int) - 1 = ((k - 1 : Nat) : Int) by omega, and_nat, show (c : Int) + 1 = ((c + 1 : Nat) : Int) by omega]
    exact ⟨_, l2, _, rfl, rfl, by omega, by omega⟩
  · walk_at "sts"
    have : k = 0 := by omega
    subst this
    rw [cnt_zero] at hc
    have : c = cnt m 80 := by omega
    subst this
    exact q
def spOddM : Sp := fun vs H Q _ => ∃ m : Nat, vs = [.int m] ∧ m < 2 ^ 80 ∧ Q (.int ((cnt m 80 : Nat) % 2)) H
theorem ok_odd {f : Addr} {fd : FuncData} (F : Fun K "odd" "odd" s_odd f fd) (gf : mg "odd" = some (.ref f)) (B : Bl mg) (h_ones : Has P w K mg base CX0 1 "ones" ["mask"] spOnes) : Has P w K mg base CX0 2 "odd" ["mask"] spOddM := by
  refine Has.mk' F gf (F.binds (ps := ["mask"]) fun _ _ _ _ _ _ us hl => match us, hl with | [_], _ => rfl) sc_odd (by walk_at "len") (fun cdv A outer s H vs Q E hr h => ?_)
  obtain ⟨m, rfl, hm, q⟩ := h
  refine ⟨_, (pss_one (ps_ret (pe_op op_and (pe_fn h_ones (hr.mono (by decide)) (by rfl) (pa_cons (pv 0) pa_nil)) pe_int))), ?_⟩
  walk_at "sts"
  refine ⟨m, rfl, hm, ?_⟩
  walk_at "sts"
  rw [and_one _ (Int.natCast_nonneg _)]
  exact q
end

/-! ### a made list of links -/
def LkAt (K : PySem.W.Frag) (H : Hp) (p : Addr) (L : Lk) : Prop := ∃ xs, H p = some (.lst xs) ∧ DpAll K (wo H p) xs (L.map dLk)
theorem LkAt.dp {K : PySem.W.Frag} {H : Hp} {p : Addr} {L : Lk} (h : LkAt K H p L) : Dp K H (.ref p) (dLks L) := by
  obtain ⟨xs, h1, h2⟩ := h
  exact .lst (SqL.of h1) (h2.same wo_same)

section
variable {P : Program} {w : World} {K : PySem.W.Frag} {mg : Str → Option Value} {base : Heap}
def spOddEnds (K : PySem.W.Frag) : Sp := fun vs H Q _ => ∃ (p : Addr) (u : Nat) (L : Lk), vs = [.ref p, .int u] ∧ Dp K H (.ref p) (dLks L) ∧ (∀ k, k < L.length → lka L k < 1000 ∧ lkb L k < 1000) ∧ L.length ≤ 1000 ∧ Q (.int (oddL L u L.length : Nat)) H
theorem ok_odd_ends {f : Addr} {fd : FuncData} (F : Fun K "odd_ends" "odd_ends" s_odd_ends f fd) (gf : mg "odd_ends" = some (.ref f)) (B : Bl mg) : Has P w K mg base CX0 1 "odd_ends" ["links", "used"] (spOddEnds K) := by
  refine Has.mk' F gf (F.binds (ps := ["links", "used"]) fun _ _ _ _ _ _ us hl => match us, hl with | [_, _], _ => rfl) sc_odd_ends (by walk_at "len") (fun cdv A outer s H vs Q E hr h => ?_)
  obtain ⟨p, u, L, rfl, hL, hb, hn, q⟩ := h
  obtain ⟨ls, hl, hls⟩ := dpLstA hL
  have hll : ls.length = L.length := by have := dpaLen hls; simpa using this
  refine ⟨_, (pss_cons (ps_set (i := 2) sc_odd_ends.nd rfl (.inl rfl) pe_int)
 (pss_cons (ps_for PassesOwn.never rfl (pi_range1 (by rfl) B.range (pa_cons (pe_callB (call_lenK K) (by rfl) B.len (by decide +kernel) (pa_cons (pv 0) pa_nil)) pa_nil)) (pg_name (i := 3) sc_odd_ends.nd rfl (.inl rfl)) (pss_one (ps_if (pt_cmpR op_eq (pe_op op_and (pe_op op_shr (pv 1) (pv 3)) pe_int) pe_int (nomark _)) (pss_one (ps_set (i := 2) sc_odd_ends.nd rfl (.inl rfl) (pe_op op_xor (pe_op op_xor (pv 2) (pe_op op_shlW pe_int (pe_ix (ix_tupK K) (pe_ix (ix_listK K) (pv 0) (pv 3) (fun _ _ => rfl)) pe_int (fun _ _ => rfl)))) (pe_op op_shlW pe_int (pe_ix (ix_tupK K) (pe_ix (ix_listK K) (pv 0) (pv 3) (fun _ _ => rfl)) pe_int (fun _ _ => rfl)))))) pss_nil)))
 (pss_one (ps_ret (pv 2))))), ?_⟩
  walk_at "sts"
  refine for_r0 (n := L.length) ?_ (fun i σ H' => ∃ (y : Option V), σ = [some (.ref p), some (.int (u : Nat)), some (.int (oddL L u i : Nat)), y] ∧ H' = H) ?_ ?_ ?_
  · rw [hll]
  · exact ⟨_, rfl, rfl⟩
  · rintro i σ H' hi ⟨y, rfl, rfl⟩
    obtain ⟨pk, e1, e2⟩ := dpLkAt hls hi
    obtain ⟨hba, hbb⟩ := hb i hi
    walk_at "sts"
    rw [bit_nat]
    have ho : oddL L u (i + 1) = if u.testBit i = true then oddL L u i ^^^ 2 ^ lka L i ^^^ 2 ^ lkb L i else oddL L u i := rfl
    cases hu : u.testBit i with
    | true =>
      rw [hu, if_pos rfl] at ho
      rw [if_pos (show decide (((true.toNat : Nat) : Int) = 1) = true by decide)]
      walk_at "sts"
      rw [shl_one, shl_one, xor_nat, xor_nat, ← ho]
      exact ⟨_, rfl, rfl⟩
    | false =>
      rw [hu, if_neg (by decide)] at ho
      rw [if_neg (show ¬ decide (((false.toNat : Nat) : Int) = 1) = true by decide)]
      walk_at "sts"
      refine ⟨some (.int (i : Nat)), ?_, rfl⟩
      rw [ho]
      rfl
  · rintro σ H' ⟨y, rfl, rfl⟩
    walk_at "sts"
    exact q
end

/-! ### papers: sets of rooms with prices -/
section
variable {P : Program} {w : World} {K : PySem.W.Frag} {mg : Str → Option Value} {base : Heap}
def dPr (t : Nat × Nat) : PyData := .tuple [.int (t.1 : Nat), .int (t.2 : Nat)]
def dPap (hs : List (Nat × Nat)) : PyData := .list (hs.map dPr)
theorem goodPr (t : Nat × Nat) : Good 1 (dPr t) := goodTup (goodMap (f := PyData.int) (xs := [((t.1 : Nat) : Int), ((t.2 : Nat) : Int)]) fun _ => goodInt)
theorem goodPap (hs : List (Nat × Nat)) : Good 2 (dPap hs) := goodLst (goodMap goodPr)
theorem dpa_pairs {K : PySem.W.Frag} {H : Hp} : ∀ ts : List (Addr × Nat × Nat), (∀ t ∈ ts, SqT K H t.1 [.int (t.2.1 : Nat), .int (t.2.2 : Nat)]) → DpAll K H (ts.map fun t => V.ref t.1) ((ts.map fun t => t.2).map dPr)
  | [], _ => .nil
  | t :: ts, h => .cons (.tup (h t (by simp)) (dpInts [((t.2.1 : Nat) : Int), ((t.2.2 : Nat) : Int)])) (dpa_pairs ts fun u hu => h u (by simp [hu]))
theorem dpPapAt {K : PySem.W.Frag} {H : Hp} {xs : List V} {hs : List (Nat × Nat)} (h : DpAll K H xs (hs.map dPr)) {i : Nat} (hi : i < hs.length) : ∃ p, xs[i]? = some (.ref p) ∧ SqT K H p [.int ((hs.getD i (0, 0)).1 : Nat), .int ((hs.getD i (0, 0)).2 : Nat)] := by
  have e : hs.getD i (0, 0) = hs[i] := by rw [List.getD_eq_getElem?_getD, List.getElem?_eq_getElem hi]; rfl
  obtain ⟨v, h1, h2⟩ := dpaGet (i := i) (d := dPr hs[i]) h (by rw [List.getElem?_map, List.getElem?_eq_getElem hi]; rfl)
  rw [e]
  cases h2 with
  | @tup p xs' _ h3 h4 =>
    refine ⟨p, h1, ?_⟩
    cases h4 with
    | cons a b => cases a; cases b with
      | cons a b => cases a; cases b; exact h3
/-- what a link of these rooms pays -/
def paidX (a b : Nat) (hs : List (Nat × Nat)) : Nat := (hs.map fun t => if t.1.testBit a = t.1.testBit b then 0 else t.2).sum
theorem paidX_snoc (a b : Nat) (hs : List (Nat × Nat)) {i : Nat} (hi : i < hs.length) : paidX a b (hs.take (i + 1)) = paidX a b (hs.take i) + (if (hs.getD i (0, 0)).1.testBit a = (hs.getD i (0, 0)).1.testBit b then 0 else (hs.getD i (0, 0)).2) := by
  unfold paidX
  have e : hs.getD i (0, 0) = hs[i] := by rw [List.getD_eq_getElem?_getD, List.getElem?_eq_getElem hi]; rfl
  rw [List.take_add_one, List.getElem?_eq_getElem hi, Option.toList_some, List.map_append, List.sum_append, e]
  simp
/-- the bits of two rooms -/
theorem xbit (m a b : Nat) : Builtin.bitAnd (((m >>> a ^^^ m >>> b : Nat)) : Int) 1 = (((m.testBit a ^^ m.testBit b).toNat : Nat) : Int) := by
  have h := Nat.testBit_zero (m >>> a ^^^ m >>> b)
  rw [Nat.testBit_xor, Nat.testBit_shiftRight, Nat.testBit_shiftRight, Nat.add_zero, Nat.add_zero] at h
  rw [and_one _ (Int.natCast_nonneg _), h]
  generalize (m >>> a ^^^ m >>> b) = z
  have e : z % 2 = 0 ∨ z % 2 = 1 := by omega
  rcases e with e | e
  · rw [e]; simp; omega
  · rw [e]; simp; omega
def spPaid (K : PySem.W.Frag) : Sp := fun vs H Q _ => ∃ (pl pp : Addr) (a b w : Nat) (hs : List (Nat × Nat)), vs = [.ref pl, .ref pp] ∧ SqT K H pl [.int (a : Nat), .int (b : Nat), .int (w : Nat)] ∧ Dp K H (.ref pp) (dPap hs) ∧ a ≤ 1000 ∧ b ≤ 1000 ∧ hs.length ≤ 10000 ∧ Q (.int (paidX a b hs : Nat)) H
theorem ok_paid {f : Addr} {fd : FuncData} (F : Fun K "paid" "paid" s_paid f fd) (gf : mg "paid" = some (.ref f)) (B : Bl mg) : Has P w K mg base CX0 1 "paid" ["link", "paper"] (spPaid K) := by
  refine Has.mk' F gf (F.binds (ps := ["link", "paper"]) fun _ _ _ _ _ _ us hl => match us, hl with | [_, _], _ => rfl) sc_paid (by walk_at "len") (fun cdv A outer s H vs Q E hr h => ?_)
  obtain ⟨pl, pp, a, b, w, hs, rfl, hl, hp, ha, hb, hn, q⟩ := h
  obtain ⟨xs, hx, hxs⟩ := dpLstA hp
  have hxl : xs.length = hs.length := by have := dpaLen hxs; simpa using this
  refine ⟨_, (pss_cons (ps_set (i := 2) sc_paid.nd rfl (.inl rfl) pe_int)
 (pss_cons (ps_for PassesOwn.never rfl (pi_listK K (pv 1)) (pg_name (i := 3) sc_paid.nd rfl (.inl rfl)) (pss_one (ps_if (pt_cmpR op_eq (pe_op op_and (pe_op op_xor (pe_op op_shr (pe_ix (ix_tupK K) (pv 3) pe_int (fun _ _ => rfl)) (pe_ix (ix_tupK K) (pv 0) pe_int (fun _ _ => rfl))) (pe_op op_shr (pe_ix (ix_tupK K) (pv 3) pe_int (fun _ _ => rfl)) (pe_ix (ix_tupK K) (pv 0) pe_int (fun _ _ => rfl)))) pe_int) pe_int (nomark _)) (pss_one (ps_aug (i := 2) sc_paid.nd rfl (.inl rfl) (pe_ix (ix_tupK K) (pv 3) pe_int (fun _ _ => rfl)) ip_add)) pss_nil)))
 (pss_one (ps_ret (pv 2))))), ?_⟩
  walk_at "sts"
  refine for_list (xs := xs) (fun i σ H' => ∃ (y : Option V), σ = [some (.ref pl), some (.ref pp), some (.int (paidX a b (hs.take i) : Nat)), y] ∧ H' = H) ?_ ?_ ?_ ?_
  · exact ⟨_, rfl, rfl⟩
  · rintro i σ H' _ ⟨y, rfl, rfl⟩
    exact hx
  · rintro i v σ H' hv ⟨y, rfl, rfl⟩
    have hi : i < hs.length := by rw [← hxl]; exact (List.getElem?_eq_some_iff.mp hv).1
    obtain ⟨pk, e1, e2⟩ := dpPapAt hxs hi
    rw [hv] at e1
    cases e1
    rw [paidX_snoc a b hs hi]
    generalize (hs.getD i (0, 0)).1 = m at e2 ⊢
    generalize (hs.getD i (0, 0)).2 = c at e2 ⊢
    walk_at "sts"
    rw [shr_nat, shr_nat, xor_nat, xbit]
    cases hq : (m.testBit a ^^ m.testBit b) with
    | true =>
      have hne : ¬ m.testBit a = m.testBit b := fun e => by rw [e, Bool.xor_self] at hq; cases hq
      rw [if_neg hne]
      rw [if_pos (show decide (((true.toNat : Nat) : Int) = 1) = true by decide)]
      walk_at "sts"
      exact ⟨_, rfl, rfl⟩
    | false =>
      have heq : m.testBit a = m.testBit b := by
        cases h1 : m.testBit a <;> cases h2 : m.testBit b <;> simp_all
      rw [if_pos heq, Nat.add_zero]
      rw [if_neg (show ¬ decide (((false.toNat : Nat) : Int) = 1) = true by decide)]
      walk_at "sts"
      exact ⟨_, rfl, rfl⟩
  · rintro σ H' ⟨y, rfl, rfl⟩
    rw [hxl, List.take_length]
    walk_at "sts"
    exact q
def spCostU (K : PySem.W.Frag) : Sp := fun vs H Q _ => ∃ (p : Addr) (u : Nat) (L : Lk), vs = [.ref p, .int u] ∧ Dp K H (.ref p) (dLks L) ∧ L.length ≤ 1000 ∧ Q (.int (lcost L u L.length : Nat)) H
theorem ok_cost_of {f : Addr} {fd : FuncData} (F : Fun K "cost_of" "cost_of" s_cost_of f fd) (gf : mg "cost_of" = some (.ref f)) (B : Bl mg) : Has P w K mg base CX0 1 "cost_of" ["links", "used"] (spCostU K) := by
  refine Has.mk' F gf (F.binds (ps := ["links", "used"]) fun _ _ _ _ _ _ us hl => match us, hl with | [_, _], _ => rfl) sc_cost_of (by walk_at "len") (fun cdv A outer s H vs Q E hr h => ?_)
  obtain ⟨p, u, L, rfl, hL, hn, q⟩ := h
  obtain ⟨ls, hl, hls⟩ := dpLstA hL
  have hll : ls.length = L.length := by have := dpaLen hls; simpa using this
  refine ⟨_, (pss_cons (ps_set (i := 2) sc_cost_of.nd rfl (.inl rfl) pe_int)
 (pss_cons (ps_for PassesOwn.never rfl (pi_range1 (by rfl) B.range (pa_cons (pe_callB (call_lenK K) (by rfl) B.len (by decide +kernel) (pa_cons (pv 0) pa_nil)) pa_nil)) (pg_name (i := 3) sc_cost_of.nd rfl (.inl rfl)) (pss_one (ps_if (pt_cmpR op_eq (pe_op op_and (pe_op op_shr (pv 1) (pv 3)) pe_int) pe_int (nomark _)) (pss_one (ps_aug (i := 2) sc_cost_of.nd rfl (.inl rfl) (pe_ix (ix_tupK K) (pe_ix (ix_listK K) (pv 0) (pv 3) (fun _ _ => rfl)) pe_int (fun _ _ => rfl)) ip_add)) pss_nil)))
 (pss_one (ps_ret (pv 2))))), ?_⟩
  walk_at "sts"
  refine for_r0 (n := L.length) ?_ (fun i σ H' => ∃ (y : Option V), σ = [some (.ref p), some (.int (u : Nat)), some (.int (lcost L u i : Nat)), y] ∧ H' = H) ?_ ?_ ?_
  · rw [hll]
  · exact ⟨_, rfl, rfl⟩
  · rintro i σ H' hi ⟨y, rfl, rfl⟩
    obtain ⟨pk, e1, e2⟩ := dpLkAt hls hi
    walk_at "sts"
    rw [bit_nat]
    have ho : lcost L u (i + 1) = if u.testBit i = true then lcost L u i + lkw L i else lcost L u i := rfl
    cases hub : u.testBit i with
    | true =>
      rw [hub, if_pos rfl] at ho
      rw [if_pos (show decide (((true.toNat : Nat) : Int) = 1) = true by decide)]
      walk_at "sts"
      rw [ho]
      exact ⟨_, rfl, rfl⟩
    | false =>
      rw [hub, if_neg (by decide)] at ho
      rw [if_neg (show ¬ decide (((false.toNat : Nat) : Int) = 1) = true by decide)]
      walk_at "sts"
      rw [ho]
      exact ⟨_, rfl, rfl⟩
  · rintro σ H' ⟨y, rfl, rfl⟩
    walk_at "sts"
    exact q
end

/-! ### papers of any numbers, examined -/
section
variable {P : Program} {w : World} {K : PySem.W.Frag} {mg : Str → Option Value} {base : Heap}
def dPi (t : Int × Int) : PyData := .tuple [.int t.1, .int t.2]
def dPapI (ps : List (Int × Int)) : PyData := .list (ps.map dPi)
theorem goodPi (t : Int × Int) : Good 1 (dPi t) := goodTup (goodMap (f := PyData.int) (xs := [t.1, t.2]) fun _ => goodInt)
theorem goodPapI (ps : List (Int × Int)) : Good 2 (dPapI ps) := goodLst (goodMap goodPi)
theorem dPiT {H : Hp} {p : Addr} {a b : Int} (h : SqT K H p [.int a, .int b]) : Dp K H (.ref p) (dPi (a, b)) := .tup h (dpInts [a, b])
theorem dpPiOf {H : Hp} {v : V} {t : Int × Int} (h : Dp K H v (dPi t)) : ∃ p, v = .ref p ∧ SqT K H p [.int t.1, .int t.2] := by
  obtain ⟨p, xs, rfl, h1, h2⟩ := dpTup h
  have := dpAll_ints (ns := [t.1, t.2]) h2
  subst this
  exact ⟨p, rfl, h1⟩
def pAt (ps : List (Int × Int)) (i : Nat) : Int × Int := ps.getD i (0, 0)
theorem pAt_get {ps : List (Int × Int)} {i : Nat} (h : i < ps.length) : ps[i]? = some (pAt ps i) := by
  unfold pAt
  rw [List.getD_eq_getElem?_getD, List.getElem?_eq_getElem h]
  rfl
theorem dpPiAt {H : Hp} {xs : List V} {ps : List (Int × Int)} (h : DpAll K H xs (ps.map dPi)) {i : Nat} (hi : i < ps.length) : ∃ p, xs[i]? = some (.ref p) ∧ SqT K H p [.int (pAt ps i).1, .int (pAt ps i).2] := by
  obtain ⟨v, h1, h2⟩ := dpaGet (i := i) (d := dPi (pAt ps i)) h (by rw [List.getElem?_map, pAt_get hi]; rfl)
  obtain ⟨p, rfl, h3⟩ := dpPiOf h2
  exact ⟨p, h1, h3⟩
/-- a pair that stands -/
def GoodP (n x : Nat) (t : Int × Int) : Prop := 0 ≤ t.1 ∧ t.1 < ((2 ^ n : Nat) : Int) ∧ cnt (t.1.toNat &&& x) 80 % 2 = 1 ∧ 1 ≤ t.2
instance (n x : Nat) (t : Int × Int) : Decidable (GoodP n x t) := by unfold GoodP; exact inferInstance
def natP (t : Int × Int) : Nat × Nat := (t.1.toNat, t.2.toNat)
theorem good_nat {n x : Nat} {ps : List (Int × Int)} (h : ∀ t ∈ ps, GoodP n x t) : dPapI ps = dPap (ps.map natP) := by
  unfold dPapI dPap
  rw [List.map_map]
  refine congrArg _ (List.map_congr_left fun t ht => ?_)
  obtain ⟨h1, h2, h3, h4⟩ := h t ht
  show dPi t = dPr (natP t)
  unfold dPi dPr natP
  rw [show ((t.1.toNat : Nat) : Int) = t.1 by omega, show ((t.2.toNat : Nat) : Int) = t.2 by omega]
def ExamOk (n x u : Nat) (L : Lk) (ps : List (Int × Int)) : Prop := u < 2 ^ L.length ∧ oddL L u L.length = x ∧ (∀ t ∈ ps, GoodP n x t) ∧ (∀ k, k < L.length → paidX (lka L k) (lkb L k) (ps.map natP) ≤ 2 * lkw L k) ∧ ((ps.map natP).map fun t => t.2).sum = 2 * lcost L u L.length
theorem shr_int (m : Int) (n : Nat) : decide (m / 2 ^ (Int.toNat ((n : Nat) : Int)) = 0) = decide (0 ≤ m ∧ m < ((2 ^ n : Nat) : Int)) := by
  refine decide_eq_decide.mpr ?_
  have e : (2 : Int) ^ (Int.toNat ((n : Nat) : Int)) = ((2 ^ n : Nat) : Int) := by simp
  rw [e]
  have hp : (0 : Int) < ((2 ^ n : Nat) : Int) := by have := Nat.two_pow_pos n; omega
  constructor
  · intro h
    have h1 := Int.emod_nonneg m (show ((2 ^ n : Nat) : Int) ≠ 0 by omega)
    have h2 := Int.emod_lt_of_pos m hp
    have h3 := Int.emod_add_mul_ediv m ((2 ^ n : Nat) : Int)
    rw [h, Int.mul_zero] at h3
    omega
  · rintro ⟨h1, h2⟩
    exact Int.ediv_eq_zero_of_lt h1 h2
def spStandsD (K : PySem.W.Frag) : Sp := fun vs H Q _ => ∃ (pp : Addr) (n x : Nat) (m c : Int), vs = [.int n, .int x, .ref pp] ∧ SqT K H pp [.int m, .int c] ∧ n ≤ 80 ∧ Q (.bl (decide (GoodP n x (m, c)))) H
theorem ok_stands {f : Addr} {fd : FuncData} (F : Fun K "stands" "stands" s_stands f fd) (gf : mg "stands" = some (.ref f)) (B : Bl mg) (h_odd : Has P w K mg base CX0 2 "odd" ["mask"] spOddM) : Has P w K mg base CX0 3 "stands" ["many", "marks", "pair"] (spStandsD K) := by
  refine Has.mk' F gf (F.binds (ps := ["many", "marks", "pair"]) fun _ _ _ _ _ _ us hl => match us, hl with | [_, _, _], _ => rfl) sc_stands (by walk_at "len") (fun cdv A outer s H vs Q E hr h => ?_)
  obtain ⟨pp, n, x, m, c, rfl, hp, hn, q⟩ := h
  refine ⟨_, (pss_one (ps_ret (pe_and (pe_cmpR op_eq (pe_op op_shr (pe_ix (ix_tupK K) (pv 2) pe_int (fun _ _ => rfl)) (pv 0)) pe_int (nomark _)) (pe_and (pe_cmpR op_eq (pe_fn h_odd (hr.mono (by decide)) (by rfl) (pa_cons (pe_op op_and (pe_ix (ix_tupK K) (pv 2) pe_int (fun _ _ => rfl)) (pv 1)) pa_nil)) pe_int (nomark _)) (pe_one (pe_cmpR op_ge (pe_ix (ix_tupK K) (pv 2) pe_int (fun _ _ => rfl)) pe_int (nomark _))))))), ?_⟩
  walk_at "sts"
  rw [shr_int]
  by_cases hm : 0 ≤ m ∧ m < ((2 ^ n : Nat) : Int)
  · rw [if_pos (decide_eq_true hm)]
    obtain ⟨k, rfl⟩ : ∃ k : Nat, m = (k : Int) := ⟨m.toNat, by omega⟩
    have hk : k < 2 ^ n := by omega
    have hmx : k &&& x < 2 ^ 80 := Nat.lt_of_le_of_lt Nat.and_le_left (Nat.lt_of_lt_of_le hk (Nat.pow_le_pow_right (by decide) hn))
    walk_at "sts"
    rw [and_nat]
    refine ⟨k &&& x, rfl, hmx, ?_⟩
    walk_at "sts"
    have e : decide (GoodP n x ((k : Int), c)) = (decide (((cnt (k &&& x) 80 : Nat) : Int) % 2 = 1) && decide (1 ≤ c)) := by
      rw [← Bool.decide_and]
      refine decide_eq_decide.mpr ⟨fun h => ⟨by have := h.2.2.1; rw [show (((k : Nat) : Int)).toNat = k from rfl] at this; omega, h.2.2.2⟩, fun h => ⟨by omega, hm.2, by rw [show (((k : Nat) : Int)).toNat = k from rfl]; omega, h.2⟩⟩
    rw [e] at q
    refine ifd (fun ho => ?_) (fun ho => ?_)
    · rw [decide_eq_true ho, Bool.true_and] at q
      walk_at "sts"
      exact q
    · rw [decide_eq_false ho, Bool.false_and] at q
      walk_at "sts"
      exact q
  · rw [if_neg (by rw [decide_eq_false hm]; decide)]
    rw [decide_eq_false (show ¬ GoodP n x (m, c) from fun h => hm ⟨h.1, h.2.1⟩)] at q
    walk_at "sts"
    exact q
theorem sum_snd (l : List (Int × Int)) : (∀ t ∈ l, 0 ≤ t.2) → (l.map fun t => t.2).sum = ((((l.map natP).map fun t => t.2).sum : Nat) : Int) := by
  induction l with
  | nil => intro _; rfl
  | cons t l ih =>
    intro h
    have h0 := h t List.mem_cons_self
    rw [List.map_cons, List.sum_cons, List.map_cons, List.map_cons, List.sum_cons, ih fun u hu => h u (List.mem_cons_of_mem _ hu), Int.natCast_add]
    show t.2 + _ = ((t.2.toNat : Nat) : Int) + _
    rw [show ((t.2.toNat : Nat) : Int) = t.2 by omega]
theorem shr_iff (u n : Nat) : decide (((u >>> n : Nat) : Int) = 0) = decide (u < 2 ^ n) := by
  refine decide_eq_decide.mpr ?_
  rw [Nat.shiftRight_eq_div_pow]
  constructor
  · intro h
    have h1 : u / 2 ^ n = 0 := by omega
    exact (Nat.div_eq_zero_iff.mp h1).resolve_left (by have := Nat.two_pow_pos n; omega)
  · intro h
    rw [Nat.div_eq_of_lt h]
    rfl
def spExamD (K : PySem.W.Frag) : Sp := fun vs H Q _ => ∃ (p pp : Addr) (n x u : Nat) (L : Lk) (ps : List (Int × Int)), vs = [.int n, .ref p, .int x, .int u, .ref pp] ∧ Dp K H (.ref p) (dLks L) ∧ Dp K H (.ref pp) (dPapI ps) ∧ (∀ k, k < L.length → lka L k < 1000 ∧ lkb L k < 1000) ∧ n ≤ 80 ∧ L.length ≤ 1000 ∧ ps.length ≤ 10000 ∧ (∀ k, lkw L k ≤ 10 ^ 40) ∧ ∀ b H', (b = true ↔ ExamOk n x u L ps) → Same H H' → Q (.bl b) H'
theorem ok_examined {f : Addr} {fd : FuncData} (F : Fun K "examined" "examined" s_examined f fd) (gf : mg "examined" = some (.ref f)) (B : Bl mg) (h_odd_ends : Has P w K mg base CX0 1 "odd_ends" ["links", "used"] (spOddEnds K)) (h_stands : Has P w K mg base CX0 3 "stands" ["many", "marks", "pair"] (spStandsD K)) (h_paid : Has P w K mg base CX0 1 "paid" ["link", "paper"] (spPaid K)) (h_cost_of : Has P w K mg base CX0 1 "cost_of" ["links", "used"] (spCostU K)) : Has P w K mg base CX0 4 "examined" ["many", "links", "marks", "used", "paper"] (spExamD K) := by
  refine Has.mk' F gf (F.binds (ps := ["many", "links", "marks", "used", "paper"]) fun _ _ _ _ _ _ us hl => match us, hl with | [_, _, _, _, _], _ => rfl) sc_examined (by walk_at "len") (fun cdv A outer s H vs Q E hr h => ?_)
  obtain ⟨p, pp, n, x, u, L, ps, rfl, hL, hp, hb, hn, hll, hhl, hw, q⟩ := h
  obtain ⟨ls, hl, hls⟩ := dpLstA hL
  have hlen : ls.length = L.length := by have := dpaLen hls; simpa using this
  obtain ⟨xs, hx, hxs⟩ := dpLstA hp
  have hxl : xs.length = ps.length := by have := dpaLen hxs; simpa using this
  refine ⟨_, (pss_cons (ps_if (PW.pt (pw_or (pt_cmpR op_ne (pe_op op_shr (pv 3) (pe_callB (call_lenK K) (by rfl) B.len (by decide +kernel) (pa_cons (pv 1) pa_nil))) pe_int (nomark _)) (pw_or1 (pt_cmpR op_ne (pe_fn h_odd_ends (hr.mono (by decide)) (by rfl) (pa_cons (pv 1) (pa_cons (pv 3) pa_nil))) (pv 2) (nomark _))))) (pss_one (ps_ret pe_bl)) pss_nil)
 (pss_cons (ps_for PassesOwn.never rfl (pi_listK K (pv 4)) (pg_name (i := 5) sc_examined.nd rfl (.inl rfl)) (pss_one (ps_if (pt_not (pt_val (pe_fn h_stands (hr.mono (by decide)) (by rfl) (pa_cons (pv 0) (pa_cons (pv 2) (pa_cons (pv 5) pa_nil)))))) (pss_one (ps_ret pe_bl)) pss_nil)))
 (pss_cons (ps_for PassesOwn.never rfl (pi_listK K (pv 1)) (pg_name (i := 6) sc_examined.nd rfl (.inl rfl)) (pss_one (ps_if (pt_cmpR op_gt (pe_fn h_paid (hr.mono (by decide)) (by rfl) (pa_cons (pv 6) (pa_cons (pv 4) pa_nil))) (pe_op op_mulX pe_int (pe_ix (ix_tupK K) (pv 6) pe_int (fun _ _ => rfl))) (nomark _)) (pss_one (ps_ret pe_bl)) pss_nil)))
 (pss_one (ps_ret (pe_cmpR op_eq (pe_callB (cr_sumK K rfl) (by rfl) B.sum (by decide +kernel) (pa_cons (pe_lc (own := [("pair", 5)]) rfl sc_examined.nd (pi_listK K (pv 4)) (blkOk_by (own := [("pair", 5)]) (N := ["many", "links", "marks", "used", "paper", "pair", "link"]) (sc := defScope s_examined) (by decide +kernel)) (fun _ _ _ _ _ => pg_name (i := 5) sc_examined.nd rfl (Or.inl rfl)) (fun _ _ _ _ _ => pts_nil) (fun _ _ _ _ _ => (pe_ix (ix_tupK K) (pv 5) pe_int (fun _ _ => rfl)))) pa_nil)) (pe_op op_mulX pe_int (pe_fn h_cost_of (hr.mono (by decide)) (by rfl) (pa_cons (pv 1) (pa_cons (pv 3) pa_nil)))) (nomark _))))))), ?_⟩
  walk_at "sts"
  rw [hlen, shr_nat, shr_iff]
  refine ifnd (fun hu => ?_) (fun hu => ?_)
  · walk_at "sts"
    exact q false H ⟨fun h => (by cases h), fun h => absurd h.1 hu⟩ (Same.refl _)
  walk_at "sts"
  refine ⟨p, u, L, rfl, hL, hb, hll, ?_⟩
  walk_at "sts"
  refine ifnd (fun ho => ?_) (fun ho => ?_)
  · walk_at "sts"
    exact q false H ⟨fun h => (by cases h), fun h => absurd h.2.1 (by omega)⟩ (Same.refl _)
  have hodd : oddL L u L.length = x := by omega
  walk_at "sts"
  refine for_list (xs := xs) (fun i σ H' => ∃ (y5 : Option V), σ = [some (.int (n : Nat)), some (.ref p), some (.int (x : Nat)), some (.int (u : Nat)), some (.ref pp), y5, none] ∧ H' = H ∧ ∀ j, j < i → GoodP n x (pAt ps j)) ?_ ?_ ?_ ?_
  · exact ⟨_, rfl, rfl, fun j hj => absurd hj (by omega)⟩
  · rintro i σ H' _ ⟨y, rfl, rfl, _⟩
    exact hx
  · rintro i v σ H' hv ⟨y, rfl, rfl, hj⟩
    have hi : i < ps.length := by rw [← hxl]; exact (List.getElem?_eq_some_iff.mp hv).1
    obtain ⟨pk, e1, e2⟩ := dpPiAt hxs hi
    rw [hv] at e1
    cases e1
    walk_at "sts"
    refine ⟨pk, n, x, _, _, rfl, e2, hn, ?_⟩
    walk_at "sts"
    by_cases hg : GoodP n x (pAt ps i)
    · rw [show ((pAt ps i).1, (pAt ps i).2) = pAt ps i from rfl, decide_eq_true hg]
      walk_at "sts"
      refine ⟨_, rfl, rfl, fun j hj2 => ?_⟩
      by_cases e : j = i
      · subst e; exact hg
      · exact hj j (by omega)
    · rw [show ((pAt ps i).1, (pAt ps i).2) = pAt ps i from rfl, decide_eq_false hg]
      walk_at "sts"
      exact q false H' ⟨fun h => (by cases h), fun h => absurd (h.2.2.1 _ (List.mem_of_getElem? (pAt_get hi))) hg⟩ (Same.refl _)
  rintro σ H' ⟨y5, rfl, rfl, hj⟩
  have hst : ∀ t ∈ ps, GoodP n x t := fun t ht => by
    obtain ⟨i, hi, rfl⟩ := List.mem_iff_getElem.mp ht
    have := hj i (by omega)
    have e := pAt_get hi
    rw [List.getElem?_eq_getElem hi] at e
    rw [Option.some.inj e]
    exact this
  have hp' : Dp K H' (.ref pp) (dPap (ps.map natP)) := by rw [← good_nat hst]; exact hp
  walk_at "sts"
  refine for_list (xs := ls) (fun i σ H2 => ∃ (y6 : Option V), σ = [some (.int (n : Nat)), some (.ref p), some (.int (x : Nat)), some (.int (u : Nat)), some (.ref pp), y5, y6] ∧ H2 = H' ∧ ∀ k, k < i → paidX (lka L k) (lkb L k) (ps.map natP) ≤ 2 * lkw L k) ?_ ?_ ?_ ?_
  · exact ⟨_, rfl, rfl, fun j hj => absurd hj (by omega)⟩
  · rintro i σ H' _ ⟨y, rfl, rfl, _⟩
    exact hl
  · rintro i v σ H2 hv ⟨y, rfl, rfl, hk⟩
    have hi : i < L.length := by rw [← hlen]; exact (List.getElem?_eq_some_iff.mp hv).1
    obtain ⟨pk, e1, e2⟩ := dpLkAt hls hi
    rw [hv] at e1
    cases e1
    obtain ⟨b1, b2⟩ := hb i hi
    have hwi := hw i
    walk_at "sts"
    refine ⟨pk, pp, _, _, _, ps.map natP, rfl, e2, hp', by omega, by omega, by rw [List.length_map]; exact hhl, ?_⟩
    walk_at "sts"
    refine ifd (fun hc => ?_) (fun hc => ?_)
    · walk_at "sts"
      exact q false H2 ⟨fun h => (by cases h), fun h => absurd (h.2.2.2.1 i hi) (by omega)⟩ (Same.refl _)
    · walk_at "sts"
      refine ⟨_, rfl, rfl, fun k hk2 => ?_⟩
      by_cases e : k = i
      · subst e; omega
      · exact hk k (by omega)
  rintro σ H2 ⟨y6, rfl, rfl, hk⟩
  rw [hlen] at hk
  walk_at "sts"
  intro D nD
  refine lc_list (xs := xs) (fun i H3 => H3 D = some (.lst (((ps.take i).map fun t => t.2).map V.int)) ∧ Same H2 H3) ?_ ?_ ?_ ?_
  · exact ⟨upd_same, same_upd nD⟩
  · rintro i H3 _ ⟨_, s3⟩
    exact s3.seq hx
  · rintro i v H3 hv ⟨l3, s3⟩
    have hi : i < ps.length := by rw [← hxl]; exact (List.getElem?_eq_some_iff.mp hv).1
    obtain ⟨pk, e1, e2⟩ := dpPiAt hxs hi
    rw [hv] at e1
    cases e1
    have e3 := same_read s3 e2
    walk_at "sts"
    refine ⟨_, l3, szlt (by simp; omega), ?_, s3.mut nD⟩
    have e : pAt ps i = ps[i] := by have := pAt_get hi; rw [List.getElem?_eq_getElem hi] at this; exact (Option.some.inj this).symm
    rw [upd_same, e, List.take_add_one, List.getElem?_eq_getElem hi, Option.toList_some, List.map_append, List.map_append]
    rfl
  rintro H3 ⟨l3, s3⟩
  rw [hxl, List.take_length] at l3
  have hle := lcost_le hw u L.length
  have hle2 : L.length * 10 ^ 40 ≤ 1000 * 10 ^ 40 := Nat.mul_le_mul_right _ hll
  walk_at "sts"
  refine ⟨D, _, rfl, SqL.of l3, ?_⟩
  rw [sum_snd ps fun t ht => by have := (hst t ht).2.2.2; omega]
  walk_at "sts"
  refine ⟨p, u, L, rfl, hL.same s3, hll, ?_⟩
  walk_at "sts"
  refine q _ _ ?_ s3
  rw [decide_eq_true_iff]
  exact ⟨fun h => ⟨hu, hodd, hst, hk, by omega⟩, fun h => by have := h.2.2.2.2; omega⟩
end

section
variable {P : Program} {w : World} {K : PySem.W.Frag} {mg : Str → Option Value} {base : Heap}
def spCell (K : PySem.W.Frag) : Sp := fun vs H Q _ => ∃ (p : Addr) (ns : List Int) (k : Nat), vs = [.ref p, .int k] ∧ SqL K H p (ns.map V.int) ∧ Q (.int (ns.getD k 0)) H
theorem ok_law_cell_at {f : Addr} {fd : FuncData} (F : Fun K "_law_cell_at" "_law_cell_at" s_law_cell_at f fd) (gf : mg "_law_cell_at" = some (.ref f)) (B : Bl mg) : Has P w K mg base CX0 1 "_law_cell_at" ["script", "k"] (spCell K) := by
  refine Has.mk' F gf (F.binds (ps := ["script", "k"]) fun _ _ _ _ _ _ us hl => match us, hl with | [_, _], _ => rfl) sc_law_cell_at (by walk_at "len") (fun cdv A outer s H vs Q E hr h => ?_)
  obtain ⟨p, ns, k, rfl, hp, q⟩ := h
  refine ⟨_, (pss_cons (ps_if (pt_cmpR op_lt (pv 1) (pe_callB (call_lenK K) (by rfl) B.len (by decide +kernel) (pa_cons (pv 0) pa_nil)) (nomark _)) (pss_one (ps_ret (pe_ix (ix_listK K) (pv 0) (pv 1) (fun _ _ => rfl)))) pss_nil)
 (pss_one (ps_ret pe_int))), ?_⟩
  walk_at "sts"
  refine ifd (fun hc => ?_) (fun hc => ?_)
  · rw [List.length_map] at hc
    have e : (ns.map V.int)[k]? = some (.int (ns.getD k 0)) := by
      rw [List.getElem?_map, List.getD_eq_getElem?_getD, List.getElem?_eq_getElem (by omega)]
      rfl
    walk_at "sts"
    exact q
  · rw [List.length_map] at hc
    walk_at "sts"
    rw [List.getD_eq_getElem?_getD, List.getElem?_eq_none (by omega)] at q
    exact q
end

section
variable {P : Program} {w : World} {K : PySem.W.Frag} {mg : Str → Option Value} {base : Heap}
def spLaw (K : PySem.W.Frag) : Sp := fun vs H Q _ => ∃ (a : Addr) (ns : List Int), vs = [.ref a] ∧ LsE K H a (ns.map V.int) ∧ ns.length ≤ 63 ∧ (∀ z ∈ ns, Builtin.Int.intBits z ≤ 1048576) ∧ ∀ H', Q (.bl true) H'
end
theorem modN (z : Int) {n : Nat} (h : 0 < n) : ∃ k : Nat, z % (n : Int) = (k : Int) ∧ k < n := by
  have h1 := Int.emod_nonneg z (show (n : Int) ≠ 0 by omega)
  have h2 := Int.emod_lt_of_pos z (show (0 : Int) < n by omega)
  exact ⟨(z % (n : Int)).toNat, by omega, by omega⟩

theorem cr_sortedPK {X : Cx} (K : PySem.W.Frag) (hK : X.K = K := by rfl) : CallR X (.builtin "sorted") (rSortedP K) := by subst hK; exact cr_sortedP
section
variable {P : Program} {w : World} {K : PySem.W.Frag} {mg : Str → Option Value} {base : Heap}
def spRoomsBy (K : PySem.W.Frag) : Sp := fun vs H Q _ => ∃ (z n : Nat), vs = [.int z, .int n] ∧ z < 10 ^ 30 ∧ n ≤ 20 ∧ ∀ p H' (r : List Nat), Same H H' → New H p → H' p = some (.lst (iv r)) → r.length = n → (∀ x ∈ r, x < n) → Q (.ref p) H'
theorem ok_law_rooms_by {f : Addr} {fd : FuncData} (F : Fun K "_law_rooms_by" "_law_rooms_by" s_law_rooms_by f fd) (gf : mg "_law_rooms_by" = some (.ref f)) (B : Bl mg) : Has P w K mg base CX0 1 "_law_rooms_by" ["cell", "many"] (spRoomsBy K) := by
  refine Has.mk' F gf (F.binds (ps := ["cell", "many"]) fun _ _ _ _ _ _ us hl => match us, hl with | [_, _], _ => rfl) sc_law_rooms_by (by walk_at "len") (fun cdv A outer s H vs Q E hr h => ?_)
  obtain ⟨z, n, rfl, hz, hn, q⟩ := h
  have p30 : (10 : Nat) ^ 30 = 1000000000000000000000000000000 := by decide
  rw [p30] at hz
  refine ⟨_, (pss_cons (ps_setLc (i := 2) (own := [("room", 3)]) rfl sc_law_rooms_by.nd rfl rfl (sw_true rfl rfl rfl (by decide +kernel)) (pi_range1 (by rfl) B.range (pa_cons (pv 1) pa_nil)) (blkOk_by (own := [("room", 3)]) (N := ["cell", "many", "keys", "room", "pair"]) (sc := defScope s_law_rooms_by) (by decide +kernel)) (fun _ _ _ _ _ => pg_name (i := 3) sc_law_rooms_by.nd rfl (Or.inl rfl)) (fun _ _ _ _ _ => pts_nil) (fun _ _ _ _ _ => (pe_tup (pa_cons (pe_op op_mod (pe_op op_add (pe_op op_mulX (pe_op op_mulX (pe_op op_add (pv 3) pe_int) (pe_op op_add (pv 3) pe_int)) pe_int) (pe_op op_mulX (pe_op op_add (pv 3) pe_int) (pv 0))) pe_int) (pa_cons (pv 3) pa_nil)))))
 (pss_one (ps_ret (pe_lc (own := [("pair", 4)]) rfl sc_law_rooms_by.nd (pi_listK K (pe_callB (cr_sortedPK K) (by rfl) B.sorted (by decide +kernel) (pa_cons (pv 2) pa_nil))) (blkOk_by (own := [("pair", 4)]) (N := ["cell", "many", "keys", "room", "pair"]) (sc := defScope s_law_rooms_by) (by decide +kernel)) (fun _ _ _ _ _ => pg_name (i := 4) sc_law_rooms_by.nd rfl (Or.inl rfl)) (fun _ _ _ _ _ => pts_nil) (fun _ _ _ _ _ => (pe_ix (ix_tupK K) (pv 4) pe_int (fun _ _ => rfl))))))), ?_⟩
  walk_at "sts"
  intro D nD
  refine lc_r0 (n := n) rfl (fun i H' => ∃ ts : List (Addr × Int × Nat), H' D = some (.lst (ts.map fun t => V.ref t.1)) ∧ ts.length = i ∧ (∀ t ∈ ts, H' t.1 = some (.tup [.int t.2.1, .int (t.2.2 : Nat)]) ∧ t.2.2 < n) ∧ Same H H') ?_ ?_ ?_
  · exact ⟨[], upd_same, rfl, fun t h => (by cases h), same_upd nD⟩
  · rintro i H' hi ⟨ts, l1, hl, hts, s1⟩
    have h5 : ((i : Int) + 5) * ((i : Int) + 5) = (((i + 5) * (i + 5) : Nat) : Int) := by rw [Int.natCast_mul]; rfl
    have h6 : ((i : Int) + 2) * (z : Int) = (((i + 2) * z : Nat) : Int) := by rw [Int.natCast_mul]; rfl
    have b5 : (i + 5) * (i + 5) ≤ 25 * 25 := Nat.mul_le_mul (by omega) (by omega)
    have b6 : (i + 2) * z ≤ 22 * 1000000000000000000000000000000 := Nat.mul_le_mul (by omega) (by omega)
    walk_at "sts"
    rw [h5]
    walk_at "sts"
    rw [h6]
    refine w_new fun pt npt => ?_
    have t1 := same_upd (o := .tup [.int ((((((i + 5) * (i + 5) : Nat) : Int) * 7919) + (((i + 2) * z : Nat) : Int)) % 1009), .int (i : Nat)]) npt
    have hDp : D ≠ pt := ne_new l1 npt
    refine ⟨_, t1 _ _ l1, szlt (by rw [List.length_map]; omega), ts ++ [(pt, ((((((i + 5) * (i + 5) : Nat) : Int) * 7919) + (((i + 2) * z : Nat) : Int)) % 1009 : Int), i)], by rw [upd_same, List.map_append]; rfl, by rw [List.length_append, hl]; rfl, fun t ht => ?_, (s1.trans t1).mut nD⟩
    rcases List.mem_append.mp ht with ht | ht
    · obtain ⟨a1, a2⟩ := hts t ht
      have hne : D ≠ t.1 := fun e => by rw [← e, l1] at a1; cases a1
      exact ⟨by rw [upd_ne hne.symm]; exact t1 _ _ a1, a2⟩
    · rw [List.mem_singleton.mp ht]
      exact ⟨by rw [upd_ne hDp.symm]; exact upd_same, hi⟩
  rintro H1 ⟨ts, l1, hl, hts, s1⟩
  walk_at "sts"
  refine ⟨D, _, rfl, SqL.of l1, fun x hx => ?_, fun ys p hperm np => ?_⟩
  · obtain ⟨t, ht, rfl⟩ := List.mem_map.mp hx
    exact ⟨t.1, _, _, rfl, (hts t ht).1⟩
  have t2 := same_upd (o := .lst ys) np
  have l2 : upd H1 p (.lst ys) p = some (.lst ys) := upd_same
  have hyl : ys.length = n := by rw [hperm.length_eq, List.length_map, hl]
  generalize upd H1 p (.lst ys) = H2 at t2 l2 ⊢
  walk_at "sts"
  intro D2 nD2
  refine lc_list (xs := ys) (fun i H' => ∃ r : List Nat, H' D2 = some (.lst (iv r)) ∧ r.length = i ∧ (∀ x ∈ r, x < n) ∧ Same H2 H') ?_ ?_ ?_ ?_
  · exact ⟨[], upd_same, rfl, fun t h => (by cases h), same_upd nD2⟩
  · rintro i H' _ ⟨_, _, _, _, s3⟩
    exact SqL.of (s3 _ _ l2)
  · rintro i v H' hv ⟨r, l3, hrl, hrn, s3⟩
    have hi : i < n := by rw [← hyl]; exact (List.getElem?_eq_some_iff.mp hv).1
    obtain ⟨t, ht, rfl⟩ := List.mem_map.mp (hperm.mem_iff.mp (List.mem_of_getElem? hv))
    obtain ⟨a1, a2⟩ := hts t ht
    have a3 := SqT.of (K := K) (s3 _ _ (t2 _ _ a1))
    have hil : (iv r).length = i := by rw [iv_len, hrl]
    walk_at "sts"
    refine ⟨_, l3, szlt (by omega), r ++ [t.2.2], by rw [upd_same, iv_app]; rfl, by rw [List.length_append, hrl]; rfl, fun x hx => ?_, s3.mut nD2⟩
    rcases List.mem_append.mp hx with hx | hx
    · exact hrn x hx
    · rw [List.mem_singleton.mp hx]; exact a2
  rintro H3 ⟨r, l3, hrl, hrn, s3⟩
  walk_at "sts"
  exact q D2 H3 r (s1.trans (t2.trans s3)) (s1.free (t2.free nD2)) l3 (by rw [hrl, hyl]) hrn
end
section
variable {P : Program} {w : World} {K : PySem.W.Frag} {mg : Str → Option Value} {base : Heap}
theorem rg2a : ∀ L : Fin 64, RgC 0 ((L : Nat) : Int) 2 (((L : Nat) + 1) / 2) := by unfold RgC; decide +kernel
theorem rg5a : ∀ L : Fin 64, RgC 5 ((L : Nat) : Int) 2 (if 5 < (L : Nat) then ((L : Nat) - 5 + 1) / 2 else 0) := by unfold RgC; decide +kernel
/-- links that are made of what is there -/
structure LOk (n : Nat) (L : Lk) : Prop where
  b : ∀ k, k < L.length → lka L k < n ∧ lkb L k < n
  w : ∀ k, lkw L k ≤ 10 ^ 40
theorem lk_snoc (L : Lk) (t : Nat × Nat × Nat) (k : Nat) : (L ++ [t]).getD k (0, 0, 0) = if k = L.length then t else L.getD k (0, 0, 0) := by
  rw [List.getD_eq_getElem?_getD, List.getD_eq_getElem?_getD, List.getElem?_append]
  by_cases e : k = L.length
  · subst e; simp
  · by_cases e2 : k < L.length
    · rw [if_pos e2, if_neg e]
    · rw [if_neg e2, if_neg e, List.getElem?_eq_none (by simp; omega), List.getElem?_eq_none (by omega)]
theorem LOk.push {n : Nat} {L : Lk} (h : LOk n L) {a b w : Nat} (ha : a < n) (hb : b < n) (hw : w ≤ 10 ^ 40) : LOk n (L ++ [(a, b, w)]) := by
  refine ⟨fun k hk => ?_, fun k => ?_⟩
  · unfold lka lkb
    rw [lk_snoc]
    by_cases e : k = L.length
    · rw [if_pos e]; exact ⟨ha, hb⟩
    · rw [if_neg e]; exact h.b k (by simp at hk; omega)
  · unfold lkw
    rw [lk_snoc]
    by_cases e : k = L.length
    · rw [if_pos e]; exact hw
    · rw [if_neg e]; exact h.w k
theorem LOk.nil (n : Nat) : LOk n [] := ⟨fun k hk => absurd hk (by simp), fun k => Nat.zero_le _⟩
/-- a link put at the end -/
theorem LkAt.push {H : Hp} {p pt : Addr} {L : Lk} {a b w : Nat} {xs : List V} (h1 : H p = some (.lst xs)) (h2 : DpAll K (wo H p) xs (L.map dLk)) (n : New H pt) : LkAt K (upd (upd H pt (.tup [.int (a : Nat), .int (b : Nat), .int (w : Nat)])) p (.lst (xs ++ [.ref pt]))) p (L ++ [(a, b, w)]) := by
  have hpt : p ≠ pt := ne_new h1 n
  refine ⟨xs ++ [.ref pt], upd_same, ?_⟩
  rw [List.map_append]
  refine dpaApp ?_ (.cons ?_ .nil)
  · rw [wo_eq]
    exact h2.same (wo_mono (same_upd n))
  · refine .tup (xs := [V.int (a : Nat), V.int (b : Nat), V.int (w : Nat)]) (SqT.of ?_) (dpInts [((a : Nat) : Int), ((b : Nat) : Int), ((w : Nat) : Int)])
    refine wo_get ?_ (Ne.symm hpt)
    rw [upd_ne (Ne.symm hpt), upd_same]
def spLinks29 (K : PySem.W.Frag) : Sp := fun vs H Q _ => ∃ (a pr pp : Addr) (ns : List Int) (r : List Nat) (n : Nat) (W : Nat → Nat), vs = [.ref a, .ref pr, .int n, .ref pp] ∧ SqL K H a (ns.map V.int) ∧ ns.length ≤ 63 ∧ SqL K H pr (iv r) ∧ r.length % 2 = 0 ∧ r.length ≤ 20 ∧ (∀ x ∈ r, x < n) ∧ 1 ≤ n ∧ n ≤ 20 ∧ SqL K H pp (iv ((List.range n).map W)) ∧ (∀ i, W i ≤ 10 ^ 31) ∧
  ∀ p H' L, Same H H' → New H p → LkAt K H' p L → LOk n L → L.length ≤ 100 → Q (.ref p) H'
theorem ok_law_links_by {f : Addr} {fd : FuncData} (F : Fun K "_law_links_by" "_law_links_by" s_law_links_by f fd) (gf : mg "_law_links_by" = some (.ref f)) (B : Bl mg) (h_law_cell_at : Has P w K mg base CX0 1 "_law_cell_at" ["script", "k"] (spCell K)) : Has P w K mg base CX0 2 "_law_links_by" ["script", "rooms", "many", "prices"] (spLinks29 K) := by
  refine Has.mk' F gf (F.binds (ps := ["script", "rooms", "many", "prices"]) fun _ _ _ _ _ _ us hl => match us, hl with | [_, _, _, _], _ => rfl) sc_law_links_by (by walk_at "len") (fun cdv A outer s H vs Q E hr h => ?_)
  obtain ⟨a, pr, pp, ns, r, n, W, rfl, hS, hlen, hr', hre, hrl, hrn, hn1, hn2, hpp, hW, q⟩ := h
  refine ⟨_, (pss_cons (ps_set (i := 4) sc_law_links_by.nd rfl (.inl rfl) (pe_lst pa_nil))
 (pss_cons (ps_for PassesOwn.never rfl (pi_range3 (by rfl) B.range (pa_cons pe_int (pa_cons (pe_callB (call_lenK K) (by rfl) B.len (by decide +kernel) (pa_cons (pv 1) pa_nil)) (pa_cons pe_int pa_nil)))) (pg_name (i := 5) sc_law_links_by.nd rfl (.inl rfl)) (pss_one (ps_expr (pe_bmK K (pe_bm PySem.F.plainAttrs_list PySem.F.slot_list_append PySem.F.type_list_append mt_append (pv 4) (pa_cons (pe_tup (pa_cons (pe_ix (ix_listK K) (pv 1) (pv 5) (fun _ _ => rfl)) (pa_cons (pe_ix (ix_listK K) (pv 1) (pe_op op_add (pv 5) pe_int) (fun _ _ => rfl)) (pa_cons (pe_op op_add (pe_ix (ix_listK K) (pv 3) (pe_ix (ix_listK K) (pv 1) (pv 5) (fun _ _ => rfl)) (fun _ _ => rfl)) (pe_ix (ix_listK K) (pv 3) (pe_ix (ix_listK K) (pv 1) (pe_op op_add (pv 5) pe_int) (fun _ _ => rfl)) (fun _ _ => rfl))) pa_nil)))) pa_nil))))))
 (pss_cons (ps_for PassesOwn.never rfl (pi_range3 (by rfl) B.range (pa_cons pe_int (pa_cons (pe_callB (call_min2 rfl) (by rfl) B.min (by decide +kernel) (pa_cons (pe_callB (call_lenK K) (by rfl) B.len (by decide +kernel) (pa_cons (pv 0) pa_nil)) (pa_cons pe_int pa_nil))) (pa_cons pe_int pa_nil)))) (pg_name (i := 5) sc_law_links_by.nd rfl (.inl rfl)) (pss_cons (ps_set (i := 6) sc_law_links_by.nd rfl (.inl rfl) (pe_op op_mod (pe_op op_mulX (pe_op op_mod (pe_ix (ix_listK K) (pv 0) (pv 5) (fun _ _ => rfl)) pe_int) pe_int) pe_int))
 (pss_cons (ps_set (i := 7) sc_law_links_by.nd rfl (.inl rfl) (pe_op op_mod (pv 6) (pv 2)))
 (pss_cons (ps_set (i := 8) sc_law_links_by.nd rfl (.inl rfl) (pe_op op_mod (pe_op op_mod (pe_op op_mulX (pv 6) (pv 6)) pe_int) (pv 2)))
 (pss_cons (ps_set (i := 9) sc_law_links_by.nd rfl (.inl rfl) (pe_op op_mulX (pe_op op_mod (pe_op op_fdivW (pe_fn h_law_cell_at (hr.mono (by decide)) (by rfl) (pa_cons (pv 0) (pa_cons (pe_op op_add (pv 5) pe_int) pa_nil))) pe_int) (pe_op op_pow pe_int pe_int)) (pe_op op_mod (pe_fn h_law_cell_at (hr.mono (by decide)) (by rfl) (pa_cons (pv 0) (pa_cons (pe_op op_add (pv 5) pe_int) pa_nil))) pe_int)))
 (pss_one (ps_expr (pe_bmK K (pe_bm PySem.F.plainAttrs_list PySem.F.slot_list_append PySem.F.type_list_append mt_append (pv 4) (pa_cons (pe_tup (pa_cons (pv 7) (pa_cons (pv 8) (pa_cons (pe_op op_add (pe_op op_add (pe_ix (ix_listK K) (pv 3) (pv 7) (fun _ _ => rfl)) (pe_ix (ix_listK K) (pv 3) (pv 8) (fun _ _ => rfl))) (pv 9)) pa_nil)))) pa_nil))))))))))
 (pss_one (ps_ret (pv 4)))))), ?_⟩
  have hWat : ∀ {i : Nat}, i < n → (iv ((List.range n).map W))[i]? = some (.int ((W i : Nat) : Int)) := fun {i} hi => by
    unfold iv
    rw [List.getElem?_map, List.getElem?_map, List.getElem?_range hi]
    rfl
  have p31 : (10 : Nat) ^ 31 = 10000000000000000000000000000000 := by decide
  have p40 : (10 : Nat) ^ 40 = 10000000000000000000000000000000000000000 := by decide
  have hrat : ∀ {i : Nat}, i < r.length → r.getD i 0 < n := fun {i} hi => hrn _ (by rw [List.getD_eq_getElem?_getD, List.getElem?_eq_getElem hi]; exact List.getElem_mem hi)
  walk_at "sts"
  refine w_new fun p np => ?_
  have s0 := same_upd (o := .lst []) np
  walk_at "sts"
  rw [iv_len]
  refine w_r3q (rg2a ⟨r.length, by omega⟩) ?_
  refine for_rangeC (fun i σ H' => ∃ (y5 y6 y7 y8 y9 : Option V) (L : Lk), σ = [some (.ref a), some (.ref pr), some (.int (n : Nat)), some (.ref pp), some (.ref p), y5, y6, y7, y8, y9] ∧ Same H H' ∧ LkAt K H' p L ∧ LOk n L ∧ L.length = i) ?_ ?_ ?_
  · exact ⟨_, _, _, _, _, [], rfl, s0, ⟨[], upd_same, .nil⟩, LOk.nil n, rfl⟩
  · rintro i σ H' hi ⟨y5, y6, y7, y8, y9, L, rfl, s1, ⟨xs, x1, x2⟩, hL, hLl⟩
    have hi2 : 2 * i + 1 < r.length := by have : i < (r.length + 1) / 2 := hi; omega
    have hr1 := s1.seq hr'
    have hp1 := s1.seq hpp
    have hxl : xs.length = L.length := by have := dpaLen x2; simpa using this
    rw [show (0 : Int) + (i : Nat) * 2 = ((2 * i : Nat) : Int) by omega]
    have e1 := iv_at (r := r) (i := 2 * i) (by omega)
    have e2 := iv_at (r := r) (i := 2 * i + 1) (by omega)
    have b1 := hrat (i := 2 * i) (by omega)
    have b2 := hrat (i := 2 * i + 1) (by omega)
    have w1 := hWat b1
    have w2 := hWat b2
    have hw1 := hW (r.getD (2 * i) 0)
    have hw2 := hW (r.getD (2 * i + 1) 0)
    walk_at "sts"
    refine w_new fun pt npt => ?_
    rw [← Int.natCast_add]
    have hpt : p ≠ pt := ne_new x1 npt
    have hsl : xs.length < sizeLine := szlt (by omega)
    walk_at "sts"
    exact ⟨_, _, _, _, _, L ++ [(r.getD (2 * i) 0, r.getD (2 * i + 1) 0, W (r.getD (2 * i) 0) + W (r.getD (2 * i + 1) 0))], rfl, (s1.trans (same_upd npt)).mut np, LkAt.push x1 x2 npt, hL.push b1 b2 (by omega), by rw [List.length_append, hLl]; rfl⟩
  rintro σ H1 ⟨y5, y6, y7, y8, y9, L1, rfl, s1, hA1, hL1, hl1⟩
  have hS1 := s1.seq hS
  walk_at "sts"
  rw [List.length_map]
  rw [show (if (85 : Int) < ((ns.length : Nat) : Int) then (85 : Int) else ((ns.length : Nat) : Int)) = ((ns.length : Nat) : Int) from if_neg (by omega)]
  refine w_r3q (rg5a ⟨ns.length, by omega⟩) ?_
  refine for_rangeC (fun i σ H' => ∃ (y5 y6 y7 y8 y9 : Option V) (L : Lk), σ = [some (.ref a), some (.ref pr), some (.int (n : Nat)), some (.ref pp), some (.ref p), y5, y6, y7, y8, y9] ∧ Same H H' ∧ LkAt K H' p L ∧ LOk n L ∧ L.length ≤ 11 + i) ?_ ?_ ?_
  · exact ⟨_, _, _, _, _, L1, rfl, s1, hA1, hL1, by rw [hl1]; show (r.length + 1) / 2 ≤ 11 + 0; omega⟩
  · rintro i σ H' hi ⟨y5, y6, y7, y8, y9, L, rfl, s2, ⟨xs, x1, x2⟩, hL, hLl⟩
    have hi2 : 5 + 2 * i < ns.length ∧ i ≤ 40 := by
      have h : i < if 5 < ns.length then (ns.length - 5 + 1) / 2 else 0 := hi
      split at h <;> omega
    have hS2 := s2.seq hS
    have hp2 := s2.seq hpp
    have hxl : xs.length = L.length := by have := dpaLen x2; simpa using this
    rw [show (5 : Int) + (i : Nat) * 2 = ((5 + 2 * i : Nat) : Int) by omega]
    have e0 : (ns.map V.int)[5 + 2 * i]? = some (.int (ns.getD (5 + 2 * i) 0)) := by
      rw [List.getElem?_map, List.getD_eq_getElem?_getD, List.getElem?_eq_getElem hi2.1]
      rfl
    generalize ns.getD (5 + 2 * i) 0 = z at e0
    walk_at "sts"
    obtain ⟨one, h1, h1b⟩ := modN (z % 1000000007 * 48271 % 2147483647) (show 0 < n by omega)
    rw [h1]
    obtain ⟨two, h2, h2b⟩ := modN (z % 1000000007 * 48271 % 2147483647 * (z % 1000000007 * 48271 % 2147483647) % 1000003) (show 0 < n by omega)
    rw [h2]
    rw [show (((5 + 2 * i : Nat) : Int) + 1) = ((5 + 2 * i + 1 : Nat) : Int) from rfl]
    have w1 := hWat h1b
    have w2 := hWat h2b
    have hw1 := hW one
    have hw2 := hW two
    refine ⟨a, ns, 5 + 2 * i + 1, rfl, hS2, ?_⟩
    obtain ⟨c, hc⟩ : ∃ c, ns.getD (5 + 2 * i + 1) 0 = c := ⟨_, rfl⟩
    rw [hc]
    walk_at "sts"
    rw [show (10 : Int) ^ Int.toNat 30 = 1000000000000000000000000000000 by decide]
    walk_at "sts"
    refine ⟨a, ns, 5 + 2 * i + 1, rfl, hS2, ?_⟩
    rw [hc]
    walk_at "sts"
    refine w_new fun pt npt => ?_
    obtain ⟨M, hM, hM2⟩ : ∃ M : Nat, c / 2 % 1000000000000000000000000000000 * (c % 2) = (M : Int) ∧ M < 1000000000000000000000000000000 := by
      rcases (by omega : c % 2 = 0 ∨ c % 2 = 1) with e | e
      · rw [e]; exact ⟨0, by omega, by omega⟩
      · rw [e]; exact ⟨(c / 2 % 1000000000000000000000000000000).toNat, by omega, by omega⟩
    rw [hM, ← Int.natCast_add, ← Int.natCast_add]
    have hpt : p ≠ pt := ne_new x1 npt
    have hsl : xs.length < sizeLine := szlt (by omega)
    walk_at "sts"
    exact ⟨_, _, _, _, _, L ++ [(one, two, W one + W two + M)], rfl, (s2.trans (same_upd npt)).mut np, LkAt.push x1 x2 npt, hL.push h1b h2b (by omega), by rw [List.length_append]; show L.length + 1 ≤ 11 + (i + 1); omega⟩
  rintro σ H2 ⟨y5, y6, y7, y8, y9, L, rfl, s2, hA, hL, hl⟩
  walk_at "sts"
  refine q p H2 L s2 np hA hL ?_
  have : (if 5 < ns.length then (ns.length - 5 + 1) / 2 else 0) ≤ 40 := by split <;> omega
  exact Nat.le_trans hl (by show 11 + (if 5 < ns.length then (ns.length - 5 + 1) / 2 else 0) ≤ 100; omega)
def spPaperBy (K : PySem.W.Frag) : Sp := fun vs H Q _ => ∃ (a pr pp : Addr) (ns : List Int) (r : List Nat) (n : Nat) (W : Nat → Nat), vs = [.ref a, .ref pr, .int n, .ref pp] ∧ SqL K H a (ns.map V.int) ∧ SqL K H pr (iv r) ∧ r.length ≤ 20 ∧ (∀ x ∈ r, x < n) ∧ n ≤ 20 ∧ SqL K H pp (iv ((List.range n).map W)) ∧ (∀ i, W i ≤ 10 ^ 31) ∧
  ∀ (p : Addr) (H' : Hp) (ps : List (Int × Int)), Same H H' → New H p → GrD K H' p (ps.map dPi) → ps.length ≤ 40 → Q (.ref p) H'
theorem ok_law_paper_by {f : Addr} {fd : FuncData} (F : Fun K "_law_paper_by" "_law_paper_by" s_law_paper_by f fd) (gf : mg "_law_paper_by" = some (.ref f)) (B : Bl mg) (h_law_cell_at : Has P w K mg base CX0 1 "_law_cell_at" ["script", "k"] (spCell K)) : Has P w K mg base CX0 2 "_law_paper_by" ["script", "rooms", "many", "prices"] (spPaperBy K) := by
  refine Has.mk' F gf (F.binds (ps := ["script", "rooms", "many", "prices"]) fun _ _ _ _ _ _ us hl => match us, hl with | [_, _, _, _], _ => rfl) sc_law_paper_by (by walk_at "len") (fun cdv A outer s H vs Q E hr h => ?_)
  obtain ⟨a, pr, pp, ns, r, n, W, rfl, hS, hr', hrl, hrn, hn2, hpp, hW, q⟩ := h
  refine ⟨_, (pss_cons (ps_set (i := 4) sc_law_paper_by.nd rfl (.inl rfl) (pe_lst pa_nil))
 (pss_cons (ps_for PassesOwn.never rfl (pi_range1 (by rfl) B.range (pa_cons (pe_callB (call_lenK K) (by rfl) B.len (by decide +kernel) (pa_cons (pv 1) pa_nil)) pa_nil)) (pg_name (i := 5) sc_law_paper_by.nd rfl (.inl rfl)) (pss_cons (ps_set (i := 6) sc_law_paper_by.nd rfl (.inl rfl) (pe_fn h_law_cell_at (hr.mono (by decide)) (by rfl) (pa_cons (pv 0) (pa_cons (pe_op op_add pe_int (pe_op op_mulX pe_int (pv 5))) pa_nil))))
 (pss_cons (ps_set (i := 7) sc_law_paper_by.nd rfl (.inl rfl) (pe_op op_shlW pe_int (pe_ix (ix_listK K) (pv 1) (pv 5) (fun _ _ => rfl))))
 (pss_cutX (ps_if (pt_cmpR op_eq (pe_op op_mod (pe_op op_fdivW (pv 6) pe_int) pe_int) pe_int (nomark _)) (pss_one (ps_set (i := 7) sc_law_paper_by.nd rfl (.inl rfl) (pe_op op_xor (pv 7) (pe_op op_sub (pe_op op_shlW pe_int (pv 2)) pe_int)))) pss_nil)
 (pss_cons (ps_set (i := 8) sc_law_paper_by.nd rfl (.inl rfl) (pe_op op_mulX pe_int (pe_ix (ix_listK K) (pv 3) (pe_ix (ix_listK K) (pv 1) (pv 5) (fun _ _ => rfl)) (fun _ _ => rfl))))
 (pss_cutX (ps_if (pt_cmpR op_eq (pe_op op_mod (pe_op op_fdivW (pv 6) pe_int) pe_int) pe_int (nomark _)) (pss_cons (ps_expr (pe_bmK K (pe_bm PySem.F.plainAttrs_list PySem.F.slot_list_append PySem.F.type_list_append mt_append (pv 4) (pa_cons (pe_tup (pa_cons (pv 7) (pa_cons pe_int pa_nil))) pa_nil))))
 (pss_one (ps_set (i := 8) sc_law_paper_by.nd rfl (.inl rfl) (pe_op op_sub (pv 8) pe_int)))) pss_nil)
 (pss_one (ps_expr (pe_bmK K (pe_bm PySem.F.plainAttrs_list PySem.F.slot_list_append PySem.F.type_list_append mt_append (pv 4) (pa_cons (pe_tup (pa_cons (pv 7) (pa_cons (pv 8) pa_nil))) pa_nil)))))))))))
 (pss_one (ps_ret (pv 4))))), ?_⟩
  have hWat : ∀ {i : Nat}, i < n → (iv ((List.range n).map W))[i]? = some (.int ((W i : Nat) : Int)) := fun {i} hi => by
    unfold iv
    rw [List.getElem?_map, List.getElem?_map, List.getElem?_range hi]
    rfl
  have p31 : (10 : Nat) ^ 31 = 10000000000000000000000000000000 := by decide
  have hrat : ∀ {i : Nat}, i < r.length → r.getD i 0 < n := fun {i} hi => hrn _ (by rw [List.getD_eq_getElem?_getD, List.getElem?_eq_getElem hi]; exact List.getElem_mem hi)
  walk_at "sts"
  refine w_new fun p np => ?_
  have s0 := same_upd (o := .lst []) np
  walk_at "sts"
  rw [iv_len]
  refine ⟨by omega, by omega, ?_⟩
  refine for_r0 (n := r.length) rfl (fun i σ H' => ∃ (y5 y6 y7 y8 : Option V) (ps : List (Int × Int)), σ = [some (.ref a), some (.ref pr), some (.int (n : Nat)), some (.ref pp), some (.ref p), y5, y6, y7, y8] ∧ Same H H' ∧ GrD K H' p (ps.map dPi) ∧ ps.length ≤ 2 * i) ?_ ?_ ?_
  · exact ⟨_, _, _, _, [], rfl, s0, GrD.new, Nat.le_refl _⟩
  · rintro i σ H' hi ⟨y5, y6, y7, y8, ps, rfl, s1, hG, hpl⟩
    have hS1 := s1.seq hS
    have hr1 := s1.seq hr'
    have hp1 := s1.seq hpp
    have e1 := iv_at (r := r) (i := i) hi
    have b1 := hrat hi
    have w1 := hWat b1
    have hw1 := hW (r.getD i 0)
    walk_at "sts"
    rw [show ((6 : Int) + 2 * ((i : Nat) : Int)) = ((6 + 2 * i : Nat) : Int) by omega]
    refine ⟨a, ns, 6 + 2 * i, rfl, hS1, ?_⟩
    generalize ns.getD (6 + 2 * i) 0 = c
    walk_at "sts"
    refine w_cut (fun σ' H2 => ∃ mz : Int, σ' = [some (.ref a), some (.ref pr), some (.int (n : Nat)), some (.ref pp), some (.ref p), some (.int (i : Nat)), some (.int c), some (.int mz), y8] ∧ H2 = H') ?_ ?_
    · walk_at "sts"
      refine ifd (fun hc => ?_) (fun hc => ?_)
      · walk_at "sts"
        exact ⟨_, rfl, rfl⟩
      · walk_at "sts"
        exact ⟨_, rfl, rfl⟩
    rintro σ' H2 ⟨mz, rfl, rfl⟩
    walk_at "sts"
    refine w_cut (fun σ' H3 => ∃ (pz : Int) (ps' : List (Int × Int)), σ' = [some (.ref a), some (.ref pr), some (.int (n : Nat)), some (.ref pp), some (.ref p), some (.int (i : Nat)), some (.int c), some (.int mz), some (.int pz)] ∧ Same H H3 ∧ GrD K H3 p (ps'.map dPi) ∧ ps'.length ≤ 2 * i + 1) ?_ ?_
    · walk_at "sts"
      refine ifd (fun hc => ?_) (fun hc => ?_)
      · obtain ⟨xs, x1, x2⟩ := id hG
        have hxl : xs.length = ps.length := by have := dpaLen x2; simpa using this
        have hsl : xs.length < sizeLine := szlt (by omega)
        walk_at "sts"
        refine w_new fun pt npt => ?_
        have hpt : p ≠ pt := ne_new x1 npt
        have t1 := same_upd (o := .tup [.int mz, .int 1]) npt
        walk_at "sts"
        refine ⟨_, ps ++ [(mz, 1)], rfl, (s1.trans t1).mut np, ?_, by rw [List.length_append]; show ps.length + 1 ≤ 2 * i + 1; omega⟩
        rw [List.map_append]
        exact GrD.push x2 t1 (dPiT (SqT.of (wo_get upd_same (Ne.symm hpt))))
      · walk_at "sts"
        exact ⟨_, ps, rfl, s1, hG, by omega⟩
    rintro σ' H3 ⟨pz, ps', rfl, s3, hG3, hpl3⟩
    obtain ⟨xs, x1, x2⟩ := id hG3
    have hxl : xs.length = ps'.length := by have := dpaLen x2; simpa using this
    have hsl : xs.length < sizeLine := szlt (by omega)
    walk_at "sts"
    refine w_new fun pt npt => ?_
    have hpt : p ≠ pt := ne_new x1 npt
    have t1 := same_upd (o := .tup [.int mz, .int pz]) npt
    walk_at "sts"
    refine ⟨_, _, _, _, ps' ++ [(mz, pz)], rfl, (s3.trans t1).mut np, ?_, by rw [List.length_append]; show ps'.length + 1 ≤ 2 * (i + 1); omega⟩
    rw [List.map_append]
    exact GrD.push x2 t1 (dPiT (SqT.of (wo_get upd_same (Ne.symm hpt))))
  · rintro σ H1 ⟨y5, y6, y7, y8, ps, rfl, s1, hG, hpl⟩
    walk_at "sts"
    exact q p H1 ps s1 np hG (by omega)
end
section
variable {P : Program} {w : World} {K : PySem.W.Frag} {mg : Str → Option Value} {base : Heap}
theorem dpaDrop {K : PySem.W.Frag} {H : Hp} : ∀ (c : Nat) {xs : List V} {ds : List PyData}, DpAll K H xs ds → DpAll K H (xs.drop c) (ds.drop c)
  | 0, _, _, h => h
  | c + 1, [], _, h => by cases h; exact .nil
  | c + 1, _ :: _, _, h => by cases h with | cons a b => exact dpaDrop c b
theorem dpaTake {K : PySem.W.Frag} {H : Hp} : ∀ (c : Nat) {xs : List V} {ds : List PyData}, DpAll K H xs ds → DpAll K H (xs.take c) (ds.take c)
  | 0, _, _, h => by rw [List.take_zero, List.take_zero]; exact .nil
  | c + 1, [], _, h => by cases h; exact .nil
  | c + 1, _ :: _, _, h => by cases h with | cons a b => exact .cons a (dpaTake c b)

theorem atI_last {xs : List V} {v : V} (h : 0 < xs.length) (e : xs[xs.length - 1]? = some v) : atI xs (-1) = some v := by
  have h1 : ixN xs.length (-1) = some (xs.length - 1) := by
    unfold ixN
    rw [if_neg (by omega), if_pos (by omega)]
    congr 1
    omega
  unfold atI
  rw [h1]
  exact e
theorem cutV_any (xs : List V) (a b : Option Int) : ∃ i j, cutV xs a b = (xs.drop i).take j := ⟨_, _, rfl⟩
theorem sz60 {n : Nat} (h : n ≤ 60) : n ≤ sizeLine := Nat.le_trans h (by decide)
def spPaperPut (K : PySem.W.Frag) : Sp := fun vs H Q _ => ∃ (pp : Addr) (ps : List (Int × Int)) (way z n x : Nat), vs = [.ref pp, .int way, .int z, .int n, .int x] ∧ GrD K H pp (ps.map dPi) ∧ ps ≠ [] ∧ ps.length ≤ 40 ∧ way < 11 ∧ n ≤ 20 ∧ z < 10 ^ 40 ∧
  ∀ (p : Addr) (H' : Hp) (ps' : List (Int × Int)), Same H H' → New H p → Dp K H' (.ref p) (dPapI ps') → ps'.length ≤ 50 → (∃ xs, H' p = some (.lst xs)) → Q (.ref p) H'
theorem ok_law_paper_put {f : Addr} {fd : FuncData} (F : Fun K "_law_paper_put" "_law_paper_put" s_law_paper_put f fd) (gf : mg "_law_paper_put" = some (.ref f)) (B : Bl mg) : Has P w K mg base CX0 1 "_law_paper_put" ["paper", "way", "cell", "many", "marks"] (spPaperPut K) := by
  refine Has.mk' F gf (F.binds (ps := ["paper", "way", "cell", "many", "marks"]) fun _ _ _ _ _ _ us hl => match us, hl with | [_, _, _, _, _], _ => rfl) sc_law_paper_put (by walk_at "len") (fun cdv A outer s H vs Q E hr h => ?_)
  obtain ⟨pp, ps, way, z, n, x, rfl, ⟨xs, x1, x2⟩, hne, hpl, hw, hn, hz, q⟩ := h
  have hxl : xs.length = ps.length := by have := dpaLen x2; simpa using this
  have hps : 1 ≤ ps.length := by cases ps with | nil => exact absurd rfl hne | cons t l => show 1 ≤ l.length + 1; omega
  obtain ⟨at_, hat, hat2⟩ := modN (z : Int) (show 0 < ps.length by omega)
  obtain ⟨pt, e1, e2⟩ := dpPiAt (x2.same wo_same) hat2
  have p40 : (10 : Nat) ^ 40 = 10000000000000000000000000000000000000000 := by decide
  rw [p40] at hz
  refine ⟨_, (pss_cons (ps_set (i := 5) sc_law_paper_put.nd rfl (.inl rfl) (pe_op op_mod (pv 2) (pe_callB (call_lenK K) (by rfl) B.len (by decide +kernel) (pa_cons (pv 0) pa_nil))))
 (pss_cons (ps_set (i := 6) sc_law_paper_put.nd rfl (.inl rfl) (pe_ix (ix_tupK K) (pe_ix (ix_listK K) (pv 0) (pv 5) (fun _ _ => rfl)) pe_int (fun _ _ => rfl)))
 (pss_cons (ps_set (i := 7) sc_law_paper_put.nd rfl (.inl rfl) (pe_ix (ix_tupK K) (pe_ix (ix_listK K) (pv 0) (pv 5) (fun _ _ => rfl)) pe_int (fun _ _ => rfl)))
 (pss_cons (ps_set (i := 8) sc_law_paper_put.nd rfl (.inl rfl) (pe_lst (pa_cons (pe_tup (pa_cons (pv 6) (pa_cons (pe_op op_add (pv 7) pe_int) pa_nil))) (pa_cons (pe_tup (pa_cons (pv 6) (pa_cons (pe_op op_sub (pv 7) pe_int) pa_nil))) (pa_cons (pe_tup (pa_cons (pv 6) (pa_cons (pe_un un_neg (pe_op op_mod (pe_op op_fdivW (pv 2) pe_int) (pe_op op_pow pe_int pe_int))) pa_nil))) pa_nil)))))
 (pss_cons (ps_set (i := 8) sc_law_paper_put.nd rfl (.inl rfl) (pe_op op_cat (pv 8) (pe_lst (pa_cons (pe_tup (pa_cons (pe_op op_xor (pv 6) (pe_op op_shlW pe_int (pe_op op_mod (pe_op op_fdivW (pv 2) pe_int) (pe_op op_add (pv 3) pe_int)))) (pa_cons (pv 7) pa_nil))) (pa_cons (pe_tup (pa_cons (pe_op op_sub (pe_un un_neg pe_int) (pv 6)) (pa_cons (pv 7) pa_nil))) (pa_cons (pe_tup (pa_cons (pe_op op_xor (pv 6) (pe_op op_sub (pe_op op_shlW pe_int (pv 3)) pe_int)) (pa_cons (pv 7) pa_nil))) pa_nil))))))
 (pss_cons (ps_if (pt_cmpR op_lt (pv 1) pe_int (nomark _)) (pss_one (ps_ret (pe_op op_cat (pe_op op_cat (pe_slice (sl_listK K) (pv 0) po_none (po_some (pv 5))) (pe_lst (pa_cons (pe_ix (ix_listK K) (pv 8) (pv 1) (fun _ _ => rfl)) pa_nil))) (pe_slice (sl_listK K) (pv 0) (po_some (pe_op op_add (pv 5) pe_int)) po_none)))) pss_nil)
 (pss_cons (ps_if (pt_cmpR op_eq (pv 1) pe_int (nomark _)) (pss_one (ps_ret (pe_op op_cat (pe_slice (sl_listK K) (pv 0) po_none (po_some (pv 5))) (pe_slice (sl_listK K) (pv 0) (po_some (pe_op op_add (pv 5) pe_int)) po_none)))) pss_nil)
 (pss_cons (ps_if (pt_cmpR op_eq (pv 1) pe_int (nomark _)) (pss_one (ps_ret (pe_op op_cat (pv 0) (pe_lst (pa_cons (pe_ix (ix_listK K) (pv 0) (pv 5) (fun _ _ => rfl)) pa_nil))))) pss_nil)
 (pss_cons (ps_if (pt_cmpR op_eq (pv 1) pe_int (nomark _)) (pss_one (ps_ret (pe_op op_cat (pe_lst (pa_cons (pe_tup (pa_cons (pe_op op_and (pv 4) (pe_un un_neg (pv 4))) (pa_cons pe_int pa_nil))) pa_nil)) (pv 0)))) pss_nil)
 (pss_cons (ps_set (i := 9) sc_law_paper_put.nd rfl (.inl rfl) (pe_ix (ix_listK K) (pv 0) (pe_un un_neg pe_int) (fun _ _ => rfl)))
 (pss_cons (ps_if (pt_cmpR op_eq (pv 1) pe_int (nomark _)) (pss_one (ps_ret (pe_op op_cat (pe_lst (pa_cons (pe_tup (pa_cons (pe_op op_xor (pe_ix (ix_tupK K) (pe_ix (ix_listK K) (pv 0) pe_int (fun _ _ => rfl)) pe_int (fun _ _ => rfl)) (pe_ix (ix_tupK K) (pv 9) pe_int (fun _ _ => rfl))) (pa_cons (pe_op op_add (pe_ix (ix_tupK K) (pe_ix (ix_listK K) (pv 0) pe_int (fun _ _ => rfl)) pe_int (fun _ _ => rfl)) (pe_ix (ix_tupK K) (pv 9) pe_int (fun _ _ => rfl))) pa_nil))) pa_nil)) (pe_slice (sl_listK K) (pv 0) (po_some pe_int) (po_some (pe_un un_neg pe_int)))))) pss_nil)
 (pss_one (ps_ret (pe_op op_cat (pe_op op_cat (pe_lst (pa_cons (pe_tup (pa_cons (pe_ix (ix_tupK K) (pe_ix (ix_listK K) (pv 0) pe_int (fun _ _ => rfl)) pe_int (fun _ _ => rfl)) (pa_cons (pe_op op_sub (pe_ix (ix_tupK K) (pe_ix (ix_listK K) (pv 0) pe_int (fun _ _ => rfl)) pe_int (fun _ _ => rfl)) pe_int) pa_nil))) pa_nil)) (pe_slice (sl_listK K) (pv 0) (po_some pe_int) (po_some (pe_un un_neg pe_int)))) (pe_lst (pa_cons (pe_tup (pa_cons (pe_ix (ix_tupK K) (pv 9) pe_int (fun _ _ => rfl)) (pa_cons (pe_op op_add (pe_ix (ix_tupK K) (pv 9) pe_int (fun _ _ => rfl)) pe_int) pa_nil))) pa_nil)))))))))))))))), ?_⟩
  walk_at "sts"
  rw [hxl, hat]
  obtain ⟨m, hm⟩ : ∃ m, m = (pAt ps at_).1 := ⟨_, rfl⟩
  obtain ⟨c, hc⟩ : ∃ c, c = (pAt ps at_).2 := ⟨_, rfl⟩
  rw [← hm, ← hc] at e2
  walk_at "sts"
  refine w_new fun f1 n1 => ?_
  walk_at "sts"
  refine w_new fun f2 n2 => ?_
  walk_at "sts"
  rw [show (10 : Int) ^ Int.toNat 30 = 1000000000000000000000000000000 by decide]
  walk_at "sts"
  refine w_new fun f3 n3 => ?_
  have t1 := same_upd (o := .tup [.int m, .int (c + 1)]) n1
  have t2 := same_upd (o := .tup [.int m, .int (c - 1)]) n2
  have t3 := same_upd (o := .tup [.int m, .int (-((z : Int) / 8 % 1000000000000000000000000000000))]) n3
  have d1 := t3 _ _ (t2 _ _ (upd_same (H := H) (a := f1) (o := .tup [.int m, .int (c + 1)])))
  have d2 := t3 _ _ (upd_same (H := upd H f1 (.tup [.int m, .int (c + 1)])) (a := f2) (o := .tup [.int m, .int (c - 1)]))
  have d3 := upd_same (H := upd (upd H f1 (.tup [.int m, .int (c + 1)])) f2 (.tup [.int m, .int (c - 1)])) (a := f3) (o := .tup [.int m, .int (-((z : Int) / 8 % 1000000000000000000000000000000))])
  have s1 := t1.trans (t2.trans t3)
  generalize upd (upd (upd H f1 (.tup [.int m, .int (c + 1)])) f2 (.tup [.int m, .int (c - 1)])) f3 (.tup [.int m, .int (-((z : Int) / 8 % 1000000000000000000000000000000))]) = H1 at d1 d2 d3 s1 ⊢
  generalize -((z : Int) / 8 % 1000000000000000000000000000000) = zz at d3
  clear t1 t2 t3 n1 n2 n3
  walk_at "sts"
  refine w_new fun l1 m1 => ?_
  have u1 := same_upd (o := .lst [.ref f1, .ref f2, .ref f3]) m1
  have k1 := upd_same (H := H1) (a := l1) (o := .lst [.ref f1, .ref f2, .ref f3])
  have d1 := u1 _ _ d1
  have d2 := u1 _ _ d2
  have d3 := u1 _ _ d3
  have s2 := s1.trans u1
  generalize upd H1 l1 (.lst [.ref f1, .ref f2, .ref f3]) = H2 at d1 d2 d3 s2 k1 ⊢
  clear u1 m1
  have x12 := s2 _ _ x1
  walk_at "sts"
  obtain ⟨g, hg, hgb⟩ := modN ((z : Int) / 8) (show 0 < n + 1 by omega)
  rw [show ((n : Nat) : Int) + 1 = ((n + 1 : Nat) : Int) from rfl, hg]
  walk_at "sts"
  refine w_new fun f4 n4 => ?_
  walk_at "sts"
  refine w_new fun f5 n5 => ?_
  walk_at "sts"
  refine w_new fun f6 n6 => ?_
  have t1 := same_upd (o := .tup [.int (Builtin.bitXor m (1 * 2 ^ Int.toNat (g : Int))), .int c]) n4
  have t2 := same_upd (o := .tup [.int (-1 - m), .int c]) n5
  have t3 := same_upd (o := .tup [.int (Builtin.bitXor m (1 * 2 ^ Int.toNat (n : Int) - 1)), .int c]) n6
  have d4 := t3 _ _ (t2 _ _ (upd_same (H := H2) (a := f4) (o := .tup [.int (Builtin.bitXor m (1 * 2 ^ Int.toNat (g : Int))), .int c])))
  have d5 := t3 _ _ (upd_same (H := upd H2 f4 (.tup [.int (Builtin.bitXor m (1 * 2 ^ Int.toNat (g : Int))), .int c])) (a := f5) (o := .tup [.int (-1 - m), .int c]))
  have d6 := upd_same (H := upd (upd H2 f4 (.tup [.int (Builtin.bitXor m (1 * 2 ^ Int.toNat (g : Int))), .int c])) f5 (.tup [.int (-1 - m), .int c])) (a := f6) (o := .tup [.int (Builtin.bitXor m (1 * 2 ^ Int.toNat (n : Int) - 1)), .int c])
  have t13 := t1.trans (t2.trans t3)
  have d1 := t13 _ _ d1
  have d2 := t13 _ _ d2
  have d3 := t13 _ _ d3
  have k1 := t13 _ _ k1
  have s3 := s2.trans t13
  generalize upd (upd (upd H2 f4 (.tup [.int (Builtin.bitXor m (1 * 2 ^ Int.toNat (g : Int))), .int c])) f5 (.tup [.int (-1 - m), .int c])) f6 (.tup [.int (Builtin.bitXor m (1 * 2 ^ Int.toNat (n : Int) - 1)), .int c]) = H3 at d1 d2 d3 d4 d5 d6 k1 s3 ⊢
  clear t1 t2 t3 t13 n4 n5 n6
  generalize Builtin.bitXor m (1 * 2 ^ Int.toNat (g : Int)) = z4 at d4
  generalize Builtin.bitXor m (1 * 2 ^ Int.toNat (n : Int) - 1) = z6 at d6
  walk_at "sts"
  refine w_new fun l2 m2 => ?_
  have u2 := same_upd (o := .lst [.ref f4, .ref f5, .ref f6]) m2
  have k2 := upd_same (H := H3) (a := l2) (o := .lst [.ref f4, .ref f5, .ref f6])
  have d1 := u2 _ _ d1
  have d2 := u2 _ _ d2
  have d3 := u2 _ _ d3
  have d4 := u2 _ _ d4
  have d5 := u2 _ _ d5
  have d6 := u2 _ _ d6
  have k1 := u2 _ _ k1
  have s4 := s3.trans u2
  generalize upd H3 l2 (.lst [.ref f4, .ref f5, .ref f6]) = H4 at d1 d2 d3 d4 d5 d6 k1 k2 s4 ⊢
  clear u2 m2
  refine ⟨l1, l2, _, _, rfl, rfl, k1, k2, (show 6 ≤ sizeLine by decide), fun l3 m3 => ?_⟩
  have u3 := same_upd (o := .lst ([.ref f1, .ref f2, .ref f3] ++ [.ref f4, .ref f5, .ref f6])) m3
  have k3 := upd_same (H := H4) (a := l3) (o := .lst ([.ref f1, .ref f2, .ref f3] ++ [.ref f4, .ref f5, .ref f6]))
  have d1 := u3 _ _ d1
  have d2 := u3 _ _ d2
  have d3 := u3 _ _ d3
  have d4 := u3 _ _ d4
  have d5 := u3 _ _ d5
  have d6 := u3 _ _ d6
  have s5 := s4.trans u3
  generalize upd H4 l3 (.lst ([.ref f1, .ref f2, .ref f3] ++ [.ref f4, .ref f5, .ref f6])) = H5 at d1 d2 d3 d4 d5 d6 k3 s5 ⊢
  clear u3 m3 k1 k2
  have y1 := s5 _ _ x1
  have y2 : DpAll K H5 xs (ps.map dPi) := (x2.same wo_same).same s5
  have hfr : ∀ w : Nat, w < 6 → ∃ (f : Addr) (a b : Int), atI ([V.ref f1, .ref f2, .ref f3] ++ [.ref f4, .ref f5, .ref f6]) (w : Int) = some (.ref f) ∧ Dp K H5 (.ref f) (dPi (a, b)) := fun w hw => by
    rcases (by omega : w = 0 ∨ w = 1 ∨ w = 2 ∨ w = 3 ∨ w = 4 ∨ w = 5) with rfl | rfl | rfl | rfl | rfl | rfl
    · exact ⟨f1, _, _, rfl, dPiT (SqT.of d1)⟩
    · exact ⟨f2, _, _, rfl, dPiT (SqT.of d2)⟩
    · exact ⟨f3, _, _, rfl, dPiT (SqT.of d3)⟩
    · exact ⟨f4, _, _, rfl, dPiT (SqT.of d4)⟩
    · exact ⟨f5, _, _, rfl, dPiT (SqT.of d5)⟩
    · exact ⟨f6, _, _, rfl, dPiT (SqT.of d6)⟩
  clear d1 d2 d3 d4 d5 d6 s1 s2 s3 s4
  walk_at "sts"
  refine ifd (fun h6 => ?_) (fun h6 => ?_)
  · obtain ⟨f, fa, fb, hf1, hf2⟩ := hfr way (by omega)
    walk_at "sts"
    refine w_new fun q1 m1 => ?_
    rw [cutV_to]
    have u1 := same_upd (o := .lst (xs.take at_)) m1
    have k1 := upd_same (H := H5) (a := q1) (o := .lst (xs.take at_))
    have s6 := s5.trans u1
    have k3 := u1 _ _ k3
    have y1 := u1 _ _ y1
    have y2 := y2.same u1
    have hf2 := hf2.same u1
    generalize upd H5 q1 (.lst (xs.take at_)) = H6 at k1 s6 k3 y1 y2 hf2 ⊢
    clear u1 m1 hfr
    walk_at "sts"
    refine w_new fun q2 m2 => ?_
    have u2 := same_upd (o := .lst [.ref f]) m2
    have k2 := upd_same (H := H6) (a := q2) (o := .lst [.ref f])
    have s7 := s6.trans u2
    have k1 := u2 _ _ k1
    have y1 := u2 _ _ y1
    have y2 := y2.same u2
    have hf2 := hf2.same u2
    generalize upd H6 q2 (.lst [.ref f]) = H7 at k1 k2 s7 y1 y2 hf2 ⊢
    clear u2 m2
    refine ⟨q1, q2, _, _, rfl, rfl, k1, k2, sz60 (by rw [List.length_take]; show min at_ xs.length + 1 ≤ 60; omega), fun q3 m3 => ?_⟩
    have u3 := same_upd (o := .lst (xs.take at_ ++ [.ref f])) m3
    have k3 := upd_same (H := H7) (a := q3) (o := .lst (xs.take at_ ++ [.ref f]))
    have s8 := s7.trans u3
    have y1 := u3 _ _ y1
    have y2 := y2.same u3
    have hf2 := hf2.same u3
    generalize upd H7 q3 (.lst (xs.take at_ ++ [.ref f])) = H8 at k3 s8 y1 y2 hf2 ⊢
    clear u3 m3 k1 k2
    walk_at "sts"
    refine w_new fun q4 m4 => ?_
    rw [show ((at_ : Nat) : Int) + 1 = ((at_ + 1 : Nat) : Int) from rfl, cutV_from]
    have u4 := same_upd (o := .lst (xs.drop (at_ + 1))) m4
    have k4 := upd_same (H := H8) (a := q4) (o := .lst (xs.drop (at_ + 1)))
    have s9 := s8.trans u4
    have k3 := u4 _ _ k3
    have y2 := y2.same u4
    have hf2 := hf2.same u4
    generalize upd H8 q4 (.lst (xs.drop (at_ + 1))) = H9 at k3 k4 s9 y2 hf2 ⊢
    clear u4 m4
    refine ⟨q3, q4, _, _, rfl, rfl, k3, k4, sz60 (by rw [List.length_append, List.length_take, List.length_drop]; show min at_ xs.length + 1 + (xs.length - (at_ + 1)) ≤ 60; omega), fun q5 m5 => ?_⟩
    have u5 := same_upd (o := .lst (xs.take at_ ++ [.ref f] ++ xs.drop (at_ + 1))) m5
    refine q q5 _ (ps.take at_ ++ [(fa, fb)] ++ ps.drop (at_ + 1)) (s9.trans u5) (s9.free m5) (.lst (SqL.of upd_same) ?_) ?_ ⟨_, upd_same⟩
    · rw [List.map_append, List.map_append, List.map_take, List.map_drop]
      exact (dpaApp (dpaApp (dpaTake at_ y2) (.cons hf2 .nil)) (dpaDrop (at_ + 1) y2)).same u5
    · rw [List.length_append, List.length_append, List.length_take, List.length_drop]; show min at_ ps.length + 1 + (ps.length - (at_ + 1)) ≤ 50; omega
  walk_at "sts"
  refine ifd (fun h7 => ?_) (fun h7 => ?_)
  · walk_at "sts"
    refine w_new fun q1 m1 => ?_
    rw [cutV_to]
    have u1 := same_upd (o := .lst (xs.take at_)) m1
    have k1 := upd_same (H := H5) (a := q1) (o := .lst (xs.take at_))
    have s6 := s5.trans u1
    have y1 := u1 _ _ y1
    have y2 := y2.same u1
    generalize upd H5 q1 (.lst (xs.take at_)) = H6 at k1 s6 y1 y2 ⊢
    clear u1 m1 hfr
    walk_at "sts"
    refine w_new fun q4 m4 => ?_
    rw [show ((at_ : Nat) : Int) + 1 = ((at_ + 1 : Nat) : Int) from rfl, cutV_from]
    have u4 := same_upd (o := .lst (xs.drop (at_ + 1))) m4
    have k4 := upd_same (H := H6) (a := q4) (o := .lst (xs.drop (at_ + 1)))
    have s9 := s6.trans u4
    have k1 := u4 _ _ k1
    have y2 := y2.same u4
    generalize upd H6 q4 (.lst (xs.drop (at_ + 1))) = H9 at k1 k4 s9 y2 ⊢
    clear u4 m4
    refine ⟨q1, q4, _, _, rfl, rfl, k1, k4, sz60 (by rw [List.length_take, List.length_drop]; omega), fun q5 m5 => ?_⟩
    have u5 := same_upd (o := .lst (xs.take at_ ++ xs.drop (at_ + 1))) m5
    refine q q5 _ (ps.take at_ ++ ps.drop (at_ + 1)) (s9.trans u5) (s9.free m5) (.lst (SqL.of upd_same) ?_) ?_ ⟨_, upd_same⟩
    · rw [List.map_append, List.map_take, List.map_drop]
      exact (dpaApp (dpaTake at_ y2) (dpaDrop (at_ + 1) y2)).same u5
    · rw [List.length_append, List.length_take, List.length_drop]; omega
  walk_at "sts"
  refine ifd (fun h8 => ?_) (fun h8 => ?_)
  · walk_at "sts"
    refine w_new fun q1 m1 => ?_
    have u1 := same_upd (o := .lst [.ref pt]) m1
    have k1 := upd_same (H := H5) (a := q1) (o := .lst [.ref pt])
    have s6 := s5.trans u1
    have y1 := u1 _ _ y1
    have y2 := y2.same u1
    generalize upd H5 q1 (.lst [.ref pt]) = H6 at k1 s6 y1 y2 ⊢
    clear u1 m1 hfr
    refine ⟨pp, q1, _, _, rfl, rfl, y1, k1, sz60 (by show xs.length + 1 ≤ 60; omega), fun q5 m5 => ?_⟩
    have u5 := same_upd (o := .lst (xs ++ [.ref pt])) m5
    refine q q5 _ (ps ++ [(m, c)]) (s6.trans u5) (s6.free m5) (.lst (SqL.of upd_same) ?_) ?_ ⟨_, upd_same⟩
    · rw [List.map_append]
      exact (dpaApp y2 (.cons (dPiT (same_read s6 e2)) .nil)).same u5
    · rw [List.length_append]; show ps.length + 1 ≤ 50; omega
  walk_at "sts"
  refine ifd (fun h9 => ?_) (fun h9 => ?_)
  · walk_at "sts"
    refine w_new fun q0 m0 => ?_
    generalize Builtin.bitAnd (x : Int) (-(x : Int)) = mz
    have u0 := same_upd (o := .tup [.int mz, .int 0]) m0
    have k0 := upd_same (H := H5) (a := q0) (o := .tup [.int mz, .int 0])
    have s5 := s5.trans u0
    have y1 := u0 _ _ y1
    have y2 := y2.same u0
    generalize upd H5 q0 (.tup [.int mz, .int 0]) = H55 at k0 s5 y1 y2 ⊢
    clear u0 m0 hfr
    walk_at "sts"
    refine w_new fun q1 m1 => ?_
    have u1 := same_upd (o := .lst [.ref q0]) m1
    have k1 := upd_same (H := H55) (a := q1) (o := .lst [.ref q0])
    have s6 := s5.trans u1
    have y1 := u1 _ _ y1
    have y2 := y2.same u1
    have k0 := u1 _ _ k0
    generalize upd H55 q1 (.lst [.ref q0]) = H6 at k0 k1 s6 y1 y2 ⊢
    clear u1 m1
    walk_at "sts"
    refine ⟨q1, pp, _, _, rfl, rfl, k1, y1, sz60 (by show 1 + xs.length ≤ 60; omega), fun q5 m5 => ?_⟩
    have u5 := same_upd (o := .lst ([.ref q0] ++ xs)) m5
    refine q q5 _ ([(mz, 0)] ++ ps) (s6.trans u5) (s6.free m5) (.lst (SqL.of upd_same) ?_) ?_ ⟨_, upd_same⟩
    · rw [List.map_append]
      exact (dpaApp (.cons (dPiT (SqT.of k0)) .nil) y2).same u5
    · rw [List.length_append]; show 1 + ps.length ≤ 50; omega
  walk_at "sts"
  obtain ⟨pz, ez1, ez2⟩ := dpPiAt y2 (i := ps.length - 1) (by omega)
  obtain ⟨p0, ea1, ea2⟩ := dpPiAt y2 (i := 0) (by omega)
  refine w_ixL (SqL.of y1) (atI_last (by omega) (by rw [hxl]; exact ez1)) ?_
  generalize (pAt ps (ps.length - 1)).1 = mz at ez2
  generalize (pAt ps (ps.length - 1)).2 = cz at ez2
  generalize (pAt ps 0).1 = m0 at ea2
  generalize (pAt ps 0).2 = c0 at ea2
  walk_at "sts"
  refine ifd (fun h10 => ?_) (fun h10 => ?_)
  · walk_at "sts"
    refine w_new fun q0 n0 => ?_
    generalize hza : Builtin.bitXor m0 mz = za
    generalize hzb : c0 + cz = zb
    clear hza hzb
    have u0 := same_upd (o := .tup [.int za, .int zb]) n0
    have k0 := upd_same (H := H5) (a := q0) (o := .tup [.int za, .int zb])
    have s5 := s5.trans u0
    have y1 := u0 _ _ y1
    have y2 := y2.same u0
    have ez3 := same_read u0 ez2
    generalize upd H5 q0 (.tup [.int za, .int zb]) = H55 at k0 s5 y1 y2 ez3 ⊢
    clear u0 n0 hfr
    walk_at "sts"
    refine w_new fun q1 m1 => ?_
    have u1 := same_upd (o := .lst [.ref q0]) m1
    have k1 := upd_same (H := H55) (a := q1) (o := .lst [.ref q0])
    have s6 := s5.trans u1
    have y1 := u1 _ _ y1
    have y2 := y2.same u1
    have k0 := u1 _ _ k0
    have ez3 := same_read u1 ez3
    generalize upd H55 q1 (.lst [.ref q0]) = H6 at k0 k1 s6 y1 y2 ez3 ⊢
    clear u1 m1
    walk_at "sts"
    refine w_new fun q2 m2 => ?_
    obtain ⟨ci, cj, hcut⟩ := cutV_any xs (some 1) (some (-1))
    rw [hcut]
    have u2 := same_upd (o := .lst ((xs.drop ci).take cj)) m2
    have k2 := upd_same (H := H6) (a := q2) (o := .lst ((xs.drop ci).take cj))
    have s7 := s6.trans u2
    have k0 := u2 _ _ k0
    have k1 := u2 _ _ k1
    have y2 := y2.same u2
    have ez3 := same_read u2 ez3
    have hcl : ((xs.drop ci).take cj).length ≤ xs.length := by rw [List.length_take, List.length_drop]; omega
    have hcl2 : ((ps.drop ci).take cj).length ≤ ps.length := by rw [List.length_take, List.length_drop]; omega
    generalize upd H6 q2 (.lst ((xs.drop ci).take cj)) = H7 at k0 k1 k2 s7 y2 ez3 ⊢
    clear u2 m2
    have y3 := dpaTake cj (dpaDrop ci y2)
    rw [← List.map_drop, ← List.map_take] at y3
    refine ⟨q1, q2, _, _, rfl, rfl, k1, k2, sz60 (by show 1 + ((xs.drop ci).take cj).length ≤ 60; omega), fun q5 m5 => ?_⟩
    have u5 := same_upd (o := .lst ([.ref q0] ++ (xs.drop ci).take cj)) m5
    refine q q5 _ ([(za, zb)] ++ (ps.drop ci).take cj) (s7.trans u5) (s7.free m5) (.lst (SqL.of upd_same) ?_) ?_ ⟨_, upd_same⟩
    · rw [List.map_append]
      exact (dpaApp (.cons (dPiT (SqT.of k0)) .nil) y3).same u5
    · rw [List.length_append]; show 1 + ((ps.drop ci).take cj).length ≤ 50; omega
  · walk_at "sts"
    refine w_new fun q0 n0 => ?_
    obtain ⟨za, hza⟩ : ∃ za, za = m0 := ⟨_, rfl⟩
    rw [← hza]
    generalize hzb : c0 - 1 = zb
    clear hza hzb
    have u0 := same_upd (o := .tup [.int za, .int zb]) n0
    have k0 := upd_same (H := H5) (a := q0) (o := .tup [.int za, .int zb])
    have s5 := s5.trans u0
    have y1 := u0 _ _ y1
    have y2 := y2.same u0
    have ez3 := same_read u0 ez2
    generalize upd H5 q0 (.tup [.int za, .int zb]) = H55 at k0 s5 y1 y2 ez3 ⊢
    clear u0 n0 hfr
    walk_at "sts"
    refine w_new fun q1 m1 => ?_
    have u1 := same_upd (o := .lst [.ref q0]) m1
    have k1 := upd_same (H := H55) (a := q1) (o := .lst [.ref q0])
    have s6 := s5.trans u1
    have y1 := u1 _ _ y1
    have y2 := y2.same u1
    have k0 := u1 _ _ k0
    have ez3 := same_read u1 ez3
    generalize upd H55 q1 (.lst [.ref q0]) = H6 at k0 k1 s6 y1 y2 ez3 ⊢
    clear u1 m1
    walk_at "sts"
    refine w_new fun q2 m2 => ?_
    obtain ⟨ci, cj, hcut⟩ := cutV_any xs (some 1) (some (-1))
    rw [hcut]
    have u2 := same_upd (o := .lst ((xs.drop ci).take cj)) m2
    have k2 := upd_same (H := H6) (a := q2) (o := .lst ((xs.drop ci).take cj))
    have s7 := s6.trans u2
    have k0 := u2 _ _ k0
    have k1 := u2 _ _ k1
    have y2 := y2.same u2
    have ez3 := same_read u2 ez3
    have hcl : ((xs.drop ci).take cj).length ≤ xs.length := by rw [List.length_take, List.length_drop]; omega
    have hcl2 : ((ps.drop ci).take cj).length ≤ ps.length := by rw [List.length_take, List.length_drop]; omega
    generalize upd H6 q2 (.lst ((xs.drop ci).take cj)) = H7 at k0 k1 k2 s7 y2 ez3 ⊢
    clear u2 m2
    have y3 := dpaTake cj (dpaDrop ci y2)
    rw [← List.map_drop, ← List.map_take] at y3
    refine ⟨q1, q2, _, _, rfl, rfl, k1, k2, sz60 (by show 1 + ((xs.drop ci).take cj).length ≤ 60; omega), fun q3 m3 => ?_⟩
    have u3 := same_upd (o := .lst ([.ref q0] ++ (xs.drop ci).take cj)) m3
    have k3' := upd_same (H := H7) (a := q3) (o := .lst ([.ref q0] ++ (xs.drop ci).take cj))
    have s8 := s7.trans u3
    have k0 := u3 _ _ k0
    have y3 := y3.same u3
    have ez3 := same_read u3 ez3
    generalize upd H7 q3 (.lst ([.ref q0] ++ (xs.drop ci).take cj)) = H8 at k0 k3' s8 y3 ez3 ⊢
    clear u3 m3
    walk_at "sts"
    refine w_new fun q6 m6 => ?_
    have u6 := same_upd (o := .tup [.int mz, .int (cz + 1)]) m6
    have k6 := upd_same (H := H8) (a := q6) (o := .tup [.int mz, .int (cz + 1)])
    have s9 := s8.trans u6
    have k0 := u6 _ _ k0
    have k3' := u6 _ _ k3'
    have y3 := y3.same u6
    generalize upd H8 q6 (.tup [.int mz, .int (cz + 1)]) = H9 at k0 k3' k6 s9 y3 ⊢
    clear u6 m6
    walk_at "sts"
    refine w_new fun q7 m7 => ?_
    have u7 := same_upd (o := .lst [.ref q6]) m7
    have k7 := upd_same (H := H9) (a := q7) (o := .lst [.ref q6])
    have s10 := s9.trans u7
    have k0 := u7 _ _ k0
    have k6 := u7 _ _ k6
    have k3' := u7 _ _ k3'
    have y3 := y3.same u7
    generalize upd H9 q7 (.lst [.ref q6]) = H10 at k0 k3' k6 k7 s10 y3 ⊢
    clear u7 m7
    refine ⟨q3, q7, _, _, rfl, rfl, k3', k7, sz60 (by rw [List.length_append]; show 1 + ((xs.drop ci).take cj).length + 1 ≤ 60; omega), fun q5 m5 => ?_⟩
    have u5 := same_upd (o := .lst ([.ref q0] ++ (xs.drop ci).take cj ++ [.ref q6])) m5
    refine q q5 _ ([(za, zb)] ++ (ps.drop ci).take cj ++ [(mz, cz + 1)]) (s10.trans u5) (s10.free m5) (.lst (SqL.of upd_same) ?_) ?_ ⟨_, upd_same⟩
    · rw [List.map_append, List.map_append]
      exact (dpaApp (dpaApp (.cons (dPiT (SqT.of k0)) .nil) y3) (.cons (dPiT (SqT.of k6)) .nil)).same u5
    · rw [List.length_append, List.length_append]; show 1 + ((ps.drop ci).take cj).length + 1 ≤ 50; omega
end
section
variable {P : Program} {w : World} {K : PySem.W.Frag} {mg : Str → Option Value} {base : Heap}
def spOddB : Sp := fun vs H Q _ => ∃ m : Nat, vs = [.int m] ∧ m < 2 ^ 80 ∧ Q (.bl (decide (cnt m 80 % 2 = 1))) H
theorem ok_law_odd {f : Addr} {fd : FuncData} (F : Fun K "_law_odd" "_law_odd" s_law_odd f fd) (gf : mg "_law_odd" = some (.ref f)) (B : Bl mg) : Has P w K mg base CX0 1 "_law_odd" ["mask"] spOddB := by
  refine Has.mk' F gf (F.binds (ps := ["mask"]) fun _ _ _ _ _ _ us hl => match us, hl with | [_], _ => rfl) sc_law_odd (by walk_at "len") (fun cdv A outer s H vs Q E hr h => ?_)
  obtain ⟨m, rfl, hm, q⟩ := h
  refine ⟨_, (pss_cons (ps_set (i := 1) sc_law_odd.nd rfl (.inl rfl) pe_int)
 (pss_cons (ps_while PassesOwn.never (pt_cmpR op_gt (pv 0) pe_int (nomark _)) (pss_cons (ps_set (i := 0) sc_law_odd.nd rfl (.inl rfl) (pe_op op_and (pv 0) (pe_op op_sub (pv 0) pe_int)))
 (pss_one (ps_aug (i := 1) sc_law_odd.nd rfl (.inl rfl) pe_int ip_add))))
 (pss_one (ps_ret (pe_cmpR op_eq (pe_op op_mod (pv 1) pe_int) pe_int (nomark _)))))), ?_⟩
  walk_at "sts"
  refine ⟨fun k σ H' => ∃ c : Nat, σ = [some (.int k), some (.int c)] ∧ H' = H ∧ k < 2 ^ 80 ∧ c + cnt k 80 = cnt m 80, ⟨m, 0, rfl, rfl, hm, by omega⟩, ?_⟩
  rintro k σ H' ⟨c, rfl, rfl, hk, hc⟩
  walk_at "sts"
  refine ifd (fun h0 => w_wt ?_) (fun h0 => ?_)
  · obtain ⟨l1, l2⟩ := low_cnt (m := k) (by omega) hk
    walk_at "sts"
    rw [show (k : Int) - 1 = ((k - 1 : Nat) : Int) by omega, and_nat, show (c : Int) + 1 = ((c + 1 : Nat) : Int) by omega]
    exact ⟨_, l2, _, rfl, rfl, by omega, by omega⟩
  · walk_at "sts"
    have : k = 0 := by omega
    subst this
    rw [cnt_zero] at hc
    have : c = cnt m 80 := by omega
    subst this
    rw [show decide (((cnt m 80 : Nat) : Int) % 2 = 1) = decide (cnt m 80 % 2 = 1) from decide_eq_decide.mpr (by omega)]
    exact q

theorem paidX_filter (a b : Nat) : ∀ hs : List (Nat × Nat), (((hs.filter fun t => t.1.testBit a ^^ t.1.testBit b).map fun t => ((t.2 : Nat) : Int))).sum = ((paidX a b hs : Nat) : Int)
  | [] => rfl
  | t :: hs => by
    have ih := paidX_filter a b hs
    unfold paidX at ih ⊢
    rw [List.map_cons, List.sum_cons]
    cases hq : (t.1.testBit a ^^ t.1.testBit b) with
    | true =>
      have hne : ¬ t.1.testBit a = t.1.testBit b := fun e => by rw [e, Bool.xor_self] at hq; cases hq
      rw [List.filter_cons_of_pos (by simpa using hne), List.map_cons, List.sum_cons, ih, if_neg hne, Int.natCast_add]
    | false =>
      have heq : t.1.testBit a = t.1.testBit b := by
        cases h1 : t.1.testBit a <;> cases h2 : t.1.testBit b <;> simp_all
      rw [List.filter_cons_of_neg (by simpa using heq), ih, if_pos heq, Nat.zero_add]
def spDue29 (K : PySem.W.Frag) : Sp := fun vs H Q _ => ∃ (p pp : Addr) (n x u : Nat) (L : Lk) (ps : List (Int × Int)), vs = [.int n, .ref p, .int x, .int u, .ref pp] ∧ Dp K H (.ref p) (dLks L) ∧ Dp K H (.ref pp) (dPapI ps) ∧ (∀ k, k < L.length → lka L k < 1000 ∧ lkb L k < 1000) ∧ n ≤ 80 ∧ L.length ≤ 1000 ∧ ps.length ≤ 10000 ∧ (∀ k, lkw L k ≤ 10 ^ 40) ∧ ∀ b H', (b = true ↔ ExamOk n x u L ps) → Same H H' → Q (.bl b) H'
theorem ok_law_due {f : Addr} {fd : FuncData} (F : Fun K "_law_due" "_law_due" s_law_due f fd) (gf : mg "_law_due" = some (.ref f)) (B : Bl mg) (h_law_odd : Has P w K mg base CX0 1 "_law_odd" ["mask"] spOddB) : Has P w K mg base CX0 2 "_law_due" ["many", "links", "marks", "used", "paper"] (spDue29 K) := by
  refine Has.mk' F gf (F.binds (ps := ["many", "links", "marks", "used", "paper"]) fun _ _ _ _ _ _ us hl => match us, hl with | [_, _, _, _, _], _ => rfl) sc_law_due (by walk_at "len") (fun cdv A outer s H vs Q E hr h => ?_)
  obtain ⟨p, pp, n, x, u, L, ps, rfl, hL, hp, hb, hn, hll, hhl, hw, q⟩ := h
  obtain ⟨ls, hl, hls⟩ := dpLstA hL
  have hlen : ls.length = L.length := by have := dpaLen hls; simpa using this
  obtain ⟨xs, hx, hxs⟩ := dpLstA hp
  have hxl : xs.length = ps.length := by have := dpaLen hxs; simpa using this
  refine ⟨_, (pss_cons (ps_set (i := 5) sc_law_due.nd rfl (.inl rfl) pe_int)
 (pss_cons (ps_set (i := 6) sc_law_due.nd rfl (.inl rfl) pe_int)
 (pss_cons (ps_for PassesOwn.never rfl (pi_range1 (by rfl) B.range (pa_cons (pe_callB (call_lenK K) (by rfl) B.len (by decide +kernel) (pa_cons (pv 1) pa_nil)) pa_nil)) (pg_name (i := 7) sc_law_due.nd rfl (.inl rfl)) (pss_one (ps_if (pt_cmpR op_eq (pe_op op_and (pe_op op_shr (pv 3) (pv 7)) pe_int) pe_int (nomark _)) (pss_cons (ps_set (i := 5) sc_law_due.nd rfl (.inl rfl) (pe_op op_add (pv 5) (pe_ix (ix_tupK K) (pe_ix (ix_listK K) (pv 1) (pv 7) (fun _ _ => rfl)) pe_int (fun _ _ => rfl))))
 (pss_one (ps_set (i := 6) sc_law_due.nd rfl (.inl rfl) (pe_op op_xor (pe_op op_xor (pv 6) (pe_op op_shlW pe_int (pe_ix (ix_tupK K) (pe_ix (ix_listK K) (pv 1) (pv 7) (fun _ _ => rfl)) pe_int (fun _ _ => rfl)))) (pe_op op_shlW pe_int (pe_ix (ix_tupK K) (pe_ix (ix_listK K) (pv 1) (pv 7) (fun _ _ => rfl)) pe_int (fun _ _ => rfl))))))) pss_nil)))
 (pss_cons (ps_if (PW.pt (pw_or (pt_cmpR op_ne (pe_op op_shr (pv 3) (pe_callB (call_lenK K) (by rfl) B.len (by decide +kernel) (pa_cons (pv 1) pa_nil))) pe_int (nomark _)) (pw_or1 (pt_cmpR op_ne (pv 6) (pv 2) (nomark _))))) (pss_one (ps_ret pe_bl)) pss_nil)
 (pss_cons (ps_for PassesOwn.never rfl (pi_listK K (pv 4)) (pg_name (i := 8) sc_law_due.nd rfl (.inl rfl)) (pss_one (ps_if (PW.pt (pw_or (pt_cmpR op_lt (pe_ix (ix_tupK K) (pv 8) pe_int (fun _ _ => rfl)) pe_int (nomark _)) (pw_or (pt_cmpR op_ne (pe_op op_shr (pe_ix (ix_tupK K) (pv 8) pe_int (fun _ _ => rfl)) (pv 0)) pe_int (nomark _)) (pw_or (pt_not (pt_val (pe_fn h_law_odd (hr.mono (by decide)) (by rfl) (pa_cons (pe_op op_and (pe_ix (ix_tupK K) (pv 8) pe_int (fun _ _ => rfl)) (pv 2)) pa_nil)))) (pw_or1 (pt_cmpR op_lt (pe_ix (ix_tupK K) (pv 8) pe_int (fun _ _ => rfl)) pe_int (nomark _))))))) (pss_one (ps_ret pe_bl)) pss_nil)))
 (pss_cons (ps_for PassesOwn.never rfl (pi_listK K (pv 1)) (pg_name (i := 9) sc_law_due.nd rfl (.inr rfl)) (pss_cons (ps_setLc (i := 10) (own := [("pair", 8)]) rfl sc_law_due.nd rfl rfl (sw_true rfl rfl rfl (by decide +kernel)) (pi_listK K (pv 4)) (blkOk_by (own := [("pair", 8)]) (N := ["many", "links", "marks", "used", "paper", "cost", "ends", "k", "pair", "link", "dues"]) (sc := defScope s_law_due) (by decide +kernel)) (fun _ _ _ _ _ => pg_name (i := 8) sc_law_due.nd rfl (Or.inl rfl)) (fun _ _ _ _ _ => (pts_one (pt_cmpR op_eq (pe_op op_and (pe_op op_xor (pe_op op_shr (pe_ix (ix_tupK K) (pv 8) pe_int (fun _ _ => rfl)) (pe_ix (ix_tupK K) (pv 9) pe_int (fun _ _ => rfl))) (pe_op op_shr (pe_ix (ix_tupK K) (pv 8) pe_int (fun _ _ => rfl)) (pe_ix (ix_tupK K) (pv 9) pe_int (fun _ _ => rfl)))) pe_int) pe_int (nomark _)))) (fun _ _ _ _ _ => (pe_ix (ix_tupK K) (pv 8) pe_int (fun _ _ => rfl))))
 (pss_one (ps_if (pt_cmpR op_gt (pe_callB (cr_sumK K rfl) (by rfl) B.sum (by decide +kernel) (pa_cons (pv 10) pa_nil)) (pe_op op_mulX pe_int (pe_ix (ix_tupK K) (pv 9) pe_int (fun _ _ => rfl))) (nomark _)) (pss_one (ps_ret pe_bl)) pss_nil))))
 (pss_one (ps_ret (pe_cmpR op_eq (pe_callB (cr_sumK K rfl) (by rfl) B.sum (by decide +kernel) (pa_cons (pe_lc (own := [("pair", 8)]) rfl sc_law_due.nd (pi_listK K (pv 4)) (blkOk_by (own := [("pair", 8)]) (N := ["many", "links", "marks", "used", "paper", "cost", "ends", "k", "pair", "link", "dues"]) (sc := defScope s_law_due) (by decide +kernel)) (fun _ _ _ _ _ => pg_name (i := 8) sc_law_due.nd rfl (Or.inl rfl)) (fun _ _ _ _ _ => pts_nil) (fun _ _ _ _ _ => (pe_ix (ix_tupK K) (pv 8) pe_int (fun _ _ => rfl)))) pa_nil)) (pe_op op_mulX pe_int (pv 5)) (nomark _)))))))))), ?_⟩
  walk_at "sts"
  rw [hlen]
  refine for_r0 (n := L.length) rfl (fun i σ H' => ∃ (y7 : Option V), σ = [some (.int (n : Nat)), some (.ref p), some (.int (x : Nat)), some (.int (u : Nat)), some (.ref pp), some (.int (lcost L u i : Nat)), some (.int (oddL L u i : Nat)), y7, none, none, none] ∧ H' = H) ?_ ?_ ?_
  · exact ⟨_, rfl, rfl⟩
  · rintro i σ H' hi ⟨y7, rfl, rfl⟩
    obtain ⟨pk, e1, e2⟩ := dpLkAt hls hi
    obtain ⟨hba, hbb⟩ := hb i hi
    walk_at "sts"
    rw [bit_nat]
    have ho : oddL L u (i + 1) = if u.testBit i = true then oddL L u i ^^^ 2 ^ lka L i ^^^ 2 ^ lkb L i else oddL L u i := rfl
    have hc : lcost L u (i + 1) = if u.testBit i = true then lcost L u i + lkw L i else lcost L u i := rfl
    cases hu : u.testBit i with
    | true =>
      rw [hu, if_pos rfl] at ho hc
      rw [if_pos (show decide (((true.toNat : Nat) : Int) = 1) = true by decide)]
      walk_at "sts"
      rw [shl_one, shl_one, xor_nat, xor_nat, ← ho, ← Int.natCast_add, ← hc]
      exact ⟨_, rfl, rfl⟩
    | false =>
      rw [hu, if_neg (by decide)] at ho hc
      rw [if_neg (show ¬ decide (((false.toNat : Nat) : Int) = 1) = true by decide)]
      walk_at "sts"
      rw [ho, hc]
      exact ⟨_, rfl, rfl⟩
  rintro σ H1 ⟨y7, rfl, rfl⟩
  walk_at "sts"
  rw [hlen, shr_nat, shr_iff]
  refine ifnd (fun hu => ?_) (fun hu => ?_)
  · walk_at "sts"
    exact q false H1 ⟨fun h => (by cases h), fun h => absurd h.1 hu⟩ (Same.refl _)
  walk_at "sts"
  refine ifnd (fun ho => ?_) (fun ho => ?_)
  · walk_at "sts"
    exact q false H1 ⟨fun h => (by cases h), fun h => absurd h.2.1 (by omega)⟩ (Same.refl _)
  have hodd : oddL L u L.length = x := by omega
  walk_at "sts"
  refine for_list (xs := xs) (fun i σ H' => ∃ (y8 : Option V), σ = [some (.int (n : Nat)), some (.ref p), some (.int (x : Nat)), some (.int (u : Nat)), some (.ref pp), some (.int (lcost L u L.length : Nat)), some (.int (oddL L u L.length : Nat)), y7, y8, none, none] ∧ H' = H1 ∧ ∀ j, j < i → GoodP n x (pAt ps j)) ?_ ?_ ?_ ?_
  · exact ⟨_, rfl, rfl, fun j hj => absurd hj (by omega)⟩
  · rintro i σ H' _ ⟨y, rfl, rfl, _⟩
    exact hx
  · rintro i v σ H' hv ⟨y, rfl, rfl, hj⟩
    have hi : i < ps.length := by rw [← hxl]; exact (List.getElem?_eq_some_iff.mp hv).1
    obtain ⟨pk, e1, e2⟩ := dpPiAt hxs hi
    rw [hv] at e1
    cases e1
    have hbad : ¬ GoodP n x (pAt ps i) → ∀ b, b = false → (b = true ↔ ExamOk n x u L ps) := fun hg b hb => ⟨fun h => (by rw [hb] at h; cases h), fun h => absurd (h.2.2.1 _ (List.mem_of_getElem? (pAt_get hi))) hg⟩
    have hgood : GoodP n x (pAt ps i) → ∀ j, j < i + 1 → GoodP n x (pAt ps j) := fun hg j hj2 => by
      by_cases e : j = i
      · subst e; exact hg
      · exact hj j (by omega)
    generalize pAt ps i = t at e2 hbad hgood
    obtain ⟨m, c⟩ := t
    dsimp only at e2
    walk_at "sts"
    by_cases h1 : m < 0
    · walk_at "sts"
      exact q false H' (hbad (fun h => by have := h.1; dsimp only at this; omega) _ rfl) (Same.refl _)
    walk_at "sts"
    rw [shr_int]
    by_cases h2 : m < ((2 ^ n : Nat) : Int)
    · obtain ⟨k, rfl⟩ : ∃ k : Nat, m = (k : Int) := ⟨m.toNat, by omega⟩
      have hk : k < 2 ^ n := by omega
      have hmx : k &&& x < 2 ^ 80 := Nat.lt_of_le_of_lt Nat.and_le_left (Nat.lt_of_lt_of_le hk (Nat.pow_le_pow_right (by decide) hn))
      rw [decide_eq_true (show 0 ≤ ((k : Nat) : Int) ∧ ((k : Nat) : Int) < ((2 ^ n : Nat) : Int) from ⟨by omega, h2⟩)]
      walk_at "sts"
      rw [and_nat]
      refine ⟨k &&& x, rfl, hmx, ?_⟩
      by_cases h3 : cnt (k &&& x) 80 % 2 = 1
      · rw [decide_eq_true h3]
        walk_at "sts"
        by_cases h4 : c < 1
        · walk_at "sts"
          exact q false H' (hbad (fun h => by have := h.2.2.2; dsimp only at this; omega) _ rfl) (Same.refl _)
        · walk_at "sts"
          exact ⟨_, rfl, rfl, hgood ⟨by show 0 ≤ ((k : Nat) : Int); omega, h2, h3, by show 1 ≤ c; omega⟩⟩
      · rw [decide_eq_false h3]
        walk_at "sts"
        exact q false H' (hbad (fun h => h3 h.2.2.1) _ rfl) (Same.refl _)
    · rw [decide_eq_false (show ¬ (0 ≤ m ∧ m < ((2 ^ n : Nat) : Int)) from fun h => h2 h.2)]
      walk_at "sts"
      exact q false H' (hbad (fun h => h2 h.2.1) _ rfl) (Same.refl _)
  rintro σ H' ⟨y8, rfl, rfl, hj⟩
  have hst : ∀ t ∈ ps, GoodP n x t := fun t ht => by
    obtain ⟨i, hi, rfl⟩ := List.mem_iff_getElem.mp ht
    have := hj i (by omega)
    have e := pAt_get hi
    rw [List.getElem?_eq_getElem hi] at e
    rw [Option.some.inj e]
    exact this
  have hp' : Dp K H' (.ref pp) (dPap (ps.map natP)) := by rw [← good_nat hst]; exact hp
  walk_at "sts"
  refine for_list (xs := ls) (fun i σ H2 => ∃ (y8 y9 y10 : Option V), σ = [some (.int (n : Nat)), some (.ref p), some (.int (x : Nat)), some (.int (u : Nat)), some (.ref pp), some (.int (lcost L u L.length : Nat)), some (.int (oddL L u L.length : Nat)), y7, y8, y9, y10] ∧ Same H' H2 ∧ ∀ k, k < i → paidX (lka L k) (lkb L k) (ps.map natP) ≤ 2 * lkw L k) ?_ ?_ ?_ ?_
  · exact ⟨_, _, _, rfl, Same.refl _, fun j hj => absurd hj (by omega)⟩
  · rintro i σ H' _ ⟨_, _, _, rfl, s2, _⟩
    exact s2.seq hl
  · rintro i v σ H2 hv ⟨y8, y9, y10, rfl, s2, hk⟩
    have hi : i < L.length := by rw [← hlen]; exact (List.getElem?_eq_some_iff.mp hv).1
    obtain ⟨pk, e1, e2⟩ := dpLkAt hls hi
    rw [hv] at e1
    cases e1
    obtain ⟨b1, b2⟩ := hb i hi
    have hwi := hw i
    have e2' := same_read s2 e2
    walk_at "sts"
    intro D nD
    refine lc_list (xs := xs) (fun j H3 => H3 D = some (.lst (((((ps.map natP).take j).filter fun t => t.1.testBit (lka L i) ^^ t.1.testBit (lkb L i)).map fun t => ((t.2 : Nat) : Int)).map V.int)) ∧ Same H2 H3) ?_ ?_ ?_ ?_
    · exact ⟨upd_same, same_upd nD⟩
    · rintro j H3 _ ⟨_, s3⟩
      exact s3.seq (s2.seq hx)
    · rintro j v H3 hv ⟨l3, s3⟩
      have hj3 : j < ps.length := by rw [← hxl]; exact (List.getElem?_eq_some_iff.mp hv).1
      obtain ⟨pk2, f1, f2⟩ := dpPiAt hxs hj3
      rw [hv] at f1
      cases f1
      obtain ⟨g1, g2, g3, g4⟩ := hst _ (List.mem_of_getElem? (pAt_get hj3))
      have f3 := same_read (s2.trans s3) f2
      have e3 := same_read s3 e2'
      have em : (ps.map natP).take (j + 1) = (ps.map natP).take j ++ [natP (pAt ps j)] := by
        rw [List.take_add_one, List.getElem?_map, pAt_get hj3]
        rfl
      have hlen3 : (((ps.map natP).take j).filter fun t => t.1.testBit (lka L i) ^^ t.1.testBit (lkb L i)).length ≤ 10000 := by
        have h1 := List.length_filter_le (fun t : Nat × Nat => t.1.testBit (lka L i) ^^ t.1.testBit (lkb L i)) ((ps.map natP).take j)
        have h2 := List.length_take_le j (ps.map natP)
        omega
      rw [em, List.filter_append]
      obtain ⟨m, hm⟩ : ∃ m : Nat, (pAt ps j).1 = (m : Int) := ⟨(pAt ps j).1.toNat, by omega⟩
      obtain ⟨c, hc⟩ : ∃ c : Nat, (pAt ps j).2 = (c : Int) := ⟨(pAt ps j).2.toNat, by omega⟩
      have en : natP (pAt ps j) = (m, c) := by unfold natP; rw [hm, hc]; rfl
      rw [hm, hc] at f3
      rw [en]
      walk_at "sts"
      rw [shr_nat, shr_nat, xor_nat, xbit]
      cases hq : (m.testBit (lka L i) ^^ m.testBit (lkb L i)) with
      | true =>
        rw [if_pos (show decide (((true.toNat : Nat) : Int) = 1) = true by decide)]
        rw [List.filter_cons_of_pos (by exact hq), List.filter_nil]
        walk_at "sts"
        refine ⟨_, l3, szlt (by rw [List.length_map, List.length_map]; omega), ?_, s3.mut nD⟩
        rw [upd_same, List.map_append, List.map_append]
        rfl
      | false =>
        rw [if_neg (show ¬ decide (((false.toNat : Nat) : Int) = 1) = true by decide)]
        rw [List.filter_cons_of_neg (by rw [show ((m, c).1.testBit (lka L i) ^^ (m, c).1.testBit (lkb L i)) = (m.testBit (lka L i) ^^ m.testBit (lkb L i)) from rfl, hq]; decide), List.filter_nil, List.append_nil]
        exact ⟨l3, s3⟩
    rintro H3 ⟨l3, s3⟩
    have hml : (ps.map natP).length = xs.length := by rw [List.length_map, hxl]
    rw [← hml, List.take_length] at l3
    have e3 := same_read s3 e2'
    walk_at "sts"
    refine ⟨D, _, rfl, SqL.of l3, ?_⟩
    rw [paidX_filter]
    walk_at "sts"
    refine ifd (fun hc => ?_) (fun hc => ?_)
    · walk_at "sts"
      exact q false _ ⟨fun h => (by cases h), fun h => absurd (h.2.2.2.1 i hi) (by omega)⟩ (s2.trans s3)
    · walk_at "sts"
      refine ⟨_, _, _, rfl, s2.trans s3, fun k hk2 => ?_⟩
      by_cases e : k = i
      · subst e; omega
      · exact hk k (by omega)
  rintro σ H2 ⟨y8', y9, y10, rfl, s2, hk⟩
  rw [hlen] at hk
  walk_at "sts"
  intro D nD
  refine lc_list (xs := xs) (fun i H3 => H3 D = some (.lst (((ps.take i).map fun t => t.2).map V.int)) ∧ Same H2 H3) ?_ ?_ ?_ ?_
  · exact ⟨upd_same, same_upd nD⟩
  · rintro i H3 _ ⟨_, s3⟩
    exact s3.seq (s2.seq hx)
  · rintro i v H3 hv ⟨l3, s3⟩
    have hi : i < ps.length := by rw [← hxl]; exact (List.getElem?_eq_some_iff.mp hv).1
    obtain ⟨pk, e1, e2⟩ := dpPiAt hxs hi
    rw [hv] at e1
    cases e1
    have e3 := same_read (s2.trans s3) e2
    walk_at "sts"
    refine ⟨_, l3, szlt (by simp; omega), ?_, s3.mut nD⟩
    have e : pAt ps i = ps[i] := by have := pAt_get hi; rw [List.getElem?_eq_getElem hi] at this; exact (Option.some.inj this).symm
    rw [upd_same, e, List.take_add_one, List.getElem?_eq_getElem hi, Option.toList_some, List.map_append, List.map_append]
    rfl
  rintro H3 ⟨l3, s3⟩
  rw [hxl, List.take_length] at l3
  have hle := lcost_le hw u L.length
  have hle2 : L.length * 10 ^ 40 ≤ 1000 * 10 ^ 40 := Nat.mul_le_mul_right _ hll
  walk_at "sts"
  refine ⟨D, _, rfl, SqL.of l3, ?_⟩
  rw [sum_snd ps fun t ht => by have := (hst t ht).2.2.2; omega]
  walk_at "sts"
  refine q _ _ ?_ (s2.trans s3)
  rw [decide_eq_true_iff]
  exact ⟨fun h => ⟨hu, hodd, hst, hk, by omega⟩, fun h => by have := h.2.2.2.2; omega⟩
end

/-! ### lists by functions -/
theorem iv_setW (W : Nat → Nat) (n j v : Nat) : (iv ((List.range n).map W)).set j (.int (v : Nat)) = iv ((List.range n).map (upF W j v)) := by
  refine List.ext_getElem? fun r => ?_
  unfold iv
  rw [List.getElem?_set]
  by_cases hr : r < n
  · by_cases e : j = r
    · subst e
      rw [if_pos rfl, if_pos (by rw [List.length_map, List.length_map, List.length_range]; exact hr), List.getElem?_map, List.getElem?_map, List.getElem?_range hr]
      show _ = some (V.int ((upF W j v j : Nat) : Int))
      unfold upF
      rw [if_pos rfl]
    · rw [if_neg e, List.getElem?_map, List.getElem?_map, List.getElem?_map, List.getElem?_map, List.getElem?_range hr]
      show some (V.int ((W r : Nat) : Int)) = some (V.int ((upF W j v r : Nat) : Int))
      unfold upF
      rw [if_neg fun z => e z.symm]
  · have h1 : ((List.map (fun x : Nat => V.int (x : Int)) (List.map (upF W j v) (List.range n))))[r]? = none := List.getElem?_eq_none (by rw [List.length_map, List.length_map, List.length_range]; omega)
    have h2 : ((List.map (fun x : Nat => V.int (x : Int)) (List.map W (List.range n))))[r]? = none := List.getElem?_eq_none (by rw [List.length_map, List.length_map, List.length_range]; omega)
    rw [h1, h2]
    by_cases e : j = r
    · rw [if_pos e, if_neg (by rw [List.length_map, List.length_map, List.length_range]; omega)]
    · rw [if_neg e]
theorem ivr_at (W : Nat → Nat) {n r : Nat} (h : r < n) : (iv ((List.range n).map W))[r]? = some (.int ((W r : Nat) : Int)) := by
  unfold iv
  rw [List.getElem?_map, List.getElem?_map, List.getElem?_range h]
  rfl
theorem ivr_len (W : Nat → Nat) (n : Nat) : (iv ((List.range n).map W)).length = n := by unfold iv; rw [List.length_map, List.length_map, List.length_range]

section
variable {P : Program} {w : World} {K : PySem.W.Frag} {mg : Str → Option Value} {base : Heap}
theorem w_neNil {H : Hp} {Q : VK} {p e : Addr} {d : PyData} {ds : List PyData} {m : Nat} (h1 : Dp K H (.ref p) (.list (d :: ds))) (g : Good m (.list (d :: ds))) (hm : m ≤ 64) (he : H e = some (.lst [])) (h : Q (.bl true) H) : rNeD K (.ref p) (.ref e) H Q :=
  ⟨_, .list [], h1, .lst (SqL.of he) .nil, g.shaped hm, (goodLst (n := 0) (ds := []) fun d hd => (by cases hd)).shaped (by decide), by rw [PyData.eqv, PyData.eqvAll]; exact h⟩
theorem sqt_mut {H : Hp} {q l : Addr} {xs ys zs : List V} (h : SqT K H q xs) (hl : H l = some (.lst ys)) : SqT K (upd H l (.lst zs)) q xs := by
  rcases h with (h | ⟨o, h⟩) | h
  · exact .inl (.inl (by rw [upd_ne (ne_of h hl (by intro z; cases z))]; exact h))
  · exact .inl (.inr ⟨o, by rw [upd_ne (ne_of h hl (by intro z; cases z))]; exact h⟩)
  · exact .inr h
theorem sql_mut {H : Hp} {q l : Addr} {xs zs : List V} (h : SqL K H q xs) (hn : q ≠ l) : SqL K (upd H l (.lst zs)) q xs := by
  rcases h with (h | ⟨o, h⟩) | h
  · exact .inl (.inl (by rw [upd_ne hn]; exact h))
  · exact .inl (.inr ⟨o, by rw [upd_ne hn]; exact h⟩)
  · exact .inr h
theorem dpaTups {H : Hp} {l : Addr} {ys zs : List V} (hl : H l = some (.lst ys)) : ∀ {xs : List V} {ts : List (List Int)}, DpAll K H xs (ts.map fun t => .tuple (t.map .int)) → DpAll K (upd H l (.lst zs)) xs (ts.map fun t => .tuple (t.map .int))
  | _, [], h => by cases h; exact .nil
  | _, t :: ts, h => by
    cases h with
    | cons a b =>
      obtain ⟨q, xs', rfl, h1, h2⟩ := dpTup a
      rw [dpAll_ints h2] at h1
      exact .cons (.tup (sqt_mut h1 hl) (dpInts t)) (dpaTups hl b)
theorem papMut {H : Hp} {l p : Addr} {ys zs : List V} {ps : List (Int × Int)} (hl : H l = some (.lst ys)) (hn : p ≠ l) (h : Dp K H (.ref p) (dPapI ps)) : Dp K (upd H l (.lst zs)) (.ref p) (dPapI ps) := by
  obtain ⟨xs, h1, h2⟩ := dpLstA h
  have e : ps.map dPi = (ps.map fun t => [t.1, t.2]).map fun t => .tuple (t.map .int) := by rw [List.map_map]; rfl
  refine .lst (sql_mut h1 hn) ?_
  rw [e] at h2 ⊢
  exact dpaTups hl h2
theorem lksMut {H : Hp} {l : Addr} {ys zs : List V} {xs : List V} {L : Lk} (hl : H l = some (.lst ys)) (h : DpAll K H xs (L.map dLk)) : DpAll K (upd H l (.lst zs)) xs (L.map dLk) := by
  have e : L.map dLk = (L.map fun t => [((t.1 : Nat) : Int), ((t.2.1 : Nat) : Int), ((t.2.2 : Nat) : Int)]).map fun t => .tuple (t.map .int) := by rw [List.map_map]; rfl
  rw [e] at h ⊢
  exact dpaTups hl h
theorem dpaSet {H : Hp} {v : V} {d : PyData} : ∀ {xs : List V} {ds : List PyData}, DpAll K H xs ds → Dp K H v d → ∀ i, DpAll K H (xs.set i v) (ds.set i d)
  | _, _, .nil, _, _ => .nil
  | _, _, .cons _ t, hv, 0 => .cons hv t
  | _, _, .cons h t, hv, i + 1 => .cons h (dpaSet t hv i)
theorem lk_set (L : Lk) (t : Nat × Nat × Nat) {i : Nat} (hi : i < L.length) (k : Nat) : (L.set i t).getD k (0, 0, 0) = if k = i then t else L.getD k (0, 0, 0) := by
  rw [List.getD_eq_getElem?_getD, List.getD_eq_getElem?_getD, List.getElem?_set]
  by_cases e : i = k
  · subst e; rw [if_pos rfl, if_pos hi, if_pos rfl]; rfl
  · rw [if_neg e, if_neg fun z => e z.symm]
theorem LOk.set {n : Nat} {L : Lk} (h : LOk n L) {i w : Nat} (hi : i < L.length) (hw : w ≤ lkw L i) : LOk n (L.set i (lka L i, lkb L i, w)) := by
  refine ⟨fun k hk => ?_, fun k => ?_⟩
  · rw [List.length_set] at hk
    unfold lka lkb
    rw [lk_set L _ hi]
    by_cases e : k = i
    · rw [if_pos e]; exact h.b i hi
    · rw [if_neg e]; exact h.b k hk
  · unfold lkw
    rw [lk_set L _ hi]
    by_cases e : k = i
    · rw [if_pos e]; exact Nat.le_trans hw (h.w i)
    · rw [if_neg e]; exact h.w k
theorem sumPow (r : List Nat) : ∃ x : Nat, (r.map fun y => ((2 ^ y : Nat) : Int)).sum = (x : Int) := by
  induction r with
  | nil => exact ⟨0, rfl⟩
  | cons y r ih =>
    obtain ⟨x, hx⟩ := ih
    exact ⟨2 ^ y + x, by rw [List.map_cons, List.sum_cons, hx, Int.natCast_add]⟩
theorem iv_take (r : List Nat) (k : Nat) : (iv r).take k = iv (r.take k) := by unfold iv; rw [List.map_take]
theorem ok_law {f : Addr} {fd : FuncData} (F : Fun K "law" "law" s_law f fd) (B : Bl mg) (h_law_rooms_by : Has P w K mg base CX0 1 "_law_rooms_by" ["cell", "many"] (spRoomsBy K)) (h_law_links_by : Has P w K mg base CX0 2 "_law_links_by" ["script", "rooms", "many", "prices"] (spLinks29 K)) (h_law_paper_by : Has P w K mg base CX0 2 "_law_paper_by" ["script", "rooms", "many", "prices"] (spPaperBy K)) (h_examined : Has P w K mg base CX0 4 "examined" ["many", "links", "marks", "used", "paper"] (spExamD K)) (h_law_cell_at : Has P w K mg base CX0 1 "_law_cell_at" ["script", "k"] (spCell K)) (h_law_paper_put : Has P w K mg base CX0 1 "_law_paper_put" ["paper", "way", "cell", "many", "marks"] (spPaperPut K)) (h_law_due : Has P w K mg base CX0 2 "_law_due" ["many", "links", "marks", "used", "paper"] (spDue29 K)) : FnOk P w K mg base CX0 5 f fd ["script"] (spLaw K) := by
  refine F.ok sc_law (by walk_at "len") (fun cdv A outer s H vs Q E hr h => ?_)
  obtain ⟨a, ns, rfl, hS, hlen, _, q⟩ := h
  have hS0 := hS.sq
  refine ⟨_, (pss_cons (ps_set (i := 1) sc_law.nd rfl (.inl rfl) (pe_op op_add pe_int (pe_op op_mod (pe_fn h_law_cell_at (hr.mono (by decide)) (by rfl) (pa_cons (pv 0) (pa_cons pe_int pa_nil))) pe_int)))
 (pss_cons (ps_set (i := 2) sc_law.nd rfl (.inl rfl) (pe_fn h_law_rooms_by (hr.mono (by decide)) (by rfl) (pa_cons (pe_op op_mod (pe_fn h_law_cell_at (hr.mono (by decide)) (by rfl) (pa_cons (pv 0) (pa_cons pe_int pa_nil))) (pe_op op_pow pe_int pe_int)) (pa_cons (pv 1) pa_nil))))
 (pss_cons (ps_set (i := 2) sc_law.nd rfl (.inl rfl) (pe_slice (sl_listK K) (pv 2) po_none (po_some (pe_op op_mulX pe_int (pe_op op_mod (pe_fn h_law_cell_at (hr.mono (by decide)) (by rfl) (pa_cons (pv 0) (pa_cons pe_int pa_nil))) (pe_op op_add pe_int (pe_callB (call_min2 rfl) (by rfl) B.min (by decide +kernel) (pa_cons pe_int (pa_cons (pe_op op_fdivW (pv 1) pe_int) pa_nil)))))))))
 (pss_cons (ps_set (i := 3) sc_law.nd rfl (.inl rfl) (pe_op op_rep (pe_lst (pa_cons pe_int pa_nil)) (pv 1)))
 (pss_cons (ps_for PassesOwn.never rfl (pi_range1 (by rfl) B.range (pa_cons (pe_callB (call_lenK K) (by rfl) B.len (by decide +kernel) (pa_cons (pv 2) pa_nil)) pa_nil)) (pg_name (i := 4) sc_law.nd rfl (.inl rfl)) (pss_one (ps_asg (pe_op op_add pe_int (pe_op op_mod (pe_op op_fdivW (pe_fn h_law_cell_at (hr.mono (by decide)) (by rfl) (pa_cons (pv 0) (pa_cons (pe_op op_add pe_int (pe_op op_mulX pe_int (pv 4))) pa_nil))) pe_int) (pe_op op_pow pe_int pe_int))) (pg_sub (pv 3) (pe_ix (ix_listK K) (pv 2) (pv 4) (fun _ _ => rfl)) set_list))))
 (pss_cons (ps_set (i := 5) sc_law.nd rfl (.inl rfl) (pe_fn h_law_links_by (hr.mono (by decide)) (by rfl) (pa_cons (pv 0) (pa_cons (pv 2) (pa_cons (pv 1) (pa_cons (pv 3) pa_nil))))))
 (pss_cons (ps_set (i := 6) sc_law.nd rfl (.inl rfl) (pe_fn h_law_paper_by (hr.mono (by decide)) (by rfl) (pa_cons (pv 0) (pa_cons (pv 2) (pa_cons (pv 1) (pa_cons (pv 3) pa_nil))))))
 (pss_cons (ps_set (i := 7) sc_law.nd rfl (.inl rfl) (pe_op op_sub (pe_op op_shlW pe_int (pe_op op_fdivW (pe_callB (call_lenK K) (by rfl) B.len (by decide +kernel) (pa_cons (pv 2) pa_nil)) pe_int)) pe_int))
 (pss_cons (ps_set (i := 8) sc_law.nd rfl (.inl rfl) (pe_callB (cr_sumK K rfl) (by rfl) B.sum (by decide +kernel) (pa_cons (pe_lc (own := [("room", 14)]) rfl sc_law.nd (pi_listK K (pv 2)) (blkOk_by (own := [("room", 14)]) (N := ["script", "many", "rooms", "prices", "k", "links", "paper", "used", "marks", "way", "cell", "at", "handed", "found", "room"]) (sc := defScope s_law) (by decide +kernel)) (fun _ _ _ _ _ => pg_name (i := 14) sc_law.nd rfl (Or.inl rfl)) (fun _ _ _ _ _ => pts_nil) (fun _ _ _ _ _ => (pe_op op_shlW pe_int (pv 14)))) pa_nil)))
 (pss_cons (ps_set (i := 9) sc_law.nd rfl (.inl rfl) (pe_op op_mod (pe_fn h_law_cell_at (hr.mono (by decide)) (by rfl) (pa_cons (pv 0) (pa_cons pe_int pa_nil))) pe_int))
 (pss_cons (ps_set (i := 10) sc_law.nd rfl (.inl rfl) (pe_op op_mod (pe_fn h_law_cell_at (hr.mono (by decide)) (by rfl) (pa_cons (pv 0) (pa_cons pe_int pa_nil))) (pe_op op_pow pe_int pe_int)))
 (pss_cutX (ps_if (PW.pt (pw_and (pt_cmpR op_lt (pv 9) pe_int (nomark _)) (pw_and1 (pt_cmpR (op_neDK K hr.units) (pv 6) (pe_lst pa_nil) (nomark _))))) (pss_one (ps_set (i := 6) sc_law.nd rfl (.inl rfl) (pe_fn h_law_paper_put (hr.mono (by decide)) (by rfl) (pa_cons (pv 6) (pa_cons (pv 9) (pa_cons (pv 10) (pa_cons (pv 1) (pa_cons (pv 8) pa_nil)))))))) pss_nil)
 (pss_cutX (ps_if (pt_cmpR op_eq (pv 9) pe_int (nomark _)) (pss_one (ps_set (i := 7) sc_law.nd rfl (.inl rfl) (pe_op op_xor (pv 7) (pe_op op_shlW pe_int (pe_op op_mod (pv 10) (pe_op op_add (pe_callB (call_lenK K) (by rfl) B.len (by decide +kernel) (pa_cons (pv 5) pa_nil)) pe_int)))))) pss_nil)
 (pss_cutX (ps_if (pt_cmpR op_eq (pv 9) pe_int (nomark _)) (pss_one (ps_set (i := 8) sc_law.nd rfl (.inl rfl) (pe_op op_xor (pv 8) (pe_op op_shlW pe_int (pe_op op_mod (pv 10) (pv 1)))))) pss_nil)
 (pss_cutX (ps_if (pt_cmpR op_eq (pv 9) pe_int (nomark _)) (pss_one (ps_set (i := 8) sc_law.nd rfl (.inl rfl) (pe_op op_xor (pe_op op_xor (pv 8) (pe_op op_shlW pe_int (pe_op op_mod (pv 10) (pv 1)))) (pe_op op_shlW pe_int (pe_op op_mod (pe_op op_fdivW (pv 10) pe_int) (pv 1)))))) pss_nil)
 (pss_cutX (ps_if (PW.pt (pw_and (pt_cmpR op_eq (pv 9) pe_int (nomark _)) (pw_and1 (pt_cmpR (op_neDK K hr.units) (pv 5) (pe_lst pa_nil) (nomark _))))) (pss_cons (ps_set (i := 11) sc_law.nd rfl (.inl rfl) (pe_op op_mod (pv 10) (pe_callB (call_lenK K) (by rfl) B.len (by decide +kernel) (pa_cons (pv 5) pa_nil))))
 (pss_one (ps_asg (pe_op op_catT (pe_slice sl_tup (pe_ix (ix_listK K) (pv 5) (pv 11) (fun _ _ => rfl)) po_none (po_some pe_int)) (pe_tup (pa_cons (pe_callB (call_max2 rfl) (by rfl) B.max (by decide +kernel) (pa_cons pe_int (pa_cons (pe_op op_sub (pe_ix (ix_tupK K) (pe_ix (ix_listK K) (pv 5) (pv 11) (fun _ _ => rfl)) pe_int (fun _ _ => rfl)) pe_int) pa_nil))) pa_nil))) (pg_sub (pv 5) (pv 11) set_list)))) pss_nil)
 (pss_cons (ps_set (i := 12) sc_law.nd rfl (.inl rfl) (pe_lst (pa_cons (pe_callTy (call_listK K) (by rfl) B.list (by decide +kernel) (pa_cons (pv 5) pa_nil)) (pa_cons (pe_callTy (call_listK K) (by rfl) B.list (by decide +kernel) (pa_cons (pv 6) pa_nil)) pa_nil))))
 (pss_cons (ps_set (i := 13) sc_law.nd rfl (.inl rfl) (pe_fn h_examined (hr.mono (by decide)) (by rfl) (pa_cons (pv 1) (pa_cons (pe_ix (ix_listK K) (pv 12) pe_int (fun _ _ => rfl)) (pa_cons (pv 8) (pa_cons (pv 7) (pa_cons (pe_ix (ix_listK K) (pv 12) pe_int (fun _ _ => rfl)) pa_nil)))))))
 (pss_cons (ps_if (PW.pt (pw_or (pt_not (pt_val (pe_callB (call_isiK' K) (by rfl) B.isinstance (by decide +kernel) (pa_cons (pv 13) (pa_cons (pe_bltn (v := .ty "bool") (by rfl) B.bool (by decide +kernel) rfl) pa_nil))))) (pw_or (pt_cmpR (op_neDK K hr.units) (pe_ix (ix_listK K) (pv 12) pe_int (fun _ _ => rfl)) (pv 5) (nomark _)) (pw_or1 (pt_cmpR (op_neDK K hr.units) (pe_ix (ix_listK K) (pv 12) pe_int (fun _ _ => rfl)) (pv 6) (nomark _)))))) (pss_one (ps_ret pe_bl)) pss_nil)
 (pss_one (ps_ret (pe_cmpR op_eq (pv 13) (pe_fn h_law_due (hr.mono (by decide)) (by rfl) (pa_cons (pv 1) (pa_cons (pv 5) (pa_cons (pv 8) (pa_cons (pv 7) (pa_cons (pv 6) pa_nil)))))) (nomark _))))))))))))))))))))))), ?_⟩
  walk_at "sts"
  refine ⟨a, ns, 0, rfl, hS0, ?_⟩
  walk_at "sts"
  obtain ⟨n, hn, hn1, hn2⟩ : ∃ n : Nat, 1 + ns.getD 0 0 % 20 = (n : Int) ∧ 1 ≤ n ∧ n ≤ 20 := ⟨(1 + ns.getD 0 0 % 20).toNat, by omega, by omega, by omega⟩
  rw [hn]
  refine ⟨a, ns, 1, rfl, hS0, ?_⟩
  walk_at "sts"
  have p30 : (10 : Int) ^ Int.toNat 30 = 1000000000000000000000000000000 := by decide
  have q30 : (10 : Nat) ^ 30 = 1000000000000000000000000000000 := by decide
  rw [p30]
  walk_at "sts"
  obtain ⟨z, hz, hz2⟩ : ∃ z : Nat, ns.getD 1 0 % 1000000000000000000000000000000 = (z : Int) ∧ z < 1000000000000000000000000000000 := ⟨(ns.getD 1 0 % 1000000000000000000000000000000).toNat, by omega, by omega⟩
  rw [hz]
  refine ⟨z, n, rfl, by omega, hn2, fun pr H1 r s1 n1 hpr hrl hrn => ?_⟩
  have hS1 := s1.seq hS0
  walk_at "sts"
  refine ⟨a, ns, 2, rfl, hS1, ?_⟩
  walk_at "sts"
  obtain ⟨k, hk, hk9, hkn⟩ : ∃ k : Nat, ns.getD 2 0 % (1 + if ((n : Nat) : Int) / 2 < 9 then ((n : Nat) : Int) / 2 else 9) = (k : Int) ∧ k ≤ 9 ∧ 2 * k ≤ n := by
    obtain ⟨M, hM, hM9, hMn⟩ : ∃ M : Nat, (1 + if ((n : Nat) : Int) / 2 < 9 then ((n : Nat) : Int) / 2 else 9) = ((M + 1 : Nat) : Int) ∧ M ≤ 9 ∧ 2 * M ≤ n := by
      by_cases h : ((n : Nat) : Int) / 2 < 9
      · rw [if_pos h]; exact ⟨n / 2, by omega, by omega, by omega⟩
      · rw [if_neg h]; exact ⟨9, by omega, by omega, by omega⟩
    rw [hM]
    obtain ⟨k, h1, h2⟩ := modN (ns.getD 2 0) (show 0 < M + 1 by omega)
    exact ⟨k, h1, by omega, by omega⟩
  rw [hk]
  walk_at "sts"
  refine w_new fun pr2 nr2 => ?_
  rw [show (2 * ((k : Nat) : Int)) = ((2 * k : Nat) : Int) by omega, cutV_to, iv_take]
  obtain ⟨r2, hr2⟩ : ∃ r2, r2 = r.take (2 * k) := ⟨_, rfl⟩
  have hr2l : r2.length = 2 * k := by rw [hr2, List.length_take]; omega
  have hr2n : ∀ x ∈ r2, x < n := fun x hx => hrn x (by rw [hr2] at hx; exact List.mem_of_mem_take hx)
  rw [← hr2]
  have t2 := same_upd (o := .lst (iv r2)) nr2
  have l2 := upd_same (H := H1) (a := pr2) (o := .lst (iv r2))
  have s2 := s1.trans t2
  generalize upd H1 pr2 (.lst (iv r2)) = H2 at l2 s2 ⊢
  clear t2 nr2 hpr
  walk_at "sts"
  refine w_new fun pz nz => ?_
  walk_at "sts"
  refine w_rep (xs := [.int 0]) upd_same (by omega) (by omega) (Nat.le_trans (show 1 * n ≤ 20 by omega) (by decide)) ?_
  refine w_new fun pp np => ?_
  have ez : (List.replicate (Int.toNat ((n : Nat) : Int)) [V.int 0]).flatten = iv ((List.range n).map fun _ => 0) := by
    rw [show Int.toNat ((n : Nat) : Int) = n from rfl]
    have : ∀ m : Nat, (List.replicate m [V.int 0]).flatten = iv ((List.range m).map fun _ => 0) := by
      intro m
      induction m with
      | zero => rfl
      | succ m ih =>
        rw [List.replicate_succ', List.flatten_append, ih, List.range_succ, List.map_append, iv_app]
        rfl
    exact this n
  rw [ez]
  have t3 := (same_upd (o := .lst [.int 0]) nz).trans (same_upd (o := .lst (iv ((List.range n).map fun _ => 0))) np)
  have l3 := upd_same (H := upd H2 pz (.lst [.int 0])) (a := pp) (o := .lst (iv ((List.range n).map fun _ => 0)))
  have l2' := t3 _ _ l2
  have s3 := s2.trans t3
  have npp : New H2 pp := (same_upd (o := .lst [.int 0]) nz).free np
  have npH : New H pp := s2.free npp
  have hne : pr2 ≠ pp := fun e => by rw [e, npp] at l2; cases l2
  generalize upd (upd H2 pz (.lst [.int 0])) pp (.lst (iv ((List.range n).map fun _ => 0))) = H3 at l3 l2' s3 t3 ⊢
  clear nz np ez
  walk_at "sts"
  rw [iv_len]
  refine ⟨by omega, by omega, ?_⟩
  have q31 : (10 : Nat) ^ 31 = 10000000000000000000000000000000 := by decide
  refine for_r0 (n := r2.length) rfl (fun i σ H' => ∃ (y4 : Option V) (W : Nat → Nat), σ = [some (.ref a), some (.int (n : Nat)), some (.ref pr2), some (.ref pp), y4, none, none, none, none, none, none, none, none, none, none] ∧ Same H2 H' ∧ H' pr2 = some (.lst (iv r2)) ∧ H' pp = some (.lst (iv ((List.range n).map W))) ∧ ∀ j, W j ≤ 10 ^ 31) ?_ ?_ ?_
  · exact ⟨_, fun _ => 0, rfl, t3, l2', l3, fun j => Nat.zero_le _⟩
  · rintro i σ H' hi ⟨y4, W, rfl, s4, l4, l5, hW⟩
    have hS4 := (s2.trans s4).seq hS0
    have e1 := iv_at (r := r2) (i := i) hi
    have hrn2 : r2.getD i 0 < n := hr2n _ (by rw [List.getD_eq_getElem?_getD, List.getElem?_eq_getElem hi]; exact List.getElem_mem hi)
    have hwl := ivr_len W n
    walk_at "sts"
    rw [show ((5 : Int) + 3 * ((i : Nat) : Int)) = ((5 + 3 * i : Nat) : Int) by omega]
    refine ⟨a, ns, 5 + 3 * i, rfl, hS4, ?_⟩
    walk_at "sts"
    rw [p30]
    walk_at "sts"
    obtain ⟨v, hv, hv2⟩ : ∃ v : Nat, 1 + ns.getD (5 + 3 * i) 0 / 5 % 1000000000000000000000000000000 = (v : Int) ∧ v ≤ 10 ^ 31 := ⟨(1 + ns.getD (5 + 3 * i) 0 / 5 % 1000000000000000000000000000000).toNat, by omega, by omega⟩
    rw [hv]
    walk_at "sts"
    rw [iv_setW]
    refine ⟨_, upF W (r2.getD i 0) v, rfl, s4.mut npp, ?_, upd_same, fun j => ?_⟩
    · rw [upd_ne hne]
      exact l4
    · unfold upF
      split
      · exact hv2
      · exact hW j
  rintro σ H4 ⟨y4, W, rfl, s4, l4, l5, hW⟩
  walk_at "sts"
  refine ⟨a, pr2, pp, ns, r2, n, W, rfl, (s2.trans s4).seq hS0, hlen, SqL.of l4, by omega, by omega, hr2n, hn1, hn2, SqL.of l5, hW, fun pl H5 L s5 n5 hL hLok hLl => ?_⟩
  walk_at "sts"
  refine ⟨a, pr2, pp, ns, r2, n, W, rfl, (s2.trans (s4.trans s5)).seq hS0, s5.seq (SqL.of l4), by omega, hr2n, hn2, s5.seq (SqL.of l5), hW, fun pa H6 ps s6 n6 hG hpl => ?_⟩
  have l6 := s6 _ _ (s5 _ _ l4)
  have hS6 := (s2.trans (s4.trans (s5.trans s6))).seq hS0
  have hL6 := hL.dp.same s6
  obtain ⟨ls0, hl0, hls0⟩ := id hL
  have hl6 := s6 _ _ hl0
  have hl0' := hl0
  have hLd : DpAll K H6 ls0 (L.map dLk) := (hls0.same wo_same).same s6
  have n5' := n5
  clear hL s4 s5 l5 l4
  walk_at "sts"
  rw [iv_len, show (((r2.length : Nat) : Int) / 2) = ((k : Nat) : Int) by omega]
  walk_at "sts"
  rw [shl_one, show ((2 ^ k : Nat) : Int) - 1 = ((2 ^ k - 1 : Nat) : Int) by have := Nat.two_pow_pos k; omega]
  generalize 2 ^ k - 1 = u0
  intro D nD
  refine lc_list (xs := iv r2) (fun i H' => H' D = some (.lst (((r2.take i).map fun y => ((2 ^ y : Nat) : Int)).map V.int)) ∧ Same H6 H') ?_ ?_ ?_ ?_
  · exact ⟨upd_same, same_upd nD⟩
  · rintro i H' _ ⟨_, s7⟩
    exact SqL.of (s7 _ _ l6)
  · rintro i v H' hv ⟨l7, s7⟩
    have hi : i < r2.length := by have := (List.getElem?_eq_some_iff.mp hv).1; rwa [iv_len] at this
    rw [iv_at hi] at hv
    cases hv
    have hrn2 : r2.getD i 0 < n := hr2n _ (by rw [List.getD_eq_getElem?_getD, List.getElem?_eq_getElem hi]; exact List.getElem_mem hi)
    walk_at "sts"
    rw [shl_one]
    refine ⟨_, l7, szlt (by rw [List.length_map, List.length_map, List.length_take]; omega), ?_, s7.mut nD⟩
    rw [upd_same, take_snoc hi, List.map_append, List.map_append]
    rfl
  rintro H7 ⟨l7, s7⟩
  rw [iv_len, List.take_length] at l7
  obtain ⟨x0, hx0⟩ := sumPow r2
  walk_at "sts"
  refine ⟨D, _, rfl, SqL.of l7, ?_⟩
  rw [hx0]
  have hS7 := s7.seq hS6
  walk_at "sts"
  refine ⟨a, ns, 3, rfl, hS7, ?_⟩
  walk_at "sts"
  obtain ⟨way, hway, hway2⟩ : ∃ w : Nat, ns.getD 3 0 % 20 = (w : Int) ∧ w < 20 := ⟨(ns.getD 3 0 % 20).toNat, by omega, by omega⟩
  rw [hway]
  refine ⟨a, ns, 4, rfl, hS7, ?_⟩
  walk_at "sts"
  rw [show (10 : Int) ^ Int.toNat 40 = 10000000000000000000000000000000000000000 by decide]
  walk_at "sts"
  obtain ⟨cl, hcl, hcl2⟩ : ∃ w : Nat, ns.getD 4 0 % 10000000000000000000000000000000000000000 = (w : Int) ∧ w < 10000000000000000000000000000000000000000 := ⟨(ns.getD 4 0 % 10000000000000000000000000000000000000000).toNat, by omega, by omega⟩
  rw [hcl]
  have npl : pa ≠ pl := fun e => by have h := hl0'; rw [← e, show H5 pa = none from n6] at h; cases h
  have hl7 := s7 _ _ hl6
  have hLd7 := hLd.same s7
  have hG7 := hG.same s7
  refine w_cut (fun σ' H' => ∃ (pa' : Addr) (ps' : List (Int × Int)), σ' = [some (.ref a), some (.int (n : Nat)), some (.ref pr2), some (.ref pp), y4, some (.ref pl), some (.ref pa'), some (.int (u0 : Nat)), some (.int (x0 : Nat)), some (.int (way : Nat)), some (.int (cl : Nat)), none, none, none, none] ∧ Same H7 H' ∧ pa' ≠ pl ∧ Dp K H' (.ref pa') (dPapI ps') ∧ ps'.length ≤ 50) ?_ ?_
  · walk_at "sts"
    refine ifd (fun h11 => ?_) (fun h11 => ?_)
    · walk_at "sts"
      refine w_new fun pe ne => ?_
      have te := same_upd (o := .lst []) ne
      have le := upd_same (H := H7) (a := pe) (o := .lst [])
      have hG8 := hG7.same te
      generalize upd H7 pe (.lst []) = H8 at te le hG8 ⊢
      cases ps with
      | nil =>
        refine w_neD hG8.dp (.lst (SqL.of le) .nil) (goodLst (n := 0) (ds := []) fun d hd => (by cases hd)) (by decide) ?_
        walk_at "sts"
        exact ⟨pa, [], rfl, te, npl, hG8.dp, by decide⟩
      | cons t ps =>
        refine w_neNil hG8.dp (goodPapI (t :: ps)) (by decide) le ?_
        walk_at "sts"
        refine ⟨pa, t :: ps, way, cl, n, x0, rfl, hG8, by simp, hpl, by omega, hn2, by omega, fun pa2 H9 ps2 s9 n9 hd9 hl9 _ => ?_⟩
        walk_at "sts"
        exact ⟨pa2, ps2, rfl, te.trans s9, (fun e => by have h := te _ _ hl7; rw [← e, show H8 pa2 = none from n9] at h; cases h), hd9, hl9⟩
    · walk_at "sts"
      exact ⟨pa, ps, rfl, Same.refl _, npl, hG7.dp, by omega⟩
  clear hG7 hG hpl npl
  rintro σ' H8 ⟨pa', ps', rfl, s8, npl, hP, hPl⟩
  have hl8 := s8 _ _ hl7
  have hLd8 := hLd7.same s8
  have hlsl : ls0.length = L.length := by have := dpaLen hLd8; simpa using this
  clear hL6 hls0 hLd hLd7
  try dsimp only
  refine w_cut (fun σ' H' => ∃ u1 : Nat, σ' = [some (.ref a), some (.int (n : Nat)), some (.ref pr2), some (.ref pp), y4, some (.ref pl), some (.ref pa'), some (.int (u1 : Nat)), some (.int (x0 : Nat)), some (.int (way : Nat)), some (.int (cl : Nat)), none, none, none, none] ∧ H' = H8) ?_ ?_
  · walk_at "sts"
    refine ifd (fun hc => ?_) (fun hc => ?_)
    · walk_at "sts"
      rw [hlsl]
      obtain ⟨g, hg, hgb⟩ := modN ((cl : Nat) : Int) (show 0 < L.length + 1 by omega)
      rw [show ((L.length : Nat) : Int) + 1 = ((L.length + 1 : Nat) : Int) from rfl, hg]
      walk_at "sts"
      rw [shl_one, xor_nat]
      exact ⟨_, rfl, rfl⟩
    · walk_at "sts"
      exact ⟨u0, rfl, rfl⟩
  clear hx0
  rintro σ' H9 ⟨u1, rfl, rfl⟩
  obtain ⟨g, hg, hgb⟩ := modN ((cl : Nat) : Int) (show 0 < n by omega)
  obtain ⟨g2, hg2, hgb2⟩ := modN (((cl : Nat) : Int) / 12) (show 0 < n by omega)
  try dsimp only
  refine w_cut (fun σ' H' => ∃ x1 : Nat, σ' = [some (.ref a), some (.int (n : Nat)), some (.ref pr2), some (.ref pp), y4, some (.ref pl), some (.ref pa'), some (.int (u1 : Nat)), some (.int (x1 : Nat)), some (.int (way : Nat)), some (.int (cl : Nat)), none, none, none, none] ∧ H' = H9) ?_ ?_
  · walk_at "sts"
    refine ifd (fun hc => ?_) (fun hc => ?_)
    · walk_at "sts"
      rw [hg]
      walk_at "sts"
      rw [shl_one, xor_nat]
      exact ⟨_, rfl, rfl⟩
    · walk_at "sts"
      exact ⟨x0, rfl, rfl⟩
  rintro σ' H10 ⟨x1, rfl, rfl⟩
  try dsimp only
  refine w_cut (fun σ' H' => ∃ x2 : Nat, σ' = [some (.ref a), some (.int (n : Nat)), some (.ref pr2), some (.ref pp), y4, some (.ref pl), some (.ref pa'), some (.int (u1 : Nat)), some (.int (x2 : Nat)), some (.int (way : Nat)), some (.int (cl : Nat)), none, none, none, none] ∧ H' = H10) ?_ ?_
  · walk_at "sts"
    refine ifd (fun hc => ?_) (fun hc => ?_)
    · walk_at "sts"
      rw [hg]
      walk_at "sts"
      rw [hg2]
      walk_at "sts"
      rw [shl_one, xor_nat, shl_one, xor_nat]
      exact ⟨_, rfl, rfl⟩
    · walk_at "sts"
      exact ⟨x1, rfl, rfl⟩
  rintro σ' H11 ⟨x2, rfl, rfl⟩
  refine w_cut (fun σ' H' => ∃ (y11 : Option V) (ls' : List V) (L' : Lk), σ' = [some (.ref a), some (.int (n : Nat)), some (.ref pr2), some (.ref pp), y4, some (.ref pl), some (.ref pa'), some (.int (u1 : Nat)), some (.int (x2 : Nat)), some (.int (way : Nat)), some (.int (cl : Nat)), y11, none, none, none] ∧ H' pl = some (.lst ls') ∧ DpAll K H' ls' (L'.map dLk) ∧ L'.length ≤ 100 ∧ LOk n L' ∧ Dp K H' (.ref pa') (dPapI ps')) ?_ ?_
  · walk_at "sts"
    refine ifd (fun h14 => ?_) (fun h14 => ?_)
    · walk_at "sts"
      refine w_new fun pe ne => ?_
      have te := same_upd (o := .lst []) ne
      have le := upd_same (H := H11) (a := pe) (o := .lst [])
      have hl9 := te _ _ hl8
      have hLd9 := hLd8.same te
      have hP9 := hP.same te
      generalize upd H11 pe (.lst []) = H12 at te le hl9 hLd9 hP9 ⊢
      cases L with
      | nil =>
        refine w_neD (.lst (SqL.of hl9) hLd9) (.lst (SqL.of le) .nil) (goodLst (n := 0) (ds := []) fun d hd => (by cases hd)) (by decide) ?_
        walk_at "sts"
        exact ⟨_, ls0, [], rfl, hl9, hLd9, by decide, LOk.nil n, hP9⟩
      | cons t L =>
        refine w_neNil (.lst (SqL.of hl9) hLd9) (goodLks (t :: L)) (by decide) le ?_
        walk_at "sts"
        rw [hlsl]
        obtain ⟨g3, hg3, hgb3⟩ := modN ((cl : Nat) : Int) (show 0 < (t :: L).length by simp)
        refine w_mod (by have : 0 < (t :: L).length := by simp
                         omega) ?_
        rw [hg3]
        obtain ⟨pk, e1, e2⟩ := dpLkAt hLd9 hgb3
        have hll9 : ls0.length = (t :: L).length := hlsl
        walk_at "sts"
        refine ⟨pk, _, rfl, e2, fun h => absurd h.2 (show ¬ HT.sIx 3 3 (some 2) = 3 by decide), w_new fun q1 m1 => ?_⟩
        have k1 := upd_same (H := H12) (a := q1) (o := .tup (cutV [V.int ((lka (t :: L) g3 : Nat) : Int), .int ((lkb (t :: L) g3 : Nat) : Int), .int ((lkw (t :: L) g3 : Nat) : Int)] none (some 2)))
        rw [show cutV [V.int ((lka (t :: L) g3 : Nat) : Int), .int ((lkb (t :: L) g3 : Nat) : Int), .int ((lkw (t :: L) g3 : Nat) : Int)] none (some 2) = [V.int ((lka (t :: L) g3 : Nat) : Int), .int ((lkb (t :: L) g3 : Nat) : Int)] from rfl] at k1 ⊢
        have v1 := same_upd (o := .tup [V.int ((lka (t :: L) g3 : Nat) : Int), .int ((lkb (t :: L) g3 : Nat) : Int)]) m1
        have hl10 := v1 _ _ hl9
        have hLd10 := hLd9.same v1
        have hP10 := hP9.same v1
        have e3 := same_read v1 e2
        generalize upd H12 q1 (.tup [V.int ((lka (t :: L) g3 : Nat) : Int), .int ((lkb (t :: L) g3 : Nat) : Int)]) = H13 at k1 hl10 hLd10 hP10 e3 ⊢
        clear v1 m1
        walk_at "sts"
        refine w_new fun q2 m2 => ?_
        obtain ⟨w2, hw2, hw3⟩ : ∃ w2 : Nat, (if ((lkw (t :: L) g3 : Nat) : Int) - 1 > 0 then ((lkw (t :: L) g3 : Nat) : Int) - 1 else 0) = (w2 : Int) ∧ w2 ≤ lkw (t :: L) g3 := by
          by_cases h : ((lkw (t :: L) g3 : Nat) : Int) - 1 > 0
          · rw [if_pos h]; exact ⟨lkw (t :: L) g3 - 1, by omega, by omega⟩
          · rw [if_neg h]; exact ⟨0, rfl, by omega⟩
        rw [hw2]
        have k2 := upd_same (H := H13) (a := q2) (o := .tup [.int (w2 : Nat)])
        have v2 := same_upd (o := .tup [.int (w2 : Nat)]) m2
        have hl11 := v2 _ _ hl10
        have hLd11 := hLd10.same v2
        have hP11 := hP10.same v2
        have k1 := v2 _ _ k1
        generalize upd H13 q2 (.tup [.int (w2 : Nat)]) = H14 at k1 k2 hl11 hLd11 hP11 ⊢
        clear v2 m2
        refine ⟨q1, q2, _, _, rfl, rfl, SqT.of k1, SqT.of k2, (fun h => by cases h), sz60 (by show 2 + 1 ≤ 60; decide), (fun h => by cases h), fun _ => w_new fun q3 m3 => ?_⟩
        have k3 := upd_same (H := H14) (a := q3) (o := .tup ([V.int ((lka (t :: L) g3 : Nat) : Int), .int ((lkb (t :: L) g3 : Nat) : Int)] ++ [.int (w2 : Nat)]))
        have v3 := same_upd (o := .tup ([V.int ((lka (t :: L) g3 : Nat) : Int), .int ((lkb (t :: L) g3 : Nat) : Int)] ++ [.int (w2 : Nat)])) m3
        have hl12 := v3 _ _ hl11
        have hLd12 := hLd11.same v3
        have hP12 := hP11.same v3
        generalize upd H14 q3 (.tup ([V.int ((lka (t :: L) g3 : Nat) : Int), .int ((lkb (t :: L) g3 : Nat) : Int)] ++ [.int (w2 : Nat)])) = H15 at k3 hl12 hLd12 hP12 ⊢
        clear v3 m3
        walk_at "sts"
        refine ⟨_, ls0.set g3 (.ref q3), (t :: L).set g3 (lka (t :: L) g3, lkb (t :: L) g3, w2), rfl, upd_same, ?_, by rw [List.length_set]; exact hLl, hLok.set hgb3 hw3, papMut hl12 npl hP12⟩
        rw [List.map_set]
        exact dpaSet (lksMut hl12 hLd12) (.tup (sqt_mut (SqT.of k3) hl12) (dpInts [((lka (t :: L) g3 : Nat) : Int), ((lkb (t :: L) g3 : Nat) : Int), ((w2 : Nat) : Int)])) g3
    · walk_at "sts"
      exact ⟨_, ls0, L, rfl, hl8, hLd8, hLl, hLok, hP⟩
  rintro σ' H12 ⟨y11, ls', L', rfl, hl9, hLd9, hLl9, hLok9, hP9⟩
  have hls9 : ls'.length = L'.length := by have := dpaLen hLd9; simpa using this
  obtain ⟨xs', hxs', hxa'⟩ := dpLstA hP9
  walk_at "sts"
  refine w_new fun c1 m1 => ?_
  have u1' := same_upd (o := .lst ls') m1
  have k1 := upd_same (H := H12) (a := c1) (o := .lst ls')
  have hLd10 := hLd9.same u1'
  have hl10 := u1' _ _ hl9
  have hP10 := hP9.same u1'
  have hxs10 := u1'.seq hxs'
  have hxa10 := hxa'.same u1'
  generalize upd H12 c1 (.lst ls') = H13 at k1 hLd10 hl10 hP10 hxs10 hxa10 ⊢
  clear u1' m1
  walk_at "sts"
  refine w_new fun c2 m2 => ?_
  have u2' := same_upd (o := .lst xs') m2
  have k2 := upd_same (H := H13) (a := c2) (o := .lst xs')
  have hLd11 := hLd10.same u2'
  have hl11 := u2' _ _ hl10
  have hP11 := hP10.same u2'
  have hxa11 := hxa10.same u2'
  have k1 := u2' _ _ k1
  generalize upd H13 c2 (.lst xs') = H14 at k1 k2 hLd11 hl11 hP11 hxa11 ⊢
  clear u2' m2
  walk_at "sts"
  refine w_new fun ph m3 => ?_
  have u3' := same_upd (o := .lst [.ref c1, .ref c2]) m3
  have k3 := upd_same (H := H14) (a := ph) (o := .lst [.ref c1, .ref c2])
  have hLd12 := hLd11.same u3'
  have hl12 := u3' _ _ hl11
  have hP12 := hP11.same u3'
  have hxa12 := hxa11.same u3'
  have k1 := u3' _ _ k1
  have k2 := u3' _ _ k2
  generalize upd H14 ph (.lst [.ref c1, .ref c2]) = H15 at k1 k2 k3 hLd12 hl12 hP12 hxa12 ⊢
  clear u3' m3
  have dC1 : Dp K H15 (.ref c1) (dLks L') := .lst (SqL.of k1) hLd12
  have dC2 : Dp K H15 (.ref c2) (dPapI ps') := .lst (SqL.of k2) hxa12
  have dL : Dp K H15 (.ref pl) (dLks L') := .lst (SqL.of hl12) hLd12
  have hbb : ∀ k, k < L'.length → lka L' k < 1000 ∧ lkb L' k < 1000 := fun k hk => by have := hLok9.b k hk; omega
  walk_at "sts"
  refine ⟨c1, c2, n, x2, u1, L', ps', rfl, dC1, dC2, hbb, by omega, by omega, by omega, hLok9.w, fun b1 H16 hb1 s16 => ?_⟩
  have k3 := s16 _ _ k3
  walk_at "sts"
  refine w_neD (dC1.same s16) (dL.same s16) (goodLks L') (by decide) ?_
  walk_at "sts"
  refine w_neD (dC2.same s16) (hP12.same s16) (goodPapI ps') (by decide) ?_
  walk_at "sts"
  refine ⟨pl, pa', n, x2, u1, L', ps', rfl, dL.same s16, hP12.same s16, hbb, by omega, by omega, by omega, hLok9.w, fun b2 H17 hb2 s17 => ?_⟩
  walk_at "sts"
  have e : b1 = b2 := by
    cases b1 <;> cases b2
    · rfl
    · exact absurd (hb1.mpr (hb2.mp rfl)) (by decide)
    · exact absurd (hb2.mpr (hb1.mp rfl)) (by decide)
    · rfl
  rw [decide_eq_true e]
  exact q _
end


theorem all_mk {l : PySem.W.OpenLaw} {w : World} {K : PySem.W.Frag} {h : Heap} {mg : Str → Option Value} {fa f0 f1 f2 f3 f4 f5 f6 f7 f8 f9 f10 f11 f12 f13 f14  : Addr} (X : K.In h) (G : h.Ns mainGlobals mg) (hfa : mg "law" = some (.ref fa))
    {od0 an0 od1 an1 od2 an2 od3 an3 od4 an4 od5 an5 od6 an6 od7 an7 od8 an8 od9 an9 od10 an10 od11 an11 od12 an12 od13 an13 od14 an14 : Option Addr} {sl0 sl1 sl2 sl3 sl4 sl5 sl6 sl7 sl8 sl9 sl10 sl11 sl12 sl13 sl14 : Array (Option Value)} {oc0 kV0 dc0 pm0 cd0 ct0 oc1 kV1 dc1 pm1 cd1 ct1 oc2 kV2 dc2 pm2 cd2 ct2 oc3 kV3 dc3 pm3 cd3 ct3 oc4 kV4 dc4 pm4 cd4 ct4 oc5 kV5 dc5 pm5 cd5 ct5 oc6 kV6 dc6 pm6 cd6 ct6 oc7 kV7 dc7 pm7 cd7 ct7 oc8 kV8 dc8 pm8 cd8 ct8 oc9 kV9 dc9 pm9 cd9 ct9 oc10 kV10 dc10 pm10 cd10 ct10 oc11 kV11 dc11 pm11 cd11 ct11 oc12 kV12 dc12 pm12 cd12 ct12 oc13 kV13 dc13 pm13 cd13 ct13 oc14 kV14 dc14 pm14 cd14 ct14 : Value}
    (a0 : PySem.W.nsIn K mainGlobals "ones" = some (some (.ref f0)))
    (l0 : K.lookup f0 = some ⟨oc0, od0, .func (PySem.W.fnOf "ones" "ones" (defArgs s_ones) (defBody s_ones) (defScope s_ones) .none kV0 dc0 pm0 an0 cd0 ct0), sl0⟩)
    (c0 : PySem.W.codeIn K cd0 "ones" = true)
    (k0 : PySem.W.keepIn K (.ref f0) = true)
    (a1 : PySem.W.nsIn K mainGlobals "odd" = some (some (.ref f1)))
    (l1 : K.lookup f1 = some ⟨oc1, od1, .func (PySem.W.fnOf "odd" "odd" (defArgs s_odd) (defBody s_odd) (defScope s_odd) .none kV1 dc1 pm1 an1 cd1 ct1), sl1⟩)
    (c1 : PySem.W.codeIn K cd1 "odd" = true)
    (k1 : PySem.W.keepIn K (.ref f1) = true)
    (a2 : PySem.W.nsIn K mainGlobals "odd_ends" = some (some (.ref f2)))
    (l2 : K.lookup f2 = some ⟨oc2, od2, .func (PySem.W.fnOf "odd_ends" "odd_ends" (defArgs s_odd_ends) (defBody s_odd_ends) (defScope s_odd_ends) .none kV2 dc2 pm2 an2 cd2 ct2), sl2⟩)
    (c2 : PySem.W.codeIn K cd2 "odd_ends" = true)
    (k2 : PySem.W.keepIn K (.ref f2) = true)
    (a3 : PySem.W.nsIn K mainGlobals "stands" = some (some (.ref f3)))
    (l3 : K.lookup f3 = some ⟨oc3, od3, .func (PySem.W.fnOf "stands" "stands" (defArgs s_stands) (defBody s_stands) (defScope s_stands) .none kV3 dc3 pm3 an3 cd3 ct3), sl3⟩)
    (c3 : PySem.W.codeIn K cd3 "stands" = true)
    (k3 : PySem.W.keepIn K (.ref f3) = true)
    (a4 : PySem.W.nsIn K mainGlobals "paid" = some (some (.ref f4)))
    (l4 : K.lookup f4 = some ⟨oc4, od4, .func (PySem.W.fnOf "paid" "paid" (defArgs s_paid) (defBody s_paid) (defScope s_paid) .none kV4 dc4 pm4 an4 cd4 ct4), sl4⟩)
    (c4 : PySem.W.codeIn K cd4 "paid" = true)
    (k4 : PySem.W.keepIn K (.ref f4) = true)
    (a5 : PySem.W.nsIn K mainGlobals "cost_of" = some (some (.ref f5)))
    (l5 : K.lookup f5 = some ⟨oc5, od5, .func (PySem.W.fnOf "cost_of" "cost_of" (defArgs s_cost_of) (defBody s_cost_of) (defScope s_cost_of) .none kV5 dc5 pm5 an5 cd5 ct5), sl5⟩)
    (c5 : PySem.W.codeIn K cd5 "cost_of" = true)
    (k5 : PySem.W.keepIn K (.ref f5) = true)
    (a6 : PySem.W.nsIn K mainGlobals "examined" = some (some (.ref f6)))
    (l6 : K.lookup f6 = some ⟨oc6, od6, .func (PySem.W.fnOf "examined" "examined" (defArgs s_examined) (defBody s_examined) (defScope s_examined) .none kV6 dc6 pm6 an6 cd6 ct6), sl6⟩)
    (c6 : PySem.W.codeIn K cd6 "examined" = true)
    (k6 : PySem.W.keepIn K (.ref f6) = true)
    (a7 : PySem.W.nsIn K mainGlobals "_law_cell_at" = some (some (.ref f7)))
    (l7 : K.lookup f7 = some ⟨oc7, od7, .func (PySem.W.fnOf "_law_cell_at" "_law_cell_at" (defArgs s_law_cell_at) (defBody s_law_cell_at) (defScope s_law_cell_at) .none kV7 dc7 pm7 an7 cd7 ct7), sl7⟩)
    (c7 : PySem.W.codeIn K cd7 "_law_cell_at" = true)
    (k7 : PySem.W.keepIn K (.ref f7) = true)
    (a8 : PySem.W.nsIn K mainGlobals "_law_rooms_by" = some (some (.ref f8)))
    (l8 : K.lookup f8 = some ⟨oc8, od8, .func (PySem.W.fnOf "_law_rooms_by" "_law_rooms_by" (defArgs s_law_rooms_by) (defBody s_law_rooms_by) (defScope s_law_rooms_by) .none kV8 dc8 pm8 an8 cd8 ct8), sl8⟩)
    (c8 : PySem.W.codeIn K cd8 "_law_rooms_by" = true)
    (k8 : PySem.W.keepIn K (.ref f8) = true)
    (a9 : PySem.W.nsIn K mainGlobals "_law_links_by" = some (some (.ref f9)))
    (l9 : K.lookup f9 = some ⟨oc9, od9, .func (PySem.W.fnOf "_law_links_by" "_law_links_by" (defArgs s_law_links_by) (defBody s_law_links_by) (defScope s_law_links_by) .none kV9 dc9 pm9 an9 cd9 ct9), sl9⟩)
    (c9 : PySem.W.codeIn K cd9 "_law_links_by" = true)
    (k9 : PySem.W.keepIn K (.ref f9) = true)
    (a10 : PySem.W.nsIn K mainGlobals "_law_paper_by" = some (some (.ref f10)))
    (l10 : K.lookup f10 = some ⟨oc10, od10, .func (PySem.W.fnOf "_law_paper_by" "_law_paper_by" (defArgs s_law_paper_by) (defBody s_law_paper_by) (defScope s_law_paper_by) .none kV10 dc10 pm10 an10 cd10 ct10), sl10⟩)
    (c10 : PySem.W.codeIn K cd10 "_law_paper_by" = true)
    (k10 : PySem.W.keepIn K (.ref f10) = true)
    (a11 : PySem.W.nsIn K mainGlobals "_law_paper_put" = some (some (.ref f11)))
    (l11 : K.lookup f11 = some ⟨oc11, od11, .func (PySem.W.fnOf "_law_paper_put" "_law_paper_put" (defArgs s_law_paper_put) (defBody s_law_paper_put) (defScope s_law_paper_put) .none kV11 dc11 pm11 an11 cd11 ct11), sl11⟩)
    (c11 : PySem.W.codeIn K cd11 "_law_paper_put" = true)
    (k11 : PySem.W.keepIn K (.ref f11) = true)
    (a12 : PySem.W.nsIn K mainGlobals "_law_odd" = some (some (.ref f12)))
    (l12 : K.lookup f12 = some ⟨oc12, od12, .func (PySem.W.fnOf "_law_odd" "_law_odd" (defArgs s_law_odd) (defBody s_law_odd) (defScope s_law_odd) .none kV12 dc12 pm12 an12 cd12 ct12), sl12⟩)
    (c12 : PySem.W.codeIn K cd12 "_law_odd" = true)
    (k12 : PySem.W.keepIn K (.ref f12) = true)
    (a13 : PySem.W.nsIn K mainGlobals "_law_due" = some (some (.ref f13)))
    (l13 : K.lookup f13 = some ⟨oc13, od13, .func (PySem.W.fnOf "_law_due" "_law_due" (defArgs s_law_due) (defBody s_law_due) (defScope s_law_due) .none kV13 dc13 pm13 an13 cd13 ct13), sl13⟩)
    (c13 : PySem.W.codeIn K cd13 "_law_due" = true)
    (k13 : PySem.W.keepIn K (.ref f13) = true)
    (a14 : PySem.W.nsIn K mainGlobals "law" = some (some (.ref f14)))
    (l14 : K.lookup f14 = some ⟨oc14, od14, .func (PySem.W.fnOf "law" "law" (defArgs s_law) (defBody s_law) (defScope s_law) .none kV14 dc14 pm14 an14 cd14 ct14), sl14⟩)
    (c14 : PySem.W.codeIn K cd14 "law" = true)
    (k14 : PySem.W.keepIn K (.ref f14) = true)
    (z_range : PySem.W.nsIn K mainGlobals "range" = some none)
    (z_len : PySem.W.nsIn K mainGlobals "len" = some none)
    (z_sum : PySem.W.nsIn K mainGlobals "sum" = some none)
    (z_sorted : PySem.W.nsIn K mainGlobals "sorted" = some none)
    (z_min : PySem.W.nsIn K mainGlobals "min" = some none)
    (z_list : PySem.W.nsIn K mainGlobals "list" = some none)
    (z_isinstance : PySem.W.nsIn K mainGlobals "isinstance" = some none)
    (z_bool : PySem.W.nsIn K mainGlobals "bool" = some none)
    (z_max : PySem.W.nsIn K mainGlobals "max" = some none)
    : ∃ fd : FuncData, (∀ (s : Shared) (v : Value), BindsTo s fd ⟨[v], []⟩ [("script", v)]) ∧ ∀ base : Heap, K.In base → base.Ns mainGlobals mg → FnOk l.prog w K mg base CX0 5 fa fd ["script"] (spLaw K) := by
  have e := hfa.symm.trans (PySem.W.mg_of X G a14)
  cases e
  have B : Bl mg := ⟨PySem.W.mg_none_of X G z_range, PySem.W.mg_none_of X G z_len, PySem.W.mg_none_of X G z_sum, PySem.W.mg_none_of X G z_sorted, PySem.W.mg_none_of X G z_min, PySem.W.mg_none_of X G z_list, PySem.W.mg_none_of X G z_isinstance, PySem.W.mg_none_of X G z_bool, PySem.W.mg_none_of X G z_max⟩
  refine ⟨PySem.W.fnOf "law" "law" (defArgs s_law) (defBody s_law) (defScope s_law) .none kV14 dc14 pm14 an14 cd14 ct14, fun s v => .of_eq rfl, fun base _ _ => ?_⟩
  have h_ones := ok_ones (P := l.prog) (w := w) (base := base) (fun_mk (st := s_ones) l0 c0 k0) (PySem.W.mg_of X G a0) B 
  have h_odd := ok_odd (P := l.prog) (w := w) (base := base) (fun_mk (st := s_odd) l1 c1 k1) (PySem.W.mg_of X G a1) B h_ones
  have h_odd_ends := ok_odd_ends (P := l.prog) (w := w) (base := base) (fun_mk (st := s_odd_ends) l2 c2 k2) (PySem.W.mg_of X G a2) B 
  have h_stands := ok_stands (P := l.prog) (w := w) (base := base) (fun_mk (st := s_stands) l3 c3 k3) (PySem.W.mg_of X G a3) B h_odd
  have h_paid := ok_paid (P := l.prog) (w := w) (base := base) (fun_mk (st := s_paid) l4 c4 k4) (PySem.W.mg_of X G a4) B 
  have h_cost_of := ok_cost_of (P := l.prog) (w := w) (base := base) (fun_mk (st := s_cost_of) l5 c5 k5) (PySem.W.mg_of X G a5) B 
  have h_examined := ok_examined (P := l.prog) (w := w) (base := base) (fun_mk (st := s_examined) l6 c6 k6) (PySem.W.mg_of X G a6) B h_odd_ends h_stands h_paid h_cost_of
  have h_law_cell_at := ok_law_cell_at (P := l.prog) (w := w) (base := base) (fun_mk (st := s_law_cell_at) l7 c7 k7) (PySem.W.mg_of X G a7) B 
  have h_law_rooms_by := ok_law_rooms_by (P := l.prog) (w := w) (base := base) (fun_mk (st := s_law_rooms_by) l8 c8 k8) (PySem.W.mg_of X G a8) B 
  have h_law_links_by := ok_law_links_by (P := l.prog) (w := w) (base := base) (fun_mk (st := s_law_links_by) l9 c9 k9) (PySem.W.mg_of X G a9) B h_law_cell_at
  have h_law_paper_by := ok_law_paper_by (P := l.prog) (w := w) (base := base) (fun_mk (st := s_law_paper_by) l10 c10 k10) (PySem.W.mg_of X G a10) B h_law_cell_at
  have h_law_paper_put := ok_law_paper_put (P := l.prog) (w := w) (base := base) (fun_mk (st := s_law_paper_put) l11 c11 k11) (PySem.W.mg_of X G a11) B 
  have h_law_odd := ok_law_odd (P := l.prog) (w := w) (base := base) (fun_mk (st := s_law_odd) l12 c12 k12) (PySem.W.mg_of X G a12) B 
  have h_law_due := ok_law_due (P := l.prog) (w := w) (base := base) (fun_mk (st := s_law_due) l13 c13 k13) (PySem.W.mg_of X G a13) B h_law_odd
  exact ok_law (P := l.prog) (w := w) (base := base) (fun_mk (st := s_law) l14 c14 k14) B h_law_rooms_by h_law_links_by h_law_paper_by h_examined h_law_cell_at h_law_paper_put h_law_due
end Sf
open PySem PySem.W PyProof.Rows
set_option maxRecDepth 100000 in
set_option maxHeartbeats 0 in
theorem PySem.Challenge.cw_spinfloor_k29_papers_examined_holds : PySem.Challenge.rw_spinfloor_k29_papers_examined.Holds := by
  w_on; o_law; k_head; (case hw => w_witness2)
  k_fill
  refine Sf.walk_ofE (l := PySem.Challenge.rw_spinfloor_k29_papers_examined) (n := 63) (k := 5) (sp := Sf.spLaw) rfl (by decide) rfl ⟨rfl, by decide, by decide⟩ (fun w h Y => PySem.W.kIn_of Y) ?F (fun _ _ a ns hl hb hS => ⟨a, ns, rfl, hS, hl, hb, fun _ => rfl⟩)
  case F =>
    intro w mg fa h KX G hmg
    refine' Sf.all_mk KX G hmg ?a0 ?l0 ?c0 ?k0 ?a1 ?l1 ?c1 ?k1 ?a2 ?l2 ?c2 ?k2 ?a3 ?l3 ?c3 ?k3 ?a4 ?l4 ?c4 ?k4 ?a5 ?l5 ?c5 ?k5 ?a6 ?l6 ?c6 ?k6 ?a7 ?l7 ?c7 ?k7 ?a8 ?l8 ?c8 ?k8 ?a9 ?l9 ?c9 ?k9 ?a10 ?l10 ?c10 ?k10 ?a11 ?l11 ?c11 ?k11 ?a12 ?l12 ?c12 ?k12 ?a13 ?l13 ?c13 ?k13 ?a14 ?l14 ?c14 ?k14 ?z_range ?z_len ?z_sum ?z_sorted ?z_min ?z_list ?z_isinstance ?z_bool ?z_max
    (case a0 => k_is); (case l0 => k_is); (case c0 => k_is); (case k0 => k_is); (case a1 => k_is); (case l1 => k_is); (case c1 => k_is); (case k1 => k_is); (case a2 => k_is); (case l2 => k_is); (case c2 => k_is); (case k2 => k_is); (case a3 => k_is); (case l3 => k_is); (case c3 => k_is); (case k3 => k_is); (case a4 => k_is); (case l4 => k_is); (case c4 => k_is); (case k4 => k_is); (case a5 => k_is); (case l5 => k_is); (case c5 => k_is); (case k5 => k_is); (case a6 => k_is); (case l6 => k_is); (case c6 => k_is); (case k6 => k_is); (case a7 => k_is); (case l7 => k_is); (case c7 => k_is); (case k7 => k_is); (case a8 => k_is); (case l8 => k_is); (case c8 => k_is); (case k8 => k_is); (case a9 => k_is); (case l9 => k_is); (case c9 => k_is); (case k9 => k_is); (case a10 => k_is); (case l10 => k_is); (case c10 => k_is); (case k10 => k_is); (case a11 => k_is); (case l11 => k_is); (case c11 => k_is); (case k11 => k_is); (case a12 => k_is); (case l12 => k_is); (case c12 => k_is); (case k12 => k_is); (case a13 => k_is); (case l13 => k_is); (case c13 => k_is); (case k13 => k_is); (case a14 => k_is); (case l14 => k_is); (case c14 => k_is); (case k14 => k_is); (case z_range => k_is); (case z_len => k_is); (case z_sum => k_is); (case z_sorted => k_is); (case z_min => k_is); (case z_list => k_is); (case z_isinstance => k_is); (case z_bool => k_is); (case z_max => k_is)

