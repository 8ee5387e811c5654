
import PyProof.Rows.All
import Wide.All
import OpenK.AllK
import Wide.FinOn
import HandS.ForMost
import HandS.Wide
import HandS.WideBits
import HandS.IsInst
import HandS.More
import HandS.EndBits
import HandS.SortInts
import KE.SortData
import HandS.TupLe
import HandS.Exc
import HandS.ExcOwn
import HandS.WordsExc
import HandS.ExcInit
import HandS.ExcField
import HandS.ExcIs
import HandS.TryOnly
import HandS.Small
import KE.KExcIs
import HandS.SetFor
import HandS.Conv
import PySem.Challenge.RW_spinfloor_k24_joinings_refused
set_option Elab.async false
set_option linter.all false
set_option pp.deepTerms false
set_option pp.deepTerms.threshold 4
set_option maxRecDepth 100000
set_option maxHeartbeats 2000000
namespace Sf
open PySem PySem.Spec PyProof.Rows L2

/-! ### defs by name -/
structure Has (P : Program) (w : World) (K : PySem.W.Frag) (mg : Str → Option Value) (base : Heap) (CX : CXT) (k : Nat) (x : Str) (ps : List Str) (sp : Sp) : Prop where
  ex : ∃ f fd, FnOk P w K mg base CX k f fd ps sp ∧ mg x = some (.ref f) ∧ PySem.W.keepIn K (.ref f) = true ∧ Binds K fd ps []
section
variable {P : Program} {w : World} {K : PySem.W.Frag} {mg : Str → Option Value} {base : Heap} {x qual : Str} {ps N : List Str} {sp : Sp} {k : Nat}
theorem Has.mk' {st : Stmt} {f : Addr} {fd : FuncData} (F : Fun K x qual st f fd) (gf : mg x = some (.ref f)) (b : Binds K fd ps []) (S : FnScope N ps (defScope st)) (len : ∀ vs H Q E, sp vs H Q E → vs.length = ps.length)
    (hbody : ∀ (cdv : Value) (A : Around) (outer : List Env) (s : Shared) (H : Hp) (vs : List V) (Q : VK) (E : XK), Room k (A.deeper (envOfC qual (defScope st) s.heap.objs.size f cdv)) → sp vs H Q E →
      ∃ t, PSs (cxOf CX0 P w K mg base N qual (defScope st) f cdv A outer s H E).nox (defBody st) t ∧ t { nx := fun _ H' => Q .non H', rt := Q } (start N vs) H) : Has P w K mg base CX0 (k + 1) x ps sp :=
  ⟨f, fd, F.ok S len hbody, gf, F.kp, b⟩
end
section
variable {X : Cx} {k : Nat} {ps : List Str} {sp : Sp} {x : Str} {p pos : Pos} {e : Expr} {es : List Expr} {t : TA}
theorem pe_fn (h : Has X.prog X.w X.K X.mg X.base CX0 k x ps sp) (hr : Room k X.A) (hg : Gl X x) (ha : PA X (e :: es) t) (hdb : (x == ("__debug__" : Str)) = false := by decide) (he : starEach (e :: es) X.env = (false, eval e X.env) :: starEach es X.env := by rfl) (hpl : (backTo pos (starEach es X.env)).any (·.1) = false := by rfl) :
    PE X (.Call (.Name x p) (e :: es) [] pos) (tCall sp [] E0 t) := by
  obtain ⟨f, fd, F, gf, kp, b⟩ := h.ex
  exact pe_call F hr hg gf kp b .nil pass0 ha hdb he hpl
theorem pe_fn0 (h : Has X.prog X.w X.K X.mg X.base CX0 k x ps sp) (hr : Room k X.A) (hg : Gl X x) (hdb : (x == ("__debug__" : Str)) = false := by decide) :
    PE X (.Call (.Name x p) [] [] pos) (tCall sp [] E0 tNil) := by
  obtain ⟨f, fd, F, gf, kp, b⟩ := h.ex
  exact pe_call0 F hr hg gf kp b .nil pass0 hdb
end
/-! ### lists whose object is known to the sign; the sum of two -/
def LsE (K : PySem.W.Frag) (H : Hp) (a : Addr) (xs : List V) : Prop :=
  Rd H a (.lst xs) ∨ ∃ (its : List Value) (n : Nat), K.lookup a = some { cls := .type "list", data := .seq its.toArray n } ∧ Vals xs its ∧ xs.length ≤ sizeLine
theorem LsE.sq {K : PySem.W.Frag} {H : Hp} {a : Addr} {xs : List V} (h : LsE K H a xs) : SqL K H a xs := by
  rcases h with h | ⟨its, n, h1, h2, h3⟩
  · exact .inl h
  · exact .inr ⟨_, its.toArray, n, h1, rfl, rfl, rfl, by rw [List.size_toArray, ← h2.length]; exact h3, by simpa using h2⟩
theorem LsE.of {K : PySem.W.Frag} {H : Hp} {a : Addr} {xs : List V} (h : H a = some (.lst xs)) : LsE K H a xs := .inl (.inl h)
theorem LsE.same {K : PySem.W.Frag} {H H' : Hp} {a : Addr} {xs : List V} (e : Same H H') (h : LsE K H a xs) : LsE K H' a xs := by
  rcases h with (h | ⟨o, h⟩) | h
  · exact .inl (.inl (e _ _ h))
  · exact .inl (.inr ⟨o, e _ _ h⟩)
  · exact .inr h
section
variable {X : Cx}
theorem LsE.obj {pins : List (Addr × Obj)} {σ : L2.St} {H : Hp} {s : Shared} {a : Addr} {xs : List V} (I : Inv X pins σ H s) (h : LsE X.K H a xs) :
    ∃ (its : List Value) (n : Nat), Vals xs its ∧ s.heap.get? a = some { cls := .type "list", data := .seq its.toArray n } := by
  rcases h with h | ⟨its, n, h1, h2, _⟩
  · obtain ⟨_, its, n, r, e⟩ := h.ok I.hok
    exact ⟨its, n, r, e⟩
  · exact ⟨its, n, h2, I.kIn a _ h1⟩
def rCatE (K : PySem.W.Frag) : R2 := fun x y H Q => ∃ l b xs zs, x = .ref l ∧ y = .ref b ∧ LsE K H l xs ∧ LsE K H b zs ∧ xs.length + zs.length ≤ sizeLine ∧ ∀ p, H p = none → Q (.ref p) (upd H p (.lst (xs ++ zs)))
theorem op_catE : OpR X (binaryOp .Add) (rCatE X.K) := by
  intro pins s σ H x y v u Q I rx ry h
  obtain ⟨l, b, xs, zs, rfl, rfl, hl, hb, hz, q⟩ := h
  cases rx
  cases ry
  obtain ⟨ix, n, rl, el⟩ := hl.obj I
  obtain ⟨iz, m, rb, eb⟩ := hb.obj I
  refine PySem.P.add_list el eb ?_ (by simp only [List.size_toArray, ← rl.length, ← rb.length]; exact hz)
  have join : ix.toArray ++ iz.toArray = (ix ++ iz).toArray := by simp
  rw [join]
  exact ⟨.ref s.heap.objs.size, _, I.lnew (t' := s.toks) (rl.append rb) (by simpa using hz), rfl, q _ I.fresh⟩
end
/-! ### tests -/
theorem ifd {c A B : Prop} [Decidable c] (h1 : c → A) (h2 : ¬ c → B) : if decide c = true then A else B := by
  by_cases h : c
  · simp only [h, decide_true, if_true]; exact h1 h
  · simp only [h, decide_false, Bool.false_eq_true, if_false]; exact h2 h
theorem ifnd {c A B : Prop} [Decidable c] (h1 : ¬ c → A) (h2 : c → B) : if (!decide c) = true then A else B := by
  by_cases h : c
  · simp only [h, decide_true, Bool.not_true, Bool.false_eq_true, if_false]; exact h2 h
  · simp only [h, decide_false, Bool.not_false, if_true]; exact h1 h
theorem ifb {b : Bool} {A B : Prop} (h1 : b = true → A) (h2 : b = false → B) : if b = true then A else B := by
  cases b with
  | true => exact h1 rfl
  | false => exact h2 rfl
theorem ifT {b : Bool} {A B : Prop} (hb : b = true) (h : A) : if b = true then A else B := by rw [if_pos hb]; exact h
theorem ifF {b : Bool} {A B : Prop} (hb : b = false) (h : B) : if b = true then A else B := by rw [hb]; exact h
theorem int_eq {i j : Int} : (V.int i = V.int j) = (i = j) := by simp
theorem same_upd {H : Hp} {p : Addr} {o : HO} (h : H p = none) : Same H (upd H p o) := fun b x e => by
  rw [upd_ne (ne_of_none e h)]
  exact e
/-- a place that is free -/
def New (H : Hp) (p : Addr) : Prop := H p = none
theorem w_new {H : Hp} {R : Addr → Prop} (h : ∀ p, New H p → R p) : ∀ p, H p = none → R p := h
theorem ne_new {H : Hp} {a b : Addr} {o : HO} (h : H a = some o) (n : New H b) : a ≠ b := ne_of_none h n
/-- one more object over what was tracked at H -/
theorem _root_.L2.Same.new {H H' : Hp} {p : Addr} {o : HO} (e : Same H H') (h : New H' p) : Same H (upd H' p o) := e.trans (same_upd h)
theorem _root_.L2.Same.get {H H' : Hp} {p : Addr} {o : HO} (e : Same H H') (h : H p = some o) : H' p = some o := e p o h
theorem New.of {H H' : Hp} {p : Addr} (n : New H' p) (e : Same H H') : New H p := e.free n
/-- an object that H does not track is changed -/
theorem _root_.L2.Same.mut {H H' : Hp} {p : Addr} {o : HO} (e : Same H H') (h : New H p) : Same H (upd H' p o) := fun b x hb => by
  rw [upd_ne (ne_of_none hb h)]
  exact e b x hb
/-! ### isinstance of ints and bools -/
theorem kb_ii : kitB "int" "int" = some true := by decide +kernel
theorem kb_ib : kitB "int" "bool" = some false := by decide +kernel
theorem kb_bb : kitB "bool" "bool" = some true := by decide +kernel
theorem kb_bi : kitB "bool" "int" = some true := by decide +kernel
theorem kb_ll : kitB "list" "list" = some true := by decide +kernel
theorem kb_tt : kitB "tuple" "tuple" = some true := by decide +kernel
theorem kb_ni : kitB "NoneType" "int" = some false := by decide +kernel
theorem kb_nb : kitB "NoneType" "bool" = some false := by decide +kernel
theorem kb_tl : kitB "tuple" "list" = some false := by decide +kernel
theorem kb_lt : kitB "list" "tuple" = some false := by decide +kernel
/-! ### the law's end, the script's list known to the sign, its bits told -/
theorem walk_ofE {l : PySem.W.OpenLaw} {n k : Nat} {q : Program} {loose : List Str} {XP : (Str → Option Value) → Heap → Prop} {YP : World → Heap → Prop} {d : DefRec} {K : Params → PySem.W.Frag} {sp : PySem.W.Frag → Sp}
    (hn : l.most = some n) (hn2 : n ≤ sizeLine) (hdf : d.params.defaults = []) (hr : Room k callerA) (hY : ∀ (w : World) (h : Heap), YP w h → (K w.params).In h)
    (F : ∀ (w : World) (mg : Str → Option Value) (fa : Addr) (h : Heap), (K w.params).In h → h.Ns mainGlobals mg → mg d.name = some (.ref fa) →
      ∃ fd : FuncData, (∀ (s : Shared) (u : Value), BindsTo s fd ⟨[u], []⟩ [("script", u)]) ∧ ∀ base : Heap, (K w.params).In base → base.Ns mainGlobals mg → FnOk l.prog w (K w.params) mg base CX0 k fa fd ["script"] (sp (K w.params)))
    (hsp : ∀ (K : PySem.W.Frag) (H : Hp) (a : Addr) (ns : List Int), ns.length ≤ n → (∀ z ∈ ns, Builtin.Int.intBits z ≤ 1048576) → LsE K H a (ns.map V.int) → sp K [.ref a] H (fun v _ => v = .bl true) fun _ _ _ => False) :
    PySem.W.WalkO q loose XP YP l.row.toRowW d [] (fun f vs => PySem.call f vs) := by
  refine Att.attach_callB hn hdf fun w s₀ s₁ mg mb fa o pm cd doc a vs ns G Y ho hd hcd hmg hobj hints hlen hbits hg => ?_
  obtain ⟨fd, hb, hF⟩ := F w mg fa _ (hY w _ Y) G.T.g hmg
  refine law_call (hY w _ Y) G.T.g G.T.b G.T.builtins G.T.nolimit hg hobj hints (Nat.le_trans hlen hn2) hr hF hb (fun H _ hS => hsp _ H a ns hlen hbits ?_) fun _ _ _ h => h
  rcases hS with h | ⟨ob, its, m, hk, h1, h2, h3, h4, h5⟩
  · exact .inl h
  · have e := (hY w _ Y) a ob hk
    rw [hobj] at e
    cases e
    cases h3
    exact .inr ⟨vs, _, hk, by simpa using h5, by rw [List.length_map]; exact Nat.le_trans hlen hn2⟩
/-! ### bounds of operators -/
theorem cdivw_small {i j : Int} (h : 0 < j) (h2 : j < 2 ^ 200) : CDivW i j := wide_div (b := 200) h (by omega) (by decide) (by decide)
theorem nab_lt {i : Int} {a : Nat} (h1 : -(2 ^ a) < i) (h2 : i < 2 ^ a) : i.natAbs < 2 ^ a := by
  have e : ((2 ^ a : Nat) : Int) = (2 : Int) ^ a := by simp
  omega
theorem cmulx_small {i j : Int} (h1 : -(2 ^ 200) < i) (h2 : i < 2 ^ 200) (h3 : -(2 ^ 200) < j) (h4 : j < 2 ^ 200) : CMulX i j := mulx_ok (nab_lt h1 h2) (nab_lt h3 h4) (by decide)
theorem cshl_one {j : Int} (h : 0 ≤ j) (h2 : j ≤ 100000) : CShl 1 j := by
  have e : ((j.toNat : Nat) : Int) = j := Int.toNat_of_nonneg h
  rw [← e]
  exact shl_ok (n := 1) (by decide) (by omega)
theorem cshl_small {i j : Int} (h0 : -(2 ^ 200) < i) (h1 : i < 2 ^ 200) (h : 0 ≤ j) (h2 : j ≤ 100000) : CShl i j := by
  have e : ((j.toNat : Nat) : Int) = j := Int.toNat_of_nonneg h
  rw [← e]
  exact shl_ok (n := 200) (nab_lt h0 h1) (by omega)
theorem szle {α : Type} {xs : List α} (h : Nat.ble xs.length 1000 = true) : xs.length ≤ sizeLine := Nat.le_trans (Nat.le_of_ble_eq_true h) (by decide)
theorem szlt {α : Type} {xs : List α} (h : xs.length < 1000000) : xs.length < sizeLine := Nat.lt_of_lt_of_le h (by decide)
theorem atI_get {α : Type} {xs : List α} {i : Int} {j : Nat} (e : i = j) (h : j < xs.length) : atI xs i = some xs[j] := by
  subst e
  exact atI_nat (List.getElem?_eq_getElem h)
theorem atI_map {α β : Type} {f : α → β} {xs : List α} {i : Int} {j : Nat} (e : i = j) (h : j < xs.length) : atI (xs.map f) i = some (f xs[j]) := by
  subst e
  exact atI_nat (by rw [List.getElem?_map, List.getElem?_eq_getElem h]; rfl)
/-! ### the readings, one at a time -/
section
variable {σ : L2.St} {H : Hp} {Q : VK} {QT : Bool → Hp → Prop} {QA : List V → Hp → Prop} {D : Ends} {v x y z : V} {ta tb tc te tv : TE} {t u c : TT} {ts us : TS} {tl tr : TA} {r : R2} {g : TG} {gs : TGs} {i j : Nat} {m n : Int} {K : PySem.W.Frag} {a p q C dx : Addr} {f : Str} {xs ys : List V} {fs : List (Str × V)}
theorem w_seq (h : ts { D with nx := us D } σ H) : tSeq ts us D σ H := h
theorem w_next (h : D.nx σ H) : tNext D σ H := h
theorem w_var (h : ∃ v, σ[i]? = some (some v) ∧ Q v H) : tVar i σ H Q := h
theorem w_c (h : Q v H) : tC v σ H Q := h
theorem w_op (h : ta σ H fun x H1 => tb σ H1 fun y H2 => r x y H2 Q) : tOp r ta tb σ H Q := h
theorem w_un {r : V → Hp → VK → Prop} (h : ta σ H fun x H1 => r x H1 Q) : tUn r ta σ H Q := h
theorem w_rI0 {g : Int → Int → V} (h : Q (g m n) H) : rI0 g (.int m) (.int n) H Q := ⟨m, n, rfl, rfl, h⟩
theorem w_mod (h0 : 0 < n) (h : Q (.int (m % n)) H) : rI (fun _ j => 0 < j) (fun i j => .int (i % j)) (.int m) (.int n) H Q := ⟨m, n, rfl, rfl, h0, h⟩
theorem w_div (h0 : 0 < n) (h1 : n < 2 ^ 200) (h : Q (.int (m / n)) H) : rI CDivW (fun i j => .int (i / j)) (.int m) (.int n) H Q := ⟨m, n, rfl, rfl, cdivw_small h0 h1, h⟩
theorem w_shr (h0 : 0 ≤ n) (h : Q (.int (m / 2 ^ n.toNat)) H) : rI (fun _ j => 0 ≤ j) (fun i j => .int (i / 2 ^ j.toNat)) (.int m) (.int n) H Q := ⟨m, n, rfl, rfl, h0, h⟩
theorem w_mul (h1 : -(2 ^ 200) < m) (h2 : m < 2 ^ 200) (h3 : -(2 ^ 200) < n) (h4 : n < 2 ^ 200) (h : Q (.int (m * n)) H) : rI CMulX (fun i j => .int (i * j)) (.int m) (.int n) H Q := ⟨m, n, rfl, rfl, cmulx_small h1 h2 h3 h4, h⟩
theorem w_shl1 (h1 : 0 ≤ n) (h2 : n ≤ 100000) (h : Q (.int (1 * 2 ^ n.toNat)) H) : rI CShl (fun i j => .int (i * 2 ^ j.toNat)) (.int 1) (.int n) H Q := ⟨1, n, rfl, rfl, cshl_one h1 h2, h⟩
theorem w_shl (h1 : -(2 ^ 200) < m) (h2 : m < 2 ^ 200) (h3 : 0 ≤ n) (h4 : n ≤ 100000) (h : Q (.int (m * 2 ^ n.toNat)) H) : rI CShl (fun i j => .int (i * 2 ^ j.toNat)) (.int m) (.int n) H Q := ⟨m, n, rfl, rfl, cshl_small h1 h2 h3 h4, h⟩
theorem w_pow (h0 : CPow m n) (h : Q (.int (m ^ n.toNat)) H) : rI CPow (fun i j => .int (i ^ j.toNat)) (.int m) (.int n) H Q := ⟨m, n, rfl, rfl, h0, h⟩
theorem w_rU {g : Int → V} (h : Q (g m) H) : rU g (.int m) H Q := ⟨m, rfl, h⟩
theorem dec_ii : decide (V.int m = V.int n) = decide (m = n) := by
  by_cases h : m = n
  · rw [h]; simp
  · simp [h]
theorem dec_bb {a b : Bool} : decide (V.bl a = V.bl b) = decide (a = b) := by cases a <;> cases b <;> decide
theorem dec_ss {a b : Str} : decide (V.str a = V.str b) = decide (a = b) := by
  by_cases h : a = b
  · rw [h]; simp
  · simp [h]
theorem w_eqI (h : Q (.bl (decide (m = n))) H) : rEq (.int m) (.int n) H Q := ⟨rfl, by rw [dec_ii]; exact h⟩
theorem w_eqB {a b : Bool} (h : Q (.bl (decide (a = b))) H) : rEq (.bl a) (.bl b) H Q := ⟨rfl, by rw [dec_bb]; exact h⟩
theorem w_eqS {a b : Str} (h : Q (.bl (decide (a = b))) H) : rEq (.str a) (.str b) H Q := ⟨rfl, by rw [dec_ss]; exact h⟩
theorem w_eqNI (h : Q (.bl false) H) : rEq .non (.int n) H Q := ⟨rfl, by rw [decide_eq_false (by simp)]; exact h⟩
theorem w_eqIN (h : Q (.bl false) H) : rEq (.int n) .non H Q := ⟨rfl, by rw [decide_eq_false (by simp)]; exact h⟩
theorem w_neI (h : Q (.bl (!decide (m = n))) H) : rNe (.int m) (.int n) H Q := ⟨rfl, by rw [dec_ii]; exact h⟩
theorem w_neB {a b : Bool} (h : Q (.bl (!decide (a = b))) H) : rNe (.bl a) (.bl b) H Q := ⟨rfl, by rw [dec_bb]; exact h⟩
theorem w_neS {a b : Str} (h : Q (.bl (!decide (a = b))) H) : rNe (.str a) (.str b) H Q := ⟨rfl, by rw [dec_ss]; exact h⟩
theorem w_ixL (hs : SqL K H p xs) (ha : atI xs m = some v) (h : Q v H) : rIxL K (.ref p) (.int m) H Q := ⟨p, xs, m, v, rfl, rfl, hs, ha, h⟩
theorem w_ixT (hs : SqT K H p xs) (ha : atI xs m = some v) (h : Q v H) : rIxT K (.ref p) (.int m) H Q := ⟨p, xs, m, v, rfl, rfl, hs, ha, h⟩
theorem w_ixl (hs : SqL K H p xs) (ha : atI xs m = some v) (h : Q v H) : rIx K (.ref p) (.int m) H Q := .inl ⟨p, xs, m, v, rfl, rfl, hs, ha, h⟩
theorem w_ixt (hs : SqT K H p xs) (ha : atI xs m = some v) (h : Q v H) : rIx K (.ref p) (.int m) H Q := .inr (.inl ⟨p, xs, m, v, rfl, rfl, hs, ha, h⟩)
theorem w_catE (h1 : LsE K H p xs) (h2 : LsE K H q ys) (hz : xs.length + ys.length ≤ sizeLine) (h : ∀ p, H p = none → Q (.ref p) (upd H p (.lst (xs ++ ys)))) : rCatE K (.ref p) (.ref q) H Q := ⟨p, q, xs, ys, rfl, rfl, h1, h2, hz, h⟩
theorem w_rep (h1 : H p = some (.lst xs)) (h2 : -(2 ^ 63) ≤ n) (h3 : n < 2 ^ 63) (h4 : xs.length * n.toNat ≤ sizeLine) (h : ∀ p, H p = none → Q (.ref p) (upd H p (.lst (List.replicate n.toNat xs).flatten))) : rRep (.ref p) (.int n) H Q := ⟨p, n, xs, rfl, rfl, h1, h2, h3, h4, h⟩
theorem w_test (h : te σ H fun x H' => ∃ k, x = .bl k ∧ QT k H') : tTest te σ H QT := h
theorem w_tB (h : te σ H fun x H' => ∃ k, x = .bl k ∧ QT k H') : tB te σ H QT := h
theorem w_bl {b : Bool} {R : Bool → Prop} (h : R b) : ∃ k, V.bl b = .bl k ∧ R k := ⟨b, rfl, h⟩
theorem w_and (h : t σ H fun c H1 => if c = true then u σ H1 QT else QT false H1) : tAnd t u σ H QT := h
theorem w_or (h : t σ H fun c H1 => if c = true then QT true H1 else u σ H1 QT) : tOr t u σ H QT := h
theorem w_not (h : t σ H fun c H1 => QT (!c) H1) : tNot t σ H QT := h
theorem w_andV (h : ta σ H fun x H1 => ∃ c, x = .bl c ∧ if c = true then tb σ H1 Q else Q (.bl false) H1) : tAndV ta tb σ H Q := h
theorem w_orV (h : ta σ H fun x H1 => ∃ c, x = .bl c ∧ if c = true then Q (.bl true) H1 else tb σ H1 Q) : tOrV ta tb σ H Q := h
theorem w_notV (h : ta σ H fun x H1 => ∃ c, x = .bl c ∧ Q (.bl (!c)) H1) : tNotV ta σ H Q := h
theorem w_ifE (h : t σ H fun c H1 => if c = true then ta σ H1 Q else tb σ H1 Q) : tIf t ta tb σ H Q := h
theorem w_asg (h : te σ H fun x H1 => g x σ H1 D.nx) : tAsg te g D σ H := h
theorem w_gn {R : L2.St → Hp → Prop} (h : R (σ.set i (some v)) H) : gName i v σ H R := h
theorem w_gt {R : L2.St → Hp → Prop} {k : Nat} (hs : SqT K H p xs) (hl : xs.length = k) (h : gs xs σ H R) : gTup K k gs (.ref p) σ H R := ⟨p, xs, rfl, hs, hl, h⟩
theorem w_gc {R : L2.St → Hp → Prop} (h : g v σ H fun σ' H' => gs xs σ' H' R) : gCons g gs (v :: xs) σ H R := ⟨v, xs, rfl, h⟩
theorem w_g0 {R : L2.St → Hp → Prop} (h : R σ H) : gNil [] σ H R := ⟨rfl, h⟩
theorem w_gs {R : L2.St → Hp → Prop} {tt : TSet} (h : ta σ H fun o H1 => tb σ H1 fun i H2 => tt o i v H2 fun H3 => R σ H3) : gSub ta tb tt v σ H R := h
theorem w_setL {R : Hp → Prop} (hp : H p = some (.lst xs)) (hj : ixN xs.length m = some j) (h : R (upd H p (.lst (xs.set j v)))) : rSetL (.ref p) (.int m) v H R := ⟨p, xs, m, j, rfl, rfl, hp, hj, h⟩
theorem w_drop (h : te σ H fun _ H1 => D.nx σ H1) : tDrop te D σ H := h
theorem w_ret (h : te σ H D.rt) : tRet te D σ H := h
theorem w_retN (h : D.rt .non H) : tRetN D σ H := h
theorem w_if (h : t σ H fun b H1 => if b = true then ts D σ H1 else us D σ H1) : tIfS t ts us D σ H := h
theorem w_break (h : D.bk σ H) : tBreak D σ H := h
theorem w_cont (h : D.ct σ H) : tCont D σ H := h
theorem w_aug {ti : TIp} (h : ∃ x, σ[i]? = some (some x) ∧ te σ H fun y H1 => ti x y H1 fun z H2 => D.nx (σ.set i (some z)) H2) : tAug i te ti D σ H := h
theorem w_ip {f : Int → Int → Int} (h : Q (.int (f m n)) H) : ipI f (.int m) (.int n) H Q := ⟨m, n, rfl, rfl, h⟩
theorem w_par (h : tl σ H fun vs H1 => ∃ v w, vs = [v, w] ∧ D.nx ((σ.set i (some v)).set j (some w)) H1) : tPar i j tl D σ H := h
theorem w_par2 {R : V → V → Prop} (h : R v x) : ∃ a b, [v, x] = [a, b] ∧ R a b := ⟨v, x, rfl, h⟩
theorem w_nil (h : QA [] H) : tNil σ H QA := h
theorem w_cons (h : ta σ H fun x H1 => tl σ H1 fun xs H2 => QA (x :: xs) H2) : tCons ta tl σ H QA := h
theorem w_call {sp : Sp} {E : XK} (h : tl σ H fun vs H1 => sp vs H1 Q E) : tCall sp [] E tl σ H Q := by
  unfold tCall
  simp only [List.append_nil]
  exact h
theorem w_cb {r : List V → Hp → VK → Prop} (h : tl σ H fun vs H1 => r vs H1 Q) : tCB r tl σ H Q := h
theorem w_tup (h : tl σ H fun xs H1 => xs.length ≤ sizeLine ∧ ∀ p, H1 p = none → Q (.ref p) (upd H1 p (.tup xs))) : tTup tl σ H Q := h
theorem w_lst (h : tl σ H fun xs H1 => xs.length ≤ sizeLine ∧ ∀ p, H1 p = none → Q (.ref p) (upd H1 p (.lst xs))) : tLst tl σ H Q := h
theorem w_sl {r : V → Option Int → Option Int → Hp → VK → Prop} {to tu : TO} (h : te σ H fun x H1 => to σ H1 fun l H2 => tu σ H2 fun u H3 => r x l u H3 Q) : tSl r te to tu σ H Q := h
theorem w_np {R : Option Int → Hp → Prop} (h : R none H) : tNoPart σ H R := h
theorem w_part {R : Option Int → Hp → Prop} (h : te σ H fun x H1 => ∃ i, x = .int i ∧ R (some i) H1) : tPart te σ H R := h
theorem w_partI {R : Int → Prop} (h : R m) : ∃ i, V.int m = .int i ∧ R i := ⟨m, rfl, h⟩
theorem w_slL {lo hi : Option Int} (hs : SqL K H p xs) (h : ∀ q, H q = none → Q (.ref q) (upd H q (.lst (cutV xs lo hi)))) : rSlL K (.ref p) lo hi H Q := ⟨p, xs, rfl, hs, h⟩
theorem w_bm {T : String} {r : V → List V → Hp → VK → Prop} (h : ta σ H fun x H1 => tyV K T x H1 ∧ tl σ H1 fun xs H2 => r x xs H2 Q) : tBM K T r ta tl σ H Q := h
theorem w_bm0 {T : String} {r : V → List V → Hp → VK → Prop} (h : ta σ H fun x H1 => tyV K T x H1 ∧ r x [] H1 Q) : tBM0 K T r ta σ H Q := h
theorem w_tyl {R : Prop} (hs : SqL K H p xs) (h : R) : tyV K "list" (.ref p) H ∧ R := ⟨.inl ⟨rfl, xs, hs⟩, h⟩
theorem w_app (hp : H p = some (.lst xs)) (hl : xs.length < sizeLine) (h : Q .non (upd H p (.lst (xs ++ [v])))) : rAppend (.ref p) [v] H Q := ⟨p, xs, v, rfl, rfl, hp, hl, h⟩
theorem w_rev (hp : H p = some (.lst xs)) (h : Q .non (upd H p (.lst xs.reverse))) : rReverse (.ref p) [] H Q := ⟨p, xs, rfl, rfl, hp, h⟩
theorem w_len {R : List V → Prop} (hs : SqL K H p xs) (h : R xs) : ∃ p' ys, [V.ref p] = [.ref p'] ∧ (SqL K H p' ys ∨ SqT K H p' ys) ∧ R ys := ⟨p, xs, rfl, .inl hs, h⟩
theorem w_lenT {R : List V → Prop} (hs : SqT K H p xs) (h : R xs) : ∃ p' ys, [V.ref p] = [.ref p'] ∧ (SqL K H p' ys ∨ SqT K H p' ys) ∧ R ys := ⟨p, xs, rfl, .inr hs, h⟩
theorem w_isi {s : String} {b : Bool} (hk : kitB "int" s = some b) (h : Q (.bl b) H) : rIsi K [.int m, .ty s] H Q := ⟨_, _, _, _, b, rfl, .ty _, .base (.int _), kit_ty hk, h⟩
theorem w_isb {k : Bool} {s : String} {b : Bool} (hk : kitB "bool" s = some b) (h : Q (.bl b) H) : rIsi K [.bl k, .ty s] H Q := ⟨_, _, _, _, b, rfl, .ty _, .base (.bl _), kit_ty hk, h⟩
theorem w_isn {s : String} {b : Bool} (hk : kitB "NoneType" s = some b) (h : Q (.bl b) H) : rIsi K [.non, .ty s] H Q := ⟨_, _, _, _, b, rfl, .ty _, .base .non, kit_ty hk, h⟩
theorem w_isl {s : String} {b : Bool} (hp : H p = some (.lst xs)) (hk : kitB "list" s = some b) (h : Q (.bl b) H) : rIsi K [.ref p, .ty s] H Q := ⟨_, _, _, _, b, rfl, .ty _, .base (.lst hp), kit_ty hk, h⟩
theorem w_ist {s : String} {b : Bool} (hp : H p = some (.tup xs)) (hk : kitB "tuple" s = some b) (h : Q (.bl b) H) : rIsi K [.ref p, .ty s] H Q := ⟨_, _, _, _, b, rfl, .ty _, .base (.tup hp), kit_ty hk, h⟩
theorem w_2i {R : Int → Int → Prop} (h : R m n) : ∃ i j, [V.int m, V.int n] = [.int i, .int j] ∧ R i j := ⟨m, n, rfl, h⟩
theorem w_1i {R : Int → Prop} (h : R m) : ∃ i, [V.int m] = [.int i] ∧ R i := ⟨m, rfl, h⟩
theorem w_int1 {R : Int → Prop} {S : Prop} (h : R m) : (∃ i, [V.int m] = [.int i] ∧ R i) ∨ S := .inl ⟨m, rfl, h⟩
theorem w_intb {b : Bool} {R : Bool → Prop} {S : Prop} (h : R b) : S ∨ ∃ k, [V.bl b] = [.bl k] ∧ R k := .inr ⟨b, rfl, h⟩
theorem w_isN {R : Prop} (h : R) : V.non = .non ∧ R := ⟨rfl, h⟩
theorem w_fld {v : V} {R : V → Prop} (hp : H p = some (.ins C dx fs)) (hc : Cls K C) (hn : NoAttr K C f) (hl : fs.lookup f = some v) (h : R v) : ∃ a C' dx' fs' v', V.ref p = .ref a ∧ H a = some (.ins C' dx' fs') ∧ Cls K C' ∧ NoAttr K C' f ∧ fs'.lookup f = some v' ∧ R v' := ⟨p, C, dx, fs, v, rfl, hp, hc, hn, hl, h⟩
theorem w_fl (h : ta σ H fun x H1 => ∃ a C dx fs v, x = .ref a ∧ H1 a = some (.ins C dx fs) ∧ Cls K C ∧ NoAttr K C f ∧ fs.lookup f = some v ∧ Q v H1) : tFld K ta f σ H Q := h
theorem w_for {wi : TI} {tu : TS} (h : wi σ H fun J H1 => ∃ W : Nat → Nat → L2.St → Hp → Prop, (∃ m, W 0 m σ H1) ∧ ∀ i m σ H, W i m σ H →
  (J.stop i H ∧ D.nx σ H) ∨ (J.go i H ∧ ∃ N : L2.St → Hp → Prop, (∀ σ' H', N σ' H' → ∃ m', m' < m ∧ W (i + 1) m' σ' H') ∧ ∀ x H', J.yld i H x H' → g x σ H' fun σ2 H2 => tu { D with nx := N, ct := N, bk := D.nx } σ2 H2)) : tFor wi g tu D σ H := h
theorem w_iL {R : It → Hp → Prop} (h : te σ H fun x H1 => ∃ a, x = .ref a ∧ (∃ xs, SqL K H1 a xs) ∧ R (Itl K a) H1) : iList K te σ H R := h
theorem w_iLq {R : Addr → Prop} (hs : SqL K H p xs) (h : R p) : ∃ a, V.ref p = .ref a ∧ (∃ xs, SqL K H a xs) ∧ R a := ⟨p, rfl, ⟨xs, hs⟩, h⟩
theorem w_iTu {R : It → Hp → Prop} (h : te σ H fun x H1 => ∃ a, x = .ref a ∧ (∃ xs, SqT K H1 a xs) ∧ R (Itt K a) H1) : iTup K te σ H R := h
theorem w_iTq {R : Addr → Prop} (hs : SqT K H p xs) (h : R p) : ∃ a, V.ref p = .ref a ∧ (∃ xs, SqT K H a xs) ∧ R a := ⟨p, rfl, ⟨xs, hs⟩, h⟩
theorem w_r1 {R : It → Hp → Prop} (h : tl σ H fun vs H1 => ∃ j : Int, vs = [.int j] ∧ -(2 ^ 62) ≤ j ∧ j < 2 ^ 62 ∧ R (Itr 0 j.toNat) H1) : iRng1 tl σ H R := h
theorem w_r1q {R : Int → Prop} (h1 : -(2 ^ 62) ≤ m) (h2 : m < 2 ^ 62) (h : R m) : ∃ j : Int, [V.int m] = [.int j] ∧ -(2 ^ 62) ≤ j ∧ j < 2 ^ 62 ∧ R j := ⟨m, rfl, h1, h2, h⟩
theorem w_r2 {R : It → Hp → Prop} (h : tl σ H fun vs H1 => ∃ i j : Int, vs = [.int i, .int j] ∧ (-(2 ^ 62) ≤ i ∧ i < 2 ^ 62 ∧ -(2 ^ 62) ≤ j ∧ j < 2 ^ 62) ∧ R (Itr i (j - i).toNat) H1) : iRng2 tl σ H R := h
theorem w_r2q {R : Int → Int → Prop} (h1 : -(2 ^ 62) ≤ m) (h2 : m < 2 ^ 62) (h3 : -(2 ^ 62) ≤ n) (h4 : n < 2 ^ 62) (h : R m n) : ∃ i j : Int, [V.int m, V.int n] = [.int i, .int j] ∧ (-(2 ^ 62) ≤ i ∧ i < 2 ^ 62 ∧ -(2 ^ 62) ≤ j ∧ j < 2 ^ 62) ∧ R i j := ⟨m, n, rfl, ⟨h1, h2, h3, h4⟩, h⟩
theorem w_len1 {R : Prop} (hl : Nat.ble xs.length 1000 = true) (h : R) : xs.length ≤ sizeLine ∧ R := ⟨szle hl, h⟩
end
theorem same_read {K : PySem.W.Frag} {H H' : Hp} {a : Addr} {xs : List V} (e : Same H H') (h : SqT K H a xs) : SqT K H' a xs := by
  rcases h with (h | ⟨o, h⟩) | h
  · exact .inl (.inl (e _ _ h))
  · exact .inl (.inr ⟨o, e _ _ h⟩)
  · exact .inr h
theorem w_iT {A B : Prop} (h : A) : if true = true then A else B := by rw [if_pos rfl]; exact h
theorem w_iF {A B : Prop} (h : B) : if false = true then A else B := by rw [if_neg Bool.false_ne_true]; exact h
theorem w_iNT {A B : Prop} (h : B) : if (!true) = true then A else B := by rw [Bool.not_true, if_neg Bool.false_ne_true]; exact h
theorem w_iNF {A B : Prop} (h : A) : if (!false) = true then A else B := by rw [Bool.not_false, if_pos rfl]; exact h
theorem w_iNN {A B : Prop} {b : Bool} (h : if b = true then A else B) : if (!!b) = true then A else B := by rw [Bool.not_not]; exact h

/-! ### data -/
mutual
theorem dpSame {K : PySem.W.Frag} {H H' : Hp} (e : Same H H') : ∀ (d : PyData) (v : V), Dp K H v d → Dp K H' v d
  | .none, _, h => by cases h; exact .non
  | .bool _, _, h => by cases h; exact .bl _
  | .int _, _, h => by cases h; exact .int _
  | .str _, _, h => by cases h; exact .str _
  | .list ds, _, h => by
    cases h with
    | lst hs ha => exact .lst (e.seq hs) (dpSameAll e ds _ ha)
  | .tuple ds, _, h => by
    cases h with
    | tup hs ha => exact .tup (same_read e hs) (dpSameAll e ds _ ha)
  | .dict _, _, h => by cases h
theorem dpSameAll {K : PySem.W.Frag} {H H' : Hp} (e : Same H H') : ∀ (ds : List PyData) (xs : List V), DpAll K H xs ds → DpAll K H' xs ds
  | [], _, h => by cases h; exact .nil
  | d :: ds, _, h => by
    cases h with
    | cons h1 h2 => exact .cons (dpSame e d _ h1) (dpSameAll e ds _ h2)
end
section
variable {K : PySem.W.Frag} {H H' : Hp} {xs ys : List V} {ds es : List PyData} {v : V} {d : PyData} {a : Addr}
theorem _root_.L2.Dp.same (e : Same H H') (h : Dp K H v d) : Dp K H' v d := dpSame e d v h
theorem _root_.L2.DpAll.same (e : Same H H') (h : DpAll K H xs ds) : DpAll K H' xs ds := dpSameAll e ds xs h
theorem dpaLen : ∀ {xs : List V} {ds : List PyData}, DpAll K H xs ds → xs.length = ds.length
  | _, _, .nil => rfl
  | _, _, .cons _ t => by rw [List.length_cons, List.length_cons, dpaLen t]
theorem dpaGet : ∀ {xs : List V} {ds : List PyData} {i : Nat} {d : PyData}, DpAll K H xs ds → ds[i]? = some d → ∃ v, xs[i]? = some v ∧ Dp K H v d
  | _, _, _, _, .nil, e => by simp at e
  | _, _, 0, _, .cons h _, e => by simp at e; subst e; exact ⟨_, rfl, h⟩
  | _, _, i + 1, _, .cons _ t, e => by
    obtain ⟨v, h1, h2⟩ := dpaGet (i := i) t (by simpa using e)
    exact ⟨v, by simpa using h1, h2⟩
theorem dpaApp : ∀ {xs ys : List V} {ds es : List PyData}, DpAll K H xs ds → DpAll K H ys es → DpAll K H (xs ++ ys) (ds ++ es)
  | _, _, _, _, .nil, h => h
  | _, _, _, _, .cons h t, s => .cons h (dpaApp t s)
theorem dpInts : ∀ ns : List Int, DpAll K H (ns.map V.int) (ns.map PyData.int)
  | [] => .nil
  | n :: r => .cons (.int n) (dpInts r)
theorem dpAll_ints : ∀ {ns : List Int} {xs : List V}, DpAll K H xs (ns.map PyData.int) → xs = ns.map V.int
  | [], _, h => by cases h; rfl
  | n :: r, _, h => by
    cases h with
    | cons h t => cases h; rw [dpAll_ints t]; rfl
theorem dpInt {i : Int} (h : Dp K H v (.int i)) : v = .int i := by cases h; rfl
theorem dpTup (h : Dp K H v (.tuple ds)) : ∃ a xs, v = .ref a ∧ SqT K H a xs ∧ DpAll K H xs ds := by cases h with | tup h1 h2 => exact ⟨_, _, rfl, h1, h2⟩
theorem dpLst (h : Dp K H v (.list ds)) : ∃ a xs, v = .ref a ∧ SqL K H a xs ∧ DpAll K H xs ds := by cases h with | lst h1 h2 => exact ⟨_, _, rfl, h1, h2⟩
theorem dpLstA (h : Dp K H (.ref a) (.list ds)) : ∃ xs, SqL K H a xs ∧ DpAll K H xs ds := by cases h with | lst h1 h2 => exact ⟨_, h1, h2⟩
theorem dpTupA (h : Dp K H (.ref a) (.tuple ds)) : ∃ xs, SqT K H a xs ∧ DpAll K H xs ds := by cases h with | tup h1 h2 => exact ⟨_, h1, h2⟩
end
/-- data that == serves: no dicts, no deeper than n -/
def Good (n : Nat) (d : PyData) : Prop := d.canLay0 = true ∧ d.depth ≤ n
theorem goodInt {n : Nat} {i : Int} : Good n (.int i) := ⟨rfl, Nat.zero_le _⟩
theorem goodBool {n : Nat} {b : Bool} : Good n (.bool b) := ⟨rfl, Nat.zero_le _⟩
theorem goodNone {n : Nat} : Good n .none := ⟨rfl, Nat.zero_le _⟩
theorem goodAll {n : Nat} : ∀ {ds : List PyData}, (∀ d ∈ ds, Good n d) → PyData.canLayAll0 ds = true ∧ PyData.depthAll ds ≤ n
  | [], _ => ⟨rfl, Nat.zero_le _⟩
  | d :: ds, h => by
    obtain ⟨h1, h2⟩ := h d List.mem_cons_self
    obtain ⟨h3, h4⟩ := goodAll fun e he => h e (List.mem_cons_of_mem _ he)
    exact ⟨by simp [PyData.canLayAll0, h1, h3], by simp only [PyData.depthAll]; omega⟩
theorem goodLst {n : Nat} {ds : List PyData} (h : ∀ d ∈ ds, Good n d) : Good (n + 1) (.list ds) := ⟨(goodAll h).1, Nat.succ_le_succ (goodAll h).2⟩
theorem goodTup {n : Nat} {ds : List PyData} (h : ∀ d ∈ ds, Good n d) : Good (n + 1) (.tuple ds) := ⟨(goodAll h).1, Nat.succ_le_succ (goodAll h).2⟩
theorem goodMap {α : Type} {n : Nat} {f : α → PyData} {xs : List α} (h : ∀ x, Good n (f x)) : ∀ d ∈ xs.map f, Good n d := by
  intro d hd
  obtain ⟨x, _, rfl⟩ := List.mem_map.mp hd
  exact h x
theorem Good.mono {n m : Nat} {d : PyData} (h : Good n d) (e : n ≤ m) : Good m d := ⟨h.1, Nat.le_trans h.2 e⟩
theorem Good.shaped {n : Nat} {d : PyData} (h : Good n d) (e : n ≤ 64) : SeqAt.shaped d = true := by
  unfold SeqAt.shaped
  rw [h.1, decide_eq_true (Nat.le_trans h.2 e)]
  rfl
theorem Good.eqv {n : Nat} {d : PyData} (h : Good n d) : PyData.eqv d d = true := SeqAt.eqv_refl d h.1
section
variable {K : PySem.W.Frag} {H : Hp} {x y : V} {d : PyData} {Q : VK} {n : Nat}
/-- two things of the same data are equal -/
theorem w_eqD (h1 : Dp K H x d) (h2 : Dp K H y d) (g : Good n d) (hn : n ≤ 64) (h : Q (.bl true) H) : rEqD K x y H Q := ⟨d, d, h1, h2, g.shaped hn, g.shaped hn, by rw [g.eqv]; exact h⟩
theorem w_neD (h1 : Dp K H x d) (h2 : Dp K H y d) (g : Good n d) (hn : n ≤ 64) (h : Q (.bl false) H) : rNeD K x y H Q := ⟨d, d, h1, h2, g.shaped hn, g.shaped hn, by rw [g.eqv]; exact h⟩
end
/-! ### xs[i] op= e -/
def rGetL (K : PySem.W.Frag) : V → V → Hp → VK → Prop := fun x y H Q => ∃ (p : Addr) (xs : List V) (j : Nat) (v : V), x = .ref p ∧ y = .int j ∧ SqL K H p xs ∧ xs[j]? = some v ∧ Q v H
theorem get_list {X : Cx} : PGet X (rGetL X.K) := by
  intro pins s σ H o i ov iv Q I ro ri h
  obtain ⟨p, xs, j, v, rfl, rfl, hq, he, q⟩ := h
  cases ro
  obtain ⟨t, rfl⟩ := ri
  obtain ⟨its, r, pl, hz⟩ := I.list hq
  obtain ⟨u, eu, ru⟩ := r.get he
  have hj : j < xs.length := (List.getElem?_eq_some_iff.mp he).1
  have hn := line63
  exact wpAny_getItem_list pl.isList (Int.natCast_nonneg j) (by omega) (by simpa using eu) ⟨v, H, I, ru, q⟩
theorem ps_augL {X : Cx} {o i e : Expr} {to ti te : TE} {tip : TIp} {op : Operator} {tpos pos : Pos} (ho : PE X o to) (hi : PE X i ti) (he : PE X e te) (hp : PIp X op tip)
    (ha : ∀ ov iv new, augStore i ov iv new = (do holding [new, ov, iv] (setItem ov iv new); release [new, ov, iv] []; pure .next) := by intros; rfl) : PS X (.AugAssign (.Subscript o i tpos) op e pos) (tAugS to ti te (rGetL X.K) tip rSetL) :=
  ps_augS ho hi get_list he hp set_list ha
section
variable {σ : L2.St} {H : Hp} {Q : VK} {D : Ends} {K : PySem.W.Frag} {p : Addr} {xs : List V} {v : V} {j : Nat}
theorem w_augS {to ti te : TE} {tget : V → V → Hp → VK → Prop} {tip : TIp} {tset : TSet} (h : to σ H fun o H1 => ti σ H1 fun i H2 => tget o i H2 fun x H3 => te σ H3 fun y H4 => tip x y H4 fun z H5 => tset o i z H5 fun H6 => D.nx σ H6) : tAugS to ti te tget tip tset D σ H := h
theorem w_getL (hs : SqL K H p xs) (he : xs[j]? = some v) (h : Q v H) : rGetL K (.ref p) (.int (j : Int)) H Q := ⟨p, xs, j, v, rfl, rfl, hs, he, h⟩
theorem ixN_nat {n j : Nat} (h : j < n) : ixN n (j : Int) = some j := by
  unfold ixN
  rw [if_pos (Int.natCast_nonneg j), if_pos (by omega)]
  simp
end
/-! ### range from nought -/
theorem for_r0 {m : Int} {n : Nat} {g : TG} {tb : TS} {D : Ends} {σ : L2.St} {H : Hp} (hm : m = n) (Pv : Nat → L2.St → Hp → Prop) (h0 : Pv 0 σ H)
    (hs : ∀ i σ H, i < n → Pv i σ H → g (.int (i : Nat)) σ H fun σ2 H2 => tb { D with nx := Pv (i + 1), ct := Pv (i + 1), bk := D.nx } σ2 H2) (hd : ∀ σ H, Pv n σ H → D.nx σ H) :
    ∃ W : Nat → Nat → L2.St → Hp → Prop, (∃ m, W 0 m σ H) ∧ ∀ i k σ H, W i k σ H →
      ((Itr 0 m.toNat).stop i H ∧ D.nx σ H) ∨ ((Itr 0 m.toNat).go i H ∧ ∃ N : L2.St → Hp → Prop, (∀ σ' H', N σ' H' → ∃ m', m' < k ∧ W (i + 1) m' σ' H') ∧ ∀ x H', (Itr 0 m.toNat).yld i H x H' → g x σ H' fun σ2 H2 => tb { D with nx := N, ct := N, bk := D.nx } σ2 H2) := by
  subst hm
  rw [Int.toNat_natCast]
  exact for_range (lo := 0) Pv h0 (fun i σ H hi hp => by rw [Int.zero_add]; exact hs i σ H hi hp) hd
/-! ### bits of numbers from nought on -/
theorem shr_nat (m k : Nat) : (m : Int) / 2 ^ (Int.toNat (k : Int)) = ((m >>> k : Nat) : Int) := by
  rw [Int.toNat_natCast, Nat.shiftRight_eq_div_pow]
  simp
theorem shl_nat (m k : Nat) : (m : Int) * 2 ^ (Int.toNat (k : Int)) = ((m <<< k : Nat) : Int) := by
  rw [Int.toNat_natCast, Nat.shiftLeft_eq]
  simp
theorem shl_one (k : Nat) : (1 : Int) * 2 ^ (Int.toNat (k : Int)) = ((2 ^ k : Nat) : Int) := by
  rw [Int.toNat_natCast, Int.one_mul]
  simp
theorem xor_nat (m n : Nat) : Builtin.bitXor (m : Int) (n : Int) = ((m ^^^ n : Nat) : Int) := by
  have h := Bits.bitXor_pp (x := (m : Int)) (y := (n : Int)) (Int.natCast_nonneg m) (Int.natCast_nonneg n)
  rw [Int.toNat_natCast, Int.toNat_natCast] at h
  exact h
theorem or_nat (m n : Nat) : Builtin.bitOr (m : Int) (n : Int) = ((m ||| n : Nat) : Int) := by
  have h := Bits.bitOr_pp (x := (m : Int)) (y := (n : Int)) (Int.natCast_nonneg m) (Int.natCast_nonneg n)
  rw [Int.toNat_natCast, Int.toNat_natCast] at h
  exact h
theorem and_one (m : Int) (h : 0 ≤ m) : Builtin.bitAnd m 1 = m % 2 := by
  have e := Bits.bitAnd_mask (x := m) 1 h
  simpa using e
theorem bit_nat (m k : Nat) : Builtin.bitAnd ((m : Int) / 2 ^ (Int.toNat (k : Int))) 1 = (((m.testBit k).toNat : Nat) : Int) := by
  rw [shr_nat, and_one _ (Int.natCast_nonneg _), Nat.testBit_eq_decide_div_mod_eq, Nat.shiftRight_eq_div_pow]
  have h : m / 2 ^ k % 2 < 2 := Nat.mod_lt _ (by decide)
  generalize m / 2 ^ k = z at h
  have e : z % 2 = 0 ∨ z % 2 = 1 := by omega
  rcases e with e | e
  · rw [e]; simp; omega
  · rw [e]; simp; omega
theorem bit_dec (m k : Nat) : decide (Builtin.bitAnd ((m : Int) / 2 ^ (Int.toNat (k : Int))) 1 = 1) = m.testBit k := by
  rw [bit_nat]
  cases m.testBit k <;> simp
/-! ### tables by number -/
theorem map_set {α : Type} {f : Nat → α} {m j : Nat} {y : α} : ((List.range m).map f).set j y = (List.range m).map fun r => if r = j then y else f r := by
  apply List.ext_getElem
  · simp
  · intro i h1 h2
    simp only [List.length_set, List.length_map, List.length_range] at h1
    simp only [List.getElem_set, List.getElem_map, List.getElem_range]
    by_cases e : j = i
    · subst e; simp
    · rw [if_neg e, if_neg (Ne.symm e)]
theorem map_at {α : Type} {f : Nat → α} {m j : Nat} (h : j < m) : ((List.range m).map f)[j]? = some (f j) := by
  rw [List.getElem?_map, List.getElem?_range h]
  rfl
theorem map_len {α : Type} {f : Nat → α} {m : Nat} : ((List.range m).map f).length = m := by simp
theorem map_setI {f : Nat → Int} {m j : Nat} {y : Int} : ((List.range m).map fun r => V.int (f r)).set j (V.int y) = (List.range m).map fun r => V.int (if r = j then y else f r) := by
  rw [map_set]
  congr 1
  funext r
  split <;> rfl
/-! ### comprehensions, slices -/
section
variable {σ σ' : L2.St} {H : Hp} {Q : VK} {QT : Bool → Hp → Prop}
theorem w_lc {wi : TI} {g : TG} {tt : TT} {te : TE} {vs : List Nat} (h : wi σ H fun J H1 => ∀ D, New H1 D → ∃ W : Nat → Nat → Hp → Prop, (∃ m, W 0 m (upd H1 D (.lst []))) ∧ ∀ i m H, W i m H →
  (J.stop i H ∧ Q (.ref D) H) ∨ (J.go i H ∧ ∃ Nx : Hp → Prop, (∀ H', Nx H' → ∃ m', m' < m ∧ W (i + 1) m' H') ∧ ∀ x H', J.yld i H x H' → g x (wipe σ vs) H' fun σ2 H2 => wipe σ2 vs = wipe σ vs ∧ tt σ2 H2 fun b H3 =>
    if b = true then te σ2 H3 fun y H4 => ∃ acc, H4 D = some (.lst acc) ∧ acc.length < sizeLine ∧ Nx (upd H4 D (.lst (acc ++ [y]))) else Nx H3)) : tLc wi g tt te vs σ H Q := h
theorem w_wipe {vs : List Nat} {R : Prop} (e : wipe σ vs = wipe σ' vs) (h : R) : wipe σ vs = wipe σ' vs ∧ R := ⟨e, h⟩
theorem w_yes (h : QT true H) : tYes σ H QT := h
theorem cutV_nat (xs : List V) (a b : Nat) : cutV xs (some (a : Int)) (some (b : Int)) = (xs.drop a).take (b - a) := by
  unfold cutV
  rw [HT.sIx_nat, HT.sIx_nat]
  apply List.ext_getElem?
  intro i
  simp only [List.getElem?_take, List.getElem?_drop]
  by_cases ha : a ≤ xs.length
  · rw [Nat.min_eq_left ha]
    by_cases h : i < b - a
    · by_cases h2 : i < min b xs.length - a
      · rw [if_pos h, if_pos h2]
      · rw [if_pos h, if_neg h2, List.getElem?_eq_none (by omega)]
    · rw [if_neg h, if_neg (by omega)]
  · rw [if_neg (by omega)]
    split
    · rw [List.getElem?_eq_none (by omega)]
    · rfl
theorem cutV_from (xs : List V) (a : Nat) : cutV xs (some (a : Int)) none = xs.drop a := by
  unfold cutV
  rw [HT.sIx_nat, HT.sIx_none]
  by_cases h : a ≤ xs.length
  · rw [Nat.min_eq_left h]
    exact List.take_of_length_le (by simp)
  · rw [Nat.min_eq_right (by omega), List.drop_of_length_le (Nat.le_refl _), List.drop_of_length_le (by omega), List.take_nil]
theorem cutV_to (xs : List V) (b : Nat) : cutV xs none (some (b : Int)) = xs.take b := by
  unfold cutV
  rw [HT.sIx_nat, HT.sIx_none, List.drop_zero, Nat.sub_zero]
  by_cases h : b ≤ xs.length
  · rw [Nat.min_eq_left h]
  · rw [Nat.min_eq_right (by omega), List.take_of_length_le (Nat.le_refl _), List.take_of_length_le (by omega)]
end
theorem w_list {K : PySem.W.Frag} {H : Hp} {p : Addr} {xs : List V} {R : List V → Prop} (hs : SqL K H p xs) (h : R xs) : ∃ p' ys, [V.ref p] = [.ref p'] ∧ (SqL K H p' ys ∨ SqT K H p' ys) ∧ R ys := ⟨p, xs, rfl, .inl hs, h⟩
/-! ### a heap without one place -/
def wo (H : Hp) (D : Addr) : Hp := fun b => if b = D then none else H b
section
variable {K : PySem.W.Frag} {H H' H2 : Hp} {D p : Addr} {o : HO} {xs : List V} {ds : List PyData} {v : V} {d : PyData}
theorem wo_same : Same (wo H D) H := fun b o h => by
  unfold wo at h
  split at h
  · cases h
  · exact h
theorem wo_new : New (wo H D) D := if_pos rfl
theorem wo_get (h : H p = some o) (n : p ≠ D) : wo H D p = some o := (if_neg n).trans h
theorem wo_eq : wo (upd H D o) D = wo H D := by
  funext b
  unfold wo
  split
  · rfl
  · rw [upd_ne (by assumption)]
theorem wo_mono (e : Same H H') : Same (wo H D) (wo H' D) := fun b o h => by
  unfold wo at h ⊢
  split at h
  · cases h
  · rw [if_neg (by assumption)]; exact e b o h
theorem same_wo (e : Same H H') (n : New H D) : Same H (wo H' D) := fun b o h => wo_get (e b o h) (ne_new h n)
theorem dpaPush (h : DpAll K (wo H D) xs ds) (e : Same H H2) (hv : Dp K (wo H2 D) v d) : DpAll K (wo (upd H2 D o) D) (xs ++ [v]) (ds ++ [d]) := by
  rw [wo_eq]
  exact dpaApp (h.same (wo_mono e)) (.cons hv .nil)
theorem dpaPushI (h : DpAll K (wo H D) xs ds) {i : Int} : DpAll K (wo (upd H D o) D) (xs ++ [.int i]) (ds ++ [.int i]) := dpaPush h (Same.refl _) (.int i)
end
/-! ### while -/
theorem w_wt {W : Nat → L2.St → Hp → Prop} {tb : TS} {D : Ends} {σ : L2.St} {H : Hp} {m : Nat} (h : tb { D with nx := fun σ' H' => ∃ m', m' < m ∧ W m' σ' H', ct := fun σ' H' => ∃ m', m' < m ∧ W m' σ' H', bk := D.nx } σ H) :
    ∃ N : L2.St → Hp → Prop, (∀ σ' H', N σ' H' → ∃ m', m' < m ∧ W m' σ' H') ∧ tb { D with nx := N, ct := N, bk := D.nx } σ H := ⟨_, fun _ _ h => h, h⟩
theorem and_nat (m n : Nat) : Builtin.bitAnd (m : Int) (n : Int) = ((m &&& n : Nat) : Int) := rfl
/-! ### two ways to read -/
theorem _root_.L2.PE.or {X : Cx} {e : Expr} {t t' : TE} (h : PE X e t) (h' : PE X e t') : PE X e (fun σ H Q => t σ H Q ∨ t' σ H Q) := ⟨fun pins s σ H Q I q => by
  rcases q with q | q
  · exact h.run pins s σ H Q I q
  · exact h'.run pins s σ H Q I q⟩
/-- the same, for an item of a comprehension -/
def tOrE (t t' : TE) : TE := fun σ H Q => t σ H Q ∨ t' σ H Q
theorem _root_.L2.PE.orD {X : Cx} {e : Expr} {t t' : TE} (h : PE X e t) (h' : PE X e t') : PE X e (tOrE t t') := PE.or h h'
theorem w_orE {t t' : TE} {σ : L2.St} {H : Hp} {Q : VK} (h : t σ H Q ∨ t' σ H Q) : tOrE t t' σ H Q := h
/-! ### classes by name -/
structure HasMk (P : Program) (w : World) (K : PySem.W.Frag) (mg : Str → Option Value) (base : Heap) (CX : CXT) (k : Nat) (x : Str) (C : Addr) (ps : List Str) (sp : Sp) : Prop where
  ex : ∃ f fd, FnOk P w K mg base CX k f fd ps sp ∧ Mk K C f ∧ mg x = some (.ref C) ∧ Binds K fd ps []
structure HasMeth (P : Program) (w : World) (K : PySem.W.Frag) (mg : Str → Option Value) (base : Heap) (CX : CXT) (k : Nat) (C : Addr) (m : Str) (ps : List Str) (sp : Sp) : Prop where
  ex : ∃ f fd, FnOk P w K mg base CX k f fd ps sp ∧ Cls K C ∧ Meth K C m f ∧ Binds K fd ps []
/-- a method's body, proved once for whatever class holds it -/
structure HasFn (P : Program) (w : World) (K : PySem.W.Frag) (mg : Str → Option Value) (base : Heap) (CX : CXT) (k : Nat) (f : Addr) (ps : List Str) (sp : Sp) : Prop where
  ex : ∃ fd, FnOk P w K mg base CX k f fd ps sp ∧ Binds K fd ps []
section
variable {P : Program} {w : World} {K : PySem.W.Frag} {mg : Str → Option Value} {base : Heap} {x qual : Str} {ps N : List Str} {sp : Sp} {k : Nat}
theorem HasFn.mk' {st : Stmt} {f : Addr} {fd : FuncData} (F : Fun K x qual st f fd) (b : Binds K fd ps []) (S : FnScope N ps (defScope st)) (len : ∀ vs H Q E, sp vs H Q E → vs.length = ps.length)
    (hbody : ∀ (cdv : Value) (A : Around) (outer : List Env) (s : Shared) (H : Hp) (vs : List V) (Q : VK) (E : XK), Room k (A.deeper (envOfC qual (defScope st) s.heap.objs.size f cdv)) → sp vs H Q E →
      ∃ t, PSs (cxOf CX0 P w K mg base N qual (defScope st) f cdv A outer s H E).nox (defBody st) t ∧ t { nx := fun _ H' => Q .non H', rt := Q } (start N vs) H) : HasFn P w K mg base CX0 (k + 1) f ps sp :=
  ⟨fd, F.ok S len hbody, b⟩
theorem HasFn.mkOf {CX : CXT} {f C : Addr} (h : HasFn P w K mg base CX k f ps sp) (M : Mk K C f) (g : mg x = some (.ref C)) : HasMk P w K mg base CX k x C ps sp := by
  obtain ⟨fd, F, b⟩ := h.ex
  exact ⟨f, fd, F, M, g, b⟩
theorem HasFn.meth {CX : CXT} {f C : Addr} {m : Str} (h : HasFn P w K mg base CX k f ps sp) (c : Cls K C) (M : Meth K C m f) : HasMeth P w K mg base CX k C m ps sp := by
  obtain ⟨fd, F, b⟩ := h.ex
  exact ⟨f, fd, F, c, M, b⟩
end
section
variable {X : Cx} {k : Nat} {ps : List Str} {sp : Sp} {x m : Str} {p pos apos : Pos} {e o : Expr} {es : List Expr} {t : TA} {ta : TE} {C : Addr}
theorem pe_mk (h : HasMk X.prog X.w X.K X.mg X.base CX0 k x C ps sp) (hr : Room (k + 1) X.A) (hg : Gl X x) (ha : PA X (e :: es) t) (hdb : (x == ("__debug__" : Str)) = false := by decide) (he : starEach (e :: es) X.env = (false, eval e X.env) :: starEach es X.env := by rfl) (hpl : (backTo pos (starEach es X.env)).any (·.1) = false := by rfl) :
    PE X (.Call (.Name x p) (e :: es) [] pos) (tMake C sp [] E0 t) := by
  obtain ⟨f, fd, F, M, g, b⟩ := h.ex
  exact pe_make M F hr hg g b .nil pass0 ha hdb he hpl
theorem pe_mt {pl : Sem Bool} (h : HasMeth X.prog X.w X.K X.mg X.base CX0 k C m ps sp) (he : PE X o ta) (hr : Room k X.A) (ha : PA X (e :: es) t)
    (hst : starEach (e :: es) X.env = (false, eval e X.env) :: starEach es X.env := by rfl) (hpl : (backTo pos (starEach es X.env)).any (·.1) = false := by rfl)
    (ht : eval (.Call (.Attribute o m apos) (e :: es) [] pos) X.env = (do
      let v ← eval o X.env
      standAt apos.atName
      let (f, first) ← holding [v] (getMethod v m pl)
      callWith pos f first (backTo pos (starEach (e :: es) X.env)) (backToKw pos (keywordEach [] X.env))) := by rfl) :
    PE X (.Call (.Attribute o m apos) (e :: es) [] pos) (tMeth C m sp [] E0 ta t) := by
  obtain ⟨f, fd, F, c, M, b⟩ := h.ex
  exact pe_meth he c M F hr b .nil pass0 ha hst hpl ht
theorem pe_mt0 {pl : Sem Bool} (h : HasMeth X.prog X.w X.K X.mg X.base CX0 k C m ps sp) (he : PE X o ta) (hr : Room k X.A)
    (ht : eval (.Call (.Attribute o m apos) [] [] pos) X.env = (do
      let v ← eval o X.env
      standAt apos.atName
      let (f, first) ← holding [v] (getMethod v m pl)
      callWith pos f first (backTo pos (starEach [] X.env)) (backToKw pos (keywordEach [] X.env))) := by rfl) :
    PE X (.Call (.Attribute o m apos) [] [] pos) (tMeth C m sp [] E0 ta tNil) := by
  obtain ⟨f, fd, F, c, M, b⟩ := h.ex
  exact pe_meth0 he c M F hr b .nil pass0 ht
end
section
variable {σ : L2.St} {H : Hp} {Q : VK} {D : Ends} {K : PySem.W.Frag} {ta tv : TE} {tl : TA} {sp : Sp} {E : XK} {C p dx : Addr} {fs : List (Str × V)} {f m : Str} {v : V}
theorem w_make (h : tl σ H fun vs H1 => ∀ x dx, New H1 x → New H1 dx → dx ≠ x → sp (.ref x :: vs) (upd (upd H1 dx (.own x)) x (.ins C dx [])) (fun v H2 => v = .non ∧ Q (.ref x) H2) E) : tMake C sp [] E tl σ H Q := by
  unfold tMake
  simp only [List.append_nil]
  exact h
theorem w_meth (h : ta σ H fun x H1 => ∃ a dx fs, x = .ref a ∧ H1 a = some (.ins C dx fs) ∧ fs.lookup m = none ∧ tl σ H1 fun vs H2 => sp (x :: vs) H2 Q E) : tMeth C m sp [] E ta tl σ H Q := by
  unfold tMeth
  simp only [List.append_nil]
  exact h
theorem w_methq {R : Prop} (hp : H p = some (.ins C dx fs)) (hl : fs.lookup m = none) (h : R) : ∃ a dx fs, V.ref p = .ref a ∧ H a = some (.ins C dx fs) ∧ fs.lookup m = none ∧ R := ⟨p, dx, fs, rfl, hp, hl, h⟩
theorem w_sf (h : tv σ H fun y H1 => ta σ H1 fun x H2 => ∃ a C dx fs, x = .ref a ∧ H2 a = some (.ins C dx fs) ∧ Cls K C ∧ NoAttr K C f ∧ fs.length < 1000 ∧ D.nx σ (upd H2 a (.ins C dx (putF f y fs)))) : sFld K ta tv f D σ H := h
theorem w_sfq {R : Addr → Addr → Addr → List (Str × V) → Prop} (hp : H p = some (.ins C dx fs)) (hc : Cls K C) (hn : NoAttr K C f) (hl : fs.length < 1000) (h : R p C dx fs) : ∃ a C' dx' fs', V.ref p = .ref a ∧ H a = some (.ins C' dx' fs') ∧ Cls K C' ∧ NoAttr K C' f ∧ fs'.length < 1000 ∧ R a C' dx' fs' := ⟨p, C, dx, fs, rfl, hp, hc, hn, hl, h⟩
end
/-! ### isinstance of an object -/
structure IsoK (K : PySem.W.Frag) (C : Addr) : Prop where
  cl : Cls K C
  oc : PySem.W.findIn K (.ref C) "__class__" = some (some (.builtin "object.__class__"))
  og : PySem.W.specialIn K (.builtin "object.__class__") "__get__" = some (some (.builtin "getset_descriptor.__get__"))
  ot : PySem.W.takesIn K (.builtin "object.__class__") = some true
  om : PySem.W.mroIn K C (.type "object") = some true
theorem w_iso {K : PySem.W.Frag} {H : Hp} {Q : VK} {p C D dx : Addr} {fs : List (Str × V)} {b : Bool} (hp : H p = some (.ins C dx fs)) (I : IsoK K C) (hk : PySem.W.kitOne K (.ref C) (.ref D) = some b) (h : Q (.bl b) H) : rIsi K [.ref p, .ref D] H Q :=
  ⟨_, _, _, _, b, rfl, .own D, .base (.ins hp I.cl I.oc I.og I.ot I.om), hk, h⟩
theorem w_isoN {K : PySem.W.Frag} {H : Hp} {Q : VK} {D : Addr} {b : Bool} (hk : PySem.W.kitOne K (.type "NoneType") (.ref D) = some b) (h : Q (.bl b) H) : rIsi K [.non, .ref D] H Q :=
  ⟨_, _, _, _, b, rfl, .own D, .base .non, hk, h⟩
theorem kit_own {K : PySem.W.Frag} {C D : Addr} {b : Bool} (h1 : PySem.W.isClsIn K D = true) (h2 : PySem.W.typeIn K (.ref D) = some (.type "type")) (h3 : PySem.W.subIn K (.ref C) (.ref D) = some b) (h4 : PySem.W.subIn K (.ref C) (.ref C) = some true) : PySem.W.kitOne K (.ref C) (.ref D) = some b := by
  unfold PySem.W.kitOne
  by_cases e : C = D
  · subst e
    rw [h4] at h3
    cases h3
    rw [if_pos (by simp)]
  · have hn : ¬ ((Value.ref C == Value.ref D) = true) := by
      intro z
      rw [beq_iff_eq] at z
      cases z
      exact e rfl
    rw [if_neg hn]
    unfold PySem.W.kitCls
    have h5 : (PySem.W.clsIn K D).isSome = true := h1
    show (if ((PySem.W.clsIn K D).isSome && PySem.W.typeIn K (.ref D) == some (.type "type")) = true then PySem.W.subIn K (.ref C) (.ref D) else none) = some b
    rw [h5, h2, if_pos (by simp)]
    exact h3
/-! ### range by steps -/
theorem w_r3 {σ : L2.St} {H : Hp} {ta : TA} {R : It → Hp → Prop} (h : ta σ H fun vs H1 => ∃ (i j c : Int) (n : Nat), vs = [.int i, .int j, .int c] ∧ RgC i j c n ∧ R (Itc i c n) H1) : iRng3 ta σ H R := h
theorem w_r3q {i j c : Int} {n : Nat} {R : Int → Int → Nat → Prop} (hc : RgC i j c n) (h : R i c n) : ∃ (i' j' c' : Int) (n' : Nat), [V.int i, V.int j, V.int c] = [.int i', .int j', .int c'] ∧ RgC i' j' c' n' ∧ R i' c' n' := ⟨i, j, c, n, rfl, hc, h⟩
/-! ### ways joined behind a statement -/
def tCutX (t u : TS) : TS := fun D σ H => ∃ M : L2.St → Hp → Prop, t { D with nx := M } σ H ∧ ∀ σ' H', M σ' H' → u D σ' H'
theorem pss_cutX {X : Cx} {st : Stmt} {more : List Stmt} {t u : TS} (h1 : PS X st t) (h2 : PSs X more u) : PSs X (st :: more) (tCutX t u) := ⟨fun pins s σ H D I h => by
  obtain ⟨M, hm, hu⟩ := h
  refine wpAny_execs_cons (thn (h1.run pins s σ H { D with nx := M } I hm) fun f s1 q => ?_)
  cases f with
  | next => obtain ⟨σ1, H1, I1, q1⟩ := q; exact h2.run pins s1 σ1 H1 D I1 (hu σ1 H1 q1)
  | ret v => exact q
  | brk => exact q
  | cont => exact q⟩
theorem w_cut {t u : TS} {D : Ends} {σ : L2.St} {H : Hp} (M : L2.St → Hp → Prop) (h : t { D with nx := M } σ H) (k : ∀ σ' H', M σ' H' → u D σ' H') : tCutX t u D σ H := ⟨M, h, k⟩
/-! ### dicts with number keys; heaps that grow -/
theorem _root_.L2.Same.add {G H : Hp} {q : Addr} {o : HO} (e : Same G H) (h : H q = some o) : Same (upd G q o) H := fun b u hb => by
  by_cases e2 : b = q
  · subst e2
    rw [upd_same] at hb
    rw [h]
    exact hb
  · rw [upd_ne e2] at hb
    exact e b u hb
theorem New.upd {G : Hp} {p q : Addr} {o : HO} (n : New G p) (h : p ≠ q) : New (upd G q o) p := (upd_ne h).trans n
theorem putK_len {kvs : List (Key × V)} {k : Key} {v : V} : (putK kvs k v).length ≤ kvs.length + 1 := by
  unfold putK
  split <;> simp
theorem w_put {σ : L2.St} {H : Hp} {D : Ends} {td ty tv : TE} (h : tv σ H fun v H1 => td σ H1 fun x H2 => ty σ H2 fun y H3 => ∃ a H4, x = .ref a ∧ DPut H3 a y v H4 ∧ D.nx σ H4) : sDPut td ty tv D σ H := h
theorem w_putI {H : Hp} {a : Addr} {kvs : List (Key × V)} {i : Int} {v : V} {R : Hp → Prop} (e : H a = some (.dK kvs)) (hl : kvs.length < sizeLine) (h : R (upd H a (.dK (putK kvs (.inl i) v)))) : ∃ a' H4, V.ref a = .ref a' ∧ DPut H a' (.int i) v H4 ∧ R H4 := ⟨a, _, rfl, DPut.k (k := .inl i) e hl, h⟩
theorem w_getI {H : Hp} {a : Addr} {kvs : List (Key × V)} {i : Int} {v : V} {R : V → Prop} (e : H a = some (.dK kvs)) (hv : valV kvs (.inl i) = some v) (h : R v) : ∃ a' v', V.ref a = .ref a' ∧ DGet H a' (.int i) (some v') ∧ R v' := ⟨a, v, rfl, by rw [← hv]; exact DGet.k (k := .inl i) e, h⟩
theorem w_inI {H : Hp} {a : Addr} {kvs : List (Key × V)} {i : Int} {R : Option V → Prop} (e : H a = some (.dK kvs)) (h : R (valV kvs (.inl i))) : ∃ a' o, V.ref a = .ref a' ∧ DGet H a' (.int i) o ∧ R o := ⟨a, _, rfl, DGet.k (k := .inl i) e, h⟩
theorem w_din {σ : L2.St} {H : Hp} {Q : VK} {td ty : TE} (h : ty σ H fun y H1 => td σ H1 fun x H2 => ∃ a o, x = .ref a ∧ DGet H2 a y o ∧ Q (.bl o.isSome) H2) : tDIn ty td σ H Q := h
theorem w_dni {σ : L2.St} {H : Hp} {Q : VK} {td ty : TE} (h : ty σ H fun y H1 => td σ H1 fun x H2 => ∃ a o, x = .ref a ∧ DGet H2 a y o ∧ Q (.bl (!o.isSome)) H2) : tDNotIn ty td σ H Q := h
theorem w_dg {σ : L2.St} {H : Hp} {Q : VK} {td ty : TE} (h : td σ H fun x H1 => ty σ H1 fun y H2 => ∃ a v, x = .ref a ∧ DGet H2 a y (some v) ∧ Q v H2) : tDGet td ty σ H Q := h
theorem w_dn {σ : L2.St} {H : Hp} {Q : VK} (h : ∀ p, New H p → Q (.ref p) (upd H p (.dK []))) : tDNewK σ H Q := h
/-- a dict with number keys: what it holds -/
def Holds (kvs : List (Key × V)) (S : List Nat) (g : Nat → V) : Prop := kvs.length ≤ S.length ∧ ∀ d : Nat, valV kvs (.inl (d : Int)) = if d ∈ S then some (g d) else none
theorem Holds.nil {g : Nat → V} : Holds [] [] g := ⟨Nat.le_refl _, fun d => by simp [valV]⟩
theorem Holds.put {kvs : List (Key × V)} {S : List Nat} {g : Nat → V} (h : Holds kvs S g) (x : Nat) : Holds (putK kvs (.inl (x : Int)) (g x)) (S ++ [x]) g := by
  refine ⟨by have := putK_len (kvs := kvs) (k := .inl (x : Int)) (v := g x); have := h.1; simp; omega, fun d => ?_⟩
  rw [valV_put, h.2]
  by_cases e : d = x
  · subst e; simp
  · have : ¬ ((.inl (d : Int) : Key) = .inl (x : Int)) := fun z => e (by have := Sum.inl.inj z; omega)
    rw [if_neg this]
    simp [e]
theorem lc_r0 {m : Int} {n : Nat} {g : TG} {tt : TT} {te : TE} {vs : List Nat} {σ : L2.St} {H1 : Hp} {D : Addr} {Qd : Hp → Prop} (hm : m = n) (Pv : Nat → Hp → Prop) (h0 : Pv 0 (upd H1 D (.lst [])))
    (hs : ∀ i H, i < n → Pv i H → g (.int (i : Nat)) (wipe σ vs) H fun σ2 H2 => wipe σ2 vs = wipe σ vs ∧ tt σ2 H2 fun b H3 =>
      if b = true then te σ2 H3 fun y H4 => ∃ acc, H4 D = some (.lst acc) ∧ acc.length < sizeLine ∧ Pv (i + 1) (upd H4 D (.lst (acc ++ [y]))) else Pv (i + 1) H3) (hd : ∀ H, Pv n H → Qd H) :
    ∃ W : Nat → Nat → Hp → Prop, (∃ m, W 0 m (upd H1 D (.lst []))) ∧ ∀ i k H, W i k H →
      ((Itr 0 m.toNat).stop i H ∧ Qd H) ∨ ((Itr 0 m.toNat).go i H ∧ ∃ Nx : Hp → Prop, (∀ H', Nx H' → ∃ m', m' < k ∧ W (i + 1) m' H') ∧ ∀ x H', (Itr 0 m.toNat).yld i H x H' → g x (wipe σ vs) H' fun σ2 H2 => wipe σ2 vs = wipe σ vs ∧ tt σ2 H2 fun b H3 =>
        if b = true then te σ2 H3 fun y H4 => ∃ acc, H4 D = some (.lst acc) ∧ acc.length < sizeLine ∧ Nx (upd H4 D (.lst (acc ++ [y]))) else Nx H3) := by
  subst hm
  rw [Int.toNat_natCast]
  exact lc_range (lo := 0) Pv h0 (fun i H hi hp => by rw [Int.zero_add]; exact hs i H hi hp) hd
theorem w_acc {H : Hp} {D : Addr} {acc : List V} {R : List V → Prop} (h1 : H D = some (.lst acc)) (h2 : acc.length < sizeLine) (h : R acc) : ∃ acc', H D = some (.lst acc') ∧ acc'.length < sizeLine ∧ R acc' := ⟨acc, h1, h2, h⟩
/-! ### enumerate -/
theorem for_enumX {K : PySem.W.Frag} {a : Addr} {xs : List V} {g : TG} {tb : TS} {D : Ends} {σ : L2.St} {H : Hp} (Pv : Nat → L2.St → Hp → Prop) (h0 : Pv 0 σ H) (hl : ∀ i σ H, i ≤ xs.length → Pv i σ H → SqL K H a xs)
    (hs : ∀ i x σ H p, xs[i]? = some x → Pv i σ H → New H p → g (.ref p) σ (upd H p (.tup [.int (i : Nat), x])) fun σ2 H2 => tb { D with nx := Pv (i + 1), ct := Pv (i + 1), bk := D.nx } σ2 H2) (hd : ∀ σ H, Pv xs.length σ H → D.nx σ H) :
    ∃ W : Nat → Nat → L2.St → Hp → Prop, (∃ m, W 0 m σ H) ∧ ∀ i m σ H, W i m σ H →
      ((Ite K a).stop i H ∧ D.nx σ H) ∨ ((Ite K a).go i H ∧ ∃ N : L2.St → Hp → Prop, (∀ σ' H', N σ' H' → ∃ m', m' < m ∧ W (i + 1) m' σ' H') ∧ ∀ x H', (Ite K a).yld i H x H' → g x σ H' fun σ2 H2 => tb { D with nx := N, ct := N, bk := D.nx } σ2 H2) := by
  refine ⟨fun i m σ H => i + m = xs.length ∧ Pv i σ H, ⟨xs.length, by omega, h0⟩, fun i m σ H hW => ?_⟩
  obtain ⟨e, p⟩ := hW
  have q := hl i σ H (by omega) p
  cases m with
  | zero =>
    have e2 : i = xs.length := by omega
    subst e2
    exact .inl ⟨⟨xs, q, Nat.le_refl _⟩, hd σ H p⟩
  | succ m =>
    have hi : i < xs.length := by omega
    refine .inr ⟨⟨xs, xs[i], q, List.getElem?_eq_getElem hi⟩, Pv (i + 1), fun σ' H' h => ⟨m, by omega, by omega, h⟩, fun x H' hy => ?_⟩
    obtain ⟨T, y, rfl, nT, rfl, hx⟩ := hy
    exact hs i y σ H T (hx xs q) p nT
theorem w_enum {σ : L2.St} {H : Hp} {K : PySem.W.Frag} {ta : TA} {R : It → Hp → Prop} (h : ta σ H fun vs H1 => ∃ a xs, vs = [.ref a] ∧ SqL K H1 a xs ∧ R (Ite K a) H1) : iEnum K ta σ H R := h
theorem w_enq {H : Hp} {K : PySem.W.Frag} {p : Addr} {xs : List V} {R : Addr → Prop} (hs : SqL K H p xs) (h : R p) : ∃ a xs, [V.ref p] = [.ref a] ∧ SqL K H a xs ∧ R a := ⟨p, xs, rfl, hs, h⟩

/-! ### rules that name the written part -/
section
variable {X : Cx}
theorem ix_listK (K : PySem.W.Frag) (hK : X.K = K := by rfl) : IxR X (rIxL K) := by subst hK; exact ix_list
theorem ix_tupK (K : PySem.W.Frag) (hK : X.K = K := by rfl) : IxR X (rIxT K) := by subst hK; exact ix_tup
theorem ix_seqK (K : PySem.W.Frag) (hK : X.K = K := by rfl) : IxR X (rIx K) := by subst hK; exact ix_seq
theorem sl_listK (K : PySem.W.Frag) (hK : X.K = K := by rfl) : SlR X (rSlL K) := by subst hK; exact sl_list
def rLenK (K : PySem.W.Frag) : List V → Hp → VK → Prop := fun xs H Q => ∃ p ys, xs = [.ref p] ∧ (SqL K H p ys ∨ SqT K H p ys) ∧ Q (.int ys.length) H
theorem call_lenK (K : PySem.W.Frag) (hK : X.K = K := by rfl) : CallR X (.builtin "len") (rLenK K) := by subst hK; exact call_len_seq
def rListK (K : PySem.W.Frag) : List V → Hp → VK → Prop := fun xs H Q => ∃ p ys, xs = [.ref p] ∧ (SqL K H p ys ∨ SqT K H p ys) ∧ ∀ l, H l = none → Q (.ref l) (upd H l (.lst ys))
theorem call_listK (K : PySem.W.Frag) (hK : X.K = K := by rfl) : CallR X (.type "list") (rListK K) := by subst hK; exact call_list_of
theorem call_isiK' (K : PySem.W.Frag) (hK : X.K = K := by rfl) : CallR X (.builtin "isinstance") (rIsi K) := by subst hK; exact call_isi
theorem cr_sumK (K : PySem.W.Frag) (hc : X.calm = true) (hK : X.K = K := by rfl) : CallR X (.builtin "sum") (rSum K) := by subst hK; exact cr_sum hc
theorem cr_maxK (K : PySem.W.Frag) (hc : X.calm = true) (hK : X.K = K := by rfl) : CallR X (.builtin "max") (rMax K) := by subst hK; exact cr_max hc
theorem cr_minK (K : PySem.W.Frag) (hc : X.calm = true) (hK : X.K = K := by rfl) : CallR X (.builtin "min") (rMin K) := by subst hK; exact cr_min hc
theorem cr_allK (K : PySem.W.Frag) (hc : X.calm = true) (hK : X.K = K := by rfl) : CallR X (.builtin "all") (rAll K) := by subst hK; exact cr_all hc
theorem cr_anyK (K : PySem.W.Frag) (hc : X.calm = true) (hK : X.K = K := by rfl) : CallR X (.builtin "any") (rAny K) := by subst hK; exact cr_any hc
theorem cr_sortedIK (K : PySem.W.Frag) (hK : X.K = K := by rfl) : CallR X (.builtin "sorted") (rSortedI K) := by subst hK; exact cr_sortedI
theorem op_eqDK (K : PySem.W.Frag) (hu : X.A.units + 64 < cLine) (hK : X.K = K := by rfl) : OpR X (compareOp .Eq) (rEqD K) := by subst hK; exact op_eqD hu
theorem op_neDK (K : PySem.W.Frag) (hu : X.A.units + 64 < cLine) (hK : X.K = K := by rfl) : OpR X (compareOp .NotEq) (rNeD K) := by subst hK; exact op_neD hu
theorem op_inK (K : PySem.W.Frag) (hK : X.K = K := by rfl) : OpR X (compareOp .In) (rIn K false) := by subst hK; exact op_in_seq
theorem op_notInK (K : PySem.W.Frag) (hK : X.K = K := by rfl) : OpR X (compareOp .NotIn) (rIn K true) := by subst hK; exact op_notIn_seq
theorem mt_indexK (K : PySem.W.Frag) (hK : X.K = K := by rfl) : MtR X "list.index" (rIndex K) := by subst hK; exact mt_index
theorem w_lenK {K : PySem.W.Frag} {H : Hp} {Q : VK} {p : Addr} {xs : List V} (hs : SqL K H p xs) (h : Q (.int xs.length) H) : rLenK K [.ref p] H Q := ⟨p, xs, rfl, .inl hs, h⟩
theorem w_lenTK {K : PySem.W.Frag} {H : Hp} {Q : VK} {p : Addr} {xs : List V} (hs : SqT K H p xs) (h : Q (.int xs.length) H) : rLenK K [.ref p] H Q := ⟨p, xs, rfl, .inr hs, h⟩
theorem w_listK {K : PySem.W.Frag} {H : Hp} {Q : VK} {p : Addr} {xs : List V} (hs : SqL K H p xs) (h : ∀ l, New H l → Q (.ref l) (upd H l (.lst xs))) : rListK K [.ref p] H Q := ⟨p, xs, rfl, .inl hs, h⟩
end
section
variable {X : Cx} {e o : Expr} {f name : Str} {pos apos cpos : Pos} {ta to : TE} {t : TA} {es : List Expr}
theorem pe_fldK (K : PySem.W.Frag) (he : PE X e ta) (hb : attributeBase e f X.env (eval e X.env) = eval e X.env) (hK : X.K = K := by rfl) : PE X (.Attribute e f pos) (tFld K ta f) := by subst hK; exact pe_fld he hb
theorem pe_bmK (K : PySem.W.Frag) {T : String} {r : V → List V → Hp → VK → Prop} (h : PE X (.Call (.Attribute o name apos) es [] cpos) (tBM X.K T r to t)) (hK : X.K = K := by rfl) : PE X (.Call (.Attribute o name apos) es [] cpos) (tBM K T r to t) := by subst hK; exact h
theorem pe_bm0K (K : PySem.W.Frag) {T : String} {r : V → List V → Hp → VK → Prop} (h : PE X (.Call (.Attribute o name apos) es [] cpos) (tBM0 X.K T r to)) (hK : X.K = K := by rfl) : PE X (.Call (.Attribute o name apos) es [] cpos) (tBM0 K T r to) := by subst hK; exact h
theorem pi_listK (K : PySem.W.Frag) {tg l : Expr} {tl : TE} (hl : PE X l tl) (hK : X.K = K := by rfl) : PI X tg l (iList K tl) := by subst hK; exact pi_list hl
theorem pi_tupK (K : PySem.W.Frag) {tg l : Expr} {tl : TE} (hl : PE X l tl) (hK : X.K = K := by rfl) : PI X tg l (iTup K tl) := by subst hK; exact pi_tup hl
theorem pg_tupK (K : PySem.W.Frag) {es : List Expr} {k n : Nat} {t : TGs} (hc : X.calm = true) (h : PGs X es t) (hn : (assignEach es X.env).length = n := by rfl) (hst : (assignEach es X.env).findIdx? (·.1) = none := by rfl) (hK : X.K = K := by rfl) : PG X (.Tuple es k pos) (gTup K n t) := by subst hK; exact pg_tup hc h hn hst
end
/-! ### list.insert -/
theorem w_ins {H : Hp} {p : Addr} {xs : List V} {m : Int} {v : V} {R : Addr → List V → Int → V → Prop} (hp : H p = some (.lst xs)) (hl : xs.length < sizeLine) (h0 : 0 ≤ m) (h1 : m < 2 ^ 63) (h : R p xs m v) :
    ∃ (l : Addr) (ys : List V) (i : Int) (y : V), V.ref p = .ref l ∧ [V.int m, v] = [.int i, y] ∧ H l = some (.lst ys) ∧ ys.length < sizeLine ∧ 0 ≤ i ∧ i < 2 ^ 63 ∧ R l ys i y := ⟨p, xs, m, v, rfl, rfl, hp, hl, h0, h1, h⟩

/-! ### exceptions -/
theorem Has.mkX {P : Program} {w : World} {K : PySem.W.Frag} {mg : Str → Option Value} {base : Heap} {x qual : Str} {ps N : List Str} {sp : Sp} {k : Nat} {f : Addr} {fd : FuncData} {st : Stmt} (F : Fun K x qual st f fd) (gf : mg x = some (.ref f)) (b : Binds K fd ps []) (S : FnScope N ps (defScope st)) (len : ∀ vs H Q E, sp vs H Q E → vs.length = ps.length)
    (hbody : ∀ (cdv : Value) (A : Around) (outer : List Env) (s : Shared) (H : Hp) (vs : List V) (Q : VK) (E : XK), Room k (A.deeper (envOfC qual (defScope st) s.heap.objs.size f cdv)) → sp vs H Q E →
      ∃ t, PSs (cxOf (L2.CX P w) P w K mg base N qual (defScope st) f cdv A outer s H E) (defBody st) t ∧ t { nx := fun _ H' => Q .non H', rt := Q } (start N vs) H) : Has P w K mg base (L2.CX P w) (k + 1) x ps sp :=
  ⟨f, fd, F.okX S len hbody, gf, F.kp, b⟩
theorem pe_fnS {X : Cx} {W : WX} {k : Nat} {ps : List Str} {sp : Sp} {x : Str} {p pos : Pos} {e : Expr} {es : List Expr} {t : TA} (tk : Takes X W) (h : Has X.prog X.w X.K X.mg X.base (L2.CX X.prog X.w) k x ps sp) (hr : Room k X.A) (hg : Gl X x) (ha : PA X (e :: es) t) (hdb : (x == ("__debug__" : Str)) = false := by decide)
    (he : starEach (e :: es) X.env = (false, eval e X.env) :: starEach es X.env := by rfl) (hpl : (backTo pos (starEach es X.env)).any (·.1) = false := by rfl) :
    PE X (.Call (.Name x p) (e :: es) [] pos) (tCallS sp (WE W) t) := by
  obtain ⟨f, fd, F, gf, kp, b⟩ := h.ex
  exact pe_callS F hr hg gf kp b (fun σ => passAt tk σ) ha hdb he hpl
theorem pe_fnL {X : Cx} {k : Nat} {ps : List Str} {sp : Sp} {x : Str} {p pos : Pos} {e : Expr} {es : List Expr} {t : TA} (h : Has X.prog X.w X.K X.mg X.base (L2.CX X.prog X.w) k x ps sp) (hr : Room k X.A) (hg : Gl X x) (ha : PA X (e :: es) t) (hdb : (x == ("__debug__" : Str)) = false := by decide)
    (he : starEach (e :: es) X.env = (false, eval e X.env) :: starEach es X.env := by rfl) (hpl : (backTo pos (starEach es X.env)).any (·.1) = false := by rfl) :
    PE X (.Call (.Name x p) (e :: es) [] pos) (tCall sp [] E0 t) := by
  obtain ⟨f, fd, F, gf, kp, b⟩ := h.ex
  exact pe_call F hr hg gf kp b .nil passL ha hdb he hpl
theorem w_callS {σ : L2.St} {H : Hp} {Q : VK} {tl : TA} {sp : Sp} {E : L2.St → XK} (h : tl σ H fun vs H1 => sp vs H1 Q (E σ)) : tCallS sp E tl σ H Q := h
/-- facts of an exception class of the program's own -/
structure ExF (K : PySem.W.Frag) (C : Addr) : Prop where
  kp : PySem.W.keepIn K (.ref C) = true
  be : PySem.W.subIn K (.ref C) (.type "BaseException") = some true
  ty : PySem.W.typeIn K (.ref C) = some (.type "type")
  cl : PySem.W.isClsIn K C = true
  hd : PySem.W.hasDictIn K C = true
  ga : PySem.W.findIn K (.ref C) "__getattribute__" = some (some (.builtin "BaseException.__getattribute__"))
  gg : PySem.W.findIn K (.ref C) "__getattr__" = some none
  oc : PySem.W.findIn K (.ref C) "__class__" = some (some (.builtin "object.__class__"))
  om : PySem.W.mroIn K C (.type "object") = some true
  sv : PySem.W.subIn K (.ref C) (.type "ValueError") = some true
  ss : PySem.W.subIn K (.ref C) (.ref C) = some true
  og : PySem.W.specialIn K (.builtin "object.__class__") "__get__" = some (some (.builtin "getset_descriptor.__get__"))
  ot : PySem.W.takesIn K (.builtin "object.__class__") = some true
theorem ExF.exm {K : PySem.W.Frag} {C D : Addr} {b : Bool} (F : ExF K D) (h : PySem.W.subIn K (.ref C) (.ref D) = some b) : PySem.W.exmOne K (.ref C) (.ref D) = some b := PySem.W.exm_ref F.be F.hd F.ty h
theorem ExF.kit {K : PySem.W.Frag} {C D : Addr} {b : Bool} (F : ExF K C) (G : ExF K D) (h : PySem.W.subIn K (.ref C) (.ref D) = some b) : PySem.W.kitOne K (.ref C) (.ref D) = some b := kit_own G.cl G.ty h F.ss
theorem ExF.kitV {K : PySem.W.Frag} {C : Addr} (F : ExF K C) : PySem.W.kitOne K (.ref C) (.type "ValueError") = some true := by
  unfold PySem.W.kitOne
  rw [if_neg (by intro z; rw [beq_iff_eq] at z; cases z)]
  show (if PySem.W.kitMeta "ValueError" = true then PySem.W.subIn K (.ref C) (.type "ValueError") else none) = some true
  rw [if_pos (by decide +kernel), F.sv]
theorem ExF.xf {K : PySem.W.Frag} {C : Addr} (F : ExF K C) : XfC K C := ⟨F.ga, F.gg, F.be, F.hd⟩
/-- isinstance(e, c), e the exception that the suite holds, with its dict or without -/
def rIsX (K : PySem.W.Frag) (a : Addr) (cls : Value) (d : Option Addr) : List V → Hp → VK → Prop := fun xs H Q => ∃ (D : Addr) (c : V) (cv : Value) (b : Bool), cls = .ref D ∧ ExF K D ∧ (d = none ∨ ∃ dd fs, d = some dd ∧ H dd = some (.xd fs)) ∧ xs = [.ref a, c] ∧ (∀ u, RelV c u → u = cv) ∧ PySem.W.kitOne K (.ref D) cv = some b ∧ Q (.bl b) H
theorem call_isX {X : Cx} {a : Addr} {cls : Value} {d : Option Addr} {oe : Obj} {pn : List (Addr × Obj)} (K : PySem.W.Frag) (hz : Zc cls d oe) (hf : ∃ vs, oe.data = .fields vs) (hK : X.K = K := by rfl) : CallR (X.suite a ((a, oe) :: pn)) (.builtin "isinstance") (rIsX K a cls d) := by
  subst hK
  intro pins s σ H xs us Q I r h
  obtain ⟨D, c, cv, b, rfl, F, hd, rfl, hcv, e, q⟩ := h
  obtain _ | ⟨rx, rr⟩ := r
  obtain _ | ⟨rt, rr⟩ := rr
  cases rr
  cases rx
  have ec := hcv _ rt
  subst ec
  have hget := (I.pin (a, oe) (List.mem_append.mpr (.inl List.mem_cons_self))).1
  obtain ⟨vs, hv⟩ := hf
  have hcl : (PySem.W.clsIn X.K D).isSome = true := F.cl
  have J : ∃ od, PySem.W.InstAt s.heap a oe D od := by
    rcases hd with rfl | ⟨dd, fs, rfl, hdd⟩
    · exact ⟨none, hget, hz.1, by unfold PySem.W.notCls; rw [hv] <;> rfl, by rw [hz.2]; trivial⟩
    · obtain ⟨mA, hns, _⟩ : ObjOk X.prog X.w H s.heap dd (.xd fs) := I.hok dd _ hdd
      obtain ⟨od, ho, _⟩ := lookIn_ns hns
      exact ⟨some od, hget, hz.1, by unfold PySem.W.notCls; rw [hv] <;> rfl, by rw [hz.2]; exact ho⟩
  obtain ⟨od, J⟩ := J
  exact PySem.W.kia_one (PySem.W.kitx_exc hcl F.ga F.gg F.be F.oc F.og F.ot F.om) I.kIn J e (fun z => nomatch z) fun tk => ⟨.bl b, H, I.kept (t' := tk) fun _ _ z => z, rfl, q⟩
theorem w_isX {K : PySem.W.Frag} {H : Hp} {Q : VK} {a D E : Addr} {d : Option Addr} {b : Bool} (F : ExF K D) (G : ExF K E) (hs : PySem.W.subIn K (.ref D) (.ref E) = some b) (hd : d = none ∨ ∃ dd fs, d = some dd ∧ H dd = some (.xd fs)) (h : Q (.bl b) H) : rIsX K a (.ref D) d [.ref a, .ref E] H Q :=
  ⟨D, .ref E, .ref E, b, rfl, F, hd, rfl, fun _ r => r, F.kit G hs, h⟩
theorem w_isXV {K : PySem.W.Frag} {H : Hp} {Q : VK} {a D : Addr} {d : Option Addr} (F : ExF K D) (hd : d = none ∨ ∃ dd fs, d = some dd ∧ H dd = some (.xd fs)) (h : Q (.bl true) H) : rIsX K a (.ref D) d [.ref a, .ty "ValueError"] H Q :=
  ⟨D, .ty "ValueError", .type "ValueError", true, rfl, F, hd, rfl, fun _ r => r, F.kitV, h⟩
/-- an exception class whose __init__ is a def -/
structure HasXM (P : Program) (w : World) (K : PySem.W.Frag) (mg : Str → Option Value) (base : Heap) (k : Nat) (x : Str) (C : Addr) (ps : List Str) (sp : Sp) : Prop where
  oex : OexC K C
  ex : ∃ f fd, FnOk P w K mg base CX0 k f fd ps sp ∧ PySem.W.findIn K (.ref C) "__init__" = some (some (.ref f)) ∧ PySem.W.typeIn K (.ref f) = some (.type "function") ∧ mg x = some (.ref C) ∧ Binds K fd ps []
theorem pmk_xm {X : Cx} {x : Str} {C : Addr} {k : Nat} {ps : List Str} {sp : Sp} {e : Expr} {es : List Expr} {ta : TA} {p pos : Pos} (h : HasXM X.prog X.w X.K X.mg X.base k x C ps sp) (hr : Room (k + 1) X.A) (hg : Gl X x) (ha : PA X (e :: es) ta)
    (hdb : (x == ("__debug__" : Str)) = false := by decide) (he : starEach (e :: es) X.env = (false, eval e X.env) :: starEach es X.env := by rfl) (hpl : (backTo pos (starEach es X.env)).any (·.1) = false := by rfl) :
    PMk X (.Call (.Name x p) (e :: es) [] pos) (tMkO C sp [] ta) := by
  obtain ⟨f, fd, F, iC, tI, hm, b⟩ := h.ex
  exact pmk_oex h.oex iC tI F hr b .nil pass0 hg hm ha hdb he hpl
/-- the promise of an __init__ that keeps its argument as the field f -/
def spKeep (K : PySem.W.Frag) (C : Addr) : Sp := fun vs H Q _ => ∃ (a : Addr) (v : V), vs = [.ref a, v] ∧ OexC K C ∧ PySem.W.findIn K (.ref C) "at" = some none ∧ H a = some (exo a C none) ∧ ∀ d, H d = none → d ≠ a → Q .non (upd (upd H d (exd d [("at", v)])) a (exo a C (some d)))
/-- the raise of such an exception: its dict is new -/
theorem w_raiseK {K : PySem.W.Frag} {H : Hp} {C : Addr} {v : V} {Q : XK} (T : OexC K C) (n : PySem.W.findIn K (.ref C) "at" = some none) (h : ∀ d, New H d → Q (.ref C) (some d) (upd H d (.xd [("at", v)]))) :
    [v].length ≤ 1000 ∧ ∀ a, H a = none → spKeep K C (.ref a :: ([v] ++ [])) (upd H a (exo a C none)) (fun u H2 => u = .non ∧ ∃ (d : Addr) (fs : List (Str × V)), H2 a = some (exo a C (some d)) ∧ H2 d = some (exd d fs) ∧ H d = none ∧ Q (.ref C) (some d) (upd (del H2 a) d (.xd fs))) (fun _ _ _ => False) := by
  refine ⟨by show 1 ≤ 1000; decide, fun a na => ⟨a, v, rfl, T, n, upd_same, fun d nd hda => ⟨rfl, d, _, upd_same, by rw [upd_ne hda, upd_same], ?_, ?_⟩⟩⟩
  · rw [upd_ne hda] at nd
    exact nd
  · have nd' : H d = none := by rw [upd_ne hda] at nd; exact nd
    have e : upd (del (upd (upd (upd H a (exo a C none)) d (exd d [("at", v)])) a (exo a C (some d))) a) d (.xd [("at", v)]) = upd H d (.xd [("at", v)]) := by
      funext b
      by_cases hb : b = d
      · subst hb; rw [upd_same, upd_same]
      · rw [upd_ne hb, upd_ne hb]
        by_cases ha : b = a
        · subst ha; rw [del_same, na]
        · rw [del_ne ha, upd_ne ha, upd_ne hb, upd_ne ha]
    rw [e]
    exact h d nd'
theorem w_ost {K : PySem.W.Frag} {σ : L2.St} {H : Hp} {D : Ends} {to te : TE} {f : Str} (h : te σ H fun y H1 => to σ H1 fun x H2 => ∃ a C : Addr, x = .ref a ∧ OexC K C ∧ PySem.W.findIn K (.ref C) f = some none ∧
  ((H2 a = some (exo a C none) ∧ ∀ dx, H2 dx = none → dx ≠ a → D.nx σ (upd (upd H2 dx (exd dx [(f, y)])) a (exo a C (some dx)))) ∨
    ∃ (dx : Addr) (fs : List (Str × V)), H2 a = some (exo a C (some dx)) ∧ H2 dx = some (exd dx fs) ∧ fs.length ≤ 900 ∧ D.nx σ (upd H2 dx (exd dx ((f, y) :: fs))))) : tOst K f to te D σ H := h
theorem w_xf {σ : L2.St} {H : Hp} {Q : VK} {a C : Addr} {cls : Value} {d : Option Addr} {f : Str} {te : TE} (h : te σ H fun x H1 => x = .ref a ∧ cls = .ref C ∧ ∃ (dd : Addr) (fs : List (Str × V)) (v : V), d = some dd ∧ H1 dd = some (.xd fs) ∧ fs.lookup f = some v ∧ Q v H1) : tXf a cls d C f te σ H Q := h
theorem w_mko {σ : L2.St} {H : Hp} {C : Addr} {sp : Sp} {ta : TA} {Q : XK} (h : ta σ H fun vs H1 => vs.length ≤ 1000 ∧ ∀ a, H1 a = none → sp (.ref a :: (vs ++ [])) (upd H1 a (exo a C none))
  (fun v H2 => v = .non ∧ ∃ (d : Addr) (fs : List (Str × V)), H2 a = some (exo a C (some d)) ∧ H2 d = some (exd d fs) ∧ H1 d = none ∧ Q (.ref C) (some d) (upd (del H2 a) d (.xd fs))) (fun _ _ _ => False)) : tMkO C sp [] ta σ H Q := h

/-! ### an exception that is kept behind its suite: try: body, except x as n: .. found = n -/
/-- at a: a caught exception, of the class cls, its dict d -/
def exk (a : Addr) (cls : Value) (d : Option Addr) : HO := .ext fun h => ∃ (oe : Obj) (vs : Array Value), h.get? a = some oe ∧ Zc cls d oe ∧ oe.data = .fields vs
theorem exk_ok {P : Program} {w : World} {H : Hp} {h : Heap} {a : Addr} {cls : Value} {d : Option Addr} {oe : Obj} {vs : Array Value} (e : h.get? a = some oe) (z : Zc cls d oe) (dd : oe.data = .fields vs) : ObjOk P w H h a (exk a cls d) :=
  ⟨⟨oe, vs, e, z, dd⟩, ⟨oe, e⟩, fun _ _ ⟨o, v, q, r⟩ k => ⟨o, v, k o q, r⟩⟩
theorem exk_at {P : Program} {w : World} {H : Hp} {h : Heap} {a : Addr} {cls : Value} {d : Option Addr} (hok : HOk P w H h) (he : H a = some (exk a cls d)) : ∃ (oe : Obj) (vs : Array Value), h.get? a = some oe ∧ Zc cls d oe ∧ oe.data = .fields vs := by
  have x : ObjOk P w H h a (.ext fun h => ∃ (oe : Obj) (vs : Array Value), h.get? a = some oe ∧ Zc cls d oe ∧ oe.data = .fields vs) := hok a _ he
  exact x.1
section
variable {X : Cx} {pins : List (Addr × Obj)} {σ : L2.St} {H : Hp} {s : Shared}
/-- an object that is there, of ours, is tracked from now on -/
theorem Inv.track {a : Addr} {o : HO} (I : Inv X pins σ H s) (na : H a = none) (hx : ∀ ob, X.s_0.heap.get? a = some ob → a ∈ X.ex) (nL : a ≠ X.env.locals) (hc : ∀ x c, X.env.cells.lookup x = some c → c ≠ a) (hp : ∀ p ∈ X.pn ++ pins, p.1 ≠ a) (new : ObjOk X.prog X.w (upd H a o) s.heap a o) :
    Inv X pins σ (upd H a o) s :=
  ⟨I.ok, I.os, I.bare,
    ⟨I.base.keep, I.base.slot, fun b ob e n hb => by
      have nb : b ≠ a := fun z => by subst z; exact hb (hx ob e)
      rw [upd_ne nb]; exact I.base.free b ob e n hb, I.base.there,
      fun b xs q => by rw [upd_ne (ne_of_none (I.base.tups b xs q) na)]; exact I.base.tups b xs q,
      fun b ob u q => by rw [upd_ne (ne_of_none (I.base.frzs b ob u q) na)]; exact I.base.frzs b ob u q,
      fun b ps q => by
        obtain ⟨m, e⟩ := I.base.tbls b ps q
        exact ⟨m, by rw [upd_ne (ne_of_none e na)]; exact e⟩⟩,
    I.loc, I.cell, by rw [upd_ne nL.symm]; exact I.free, fun x c e => by rw [upd_ne (hc x c e)]; exact I.freeC x c e,
    fun p hq => by
      obtain ⟨h1, h2, h3⟩ := I.pin p hq
      exact ⟨h1, by rw [upd_ne (hp p hq)]; exact h2, h3⟩,
    fun b u e => by
      by_cases hb : b = a
      · subst hb; rw [upd_same] at e; cases e; exact new
      · rw [upd_ne hb] at e
        exact (I.hok b u e).stay (fun c v _ q => q) (fun c q => by rw [upd_ne (ne_of_none q na)]; exact q) fun c xs q => by rw [upd_ne (ne_of_none q na)]; exact q,
    I.len⟩
end
/-- what 'except x as n: suite' wishes, the exception kept behind -/
def wKeep (K : PySem.W.Frag) (c : Value) (i : Nat) (ts : Addr → Value → Option Addr → TS) (Wout : WX) (D : Ends) : WX := fun cls d σ H =>
  ∃ b, PySem.W.exmOne K cls c = some b ∧ (b = true → ∀ a, H a = none → ts a cls d { nx := fun σ' H' => H' a = none → D.nx (σ'.set i none) (upd H' a (exk a cls d)), rt := fun _ _ => False, bk := fun _ _ => False, ct := fun _ _ => False } (σ.set i (some (.ref a))) H) ∧
    (b = false → Wout cls d σ H)
section
variable {X : Cx} {x n : Str} {c : Value} {i : Nat} {body suite : List Stmt} {b₀ : Stmt} {np pos pos' : Pos} {tb : WX → TS} {ts : Addr → Value → Option Addr → TS} {Wout : WX}
theorem ps_try_keep (hs : X.stack = X.env :: X.outer) (hf : X.env.frame = some X.env.locals) (hN : X.N.Nodup) (hi : X.N[i]? = some n) (hln : X.env.kindOf n = some .local) (hc : Names X x c) (tk : Takes X Wout)
    (hb : ∀ (W : WX) (pn : List (Addr × Obj)) (xe : Value → Shared → Prop), Takes (X.tr pn xe) W → PassesOwn (model X.prog X.w) X.A X.env xe → PSs (X.tr pn xe) body (tb W))
    (hsu : ∀ (a : Addr) (oe : Obj) (cls : Value) (d : Option Addr) (pn : List (Addr × Obj)), Zc cls d oe → (∃ vs, oe.data = .fields vs) → PSs (X.suite a ((a, oe) :: pn)) (b₀ :: suite) (ts a cls d)) :
    PS X (.Try body [.ExceptHandler (some (.Name x np)) (some n) (b₀ :: suite) pos'] [] [] pos) (fun D σ H => tb (wKeep X.K c i ts Wout D) D σ H) := by
  refine ⟨fun pins s σ H D I h => ?_⟩
  have ok := I.ok
  have hfr : X.A.frames = some (X.env :: X.outer) := by rw [ok.frames, hs]
  refine wpAny_Try_except ?_
  refine wpAny_mono ((hb (wKeep X.K c i ts Wout D) (X.pn ++ pins) (fun e s₁ => wpAny (model X.prog X.w) X.A (noteFrame e X.env) (fun _ s₂ => wpAny (model X.prog X.w) X.A (setFlight e none) (fun _ s₃ =>
    wpAny (model X.prog X.w) X.A (handleBy e X.env [.ExceptHandler (some (.Name x np)) (some n) (b₀ :: suite) pos']) (SP X pins D) X.xe s₃) X.xe s₂) X.xe s₁) (fun u s' xx => ?_) PassesOwn.looking).run [] s σ H D (I.toTry _) h) (fun f s1 hsp => ?_) (fun e s1 he => he)
  · obtain ⟨a, B, sI, pins', σ', H', cls, d, rfl, J', nb, up, sky, na, os, ag, b, hb1, hyes, hno⟩ := xx
    have J : Inv X pins σ' H' sI := J'.ofTry ok
    have sky' : Sky B (X.env :: X.outer) a (Zc cls d) X.env.locals s'.heap := by rw [← hs]; exact sky
    show wpAny (model X.prog X.w) X.A (noteFrame (.ref a) X.env) _ _ _
    refine Sky.land Zc.steady hfr hf sky' fun h3 fl3 up3 => ?_
    have J3 : Inv X pins σ' H' { s' with heap := h3 } := J.landed nb fl3.1 (up.trans up3) os ag
    obtain ⟨oe3, vs3, he3, hz3, hd3⟩ := fl3.there
    have nfr : a ∉ frs (X.env :: X.outer) := fun hm => by
      obtain ⟨_, o', e', hnf⟩ := fl3.2.2.1.mem hm
      rw [he3] at e'; cases e'
      exact hnf _ hd3
    have nL : a ≠ X.env.locals := fun z => nfr (List.mem_filterMap.mpr ⟨X.env, List.mem_cons_self, by rw [hf, z]⟩)
    have nF : a ∉ X.fs := fun hm => by
      obtain ⟨e, he, q⟩ := List.mem_filterMap.mp hm
      exact nfr (List.mem_filterMap.mpr ⟨e, List.mem_cons_of_mem _ he, q⟩)
    have nI : sI.heap.get? a = none := by
      cases q : sI.heap.get? a with
      | none => rfl
      | some o =>
        have z := nb a o q (by rw [hs]; exact nfr)
        rw [fl3.2.1] at z
        cases z
    have S3 := J3.suite he3 hd3 na nL nF
    refine wpAny_handleBy_cons (codeAny_handlers_test ?_) (by intro q; cases q)
    have LT : PySem.W.Looks (model X.prog X.w) h3 (typeOf (.ref a)) cls := fun A Q E s k q => wpAny_typeOf_ref (k _ _ he3) (by rw [hz3.1]; exact q)
    have LM := PySem.W.exm_one (M := model X.prog X.w) (J3.kIn) LT hb1
    have test : ∀ {Q : Value → Shared → Prop} {E : Value → Shared → Prop}, Q c { s' with heap := h3 } → wpAny (model X.prog X.w) (X.A.mark (some (.ref a))) (eval (.Name x np) X.env) Q E { s' with heap := h3 } := fun {Q E} q => by
      obtain ⟨hg, hdbg, hm | ⟨hm, hv, hnn⟩⟩ := hc
      · exact ld_glob (X := X.suite a ((a, oe3) :: (X.pn ++ pins))) S3 hg hm q hdbg
      · exact ld_blt (X := X.suite a ((a, oe3) :: (X.pn ++ pins))) S3 hg hm hv q hnn hdbg
    refine test (LM.here ?_)
    cases b with
    | true =>
      refine codeAny_handlers_suite_as ?_
      refine HandSPX.lands_againZ fl3 fun h4 fl4 up4 => ?_
      have J4 : Inv X pins σ' H' { s' with heap := h4 } := J.landed nb fl4.1 ((up.trans up3).trans up4) os ag
      obtain ⟨oe4, vs4, he4, hz4, hd4⟩ := fl4.there
      have S4 := J4.suite he4 hd4 na nL nF
      refine store_ok (X := X.suite a ((a, oe4) :: (X.pn ++ pins))) (v := .ref a) S4 hN hi (.inl hln) rfl (fun s5 S5 => ?_) (.inr hln)
      refine wpAny_mono ((hsu a oe4 cls d (X.pn ++ pins) hz4 ⟨_, hd4⟩).run [] s5 _ H' _ S5 (hyes rfl a na)) (fun f s6 hsp => ?_) (fun _ _ z => False.elim z)
      cases f with
      | next =>
        obtain ⟨σ6, H6, S6, q6⟩ := hsp
        obtain ⟨g6, n6, _⟩ := S6.pin (a, oe4) (List.mem_append_left _ List.mem_cons_self)
        have T6 : Inv X pins σ6 (upd H6 a (exk a cls d)) s6 := Inv.track (S6.unsuite ok) n6
          (fun ob e => by
            refine Classical.byContradiction fun hx => ?_
            obtain ⟨o', e'⟩ := J.base.there a ob e hx
            rw [nI] at e'
            cases e')
          nL (fun y c' e z => by
            obtain ⟨v, hv⟩ := J.cell y c' e
            obtain ⟨o', e', _⟩ := hv
            rw [z, nI] at e'
            cases e')
          (fun p hp z => by
            have q := (J.pin p hp).1
            rw [z, nI] at q
            cases q)
          (exk_ok g6 hz4 hd4)
        exact gone_ok T6 hN hi hln fun s7 J7 => ⟨_, _, J7, q6 n6⟩
      | brk =>
        obtain ⟨_, _, _, q6⟩ := hsp
        exact False.elim q6
      | cont =>
        obtain ⟨_, _, _, q6⟩ := hsp
        exact False.elim q6
      | ret u =>
        obtain ⟨_, _, _, _, _, q6⟩ := hsp
        exact False.elim q6
    | false =>
      show wpAny _ X.A (handleBy (.ref a) X.env []) _ _ _
      refine wpAny_handleBy_nil ?_
      obtain ⟨k1, k2, k3, oe, vs, T, oT, ts', he, hz, hd, h1, hr⟩ := id fl3
      unfold PySem.passOn
      refine wpAny_bind (wpAny_field he hd h1 ?_)
      rw [if_neg (show ¬ ((Value.ref T == Value.none) = true) from by simp)]
      have fin : wpAny (model X.prog X.w) X.A (setFlight (.ref a) X.env.frame) (fun _ s4 => wpAny (model X.prog X.w) X.A (throw (.ref a) : Sem Flow) (SP X pins D) X.xe s4) X.xe { s' with heap := h3 } := by
        rw [hf]
        refine HandSPX.setFlight_upZ fl3 fun h4 hh4 up4 => wpAny_throw (tk _ _ ?_)
        exact ⟨a, B, sI, pins, σ', H', cls, d, rfl, J, nb, (up.trans up3).trans up4, .inr (.inr (by rw [hs]; exact hh4)), na, os, ag, hno rfl⟩
      first
        | exact wpAny_bind (wpAny_pure (wpAny_bind fin))
        | exact wpAny_bind fin
  · cases f with
    | next =>
      obtain ⟨σ', H', J', q⟩ := hsp
      exact wpAny_execs_nil ⟨σ', H', J'.ofTry ok, q⟩
    | brk =>
      obtain ⟨σ', H', J', q⟩ := hsp
      exact ⟨σ', H', J'.ofTry ok, q⟩
    | cont =>
      obtain ⟨σ', H', J', q⟩ := hsp
      exact ⟨σ', H', J'.ofTry ok, q⟩
    | ret u =>
      obtain ⟨v, σ', H', J', r, q⟩ := hsp
      exact ⟨v, σ', H', J'.ofTry ok, r, q⟩
end
/-- what is known of a kept exception -/
def Kept (K : PySem.W.Frag) (H : Hp) (a D : Addr) (d : Option Addr) : Prop := H a = some (exk a (.ref D) d) ∧ (d = none ∨ ∃ dd fs, d = some dd ∧ H dd = some (.xd fs))
theorem Kept.inst {X : Cx} {pins : List (Addr × Obj)} {σ : L2.St} {H : Hp} {s : Shared} {a D : Addr} {d : Option Addr} (I : Inv X pins σ H s) (k : Kept X.K H a D d) : ∃ oe od, PySem.W.InstAt s.heap a oe D od := by
  obtain ⟨ha, hd⟩ := k
  obtain ⟨oe, vs, hget, hz, hv⟩ := exk_at I.hok ha
  rcases hd with rfl | ⟨dd, fs, rfl, hdd⟩
  · exact ⟨oe, none, hget, hz.1, by unfold PySem.W.notCls; rw [hv] <;> rfl, by rw [hz.2]; trivial⟩
  · obtain ⟨mA, hns, _⟩ : ObjOk X.prog X.w H s.heap dd (.xd fs) := I.hok dd _ hdd
    obtain ⟨od, ho, _⟩ := lookIn_ns hns
    exact ⟨oe, some od, hget, hz.1, by unfold PySem.W.notCls; rw [hv] <;> rfl, by rw [hz.2]; exact ho⟩
/-- isinstance(x, c), x a kept exception or None -/
def rIsKp (K : PySem.W.Frag) : List V → Hp → VK → Prop := fun xs H Q =>
  (∃ (a D : Addr) (d : Option Addr) (c : V) (cv : Value) (b : Bool), ExF K D ∧ Kept K H a D d ∧ xs = [.ref a, c] ∧ (∀ u, RelV c u → u = cv) ∧ PySem.W.kitOne K (.ref D) cv = some b ∧ Q (.bl b) H)
theorem call_isKp {X : Cx} (K : PySem.W.Frag) (hK : X.K = K := by rfl) : CallR X (.builtin "isinstance") (rIsKp K) := by
  subst hK
  intro pins s σ H xs us Q I r h
  obtain ⟨a, D, d, c, cv, b, F, hk, rfl, hcv, e, q⟩ := h
  obtain _ | ⟨rx, rr⟩ := r
  obtain _ | ⟨rt, rr⟩ := rr
  cases rr
  cases rx
  have ec := hcv _ rt
  subst ec
  have hcl : (PySem.W.clsIn X.K D).isSome = true := F.cl
  obtain ⟨oe, od, J⟩ := hk.inst I
  exact PySem.W.kia_one (PySem.W.kitx_exc hcl F.ga F.gg F.be F.oc F.og F.ot F.om) I.kIn J e (fun z => nomatch z) fun tk => ⟨.bl b, H, I.kept (t' := tk) fun _ _ z => z, rfl, q⟩
theorem w_isKp {K : PySem.W.Frag} {H : Hp} {Q : VK} {a D E : Addr} {d : Option Addr} {b : Bool} (F : ExF K D) (G : ExF K E) (hs : PySem.W.subIn K (.ref D) (.ref E) = some b) (hk : Kept K H a D d) (h : Q (.bl b) H) : rIsKp K [.ref a, .ref E] H Q :=
  ⟨a, D, d, .ref E, .ref E, b, F, hk, rfl, fun _ r => r, F.kit G hs, h⟩
theorem w_isKpV {K : PySem.W.Frag} {H : Hp} {Q : VK} {a D : Addr} {d : Option Addr} (F : ExF K D) (hk : Kept K H a D d) (h : Q (.bl true) H) : rIsKp K [.ref a, .ty "ValueError"] H Q :=
  ⟨a, D, d, .ty "ValueError", .type "ValueError", true, F, hk, rfl, fun _ r => r, F.kitV, h⟩
theorem Kept.same {K : PySem.W.Frag} {H H' : Hp} {a D : Addr} {d : Option Addr} (k : Kept K H a D d) (e : Same H H') : Kept K H' a D d :=
  ⟨e _ _ k.1, k.2.imp_right fun ⟨dd, fs, h1, h2⟩ => ⟨dd, fs, h1, e _ _ h2⟩⟩
/-- found.f -/
def tXk (K : PySem.W.Frag) (f : Str) (te : TE) : TE := fun σ H Q => te σ H fun x H1 => ∃ (a C dd : Addr) (fs : List (Str × V)) (v : V), x = .ref a ∧ XfC K C ∧ PySem.W.findIn K (.ref C) f = some none ∧ H1 a = some (exk a (.ref C) (some dd)) ∧ H1 dd = some (.xd fs) ∧ fs.lookup f = some v ∧ Q v H1
theorem pe_xk {X : Cx} {e : Expr} {te : TE} {pos : Pos} {f : Str} (K : PySem.W.Frag) (he : PE X e te) (hb : attributeBase e f X.env (eval e X.env) = eval e X.env := by rfl) (hK : X.K = K := by rfl) : PE X (.Attribute e f pos) (tXk K f te) := by
  subst hK
  refine ⟨fun pins s σ H Q I h => ?_⟩
  refine attr_of hb (thn (he.run pins s σ H _ I h) fun u s1 hh => ?_)
  obtain ⟨x, H1, I1, rx, a, C, dd, fs, v, ex, T, hno, ha, ea, l, q⟩ := hh
  subst ex
  obtain rfl : u = Value.ref a := rx
  obtain ⟨oe, vs, hget, hz, hv⟩ := exk_at I1.hok ha
  have hx : ObjOk X.prog X.w H1 s1.heap dd (.xd fs) := I1.hok dd _ ea
  obtain ⟨mA, hns, hr⟩ := hx
  obtain ⟨od, ho, hl⟩ := lookIn_ns hns
  obtain ⟨u, hu, ru⟩ := RelO.some_of (v := v) (o := mA f) (by rw [← l]; exact hr f)
  have J : PySem.W.InstAt s1.heap a oe C (some od) := ⟨hget, hz.1, by unfold PySem.W.notCls; rw [hv] <;> rfl, by rw [hz.2]; exact ho⟩
  exact HandSPX.exc_get I1.kIn J T.ga T.gg T.exC (PySem.W.findObj_own T.hdC hno rfl (by rw [hl, hu])) (handed_of ru) ⟨v, H1, I1.tok _, ru, q⟩
theorem w_xk {K : PySem.W.Frag} {σ : L2.St} {H : Hp} {Q : VK} {f : Str} {te : TE} (h : te σ H fun x H1 => ∃ (a C dd : Addr) (fs : List (Str × V)) (v : V), x = .ref a ∧ XfC K C ∧ PySem.W.findIn K (.ref C) f = some none ∧ H1 a = some (exk a (.ref C) (some dd)) ∧ H1 dd = some (.xd fs) ∧ fs.lookup f = some v ∧ Q v H1) : tXk K f te σ H Q := h
/-! ### objects whose __init__ may raise -/
theorem HasFn.mkX {P : Program} {w : World} {K : PySem.W.Frag} {mg : Str → Option Value} {base : Heap} {x qual : Str} {ps N : List Str} {sp : Sp} {k : Nat} {st : Stmt} {f : Addr} {fd : FuncData} (F : Fun K x qual st f fd) (b : Binds K fd ps []) (S : FnScope N ps (defScope st)) (len : ∀ vs H Q E, sp vs H Q E → vs.length = ps.length)
    (hbody : ∀ (cdv : Value) (A : Around) (outer : List Env) (s : Shared) (H : Hp) (vs : List V) (Q : VK) (E : XK), Room k (A.deeper (envOfC qual (defScope st) s.heap.objs.size f cdv)) → sp vs H Q E →
      ∃ t, PSs (cxOf (L2.CX P w) P w K mg base N qual (defScope st) f cdv A outer s H E) (defBody st) t ∧ t { nx := fun _ H' => Q .non H', rt := Q } (start N vs) H) : HasFn P w K mg base (L2.CX P w) (k + 1) f ps sp :=
  ⟨fd, F.okX S len hbody, b⟩
section
variable {X : Cx} {k : Nat} {ps : List Str} {sp : Sp} {x : Str} {p pos : Pos} {e : Expr} {es : List Expr} {t : TA} {C : Addr} {E : XK}
theorem pe_mkX (tk : Takes X (fun cls d _ H => E cls d H)) (h : HasMk X.prog X.w X.K X.mg X.base (L2.CX X.prog X.w) k x C ps sp) (hr : Room (k + 1) X.A) (hg : Gl X x) (ha : PA X (e :: es) t) (hdb : (x == ("__debug__" : Str)) = false := by decide) (he : starEach (e :: es) X.env = (false, eval e X.env) :: starEach es X.env := by rfl) (hpl : (backTo pos (starEach es X.env)).any (·.1) = false := by rfl) :
    PE X (.Call (.Name x p) (e :: es) [] pos) (tMake C sp [] E t) := by
  obtain ⟨f, fd, F, M, g, b⟩ := h.ex
  exact pe_make M F hr hg g b .nil (passes_call tk fun _ _ _ _ h => h) ha hdb he hpl
theorem pe_mkL (h : HasMk X.prog X.w X.K X.mg X.base (L2.CX X.prog X.w) k x C ps sp) (hr : Room (k + 1) X.A) (hg : Gl X x) (ha : PA X (e :: es) t) (hdb : (x == ("__debug__" : Str)) = false := by decide) (he : starEach (e :: es) X.env = (false, eval e X.env) :: starEach es X.env := by rfl) (hpl : (backTo pos (starEach es X.env)).any (·.1) = false := by rfl) :
    PE X (.Call (.Name x p) (e :: es) [] pos) (tMake C sp [] E0 t) := by
  obtain ⟨f, fd, F, M, g, b⟩ := h.ex
  exact pe_make M F hr hg g b .nil passL ha hdb he hpl
end
/-- X(), X an own exception class without own __init__ -/
theorem pmk_own0 {X : Cx} {C : Addr} {bmB : List Value} {B newId initId : String} {x : Str} {p pos : Pos} (F : ExcBaseFacts B newId initId bmB) (q : PySem.W.excIn X.K C bmB newId = true) (gC : X.mg x = some (.ref C)) (kC : PySem.W.keepIn X.K (.ref C) = true) (r : Raises X (.ref C)) (hg : Gl X x)
    (hdb : (x == ("__debug__" : Str)) = false := by decide) : PMk X (.Call (.Name x p) [] [] pos) (fun _ H Q => Q (.ref C) none H) := by
  intro pins s σ H Q I h
  refine wpAny_Call_Name_kw (ld_glob I hg gC ?_ hdb)
  refine PySem.W.callWith_K0 I.kIn kC ?_
  obtain ⟨bm, N, nm, qn, bs, hdct, sn, sub, ab, col, dd, k0, k1, k2, k3, k5, mN, hC, hN, hni, T⟩ := exc_obj I.kIn q
  refine wpAny_call_exc_subT F T hC hN hni (fun h1 e hm => ?_) (by first | exact Nat.zero_le _ | decide)
  exact mk_of I hm r h (I.hok.gone hm.new)

/-! ### a list laid aside while an expression runs -/
theorem wo_obj {P : Program} {w : World} {H : Hp} {h : Heap} {pd : Addr} {xs : List V} (hok : HOk P w H h) (hp : H pd = some (.lst xs)) : HOk P w (wo H pd) h := fun a o e => by
  have e2 : H a = some o := wo_same a o e
  refine (hok a o e2).stay (fun _ _ _ q => q) (fun b q => wo_get q ?_) fun b ys q => wo_get q ?_
  · intro z; subst z; rw [hp] at q; cases q
  · intro z; subst z; rw [hp] at q; cases q
theorem PE.frm {X : Cx} {e : Expr} {t : TE} (h : PE X e t) : PE X e (fun σ H Q => t σ H Q ∨ ∃ (pd : Addr) (xs : List V), H pd = some (.lst xs) ∧ t σ (wo H pd) fun v H' => H' pd = none → Q v (upd H' pd (.lst xs))) := ⟨fun pins s σ H Q I q => by
  rcases q with q | ⟨pd, xs, hp, q⟩
  · exact h.run pins s σ H Q I q
  · obtain ⟨hz, its, n, r, ho⟩ := I.hok pd _ hp
    have hloc : pd ≠ X.env.locals := fun z => by have := I.free; rw [← z, hp] at this; cases this
    have hfs : pd ∉ X.fs := fun z => by
      have : pd ∈ frs X.stack := by
        rcases I.ok.stk with e | ⟨e, ef⟩
        · rw [e]; exact z
        · rw [e]
          unfold frs
          rw [List.filterMap_cons]
          split
          · exact z
          · exact List.mem_cons_of_mem _ z
      have := I.stkFree pd this
      rw [hp] at this; cases this
    have ne : ∀ {b : Addr} {o : HO}, H b = some o → (∀ ys, o ≠ .lst ys) → b ≠ pd := fun {b o} e hn z => by subst z; rw [hp] at e; cases e; exact hn _ rfl
    have I' : Inv X ((pd, { cls := .type "list", data := .seq its.toArray n }) :: pins) σ (wo H pd) s := {
      ok := I.ok
      os := I.os
      bare := I.bare
      base := {
        keep := I.base.keep
        slot := I.base.slot
        free := fun b o q n hx => by
          unfold wo
          split
          · rfl
          · exact I.base.free b o q n hx
        there := I.base.there
        tups := fun b ys q => by have e := I.base.tups b ys q; exact wo_get e (ne e fun _ z => by cases z)
        frzs := fun b o u q => by have e := I.base.frzs b o u q; exact wo_get e (ne e fun _ z => by cases z)
        tbls := fun b ps q => by obtain ⟨m, e⟩ := I.base.tbls b ps q; exact ⟨m, wo_get e (ne e fun _ z => by cases z)⟩ }
      loc := I.loc
      cell := I.cell
      free := by
        unfold wo
        split
        · rfl
        · exact I.free
      freeC := fun x c e => by
        unfold wo
        split
        · rfl
        · exact I.freeC x c e
      pin := fun p hp' => by
        rcases List.mem_append.mp hp' with hm | hm
        · obtain ⟨a1, a2, a3, a4, a5⟩ := I.pin p (List.mem_append_left _ hm)
          exact ⟨a1, by unfold wo; split; rfl; exact a2, a3, a4, a5⟩
        · rcases List.mem_cons.mp hm with rfl | hm
          · exact ⟨ho, wo_new, hloc, hfs, fun v z => by cases z⟩
          · obtain ⟨a1, a2, a3, a4, a5⟩ := I.pin p (List.mem_append_right _ hm)
            exact ⟨a1, by unfold wo; split; rfl; exact a2, a3, a4, a5⟩
      hok := wo_obj I.hok hp
      len := I.len }
    refine thn (h.run _ s σ _ _ I' q) fun u s1 hh => ?_
    obtain ⟨v, H1, I1, rv, q1⟩ := hh
    obtain ⟨p1, p2, p3, p4, p5⟩ := I1.pin (pd, { cls := .type "list", data := .seq its.toArray n }) (List.mem_append_right _ List.mem_cons_self)
    have ne1 : ∀ {b : Addr} {o : HO}, H1 b = some o → b ≠ pd := fun {b o} e z => by subst z; rw [p2] at e; cases e
    refine ⟨v, upd H1 pd (.lst xs), {
      ok := I1.ok
      os := I1.os
      bare := I1.bare
      base := {
        keep := I1.base.keep
        slot := I1.base.slot
        free := fun b o q n hx => by
          have e := I.base.free b o q n hx
          rw [upd_ne (fun z => by subst z; rw [hp] at e; cases e)]
          exact I1.base.free b o q n hx
        there := I1.base.there
        tups := fun b ys q => by have e := I1.base.tups b ys q; rw [upd_ne (ne1 e)]; exact e
        frzs := fun b o u q => by have e := I1.base.frzs b o u q; rw [upd_ne (ne1 e)]; exact e
        tbls := fun b ps q => by obtain ⟨m, e⟩ := I1.base.tbls b ps q; exact ⟨m, by rw [upd_ne (ne1 e)]; exact e⟩ }
      loc := I1.loc
      cell := I1.cell
      free := by rw [upd_ne (Ne.symm p3)]; exact I1.free
      freeC := fun x c e => by
        have := I.freeC x c e
        rw [upd_ne (fun z => by subst z; rw [hp] at this; cases this)]
        exact I1.freeC x c e
      pin := fun p hp' => by
        have hn : p.1 ≠ pd := by
          obtain ⟨_, a2, _⟩ := I.pin p hp'
          intro z
          rw [z, hp] at a2
          cases a2
        have hm : p ∈ X.pn ++ (pd, { cls := .type "list", data := .seq its.toArray n }) :: pins := by
          rcases List.mem_append.mp hp' with hm | hm
          · exact List.mem_append_left _ hm
          · exact List.mem_append_right _ (List.mem_cons_of_mem _ hm)
        obtain ⟨a1, a2, a3, a4, a5⟩ := I1.pin p hm
        exact ⟨a1, by rw [upd_ne hn]; exact a2, a3, a4, a5⟩
      hok := fun a o e => by
        by_cases ea : a = pd
        · subst ea
          rw [upd_same] at e
          cases e
          exact ⟨hz, its, n, r, p1⟩
        · rw [upd_ne ea] at e
          refine (I1.hok a o e).stay (fun _ _ _ q => q) (fun b q => ?_) fun b ys q => ?_
          · rw [upd_ne (ne1 q)]; exact q
          · rw [upd_ne (ne1 q)]; exact q
      len := I1.len }, rv, q1 p2⟩⟩
theorem wo_upd {H : Hp} {pd : Addr} {o : HO} (h : H pd = some o) : upd (wo H pd) pd o = H := by
  funext b
  by_cases e : b = pd
  · subst e; rw [upd_same, h]
  · rw [upd_ne e]; exact if_neg e
/-- the same, for an item of a comprehension -/
def tFrm (t : TE) : TE := fun σ H Q => t σ H Q ∨ ∃ (pd : Addr) (xs : List V), H pd = some (.lst xs) ∧ t σ (wo H pd) fun v H' => H' pd = none → Q v (upd H' pd (.lst xs))
theorem PE.frm2 {X : Cx} {e : Expr} {t : TE} (h : PE X e t) : PE X e (tFrm t) := PE.frm h
theorem w_frm {t : TE} {σ : L2.St} {H : Hp} {Q : VK} {pd : Addr} {xs : List V} (hp : H pd = some (.lst xs)) (h : t σ (wo H pd) fun v H' => H' pd = none → Q v (upd H' pd (.lst xs))) : tFrm t σ H Q := .inr ⟨pd, xs, hp, h⟩

/-! ### steps of the reading -/
local macro_rules | `(tactic| walk_at "len") => `(tactic| (intro vs H Q E h; first | (obtain ⟨e, _⟩ := h; subst e; rfl) | (obtain ⟨_, e, _⟩ := h; subst e; rfl) | (obtain ⟨_, _, e, _⟩ := h; subst e; rfl) | (obtain ⟨_, _, _, e, _⟩ := h; subst e; rfl) | (obtain ⟨_, _, _, _, e, _⟩ := h; subst e; rfl) | (obtain ⟨_, _, _, _, _, e, _⟩ := h; subst e; rfl) | (obtain ⟨_, _, _, _, _, _, e, _⟩ := h; subst e; rfl) | (obtain ⟨_, _, _, _, _, _, _, e, _⟩ := h; subst e; rfl) | (obtain ⟨_, _, _, _, _, _, _, _, e, _⟩ := h; subst e; rfl) | (obtain ⟨_, _, _, _, _, _, _, _, _, e, _⟩ := h; subst e; rfl) | (obtain ⟨_, _, _, _, _, _, _, _, _, _, e, _⟩ := h; subst e; rfl) | (obtain ⟨_, _, _, _, _, _, _, _, _, _, _, e, _⟩ := h; subst e; rfl)))
/-- p ≠ q -/
local macro_rules | `(tactic| walk_at "ne1") => `(tactic| (refine ne_new (H := ?H) (o := ?o) ?a ?b; (case b => assumption); (case a => walk_at "hp")))
local macro_rules | `(tactic| walk_at "ne") => `(tactic| first
  | assumption | (apply Ne.symm; assumption) | walk_at "ne1" | (apply Ne.symm; walk_at "ne1") | fail)
/-- H p = some o -/
local macro_rules | `(tactic| walk_at "hp") => `(tactic| first
  | assumption
  | exact upd_same
  | (refine (upd_ne ?n).trans ?h; (case n => walk_at "ne"); (case h => walk_at "hp"))
  | (refine Same.get (H := ?H) ?s ?h; (case s => assumption); (case h => assumption)) | fail)
local macro_rules | `(tactic| walk_at "sq") => `(tactic| first
  | assumption
  | exact SqL.of (by walk_at "hp") | exact SqT.of (by walk_at "hp")
  | (refine Same.seq (H := ?H) ?s ?h; (case h => assumption); (case s => walk_at "same"))
  | (refine same_read (H := ?H) ?s ?h; (case h => assumption); (case s => walk_at "same")) | fail)
/-- a later new object was free ahead -/
local macro_rules | `(tactic| walk_at "fr") => `(tactic| first | assumption | (refine New.of (H' := ?H) ?n ?s; (case n => assumption); (case s => walk_at "same")) | fail)
/-- what was tracked stays -/
local macro_rules | `(tactic| walk_at "same") => `(tactic| first | assumption | exact Same.refl _ | (refine Same.new ?_ (by assumption); walk_at "same") | (refine Same.mut ?s ?n; (case n => walk_at "fr"); (case s => walk_at "same")) | (refine Same.trans (H1 := ?H1) ?a ?b; (case b => assumption); (case a => walk_at "same")) | fail)
local macro_rules | `(tactic| walk_at "side") => `(tactic| first | decide | omega | (with_reducible assumption) | fail)
local macro_rules | `(tactic| walk_at "at") => `(tactic| first | rfl | assumption | exact atI_nat (by assumption) | fail)
local macro_rules | `(tactic| walk_at "ll") => `(tactic| first | omega | (simp only [List.length_append, List.length_cons, List.length_nil, List.length_map, List.length_range, List.length_set, List.length_replicate]; omega) | (simp only [List.length_append, List.length_cons, List.length_nil, List.length_map, List.length_range, List.length_set, List.length_replicate] at *; omega) | (simp; done) | (simp; omega) | fail)
local macro_rules | `(tactic| walk_at "ix") => `(tactic| first | assumption | (refine ixN_nat ?_; walk_at "ll") | rfl | fail)
local macro_rules | `(tactic| walk_at "szlt") => `(tactic| first | assumption | (refine szlt ?_; walk_at "ll") | fail)
local macro_rules | `(tactic| walk_at "szk") => `(tactic| first | assumption | (refine szlt ?_; omega) | fail)
/-- one step -/
local macro_rules | `(tactic| walk_at "st") => `(tactic| first
  | with_reducible refine w_iT ?_
  | with_reducible refine w_iF ?_
  | with_reducible refine w_iNT ?_
  | with_reducible refine w_iNF ?_
  | with_reducible refine w_iNN ?_
  | with_reducible refine w_seq ?_
  | with_reducible refine w_asg ?_
  | with_reducible refine w_gn ?_
  | with_reducible refine w_c ?_
  | with_reducible refine w_op ?_
  | with_reducible refine w_ret ?_
  | with_reducible refine w_if ?_
  | with_reducible refine w_test ?_
  | with_reducible refine w_rI0 ?_
  | with_reducible refine w_cons ?_
  | with_reducible refine w_nil ?_
  | with_reducible refine w_call ?_
  | with_reducible refine w_cb ?_
  | with_reducible refine w_drop ?_
  | with_reducible refine w_next ?_
  | with_reducible refine w_eqI ?_
  | with_reducible refine w_neI ?_
  | ((with_reducible refine w_var ?_); refine ⟨_, rfl, ?_⟩)
  | ((with_reducible refine w_aug ?_); refine ⟨_, rfl, ?_⟩)
  | with_reducible refine w_eqB ?_
  | with_reducible refine w_neB ?_
  | with_reducible refine w_tB ?_
  | with_reducible refine w_bl ?_
  | with_reducible refine w_and ?_
  | with_reducible refine w_or ?_
  | with_reducible refine w_not ?_
  | with_reducible refine w_andV ?_
  | with_reducible refine w_orV ?_
  | with_reducible refine w_notV ?_
  | with_reducible refine w_ifE ?_
  | with_reducible refine w_un ?_
  | with_reducible refine w_rU ?_
  | with_reducible refine w_ip ?_
  | with_reducible refine w_gc ?_
  | with_reducible refine w_g0 ?_
  | with_reducible refine w_gs ?_
  | with_reducible refine w_tup ?_
  | with_reducible refine w_lst ?_
  | with_reducible refine w_sl ?_
  | with_reducible refine w_np ?_
  | with_reducible refine w_part ?_
  | with_reducible refine w_partI ?_
  | with_reducible refine w_bm ?_
  | with_reducible refine w_bm0 ?_
  | with_reducible refine w_for ?_
  | with_reducible refine w_lc ?_
  | with_reducible refine w_yes ?_
  | with_reducible refine w_make ?_
  | with_reducible refine w_meth ?_
  | with_reducible refine w_sf ?_
  | with_reducible refine w_r3 ?_
  | with_reducible refine w_din ?_
  | with_reducible refine w_dni ?_
  | with_reducible refine w_dg ?_
  | with_reducible refine w_put ?_
  | with_reducible refine w_dn ?_
  | with_reducible refine w_enum ?_
  | with_reducible refine w_iL ?_
  | with_reducible refine w_iTu ?_
  | with_reducible refine w_r1 ?_
  | with_reducible refine w_r2 ?_
  | with_reducible refine w_int1 ?_
  | with_reducible refine w_intb ?_
  | with_reducible refine w_fl ?_
  | with_reducible refine w_retN ?_
  | with_reducible refine w_break ?_
  | with_reducible refine w_cont ?_
  | with_reducible refine w_par ?_
  | with_reducible refine w_par2 ?_
  | with_reducible refine w_eqS ?_
  | with_reducible refine w_neS ?_
  | with_reducible refine w_eqNI ?_
  | with_reducible refine w_eqIN ?_
  | with_reducible refine w_callS ?_
  | with_reducible refine w_ost ?_
  | with_reducible refine w_xf ?_
  | with_reducible refine w_mko ?_
  | ((with_reducible refine w_mod ?s0 ?_); (case s0 => walk_at "side"))
  | ((with_reducible refine w_div ?s0 ?s1 ?_); (case s0 => walk_at "side"); (case s1 => walk_at "side"))
  | ((with_reducible refine w_shr ?s0 ?_); (case s0 => walk_at "side"))
  | ((with_reducible refine w_shl1 ?s0 ?s1 ?_); (case s0 => walk_at "side"); (case s1 => walk_at "side"))
  | ((with_reducible refine w_mul ?s0 ?s1 ?s2 ?s3 ?_); (case s0 => walk_at "side"); (case s1 => walk_at "side"); (case s2 => walk_at "side"); (case s3 => walk_at "side"))
  | ((with_reducible refine w_shl ?s0 ?s1 ?s2 ?s3 ?_); (case s0 => walk_at "side"); (case s1 => walk_at "side"); (case s2 => walk_at "side"); (case s3 => walk_at "side"))
  | ((with_reducible refine w_r1q ?s0 ?s1 ?_); (case s0 => walk_at "side"); (case s1 => walk_at "side"))
  | ((with_reducible refine w_r2q ?s0 ?s1 ?s2 ?s3 ?_); (case s0 => walk_at "side"); (case s1 => walk_at "side"); (case s2 => walk_at "side"); (case s3 => walk_at "side"))
  | ((with_reducible refine w_ixL (xs := ?xs) (v := ?v) ?s0 ?s1 ?_); (case s0 => walk_at "sq"); (case s1 => walk_at "at"))
  | ((with_reducible refine w_ixT (xs := ?xs) (v := ?v) ?s0 ?s1 ?_); (case s0 => walk_at "sq"); (case s1 => walk_at "at"))
  | ((with_reducible refine w_ixl (xs := ?xs) (v := ?v) ?s0 ?s1 ?_); (case s0 => walk_at "sq"); (case s1 => walk_at "at"))
  | ((with_reducible refine w_ixt (xs := ?xs) (v := ?v) ?s0 ?s1 ?_); (case s0 => walk_at "sq"); (case s1 => walk_at "at"))
  | ((with_reducible refine w_lenK (xs := ?xs) ?s0 ?_); (case s0 => walk_at "sq"))
  | ((with_reducible refine w_lenTK (xs := ?xs) ?s0 ?_); (case s0 => walk_at "sq"))
  | ((with_reducible refine w_listK (xs := ?xs) ?s0 ?_); (case s0 => walk_at "sq"))
  | ((with_reducible refine w_len (xs := ?xs) ?s0 ?_); (case s0 => walk_at "sq"))
  | ((with_reducible refine w_lenT (xs := ?xs) ?s0 ?_); (case s0 => walk_at "sq"))
  | ((with_reducible refine w_iLq (xs := ?xs) ?s0 ?_); (case s0 => walk_at "sq"))
  | ((with_reducible refine w_iTq (xs := ?xs) ?s0 ?_); (case s0 => walk_at "sq"))
  | ((with_reducible refine w_tyl (xs := ?xs) ?s0 ?_); (case s0 => walk_at "sq"))
  | ((with_reducible refine w_slL (xs := ?xs) ?s0 ?_); (case s0 => walk_at "sq"))
  | ((with_reducible refine w_gt (xs := ?xs) ?s0 ?s1 ?_); (case s0 => walk_at "sq"); (case s1 => rfl))
  | ((with_reducible refine w_setL (xs := ?xs) (j := ?j) ?s0 ?s1 ?_); (case s0 => walk_at "hp"); (case s1 => walk_at "ix"))
  | ((with_reducible refine w_app (xs := ?xs) ?s0 ?s1 ?_); (case s0 => walk_at "hp"); (case s1 => walk_at "szlt"))
  | ((with_reducible refine w_rev (xs := ?xs) ?s0 ?_); (case s0 => walk_at "hp"))
  | with_reducible refine w_isi kb_ii ?_
  | with_reducible refine w_isi kb_ib ?_
  | with_reducible refine w_isb kb_bb ?_
  | with_reducible refine w_isb kb_bi ?_
  | with_reducible refine w_isn kb_ni ?_
  | with_reducible refine w_isn kb_nb ?_
  | ((with_reducible refine w_isl (xs := ?xs) ?s0 kb_ll ?_); (case s0 => walk_at "hp"))
  | ((with_reducible refine w_isl (xs := ?xs) ?s0 kb_lt ?_); (case s0 => walk_at "hp"))
  | ((with_reducible refine w_ist (xs := ?xs) ?s0 kb_tt ?_); (case s0 => walk_at "hp"))
  | ((with_reducible refine w_ist (xs := ?xs) ?s0 kb_tl ?_); (case s0 => walk_at "hp"))
  | with_reducible refine w_len1 rfl ?_
  | with_reducible refine w_isN ?_
  | with_reducible refine w_2i ?_
  | with_reducible refine w_1i ?_
  | with_reducible refine w_augS ?_
  | ((with_reducible refine w_getL (xs := ?xs) (v := ?v) ?s0 ?s1 ?_); (case s0 => walk_at "sq"); (case s1 => assumption))
  | ((with_reducible refine w_wipe ?s0 ?_); (case s0 => rfl))
  | ((with_reducible refine w_inI (kvs := ?kvs) ?s0 ?_); (case s0 => walk_at "hp"))
  | ((with_reducible refine w_putI (kvs := ?kvs) ?s0 ?s1 ?_); (case s0 => walk_at "hp"); (case s1 => walk_at "szk"))
  | ((with_reducible refine w_ins (xs := ?xs) ?s0 ?s1 ?s2 ?s3 ?_); (case s0 => walk_at "hp"); (case s1 => walk_at "szlt"); (case s2 => walk_at "side"); (case s3 => walk_at "side"))
  | ((with_reducible refine w_pow ?s0 ?_); (case s0 => exact ⟨by decide, by decide, by decide⟩))
  | ((with_reducible refine ifd (fun h => ?c) (fun _ => ?_)); (case c => exfalso; omega))
  | ((with_reducible refine ifd (fun _ => ?_) (fun h => ?c)); (case c => exfalso; omega))
  | ((with_reducible refine ifnd (fun h => ?c) (fun _ => ?_)); (case c => exfalso; omega))
  | ((with_reducible refine ifnd (fun _ => ?_) (fun h => ?c)); (case c => exfalso; omega))
  | fail)
local macro_rules | `(tactic| walk_at "sts") => `(tactic| repeat (walk_at "st"))

def topS (i : Nat) : Stmt := PySem.Challenge.pw_spinfloor_k24_joinings_refused.main.body.getD i (.Pass ⟨0, 0, 0, 0⟩)
abbrev s_beyond : Stmt := topS 6
theorem sc_beyond : FnScope ["link", "room"] ["link", "room"] (defScope s_beyond) := ⟨rfl, rfl, rfl, by decide +kernel, rfl, by decide +kernel, by decide +kernel⟩
abbrev s_nearest : Stmt := topS 7
theorem sc_nearest : FnScope ["far", "done", "best", "room"] ["far", "done"] (defScope s_nearest) := ⟨rfl, rfl, rfl, by decide +kernel, rfl, by decide +kernel, by decide +kernel⟩
abbrev s_fares : Stmt := topS 8
theorem sc_fares : FnScope ["many", "links", "start", "far", "via", "done", "room", "k", "other", "reach"] ["many", "links", "start"] (defScope s_fares) := ⟨rfl, rfl, rfl, by decide +kernel, rfl, by decide +kernel, by decide +kernel⟩
abbrev s_row_to : Stmt := topS 9
theorem sc_row_to : FnScope ["links", "via", "room", "row"] ["links", "via", "room"] (defScope s_row_to) := ⟨rfl, rfl, rfl, by decide +kernel, rfl, by decide +kernel, by decide +kernel⟩
abbrev s_whole : Stmt := topS 10
theorem sc_whole : FnScope ["many", "links", "far"] ["many", "links"] (defScope s_whole) := ⟨rfl, rfl, rfl, by decide +kernel, rfl, by decide +kernel, by decide +kernel⟩
abbrev s_ones : Stmt := topS 12
theorem sc_ones : FnScope ["mask", "many"] ["mask"] (defScope s_ones) := ⟨rfl, rfl, rfl, by decide +kernel, rfl, by decide +kernel, by decide +kernel⟩
abbrev s_odd : Stmt := topS 13
theorem sc_odd : FnScope ["mask"] ["mask"] (defScope s_odd) := ⟨rfl, rfl, rfl, by decide +kernel, rfl, by decide +kernel, by decide +kernel⟩
abbrev s_bits : Stmt := topS 14
theorem sc_bits : FnScope ["mask", "found", "place"] ["mask"] (defScope s_bits) := ⟨rfl, rfl, rfl, by decide +kernel, rfl, by decide +kernel, by decide +kernel⟩
abbrev s_check_marks : Stmt := topS 17
theorem sc_check_marks : FnScope ["many", "links", "marks"] ["many", "links", "marks"] (defScope s_check_marks) := ⟨rfl, rfl, rfl, by decide +kernel, rfl, by decide +kernel, by decide +kernel⟩
abbrev s_priced : Stmt := topS 18
theorem sc_priced : FnScope ["roads", "places", "prices", "road", "room"] ["roads", "places"] (defScope s_priced) := ⟨rfl, rfl, rfl, by decide +kernel, rfl, by decide +kernel, by decide +kernel⟩
abbrev s_settled : Stmt := topS 19
theorem sc_settled : FnScope ["prices", "known", "group", "inside", "told", "mate", "rest", "cost"] ["prices", "known", "group"] (defScope s_settled) := ⟨rfl, rfl, rfl, by decide +kernel, rfl, by decide +kernel, by decide +kernel⟩
abbrev s_paired : Stmt := topS 20
theorem sc_paired : FnScope ["many", "links", "marks", "places", "roads", "prices", "known", "group", "cost", "used", "first", "mate", "number", "room"] ["many", "links", "marks"] (defScope s_paired) := ⟨rfl, rfl, rfl, by decide +kernel, rfl, by decide +kernel, by decide +kernel⟩
abbrev s_least_turned : Stmt := topS 21
theorem sc_least_turned : FnScope ["roads", "prices", "known", "room", "group", "low", "mate", "cost"] ["roads", "prices", "known", "room"] (defScope s_least_turned) := ⟨rfl, rfl, rfl, by decide +kernel, rfl, by decide +kernel, by decide +kernel⟩
abbrev s_heights : Stmt := topS 22
theorem sc_heights : FnScope ["many", "links", "marks", "places", "roads", "prices", "known", "cost", "room", "far"] ["many", "links", "marks"] (defScope s_heights) := ⟨rfl, rfl, rfl, by decide +kernel, rfl, by decide +kernel, by decide +kernel⟩
abbrev s_events_of : Stmt := topS 24
theorem sc_events_of : FnScope ["many", "links", "tops", "rooms", "dry", "k", "link", "room"] ["many", "links", "tops"] (defScope s_events_of) := ⟨rfl, rfl, rfl, by decide +kernel, rfl, by decide +kernel, by decide +kernel⟩
abbrev s_joined : Stmt := topS 25
theorem sc_joined : FnScope ["holder", "since", "link", "depth", "one", "two", "ended", "both", "room", "mask"] ["holder", "since", "link", "depth"] (defScope s_joined) := ⟨rfl, rfl, rfl, by decide +kernel, rfl, by decide +kernel, by decide +kernel⟩
abbrev s_hills : Stmt := topS 26
theorem sc_hills : FnScope ["many", "links", "marks", "tops", "root", "holder", "since", "found", "event", "room", "pair"] ["many", "links", "marks"] (defScope s_hills) := ⟨rfl, rfl, rfl, by decide +kernel, rfl, by decide +kernel, by decide +kernel⟩
abbrev s_law_cell_at : Stmt := topS 28
theorem sc_law_cell_at : FnScope ["script", "k"] ["script", "k"] (defScope s_law_cell_at) := ⟨rfl, rfl, rfl, by decide +kernel, rfl, by decide +kernel, by decide +kernel⟩
abbrev s_law_names : Stmt := topS 29
theorem sc_law_names : FnScope ["cell", "many", "names", "room", "mixed"] ["cell", "many"] (defScope s_law_names) := ⟨rfl, rfl, rfl, by decide +kernel, rfl, by decide +kernel, by decide +kernel⟩
abbrev s_law_links_by : Stmt := topS 30
theorem sc_law_links_by : FnScope ["script", "first", "many", "most", "links", "names", "k", "cell", "mixed", "one", "two", "start"] ["script", "first", "many", "most"] (defScope s_law_links_by) := ⟨rfl, rfl, rfl, by decide +kernel, rfl, by decide +kernel, by decide +kernel⟩
abbrev s_law_together : Stmt := topS 31
theorem sc_law_together : FnScope ["many", "links", "names", "link", "one", "two", "name"] ["many", "links"] (defScope s_law_together) := ⟨rfl, rfl, rfl, by decide +kernel, rfl, by decide +kernel, by decide +kernel⟩
abbrev s_law_told : Stmt := topS 32
theorem sc_law_told : FnScope ["name", "many", "links", "marks", "found", "e", "kinds"] ["name", "many", "links", "marks"] (defScope s_law_told) := ⟨rfl, rfl, rfl, by decide +kernel, rfl, by decide +kernel, by decide +kernel⟩
abbrev s_law : Stmt := topS 33
theorem sc_law : FnScope ["script", "many", "links", "side", "marks", "count", "due", "name", "handed", "link", "room"] ["script"] (defScope s_law) := ⟨rfl, rfl, rfl, by decide +kernel, rfl, by decide +kernel, by decide +kernel⟩
structure Bl (mg : Str → Option Value) : Prop where
  range : mg "range" = none
  len : mg "len" = none
  sorted : mg "sorted" = none
  min : mg "min" = none
  max : mg "max" = none
  list : mg "list" = none
  isinstance : mg "isinstance" = none
  ValueError : mg "ValueError" = none
  sum : mg "sum" = none
structure Txt (K : PySem.W.Frag) (mg : Str → Option Value) (C_OddMarks C_Parted C_TooRough C_FloorError : Addr) : Prop where
  g_OddMarks : mg "OddMarks" = some (.ref C_OddMarks)
  g_Parted : mg "Parted" = some (.ref C_Parted)
  g_TooRough : mg "TooRough" = some (.ref C_TooRough)
  g_FloorError : mg "FloorError" = some (.ref C_FloorError)
  k_MOST_MARKS : ∃ t, mg "MOST_MARKS" = some (.int 14 t)
  og : PySem.W.specialIn K (.builtin "object.__class__") "__get__" = some (some (.builtin "getset_descriptor.__get__"))
  ot : PySem.W.takesIn K (.builtin "object.__class__") = some true
  kp_OddMarks : PySem.W.keepIn K (.ref C_OddMarks) = true
  be_OddMarks : PySem.W.subIn K (.ref C_OddMarks) (.type "BaseException") = some true
  ty_OddMarks : PySem.W.typeIn K (.ref C_OddMarks) = some (.type "type")
  cl_OddMarks : PySem.W.isClsIn K C_OddMarks = true
  hd_OddMarks : PySem.W.hasDictIn K C_OddMarks = true
  ga_OddMarks : PySem.W.findIn K (.ref C_OddMarks) "__getattribute__" = some (some (.builtin "BaseException.__getattribute__"))
  gg_OddMarks : PySem.W.findIn K (.ref C_OddMarks) "__getattr__" = some none
  oc_OddMarks : PySem.W.findIn K (.ref C_OddMarks) "__class__" = some (some (.builtin "object.__class__"))
  om_OddMarks : PySem.W.mroIn K C_OddMarks (.type "object") = some true
  sv_OddMarks : PySem.W.subIn K (.ref C_OddMarks) (.type "ValueError") = some true
  sb_OddMarks_OddMarks : PySem.W.subIn K (.ref C_OddMarks) (.ref C_OddMarks) = some true
  kp_Parted : PySem.W.keepIn K (.ref C_Parted) = true
  be_Parted : PySem.W.subIn K (.ref C_Parted) (.type "BaseException") = some true
  ty_Parted : PySem.W.typeIn K (.ref C_Parted) = some (.type "type")
  cl_Parted : PySem.W.isClsIn K C_Parted = true
  hd_Parted : PySem.W.hasDictIn K C_Parted = true
  ga_Parted : PySem.W.findIn K (.ref C_Parted) "__getattribute__" = some (some (.builtin "BaseException.__getattribute__"))
  gg_Parted : PySem.W.findIn K (.ref C_Parted) "__getattr__" = some none
  oc_Parted : PySem.W.findIn K (.ref C_Parted) "__class__" = some (some (.builtin "object.__class__"))
  om_Parted : PySem.W.mroIn K C_Parted (.type "object") = some true
  sv_Parted : PySem.W.subIn K (.ref C_Parted) (.type "ValueError") = some true
  sb_Parted_Parted : PySem.W.subIn K (.ref C_Parted) (.ref C_Parted) = some true
  kp_TooRough : PySem.W.keepIn K (.ref C_TooRough) = true
  be_TooRough : PySem.W.subIn K (.ref C_TooRough) (.type "BaseException") = some true
  ty_TooRough : PySem.W.typeIn K (.ref C_TooRough) = some (.type "type")
  cl_TooRough : PySem.W.isClsIn K C_TooRough = true
  hd_TooRough : PySem.W.hasDictIn K C_TooRough = true
  ga_TooRough : PySem.W.findIn K (.ref C_TooRough) "__getattribute__" = some (some (.builtin "BaseException.__getattribute__"))
  gg_TooRough : PySem.W.findIn K (.ref C_TooRough) "__getattr__" = some none
  oc_TooRough : PySem.W.findIn K (.ref C_TooRough) "__class__" = some (some (.builtin "object.__class__"))
  om_TooRough : PySem.W.mroIn K C_TooRough (.type "object") = some true
  sv_TooRough : PySem.W.subIn K (.ref C_TooRough) (.type "ValueError") = some true
  sb_TooRough_TooRough : PySem.W.subIn K (.ref C_TooRough) (.ref C_TooRough) = some true
  kp_FloorError : PySem.W.keepIn K (.ref C_FloorError) = true
  be_FloorError : PySem.W.subIn K (.ref C_FloorError) (.type "BaseException") = some true
  ty_FloorError : PySem.W.typeIn K (.ref C_FloorError) = some (.type "type")
  cl_FloorError : PySem.W.isClsIn K C_FloorError = true
  hd_FloorError : PySem.W.hasDictIn K C_FloorError = true
  ga_FloorError : PySem.W.findIn K (.ref C_FloorError) "__getattribute__" = some (some (.builtin "BaseException.__getattribute__"))
  gg_FloorError : PySem.W.findIn K (.ref C_FloorError) "__getattr__" = some none
  oc_FloorError : PySem.W.findIn K (.ref C_FloorError) "__class__" = some (some (.builtin "object.__class__"))
  om_FloorError : PySem.W.mroIn K C_FloorError (.type "object") = some true
  sv_FloorError : PySem.W.subIn K (.ref C_FloorError) (.type "ValueError") = some true
  sb_FloorError_FloorError : PySem.W.subIn K (.ref C_FloorError) (.ref C_FloorError) = some true
  xn_OddMarks : PySem.W.excIn K C_OddMarks [.type "ValueError", .type "Exception", .type "BaseException", .type "object"] "ValueError.__new__" = true
  sb_OddMarks_FloorError : PySem.W.subIn K (.ref C_OddMarks) (.ref C_FloorError) = some true
  sb_OddMarks_Parted : PySem.W.subIn K (.ref C_OddMarks) (.ref C_Parted) = some false
  sb_OddMarks_TooRough : PySem.W.subIn K (.ref C_OddMarks) (.ref C_TooRough) = some false
  xn_Parted : PySem.W.excIn K C_Parted [.type "ValueError", .type "Exception", .type "BaseException", .type "object"] "ValueError.__new__" = true
  sb_Parted_FloorError : PySem.W.subIn K (.ref C_Parted) (.ref C_FloorError) = some true
  sb_Parted_OddMarks : PySem.W.subIn K (.ref C_Parted) (.ref C_OddMarks) = some false
  sb_Parted_TooRough : PySem.W.subIn K (.ref C_Parted) (.ref C_TooRough) = some false
  xn_TooRough : PySem.W.excIn K C_TooRough [.type "ValueError", .type "Exception", .type "BaseException", .type "object"] "ValueError.__new__" = true
  sb_TooRough_FloorError : PySem.W.subIn K (.ref C_TooRough) (.ref C_FloorError) = some true
  sb_TooRough_OddMarks : PySem.W.subIn K (.ref C_TooRough) (.ref C_OddMarks) = some false
  sb_TooRough_Parted : PySem.W.subIn K (.ref C_TooRough) (.ref C_Parted) = some false
theorem Txt.xf_OddMarks {K : PySem.W.Frag} {mg : Str → Option Value} {C_OddMarks C_Parted C_TooRough C_FloorError : Addr} (T : Txt K mg C_OddMarks C_Parted C_TooRough C_FloorError) : ExF K C_OddMarks := ⟨T.kp_OddMarks, T.be_OddMarks, T.ty_OddMarks, T.cl_OddMarks, T.hd_OddMarks, T.ga_OddMarks, T.gg_OddMarks, T.oc_OddMarks, T.om_OddMarks, T.sv_OddMarks, T.sb_OddMarks_OddMarks, T.og, T.ot⟩
theorem Txt.xf_Parted {K : PySem.W.Frag} {mg : Str → Option Value} {C_OddMarks C_Parted C_TooRough C_FloorError : Addr} (T : Txt K mg C_OddMarks C_Parted C_TooRough C_FloorError) : ExF K C_Parted := ⟨T.kp_Parted, T.be_Parted, T.ty_Parted, T.cl_Parted, T.hd_Parted, T.ga_Parted, T.gg_Parted, T.oc_Parted, T.om_Parted, T.sv_Parted, T.sb_Parted_Parted, T.og, T.ot⟩
theorem Txt.xf_TooRough {K : PySem.W.Frag} {mg : Str → Option Value} {C_OddMarks C_Parted C_TooRough C_FloorError : Addr} (T : Txt K mg C_OddMarks C_Parted C_TooRough C_FloorError) : ExF K C_TooRough := ⟨T.kp_TooRough, T.be_TooRough, T.ty_TooRough, T.cl_TooRough, T.hd_TooRough, T.ga_TooRough, T.gg_TooRough, T.oc_TooRough, T.om_TooRough, T.sv_TooRough, T.sb_TooRough_TooRough, T.og, T.ot⟩
theorem Txt.xf_FloorError {K : PySem.W.Frag} {mg : Str → Option Value} {C_OddMarks C_Parted C_TooRough C_FloorError : Addr} (T : Txt K mg C_OddMarks C_Parted C_TooRough C_FloorError) : ExF K C_FloorError := ⟨T.kp_FloorError, T.be_FloorError, T.ty_FloorError, T.cl_FloorError, T.hd_FloorError, T.ga_FloorError, T.gg_FloorError, T.oc_FloorError, T.om_FloorError, T.sv_FloorError, T.sb_FloorError_FloorError, T.og, T.ot⟩
/-! ### lists as sets -/
theorem perm_of_nodup {α : Type} [DecidableEq α] {xs ys : List α} (hx : xs.Nodup) (hy : ys.Nodup) (h : ∀ a, a ∈ xs ↔ a ∈ ys) : xs.Perm ys := by
  rw [List.perm_iff_count]
  intro a
  rw [List.Nodup.count hx, List.Nodup.count hy]
  by_cases e : a ∈ xs
  · rw [if_pos e, if_pos ((h a).mp e)]
  · rw [if_neg e, if_neg (fun z => e ((h a).mpr z))]
theorem len_of_nodup {α : Type} [DecidableEq α] {xs ys : List α} (hx : xs.Nodup) (hy : ys.Nodup) (h : ∀ a, a ∈ xs ↔ a ∈ ys) : xs.length = ys.length := (perm_of_nodup hx hy h).length_eq
theorem nodup_sub_len {α : Type} [DecidableEq α] : ∀ {xs ys : List α}, xs.Nodup → (∀ a ∈ xs, a ∈ ys) → xs.length ≤ ys.length
  | [], _, _, _ => Nat.zero_le _
  | x :: xs, ys, hx, h => by
    have hx' := List.nodup_cons.mp hx
    have ih := nodup_sub_len (ys := ys.erase x) hx'.2 fun a ha => by
      have : a ≠ x := fun e => hx'.1 (e ▸ ha)
      exact (List.mem_erase_of_ne this).mpr (h a (List.mem_cons_of_mem _ ha))
    have hm := h x List.mem_cons_self
    have := List.length_erase_of_mem hm
    have hp : 0 < ys.length := List.length_pos_of_mem hm
    rw [List.length_cons]
    omega
/-- as many as there are: all -/
theorem nodup_full {α : Type} [DecidableEq α] {xs ys : List α} (hx : xs.Nodup) (hs : ∀ a ∈ xs, a ∈ ys) (hl : ys.length ≤ xs.length) : ∀ a ∈ ys, a ∈ xs := fun a ha => by
  by_cases e : a ∈ xs
  · exact e
  · have : (a :: xs).Nodup := List.nodup_cons.mpr ⟨e, hx⟩
    have h2 := nodup_sub_len this (fun b hb => by rcases List.mem_cons.mp hb with r | r; exact r ▸ ha; exact hs b r)
    rw [List.length_cons] at h2
    omega
/-! ### the next one in a list that goes round -/

theorem sorted_eq : ∀ {xs ys : List Nat}, xs.Pairwise (· < ·) → ys.Pairwise (· < ·) → (∀ a, a ∈ xs ↔ a ∈ ys) → xs = ys
  | [], [], _, _, _ => rfl
  | [], y :: ys, _, _, h => absurd ((h y).mpr List.mem_cons_self) (by simp)
  | x :: xs, [], _, _, h => absurd ((h x).mp List.mem_cons_self) (by simp)
  | x :: xs, y :: ys, h1, h2, h => by
    obtain ⟨a1, a2⟩ := List.pairwise_cons.mp h1
    obtain ⟨b1, b2⟩ := List.pairwise_cons.mp h2
    have e : x = y := by
      rcases List.mem_cons.mp ((h x).mp List.mem_cons_self) with e | e
      · exact e
      · rcases List.mem_cons.mp ((h y).mpr List.mem_cons_self) with e2 | e2
        · exact e2.symm
        · have := a1 _ e2; have := b1 _ e; omega
    subst e
    rw [sorted_eq a2 b2 fun a => ?_]
    constructor
    · intro ha
      rcases List.mem_cons.mp ((h a).mp (List.mem_cons_of_mem _ ha)) with e | e
      · have := a1 _ ha; omega
      · exact e
    · intro ha
      rcases List.mem_cons.mp ((h a).mpr (List.mem_cons_of_mem _ ha)) with e | e
      · have := b1 _ ha; omega
      · exact e

/-! ### data of webs -/
def dRow (r : List Nat) : PyData := .list (r.map fun x : Nat => .int (x : Int))
def dRows (T : List (List Nat)) : PyData := .list (T.map dRow)
def iv (r : List Nat) : List V := r.map fun x : Nat => V.int (x : Int)
theorem iv_len (r : List Nat) : (iv r).length = r.length := by unfold iv; simp
theorem iv_at {r : List Nat} {i : Nat} (h : i < r.length) : (iv r)[i]? = some (.int ((r.getD i 0 : Nat) : Int)) := by
  unfold iv
  rw [List.getElem?_map, List.getD_eq_getElem?_getD, List.getElem?_eq_getElem h]
  rfl
theorem iv_app (r s : List Nat) : iv (r ++ s) = iv r ++ iv s := by unfold iv; simp
theorem take_snoc {l : List Nat} {i : Nat} (h : i < l.length) : l.take (i + 1) = l.take i ++ [l.getD i 0] := by
  rw [List.take_add_one, List.getElem?_eq_getElem h, List.getD_eq_getElem?_getD, List.getElem?_eq_getElem h]
  rfl
theorem iv_flat (r : List Nat) : (iv r).all flatV = true := by
  rw [List.all_eq_true]
  intro v hv
  obtain ⟨x, _, rfl⟩ := List.mem_map.mp hv
  rfl
theorem dpRowA {K : PySem.W.Frag} {H : Hp} {a : Addr} {r : List Nat} (h : Dp K H (.ref a) (dRow r)) : SqL K H a (iv r) := by
  obtain ⟨xs, h1, h2⟩ := dpLstA h
  have e := dpAll_ints (ns := r.map fun x : Nat => (x : Int)) (by rw [List.map_map]; exact h2)
  rw [List.map_map] at e
  have e2 : xs = iv r := e
  rw [← e2]
  exact h1
theorem dpRow {K : PySem.W.Frag} {H : Hp} {a : Addr} {r : List Nat} (h : SqL K H a (iv r)) : Dp K H (.ref a) (dRow r) := by
  have := dpInts (K := K) (H := H) (r.map fun x : Nat => (x : Int))
  rw [List.map_map, List.map_map] at this
  exact .lst h this
theorem goodRow (r : List Nat) : Good 1 (dRow r) := goodLst (goodMap fun _ => goodInt)
theorem goodRows (T : List (List Nat)) : Good 2 (dRows T) := goodLst (goodMap fun r => goodRow r)
theorem w_idx {K : PySem.W.Frag} {H : Hp} {Q : VK} {p : Addr} {r : List Nat} {x : Nat} (hs : SqL K H p (iv r)) (hx : x ∈ r) (h : Q (.int ((r.idxOf x : Nat) : Int)) H) : rIndex K (.ref p) [.int (x : Int)] H Q := by
  have hl : r.idxOf x < r.length := List.idxOf_lt_length_of_mem hx
  refine ⟨p, iv r, .int (x : Int), r.idxOf x, .int ((r.getD (r.idxOf x) 0 : Nat) : Int), rfl, rfl, hs, rfl, iv_flat r, iv_at hl, ?_, ?_, h⟩
  · have : r.getD (r.idxOf x) 0 = x := by
      rw [List.getD_eq_getElem?_getD, List.getElem?_eq_getElem hl]
      exact List.getElem_idxOf hl
    rw [this]
    simp [eqV]
  · intro m z' hm hz
    have hml : m < r.length := by omega
    rw [iv_at hml] at hz
    cases hz
    have hne : r.getD m 0 ≠ x := by
      rw [List.getD_eq_getElem?_getD, List.getElem?_eq_getElem hml]
      have := List.not_of_lt_findIdx (xs := r) (p := (· == x)) hm
      simpa using this
    show (((r.getD m 0 : Nat) : Int) == (x : Int)) = false
    rw [beq_eq_false_iff_ne]
    omega
theorem iv_map (r : List Nat) : iv r = (r.map fun x : Nat => (x : Int)).map V.int := by unfold iv; rw [List.map_map]; rfl

/-! ### rooms and links -/
abbrev Lk := List (Nat × Nat × Nat)
def lka (L : Lk) (k : Nat) : Nat := (L.getD k (0, 0, 0)).1
def lkb (L : Lk) (k : Nat) : Nat := (L.getD k (0, 0, 0)).2.1
def lkw (L : Lk) (k : Nat) : Nat := (L.getD k (0, 0, 0)).2.2
theorem lk_at {L : Lk} {k : Nat} (h : k < L.length) : L[k]? = some (lka L k, lkb L k, lkw L k) := by
  unfold lka lkb lkw
  rw [List.getD_eq_getElem?_getD, List.getElem?_eq_getElem h]
  rfl
def JL (L : Lk) (k a b : Nat) : Prop := (lka L k = a ∧ lkb L k = b) ∨ (lka L k = b ∧ lkb L k = a)
theorem JL.symm {L : Lk} {k a b : Nat} (h : JL L k a b) : JL L k b a := by
  rcases h with h | h
  · exact .inr h
  · exact .inl h
/-- where a link leads from a room -/
def byd (a b r : Nat) : Option Nat := if a = r then some b else if b = r then some a else none
theorem byd_some {L : Lk} {k r o : Nat} (h : byd (lka L k) (lkb L k) r = some o) : JL L k r o ∧ ∀ b, JL L k r b → b = o := by
  unfold byd at h
  split at h
  · rename_i e
    cases h
    refine ⟨.inl ⟨e, rfl⟩, fun b hb => ?_⟩
    rcases hb with ⟨_, h2⟩ | ⟨h1, h2⟩
    · exact h2.symm
    · omega
  · split at h
    · rename_i e1 e2
      cases h
      refine ⟨.inr ⟨rfl, e2⟩, fun b hb => ?_⟩
      rcases hb with ⟨h1, h2⟩ | ⟨h1, h2⟩
      · exact absurd h1 e1
      · exact h1.symm
    · cases h
theorem byd_none {L : Lk} {k r : Nat} (h : byd (lka L k) (lkb L k) r = none) (b : Nat) : ¬ JL L k r b := by
  unfold byd at h
  split at h
  · cases h
  · split at h
    · cases h
    · rintro (⟨h1, h2⟩ | ⟨h1, h2⟩)
      · exact absurd h1 (by assumption)
      · exact absurd h2 (by assumption)
def upF {α : Type} (f : Nat → α) (o : Nat) (v : α) : Nat → α := fun q => if q = o then v else f q
theorem upF_same {α : Type} {f : Nat → α} {o : Nat} {v : α} : upF f o v o = v := if_pos rfl
theorem upF_ne {α : Type} {f : Nat → α} {o q : Nat} {v : α} (h : q ≠ o) : upF f o v q = f q := if_neg h
/-- fares from s, with the last links and an order of the rooms -/
structure FareOk (n : Nat) (L : Lk) (s : Nat) (far via : Nat → Option Nat) (rk : Nat → Nat) : Prop where
  s0 : far s = some 0
  sv : via s = none
  lt : ∀ r, far r ≠ none → r < n
  un : ∀ r, far r = none → via r = none
  edge : ∀ k a b, k < L.length → JL L k a b → ∀ x, far a = some x → ∃ y, far b = some y ∧ y ≤ x + lkw L k
  back : ∀ r, r ≠ s → ∀ y, far r = some y → ∃ k q x, via r = some k ∧ k < L.length ∧ JL L k q r ∧ far q = some x ∧ y = x + lkw L k ∧ rk q < rk r
  rkl : ∀ r, far r ≠ none → rk r < n
/-- the search under way: P tells which links have been looked along -/
structure DI (n : Nat) (L : Lk) (s : Nat) (P : Nat → Nat → Prop) (far via : Nat → Option Nat) (dn : Nat → Bool) (rk : Nat → Nat) (c : Nat) : Prop where
  s0 : far s = some 0
  sv : via s = none
  lt : ∀ r, far r ≠ none → r < n
  un : ∀ r, far r = none → via r = none
  dr : ∀ r, dn r = true → far r ≠ none
  mono : ∀ q r x y, dn q = true → far q = some x → dn r = false → far r = some y → x ≤ y
  rel : ∀ k a b, k < L.length → P k a → JL L k a b → dn a = true → ∀ x, far a = some x → ∃ y, far b = some y ∧ y ≤ x + lkw L k
  back : ∀ r, r ≠ s → ∀ y, far r = some y → ∃ k q x, via r = some k ∧ k < L.length ∧ JL L k q r ∧ dn q = true ∧ far q = some x ∧ y = x + lkw L k ∧ (dn r = true → rk q < rk r)
  rkl : ∀ r, dn r = true → rk r < c
section
variable {n s c : Nat} {L : Lk} {P : Nat → Nat → Prop} {far via : Nat → Option Nat} {dn : Nat → Bool} {rk : Nat → Nat}
theorem DI.zero (hs : s < n) : DI n L s (fun _ _ => True) (upF (fun _ => none) s (some 0)) (fun _ => none) (fun _ => false) (fun _ => 0) 0 := by
  refine ⟨upF_same, rfl, fun r h => ?_, fun _ _ => rfl, fun _ h => (by cases h), fun _ _ _ _ h => (by cases h), fun _ _ _ _ _ _ h => (by cases h), fun r hr y h => ?_, fun _ h => (by cases h)⟩
  · by_cases e : r = s
    · subst e; exact hs
    · rw [upF_ne e] at h; exact absurd rfl h
  · rw [upF_ne hr] at h; cases h
theorem DI.open (h : DI n L s (fun _ _ => True) far via dn rk c) {r x : Nat} (hr : dn r = false) (hx : far r = some x) (hmin : ∀ q y, dn q = false → far q = some y → x ≤ y) :
    DI n L s (fun k a => a ≠ r ∨ k < 0) far via (upF dn r true) (upF rk r c) (c + 1) ∧ ∀ q y, upF dn r true q = true → far q = some y → y ≤ x := by
  refine ⟨⟨h.s0, h.sv, h.lt, h.un, fun q hq => ?_, fun q t y z hq hy ht hz => ?_, fun k a b hk hP hj ha y hy => ?_, fun t ht y hy => ?_, fun q hq => ?_⟩, fun q y hq hy => ?_⟩
  · by_cases e : q = r
    · subst e; rw [hx]; simp
    · rw [upF_ne e] at hq; exact h.dr q hq
  · have et : t ≠ r := fun e => by subst e; rw [upF_same] at ht; cases ht
    rw [upF_ne et] at ht
    by_cases e : q = r
    · subst e
      rw [hx] at hy; cases hy
      exact hmin t z ht hz
    · rw [upF_ne e] at hq; exact h.mono q t y z hq hy ht hz
  · rcases hP with hP | hP
    · rw [upF_ne hP] at ha; exact h.rel k a b hk trivial hj ha y hy
    · omega
  · obtain ⟨k, q, z, h1, h2, h3, h4, h5, h6, h7⟩ := h.back t ht y hy
    have eq : q ≠ r := fun e => by subst e; rw [hr] at h4; cases h4
    refine ⟨k, q, z, h1, h2, h3, by rw [upF_ne eq]; exact h4, h5, h6, fun ht2 => ?_⟩
    rw [upF_ne eq]
    by_cases e : t = r
    · subst e; rw [upF_same]; exact h.rkl q h4
    · rw [upF_ne e] at ht2 ⊢; exact h7 ht2
  · by_cases e : q = r
    · subst e; rw [upF_same]; omega
    · rw [upF_ne e] at hq ⊢; have := h.rkl q hq; omega
  · by_cases e : q = r
    · subst e; rw [hx] at hy; cases hy; exact Nat.le_refl _
    · rw [upF_ne e] at hq; exact h.mono q r y x hq hy hr hx
theorem DI.close (h : DI n L s P far via dn rk c) (hP : ∀ k a, k < L.length → P k a) : DI n L s (fun _ _ => True) far via dn rk c :=
  ⟨h.s0, h.sv, h.lt, h.un, h.dr, h.mono, fun k a b hk _ => h.rel k a b hk (hP k a hk), h.back, h.rkl⟩
theorem DI.skip {r j : Nat} (h : DI n L s (fun k a => a ≠ r ∨ k < j) far via dn rk c) (hj : ∀ b, JL L j r b → ∀ x, far r = some x → ∃ y, far b = some y ∧ y ≤ x + lkw L j) : DI n L s (fun k a => a ≠ r ∨ k < j + 1) far via dn rk c := by
  refine ⟨h.s0, h.sv, h.lt, h.un, h.dr, h.mono, fun k a b hk hP hjl ha x hx => ?_, h.back, h.rkl⟩
  by_cases e : a ≠ r
  · exact h.rel k a b hk (.inl e) hjl ha x hx
  · have ea : a = r := Classical.not_not.mp e
    subst ea
    by_cases ek : k = j
    · subst ek; exact hj b hjl x hx
    · refine h.rel k a b hk (.inr ?_) hjl ha x hx
      rcases hP with h | h
      · exact absurd rfl h
      · omega
theorem DI.relax {r j o x : Nat} (h : DI n L s (fun k a => a ≠ r ∨ k < j) far via dn rk c) (htop : ∀ q y, dn q = true → far q = some y → y ≤ x) (hr : dn r = true) (hx : far r = some x) (hj : j < L.length) (hjl : JL L j r o) (huq : ∀ b, JL L j r b → b = o) (hon : o < n) (ho : dn o = false)
    (hlt : ∀ y, far o = some y → x + lkw L j < y) : DI n L s (fun k a => a ≠ r ∨ k < j + 1) (upF far o (some (x + lkw L j))) (upF via o (some j)) dn rk c ∧ ∀ q y, dn q = true → upF far o (some (x + lkw L j)) q = some y → y ≤ x := by
  have hor : o ≠ r := fun e => by subst e; rw [hr] at ho; cases ho
  have hos : s ≠ o := fun e => by
    subst e
    have := hlt 0 h.s0
    omega
  have hdo : ∀ q, dn q = true → q ≠ o := fun q hq e => by subst e; rw [hq] at ho; cases ho
  refine ⟨⟨by rw [upF_ne hos]; exact h.s0, by rw [upF_ne hos]; exact h.sv, fun q hq => ?_, fun q hq => ?_, fun q hq => ?_, fun q t y z hq hy ht hz => ?_, fun k a b hk hP hjk ha y hy => ?_, fun t ht y hy => ?_, h.rkl⟩, fun q y hq hy => ?_⟩
  · by_cases e : q = o
    · subst e; exact hon
    · rw [upF_ne e] at hq; exact h.lt q hq
  · by_cases e : q = o
    · subst e; rw [upF_same] at hq; cases hq
    · rw [upF_ne e] at hq ⊢; exact h.un q hq
  · rw [upF_ne (hdo q hq)]; exact h.dr q hq
  · rw [upF_ne (hdo q hq)] at hy
    have := htop q y hq hy
    by_cases e : t = o
    · subst e; rw [upF_same] at hz; cases hz; omega
    · rw [upF_ne e] at hz; exact h.mono q t y z hq hy ht hz
  · rw [upF_ne (hdo a ha)] at hy
    by_cases ea : a = r ∧ k = j
    · obtain ⟨ea, ek⟩ := ea
      subst ea ek
      rw [hx] at hy; cases hy
      have := huq b hjk
      subst this
      exact ⟨_, upF_same, Nat.le_refl _⟩
    · obtain ⟨z, hz, hz2⟩ := h.rel k a b hk (by
        rcases hP with h | h
        · exact .inl h
        · by_cases e : a = r
          · exact .inr (by have : k ≠ j := fun z => ea ⟨e, z⟩; omega)
          · exact .inl e) hjk ha y hy
      by_cases eb : b = o
      · subst eb
        have := hlt z hz
        exact ⟨_, upF_same, by omega⟩
      · exact ⟨z, by rw [upF_ne eb]; exact hz, hz2⟩
  · by_cases e : t = o
    · subst e
      rw [upF_same] at hy; cases hy
      exact ⟨j, r, x, upF_same, hj, hjl, hr, by rw [upF_ne (Ne.symm hor)]; exact hx, rfl, fun z => by rw [ho] at z; cases z⟩
    · rw [upF_ne e] at hy
      obtain ⟨k, q, z, h1, h2, h3, h4, h5, h6, h7⟩ := h.back t ht y hy
      exact ⟨k, q, z, by rw [upF_ne e]; exact h1, h2, h3, h4, by rw [upF_ne (hdo q h4)]; exact h5, h6, h7⟩
  · rw [upF_ne (hdo q hq)] at hy
    exact htop q y hq hy
theorem DI.done (h : DI n L s (fun _ _ => True) far via dn rk c) (hc : c ≤ n) (hd : ∀ r, far r ≠ none → dn r = true) : FareOk n L s far via rk := by
  refine ⟨h.s0, h.sv, h.lt, h.un, fun k a b hk hj x hx => h.rel k a b hk trivial hj (hd a (by rw [hx]; simp)) x hx, fun r hr y hy => ?_, fun r hr => ?_⟩
  · obtain ⟨k, q, z, h1, h2, h3, h4, h5, h6, h7⟩ := h.back r hr y hy
    exact ⟨k, q, z, h1, h2, h3, h5, h6, h7 (hd r (by rw [hy]; simp))⟩
  · have := h.rkl r (hd r hr); omega
end
def cnf (f : Nat → Bool) : Nat → Nat
  | 0 => 0
  | m + 1 => cnf f m + (if f m = true then 0 else 1)
theorem cnf_congr {f g : Nat → Bool} : ∀ {m : Nat}, (∀ i, i < m → f i = g i) → cnf f m = cnf g m
  | 0, _ => rfl
  | m + 1, h => by
    show cnf f m + (if f m = true then 0 else 1) = cnf g m + (if g m = true then 0 else 1)
    rw [cnf_congr fun i hi => h i (by omega), h m (by omega)]
theorem cnf_set {f : Nat → Bool} {r : Nat} (hf : f r = false) : ∀ {m : Nat}, r < m → cnf (upF f r true) m + 1 = cnf f m
  | 0, h => absurd h (by omega)
  | m + 1, h => by
    show cnf (upF f r true) m + (if upF f r true m = true then 0 else 1) + 1 = cnf f m + (if f m = true then 0 else 1)
    by_cases e : r = m
    · subst e
      rw [upF_same, hf, cnf_congr fun i hi => upF_ne (f := f) (v := true) (show i ≠ r by omega)]
      simp
    · rw [upF_ne (fun z => e z.symm), ← cnf_set hf (show r < m by omega)]
      omega
theorem cnf_none : ∀ m, cnf (fun _ => false) m = m
  | 0 => rfl
  | m + 1 => by
    show cnf (fun _ => false) m + 1 = m + 1
    rw [cnf_none m]
/-! ### lists by room -/
abbrev ov : Option Nat → V
  | none => .non
  | some x => .int (x : Nat)
def ovs (f : Nat → Option Nat) (n : Nat) : List V := (List.range n).map fun r => ov (f r)
def bls (f : Nat → Bool) (n : Nat) : List V := (List.range n).map fun r => V.bl (f r)
theorem ovs_len (f : Nat → Option Nat) (n : Nat) : (ovs f n).length = n := by unfold ovs; simp
theorem bls_len (f : Nat → Bool) (n : Nat) : (bls f n).length = n := by unfold bls; simp
theorem ovs_at {f : Nat → Option Nat} {n r : Nat} (h : r < n) : (ovs f n)[r]? = some (ov (f r)) := map_at h
theorem bls_at {f : Nat → Bool} {n r : Nat} (h : r < n) : (bls f n)[r]? = some (.bl (f r)) := map_at h
theorem ovs_set (f : Nat → Option Nat) (n j : Nat) (v : Option Nat) : (ovs f n).set j (ov v) = ovs (upF f j v) n := by
  unfold ovs
  rw [map_set]
  refine List.map_congr_left fun r _ => ?_
  by_cases e : r = j
  · subst e; rw [if_pos rfl, upF_same]
  · rw [if_neg e, upF_ne e]
theorem bls_set (f : Nat → Bool) (n j : Nat) (v : Bool) : (bls f n).set j (.bl v) = bls (upF f j v) n := by
  unfold bls
  rw [map_set]
  refine List.map_congr_left fun r _ => ?_
  by_cases e : r = j
  · subst e; rw [if_pos rfl, upF_same]
  · rw [if_neg e, upF_ne e]
theorem rep_one (n : Nat) (v : V) : (List.replicate n [v]).flatten = (List.range n).map fun _ => v := by
  have : (List.replicate n [v]).flatten = List.replicate n v := by
    induction n with
    | zero => rfl
    | succ n ih => rw [List.replicate_succ, List.flatten_cons, ih, List.replicate_succ]; rfl
  refine List.ext_getElem (by simp) fun i h1 h2 => ?_
  simp [this]
theorem rep_ov (n : Nat) : (List.replicate n [V.non]).flatten = ovs (fun _ => none) n := rep_one n .non
theorem rep_bl (n : Nat) (b : Bool) : (List.replicate n [V.bl b]).flatten = bls (fun _ => b) n := rep_one n (.bl b)
theorem dec_int_non (i : Int) : decide (V.int i = V.non) = false := decide_eq_false (by simp)
theorem dec_ov (o : Option Nat) : decide (ov o = V.non) = o.isNone := by cases o <;> simp [ov]
def dLk (l : Nat × Nat × Nat) : PyData := .tuple ([((l.1 : Nat) : Int), ((l.2.1 : Nat) : Int), ((l.2.2 : Nat) : Int)].map PyData.int)
def dLks (L : Lk) : PyData := .list (L.map dLk)
theorem dpLkAt {K : PySem.W.Frag} {H : Hp} {xs : List V} {L : Lk} (h : DpAll K H xs (L.map dLk)) {i : Nat} (hi : i < L.length) : ∃ p, xs[i]? = some (.ref p) ∧ SqT K H p [.int (lka L i : Nat), .int (lkb L i : Nat), .int (lkw L i : Nat)] := by
  obtain ⟨v, h1, h2⟩ := dpaGet (i := i) (d := dLk (lka L i, lkb L i, lkw L i)) h (by rw [List.getElem?_map, lk_at hi]; rfl)
  obtain ⟨p, ys, rfl, h3, h4⟩ := dpTup h2
  have := dpAll_ints h4
  rw [this] at h3
  exact ⟨p, h1, h3⟩
theorem goodLk (l : Nat × Nat × Nat) : Good 1 (dLk l) := goodTup (goodMap fun _ => goodInt)
theorem goodLks (L : Lk) : Good 2 (dLks L) := goodLst (goodMap goodLk)
/-! ### walks -/
inductive Wk (L : Lk) : Nat → Nat → Nat → Prop
  | refl (a : Nat) : Wk L a a 0
  | step {a b c l k : Nat} : Wk L a b l → k < L.length → JL L k b c → Wk L a c (l + lkw L k)
theorem Wk.trans {L : Lk} {a b c l m : Nat} (h : Wk L a b l) (h' : Wk L b c m) : Wk L a c (l + m) := by
  induction h' with
  | refl => exact h
  | step _ hk hj ih => rw [← Nat.add_assoc]; exact .step ih hk hj
theorem Wk.symm {L : Lk} {a b l : Nat} (h : Wk L a b l) : Wk L b a l := by
  induction h with
  | refl => exact .refl _
  | step _ hk hj ih =>
    have := (Wk.step (.refl _) hk hj.symm).trans ih
    rw [Nat.zero_add, Nat.add_comm] at this
    exact this
section
variable {n s : Nat} {L : Lk} {far via : Nat → Option Nat} {rk : Nat → Nat}
theorem FareOk.walk (h : FareOk n L s far via rk) : ∀ (m r y : Nat), rk r ≤ m → far r = some y → Wk L s r y
  | m, r, y, hm, hy => by
    by_cases e : r = s
    · subst e
      rw [h.s0] at hy
      cases hy
      exact .refl _
    · obtain ⟨k, q, x, h1, h2, h3, h4, h5, h6⟩ := h.back r e y hy
      match m, hm with
      | 0, hm => omega
      | m + 1, hm =>
        have := FareOk.walk h m q x (by omega) h4
        rw [h5]
        exact .step this h2 h3
theorem FareOk.wk (h : FareOk n L s far via rk) {r y : Nat} (hy : far r = some y) : Wk L s r y := h.walk _ r y (Nat.le_refl _) hy
theorem FareOk.le (h : FareOk n L s far via rk) {a b l : Nat} (hw : Wk L a b l) : ∀ {x : Nat}, far a = some x → ∃ y, far b = some y ∧ y ≤ x + l := by
  induction hw with
  | refl => exact fun hx => ⟨_, hx, by omega⟩
  | step _ hk hj ih =>
    intro x hx
    obtain ⟨y, hy, hle⟩ := ih hx
    obtain ⟨z, hz, hle2⟩ := h.edge _ _ _ hk hj y hy
    exact ⟨z, hz, by omega⟩
theorem FareOk.flip (h : FareOk n L s far via rk) {t : Nat} {far' via' : Nat → Option Nat} {rk' : Nat → Nat} (h' : FareOk n L t far' via' rk') : far t = far' s := by
  cases e : far t with
  | some y =>
    obtain ⟨z, hz, hle⟩ := h'.le (h.wk e).symm h'.s0
    obtain ⟨y', hy', hle'⟩ := h.le (h'.wk hz).symm h.s0
    rw [e] at hy'
    cases hy'
    rw [hz]
    congr 1
    omega
  | none =>
    cases e' : far' s with
    | none => rfl
    | some z =>
      obtain ⟨y, hy, _⟩ := h.le (h'.wk e').symm h.s0
      rw [e] at hy
      cases hy
/-- what is reached -/
def WholeL (L : Lk) (n : Nat) : Prop := ∀ C : Nat → Bool, C 0 = true → (∀ k, k < L.length → C (lka L k) = C (lkb L k)) → ∀ r, r < n → C r = true
theorem Wk.closed {a b l : Nat} (h : Wk L a b l) (C : Nat → Bool) (hC : ∀ k, k < L.length → C (lka L k) = C (lkb L k)) : C b = C a := by
  induction h with
  | refl => rfl
  | step _ hk hj ih =>
    rw [← ih]
    have := hC _ hk
    rcases hj with ⟨h1, h2⟩ | ⟨h1, h2⟩
    · rw [h1, h2] at this; exact this.symm
    · rw [h1, h2] at this; exact this
theorem FareOk.whole (h : FareOk n L 0 far via rk) : (∀ r, r < n → far r ≠ none) ↔ WholeL L n := by
  refine ⟨fun hr C h0 hC r hrn => ?_, fun hw r hrn hfr => ?_⟩
  · obtain ⟨y, hy⟩ := Option.ne_none_iff_exists'.mp (hr r hrn)
    rw [(h.wk hy).closed C hC, h0]
  · have := hw (fun r => (far r).isSome) (by show (far 0).isSome = true; rw [h.s0]; rfl) (fun k hk => by
      show (far (lka L k)).isSome = (far (lkb L k)).isSome
      cases e1 : far (lka L k) with
      | some x =>
        obtain ⟨y, hy, _⟩ := h.edge k _ _ hk (.inl ⟨rfl, rfl⟩) x e1
        rw [hy]; rfl
      | none =>
        cases e2 : far (lkb L k) with
        | none => rfl
        | some y =>
          obtain ⟨x, hx, _⟩ := h.edge k _ _ hk (.inr ⟨rfl, rfl⟩) y e2
          rw [e1] at hx; cases hx) r hrn
    simp [hfr] at this
/-- the rooms along a row -/
structure WayOk (n : Nat) (L : Lk) (s : Nat) (far : Nat → Option Nat) (rk : Nat → Nat) (ks rs : List Nat) (r : Nat) : Prop where
  len : rs.length = ks.length + 1
  fst : rs.getD 0 0 = s
  lst : rs.getD ks.length 0 = r
  f0 : far s = some 0
  step : ∀ j, j < ks.length → ks.getD j 0 < L.length ∧ JL L (ks.getD j 0) (rs.getD j 0) (rs.getD (j + 1) 0) ∧ rk (rs.getD j 0) < rk (rs.getD (j + 1) 0) ∧ rs.getD (j + 1) 0 < n ∧ ∃ x, far (rs.getD j 0) = some x ∧ far (rs.getD (j + 1) 0) = some (x + lkw L (ks.getD j 0))
theorem getD_app {l : List Nat} {a i : Nat} : (l ++ [a]).getD i 0 = if i = l.length then a else l.getD i 0 := by
  rw [List.getD_eq_getElem?_getD, List.getD_eq_getElem?_getD, List.getElem?_append]
  by_cases e : i = l.length
  · subst e; simp
  · by_cases e2 : i < l.length
    · rw [if_pos e2, if_neg e]
    · rw [if_neg e2, if_neg e, List.getElem?_eq_none (by simp; omega), List.getElem?_eq_none (by omega)]
theorem WayOk.mono {ks rs : List Nat} {r : Nat} (h : WayOk n L s far rk ks rs r) : ∀ j, j ≤ ks.length → ∀ i, i < j → rk (rs.getD i 0) < rk (rs.getD j 0)
  | 0, _, i, hi => absurd hi (by omega)
  | j + 1, hj, i, hi => by
    have h1 := (h.step j (by omega)).2.2.1
    by_cases e : i = j
    · subst e; exact h1
    · have := WayOk.mono h j (by omega) i (by omega)
      omega
end

/-! ### fares -/
section
variable {P : Program} {w : World} {K : PySem.W.Frag} {mg : Str → Option Value} {base : Heap} {C_OddMarks C_Parted C_TooRough C_FloorError : Addr}
def spBeyond (K : PySem.W.Frag) : Sp := fun vs H Q _ => ∃ (p : Addr) (a b w r : Nat), vs = [.ref p, .int r] ∧ SqT K H p [.int a, .int b, .int w] ∧ Q (ov (byd a b r)) H
theorem ok_beyond {f : Addr} {fd : FuncData} (F : Fun K "beyond" "beyond" s_beyond f fd) (gf : mg "beyond" = some (.ref f)) (B : Bl mg) {C_OddMarks C_Parted C_TooRough C_FloorError : Addr} (T : Txt K mg C_OddMarks C_Parted C_TooRough C_FloorError) : Has P w K mg base CX0 1 "beyond" ["link", "room"] (spBeyond K) := by
  refine Has.mk' F gf (F.binds (ps := ["link", "room"]) fun _ _ _ _ _ _ us hl => match us, hl with | [_, _], _ => rfl) sc_beyond (by walk_at "len") (fun cdv A outer s H vs Q E hr h => ?_)
  obtain ⟨p, a, b, w, r, rfl, hp, q⟩ := h
  unfold byd at q
  refine ⟨_, (pss_cons (ps_if (pt_cmpR op_eq (pe_ix (ix_tupK K) (pv 0) pe_int (fun _ _ => rfl)) (pv 1) (nomark _)) (pss_one (ps_ret (pe_ix (ix_tupK K) (pv 0) pe_int (fun _ _ => rfl)))) pss_nil)
 (pss_cons (ps_if (pt_cmpR op_eq (pe_ix (ix_tupK K) (pv 0) pe_int (fun _ _ => rfl)) (pv 1) (nomark _)) (pss_one (ps_ret (pe_ix (ix_tupK K) (pv 0) pe_int (fun _ _ => rfl)))) pss_nil)
 (pss_one (ps_ret pe_non)))), ?_⟩
  walk_at "sts"
  refine ifd (fun hc => ?_) (fun hc => ?_)
  · walk_at "sts"
    rw [if_pos (by omega)] at q
    exact q
  · walk_at "sts"
    rw [if_neg (by omega)] at q
    refine ifd (fun hd => ?_) (fun hd => ?_)
    · walk_at "sts"
      rw [if_pos (by omega)] at q
      exact q
    · walk_at "sts"
      rw [if_neg (by omega)] at q
      exact q
def spNearest (K : PySem.W.Frag) : Sp := fun vs H Q _ => ∃ (pf pd : Addr) (n : Nat) (far : Nat → Option Nat) (dn : Nat → Bool), vs = [.ref pf, .ref pd] ∧ SqL K H pf (ovs far n) ∧ SqL K H pd (bls dn n) ∧ n ≤ 1000 ∧
  ∀ o : Option Nat, (o = none → ∀ r, r < n → far r ≠ none → dn r = true) → (∀ b, o = some b → b < n ∧ dn b = false ∧ ∃ x, far b = some x ∧ ∀ r y, r < n → dn r = false → far r = some y → x ≤ y) → Q (ov o) H
theorem ok_nearest {f : Addr} {fd : FuncData} (F : Fun K "nearest" "nearest" s_nearest f fd) (gf : mg "nearest" = some (.ref f)) (B : Bl mg) {C_OddMarks C_Parted C_TooRough C_FloorError : Addr} (T : Txt K mg C_OddMarks C_Parted C_TooRough C_FloorError) : Has P w K mg base CX0 1 "nearest" ["far", "done"] (spNearest K) := by
  refine Has.mk' F gf (F.binds (ps := ["far", "done"]) fun _ _ _ _ _ _ us hl => match us, hl with | [_, _], _ => rfl) sc_nearest (by walk_at "len") (fun cdv A outer s H vs Q E hr h => ?_)
  obtain ⟨pf, pd, n, far, dn, rfl, hf, hd, hn, q⟩ := h
  have hfl := ovs_len far n
  refine ⟨_, (pss_cons (ps_set (i := 2) sc_nearest.nd rfl (.inl rfl) pe_non)
 (pss_cons (ps_for PassesOwn.never rfl (pi_range1 (by rfl) B.range (pa_cons (pe_callB (call_lenK K) (by rfl) B.len (by decide +kernel) (pa_cons (pv 0) pa_nil)) pa_nil)) (pg_name (i := 3) sc_nearest.nd rfl (.inl rfl)) (pss_one (ps_if (PW.pt (pw_and (pt_cmpR op_notN (pe_ix (ix_listK K) (pv 0) (pv 3) (fun _ _ => rfl)) pe_non (nomark _)) (pw_and1 (pt_not (pt_val (pe_ix (ix_listK K) (pv 1) (pv 3) (fun _ _ => rfl))))))) (pss_one (ps_if (PW.pt (pw_or (pt_cmpR op_isN (pv 2) pe_non (nomark _)) (pw_or1 (pt_cmpR op_lt (pe_ix (ix_listK K) (pv 0) (pv 3) (fun _ _ => rfl)) (pe_ix (ix_listK K) (pv 0) (pv 2) (fun _ _ => rfl)) (nomark _))))) (pss_one (ps_set (i := 2) sc_nearest.nd rfl (.inl rfl) (pv 3))) pss_nil)) pss_nil)))
 (pss_one (ps_ret (pv 2))))), ?_⟩
  walk_at "sts"
  refine for_r0 (n := n) ?_ (fun i σ H' => ∃ (o : Option Nat) (y3 : Option V), σ = [some (.ref pf), some (.ref pd), some (ov o), y3] ∧ H' = H ∧ (o = none → ∀ r, r < i → far r ≠ none → dn r = true) ∧ (∀ b, o = some b → b < n ∧ dn b = false ∧ ∃ x, far b = some x ∧ ∀ r y, r < i → dn r = false → far r = some y → x ≤ y)) ?_ ?_ ?_
  · rw [hfl]
  · exact ⟨none, _, rfl, rfl, fun _ r hr => absurd hr (by omega), fun b hb => nomatch hb⟩
  · rintro i σ H' hi ⟨o, y3, rfl, rfl, h1, h2⟩
    have fa := ovs_at (f := far) hi
    have da := bls_at (f := dn) hi
    walk_at "sts"
    rw [dec_ov]
    cases hfi : far i with
    | none =>
      rw [Option.isNone_none]
      walk_at "sts"
      refine ⟨o, _, rfl, rfl, fun ho r hr hfr => ?_, fun b hb => ?_⟩
      · by_cases e : r = i
        · subst e; exact absurd hfi hfr
        · exact h1 ho r (by omega) hfr
      · obtain ⟨c1, c2, x, c3, c4⟩ := h2 b hb
        refine ⟨c1, c2, x, c3, fun r y hr hdr hfr => ?_⟩
        by_cases e : r = i
        · subst e; rw [hfi] at hfr; cases hfr
        · exact c4 r y (by omega) hdr hfr
    | some x =>
      rw [Option.isNone_some]
      walk_at "sts"
      cases hdi : dn i with
      | true =>
        walk_at "sts"
        refine ⟨o, _, rfl, rfl, fun ho r hr hfr => ?_, fun b hb => ?_⟩
        · by_cases e : r = i
          · subst e; exact hdi
          · exact h1 ho r (by omega) hfr
        · obtain ⟨c1, c2, z, c3, c4⟩ := h2 b hb
          refine ⟨c1, c2, z, c3, fun r y hr hdr hfr => ?_⟩
          by_cases e : r = i
          · subst e; rw [hdi] at hdr; cases hdr
          · exact c4 r y (by omega) hdr hfr
      | false =>
        walk_at "sts"
        rw [dec_ov]
        cases o with
        | none =>
          rw [Option.isNone_none]
          walk_at "sts"
          refine ⟨some i, _, rfl, rfl, fun ho => (by cases ho), fun b hb => ?_⟩
          cases hb
          refine ⟨hi, hdi, x, hfi, fun r y hr hdr hfr => ?_⟩
          by_cases e : r = i
          · subst e; rw [hfi] at hfr; cases hfr; exact Nat.le_refl _
          · have := h1 rfl r (by omega) (by rw [hfr]; simp)
            rw [hdr] at this; cases this
        | some b =>
          obtain ⟨c1, c2, z, c3, c4⟩ := h2 b rfl
          have fb := ovs_at (f := far) c1
          rw [hfi] at fa
          rw [c3] at fb
          rw [Option.isNone_some]
          walk_at "sts"
          refine ifd (fun hc => ?_) (fun hc => ?_)
          · walk_at "sts"
            refine ⟨some i, _, rfl, rfl, fun ho => (by cases ho), fun b' hb => ?_⟩
            cases hb
            refine ⟨hi, hdi, x, hfi, fun r y hr hdr hfr => ?_⟩
            by_cases e : r = i
            · subst e; rw [hfi] at hfr; cases hfr; exact Nat.le_refl _
            · have := c4 r y (by omega) hdr hfr; omega
          · walk_at "sts"
            refine ⟨some b, _, rfl, rfl, fun ho => (by cases ho), fun b' hb => ?_⟩
            cases hb
            refine ⟨c1, c2, z, c3, fun r y hr hdr hfr => ?_⟩
            by_cases e : r = i
            · subst e; rw [hfi] at hfr; cases hfr; omega
            · exact c4 r y (by omega) hdr hfr
  · rintro σ H' ⟨o, y3, rfl, rfl, h1, h2⟩
    walk_at "sts"
    exact q o h1 h2
def spFares (K : PySem.W.Frag) : Sp := fun vs H Q _ => ∃ (p : Addr) (n s : Nat) (L : Lk), vs = [.int n, .ref p, .int s] ∧ Dp K H (.ref p) (dLks L) ∧ (∀ k, k < L.length → lka L k < n ∧ lkb L k < n) ∧ n ≤ 1000 ∧ L.length ≤ 1000 ∧ s < n ∧
  ∀ pt pf pv H' far via rk, Same H H' → New H pt → New H pf → New H pv → pf ≠ pv → H' pt = some (.tup [.ref pf, .ref pv]) → H' pf = some (.lst (ovs far n)) → H' pv = some (.lst (ovs via n)) → FareOk n L s far via rk → Q (.ref pt) H'
theorem ok_fares {f : Addr} {fd : FuncData} (F : Fun K "fares" "fares" s_fares f fd) (gf : mg "fares" = some (.ref f)) (B : Bl mg) {C_OddMarks C_Parted C_TooRough C_FloorError : Addr} (T : Txt K mg C_OddMarks C_Parted C_TooRough C_FloorError) (h_nearest : Has P w K mg base CX0 1 "nearest" ["far", "done"] (spNearest K)) (h_beyond : Has P w K mg base CX0 1 "beyond" ["link", "room"] (spBeyond K)) : Has P w K mg base CX0 2 "fares" ["many", "links", "start"] (spFares K) := by
  refine Has.mk' F gf (F.binds (ps := ["many", "links", "start"]) fun _ _ _ _ _ _ us hl => match us, hl with | [_, _, _], _ => rfl) sc_fares (by walk_at "len") (fun cdv A outer s H vs Q E hr h => ?_)
  obtain ⟨p, n, s0, L, rfl, hL, hb, hn, hn2, hs, q⟩ := h
  obtain ⟨ls, hl, hls⟩ := dpLstA hL
  have hll : ls.length = L.length := by have := dpaLen hls; simpa using this
  refine ⟨_, (pss_cons (ps_set (i := 3) sc_fares.nd rfl (.inl rfl) (pe_op op_rep (pe_lst (pa_cons pe_non pa_nil)) (pv 0)))
 (pss_cons (ps_set (i := 4) sc_fares.nd rfl (.inl rfl) (pe_op op_rep (pe_lst (pa_cons pe_non pa_nil)) (pv 0)))
 (pss_cons (ps_set (i := 5) sc_fares.nd rfl (.inl rfl) (pe_op op_rep (pe_lst (pa_cons pe_bl pa_nil)) (pv 0)))
 (pss_cons (ps_asg pe_int (pg_sub (pv 3) (pv 2) set_list))
 (pss_cons (ps_set (i := 6) sc_fares.nd rfl (.inl rfl) (pv 2))
 (pss_cons (ps_while PassesOwn.never (pt_cmpR op_notN (pv 6) pe_non (nomark _)) (pss_cons (ps_asg pe_bl (pg_sub (pv 5) (pv 6) set_list))
 (pss_cons (ps_for PassesOwn.never rfl (pi_range1 (by rfl) B.range (pa_cons (pe_callB (call_lenK K) (by rfl) B.len (by decide +kernel) (pa_cons (pv 1) pa_nil)) pa_nil)) (pg_name (i := 7) sc_fares.nd rfl (.inl rfl)) (pss_cons (ps_set (i := 8) sc_fares.nd rfl (.inl rfl) (pe_fn h_beyond (hr.mono (by decide)) (by rfl) (pa_cons (pe_ix (ix_listK K) (pv 1) (pv 7) (fun _ _ => rfl)) (pa_cons (pv 6) pa_nil))))
 (pss_cons (ps_if (PW.pt (pw_or (pt_cmpR op_isN (pv 8) pe_non (nomark _)) (pw_or1 (pt_val (pe_ix (ix_listK K) (pv 5) (pv 8) (fun _ _ => rfl)))))) (pss_one ps_continue) pss_nil)
 (pss_cons (ps_set (i := 9) sc_fares.nd rfl (.inl rfl) (pe_op op_add (pe_ix (ix_listK K) (pv 3) (pv 6) (fun _ _ => rfl)) (pe_ix (ix_tupK K) (pe_ix (ix_listK K) (pv 1) (pv 7) (fun _ _ => rfl)) pe_int (fun _ _ => rfl))))
 (pss_one (ps_if (PW.pt (pw_or (pt_cmpR op_isN (pe_ix (ix_listK K) (pv 3) (pv 8) (fun _ _ => rfl)) pe_non (nomark _)) (pw_or1 (pt_cmpR op_lt (pv 9) (pe_ix (ix_listK K) (pv 3) (pv 8) (fun _ _ => rfl)) (nomark _))))) (pss_cons (ps_asg (pv 9) (pg_sub (pv 3) (pv 8) set_list))
 (pss_one (ps_asg (pv 7) (pg_sub (pv 4) (pv 8) set_list)))) pss_nil))))))
 (pss_one (ps_set (i := 6) sc_fares.nd rfl (.inl rfl) (pe_fn h_nearest (hr.mono (by decide)) (by rfl) (pa_cons (pv 3) (pa_cons (pv 5) pa_nil))))))))
 (pss_one (ps_ret (pe_tup (pa_cons (pv 3) (pa_cons (pv 4) pa_nil))))))))))), ?_⟩
  walk_at "sts"
  refine w_new fun p0 n0 => ?_
  walk_at "sts"
  refine w_rep upd_same (by omega) (by omega) (by rw [Int.toNat_natCast]; simp; exact Nat.le_trans hn (by decide)) ?_
  refine w_new fun pf nf => ?_
  rw [Int.toNat_natCast, rep_ov]
  have s1 : Same H (upd (upd H p0 (.lst [.non])) pf (.lst (ovs (fun _ => none) n))) := (same_upd n0).trans (same_upd nf)
  have f1 : upd (upd H p0 (.lst [.non])) pf (.lst (ovs (fun _ => none) n)) pf = some (.lst (ovs (fun _ => none) n)) := upd_same
  have nf' : New H pf := nf.of (same_upd n0)
  generalize upd (upd H p0 (.lst [.non])) pf (.lst (ovs (fun _ => none) n)) = H1 at s1 f1 ⊢
  clear nf n0
  walk_at "sts"
  refine w_new fun p0 n0 => ?_
  walk_at "sts"
  refine w_rep upd_same (by omega) (by omega) (by rw [Int.toNat_natCast]; simp; exact Nat.le_trans hn (by decide)) ?_
  refine w_new fun pv nv => ?_
  rw [Int.toNat_natCast, rep_ov]
  have t2 : Same H1 (upd (upd H1 p0 (.lst [.non])) pv (.lst (ovs (fun _ => none) n))) := (same_upd n0).trans (same_upd nv)
  have v2 : upd (upd H1 p0 (.lst [.non])) pv (.lst (ovs (fun _ => none) n)) pv = some (.lst (ovs (fun _ => none) n)) := upd_same
  have nv1 : New H1 pv := nv.of (same_upd n0)
  have hfv : pf ≠ pv := ne_new f1 nv1
  have nv' : New H pv := nv1.of s1
  have f2 := t2 _ _ f1
  have s2 := s1.trans t2
  generalize upd (upd H1 p0 (.lst [.non])) pv (.lst (ovs (fun _ => none) n)) = H2 at s2 t2 f2 v2 ⊢
  clear nv n0 t2 f1 s1 nv1
  walk_at "sts"
  refine w_new fun p0 n0 => ?_
  walk_at "sts"
  refine w_rep upd_same (by omega) (by omega) (by rw [Int.toNat_natCast]; simp; exact Nat.le_trans hn (by decide)) ?_
  refine w_new fun pd nd => ?_
  rw [Int.toNat_natCast, rep_bl]
  have t3 : Same H2 (upd (upd H2 p0 (.lst [.bl false])) pd (.lst (bls (fun _ => false) n))) := (same_upd n0).trans (same_upd nd)
  have d3 : upd (upd H2 p0 (.lst [.bl false])) pd (.lst (bls (fun _ => false) n)) pd = some (.lst (bls (fun _ => false) n)) := upd_same
  have nd1 : New H2 pd := nd.of (same_upd n0)
  have hfd : pf ≠ pd := ne_new f2 nd1
  have hvd : pv ≠ pd := ne_new v2 nd1
  have nd' : New H pd := nd1.of s2
  have f3 := t3 _ _ f2
  have v3 := t3 _ _ v2
  have s3 := s2.trans t3
  generalize upd (upd H2 p0 (.lst [.bl false])) pd (.lst (bls (fun _ => false) n)) = H3 at s3 t3 f3 v3 d3 ⊢
  clear nd n0 t3 f2 v2 s2 nd1
  have hix : ixN (ovs (fun _ => none) n).length (s0 : Int) = some s0 := ixN_nat (by rw [ovs_len]; exact hs)
  walk_at "sts"
  rw [show (V.int (0 : Int)) = ov (some 0) from rfl, ovs_set]
  refine ⟨fun k σ H' => ∃ (ro : Option Nat) (far via : Nat → Option Nat) (dn : Nat → Bool) (rk : Nat → Nat) (c : Nat) (y7 y8 y9 : Option V), σ = [some (.int (n : Nat)), some (.ref p), some (.int (s0 : Nat)), some (.ref pf), some (.ref pv), some (.ref pd), some (ov ro), y7, y8, y9] ∧ Same H H' ∧
      H' pf = some (.lst (ovs far n)) ∧ H' pv = some (.lst (ovs via n)) ∧ H' pd = some (.lst (bls dn n)) ∧ DI n L s0 (fun _ _ => True) far via dn rk c ∧ c + cnf dn n = n ∧ k = cnf dn n ∧
      (ro = none → ∀ r, r < n → far r ≠ none → dn r = true) ∧ (∀ b, ro = some b → b < n ∧ dn b = false ∧ ∃ x, far b = some x ∧ ∀ r y, r < n → dn r = false → far r = some y → x ≤ y),
    ⟨_, some s0, _, _, _, _, 0, _, _, _, rfl, s3.mut nf', upd_same, by rw [upd_ne (Ne.symm hfv)]; exact v3, by rw [upd_ne (Ne.symm hfd)]; exact d3, DI.zero hs, by rw [cnf_none]; omega, rfl, fun z => (by cases z), fun b hb => ?_⟩, ?_⟩
  · cases hb
    refine ⟨hs, rfl, 0, upF_same, fun r y _ _ _ => Nat.zero_le _⟩
  rintro k σ H' ⟨ro, far, via, dn, rk, c, y7, y8, y9, rfl, s4, f4, v4, d4, hD, hc, rfl, h1, h2⟩
  walk_at "sts"
  rw [dec_ov]
  cases ro with
  | none =>
    rw [Option.isNone_none]
    walk_at "sts"
    refine w_new fun pt nt => ?_
    have sN := same_upd (o := .tup [.ref pf, .ref pv]) nt
    exact q pt pf pv _ far via rk (s4.trans sN) (nt.of s4) nf' nv' hfv upd_same (sN _ _ f4) (sN _ _ v4) (hD.done (by omega) fun r hr => h1 rfl r (hD.lt r hr) hr)
  | some r =>
    rw [Option.isNone_some]
    walk_at "sts"
    refine w_wt ?_
    obtain ⟨hrn, hdr, x, hfr, hmin⟩ := h2 r rfl
    have hix : ixN (bls dn n).length (r : Int) = some r := ixN_nat (by rw [bls_len]; exact hrn)
    walk_at "sts"
    rw [bls_set]
    obtain ⟨hD2, htop⟩ := hD.open hdr hfr fun q y h1 h2 => hmin q y (hD.lt q (by rw [h2]; simp)) h1 h2
    have hcn := cnf_set hdr hrn
    have f5 : upd H' pd (.lst (bls (upF dn r true) n)) pf = some (.lst (ovs far n)) := by rw [upd_ne hfd]; exact f4
    have v5 : upd H' pd (.lst (bls (upF dn r true) n)) pv = some (.lst (ovs via n)) := by rw [upd_ne hvd]; exact v4
    have d5 : upd H' pd (.lst (bls (upF dn r true) n)) pd = some (.lst (bls (upF dn r true) n)) := upd_same
    have s5 : Same H (upd H' pd (.lst (bls (upF dn r true) n))) := s4.mut nd'
    generalize upd H' pd (.lst (bls (upF dn r true) n)) = H5 at s5 f5 v5 d5 ⊢
    have hl5 := s5.seq hl
    have hr2 : upF dn r true r = true := upF_same
    generalize upF dn r true = dn2 at hD2 htop d5 hr2 hcn
    generalize upF rk r c = rk2 at hD2
    clear hD h1 h2 hmin f4 v4 d4 hdr s4
    walk_at "sts"
    refine for_r0 (n := L.length) ?_ (fun j σ H' => ∃ (far via : Nat → Option Nat) (y7 y8 y9 : Option V), σ = [some (.int (n : Nat)), some (.ref p), some (.int (s0 : Nat)), some (.ref pf), some (.ref pv), some (.ref pd), some (.int (r : Nat)), y7, y8, y9] ∧ Same H H' ∧
        H' pf = some (.lst (ovs far n)) ∧ H' pv = some (.lst (ovs via n)) ∧ H' pd = some (.lst (bls dn2 n)) ∧ DI n L s0 (fun k a => a ≠ r ∨ k < j) far via dn2 rk2 (c + 1) ∧ far r = some x ∧ (∀ q y, dn2 q = true → far q = some y → y ≤ x)) ?_ ?_ ?_
    · rw [hll]
    · exact ⟨far, via, _, _, _, rfl, s5, f5, v5, d5, hD2, hfr, htop⟩
    · clear hD2 htop hfr f5 v5 d5 hl5 s5
      rintro j σ H6 hj ⟨far, via, y7, y8, y9, rfl, s6, f6, v6, d6, hD, hfr, htop⟩
      obtain ⟨pk, e1, e2⟩ := dpLkAt hls hj
      have e3 := same_read s6 e2
      have hl6 := s6.seq hl
      obtain ⟨hba, hbb⟩ := hb j hj
      walk_at "sts"
      refine ⟨pk, _, _, _, r, rfl, e3, ?_⟩
      walk_at "sts"
      rw [dec_ov]
      cases ho : byd (lka L j) (lkb L j) r with
      | none =>
        rw [Option.isNone_none]
        walk_at "sts"
        exact ⟨far, via, _, _, _, rfl, s6, f6, v6, d6, hD.skip fun b hjb => absurd hjb (byd_none ho b), hfr, htop⟩
      | some o =>
        obtain ⟨hjl, huq⟩ := byd_some ho
        have hon : o < n := by rcases hjl with ⟨_, h⟩ | ⟨h, _⟩ <;> omega
        have do_ := bls_at (f := dn2) hon
        have fo := ovs_at (f := far) hon
        have fr := ovs_at (f := far) hrn
        rw [hfr] at fr
        rw [Option.isNone_some]
        walk_at "sts"
        cases hdo : dn2 o with
        | true =>
          walk_at "sts"
          refine ⟨far, via, _, _, _, rfl, s6, f6, v6, d6, hD.skip fun b hjb z hz => ?_, hfr, htop⟩
          have := huq b hjb
          subst this
          rw [hfr] at hz
          cases hz
          obtain ⟨y, hy⟩ := Option.ne_none_iff_exists'.mp (hD.dr b hdo)
          have := htop b y hdo hy
          exact ⟨y, hy, by omega⟩
        | false =>
          walk_at "sts"
          rw [dec_ov]
          have hixo : ixN (ovs far n).length (o : Int) = some o := ixN_nat (by rw [ovs_len]; exact hon)
          have hixv : ixN (ovs via n).length (o : Int) = some o := ixN_nat (by rw [ovs_len]; exact hon)
          have fin : (∀ y, far o = some y → x + lkw L j < y) → ∃ (far' via' : Nat → Option Nat), (ovs far n).set o (.int ((x : Nat) + (lkw L j : Nat) : Int)) = ovs far' n ∧ (ovs via n).set o (.int (j : Nat)) = ovs via' n ∧
              DI n L s0 (fun k a => a ≠ r ∨ k < j + 1) far' via' dn2 rk2 (c + 1) ∧ far' r = some x ∧ (∀ q y, dn2 q = true → far' q = some y → y ≤ x) := fun hlt => by
            obtain ⟨a1, a2⟩ := hD.relax htop hr2 hfr hj hjl huq hon hdo hlt
            refine ⟨_, _, ?_, ovs_set via n o (some j), a1, ?_, a2⟩
            · rw [← ovs_set]; rw [show ov (some (x + lkw L j)) = .int ((x + lkw L j : Nat) : Int) from rfl, Int.natCast_add]
            · rw [upF_ne (fun e => by subst e; rw [hr2] at hdo; cases hdo)]; exact hfr
          cases hfo : far o with
          | none =>
            rw [Option.isNone_none]
            obtain ⟨far', via', b1, b2, b3, b4, b5⟩ := fin fun y hy => by rw [hfo] at hy; cases hy
            walk_at "sts"
            rw [b1, b2]
            exact ⟨far', via', _, _, _, rfl, (s6.mut nf').mut nv', by rw [upd_ne hfv, upd_same], upd_same, by rw [upd_ne (Ne.symm hvd), upd_ne (Ne.symm hfd)]; exact d6, b3, b4, b5⟩
          | some y =>
            rw [hfo] at fo
            rw [Option.isNone_some]
            walk_at "sts"
            refine ifd (fun hc => ?_) (fun hc => ?_)
            · obtain ⟨far', via', b1, b2, b3, b4, b5⟩ := fin fun y' hy => by rw [hfo] at hy; cases hy; omega
              walk_at "sts"
              rw [b1, b2]
              exact ⟨far', via', _, _, _, rfl, (s6.mut nf').mut nv', by rw [upd_ne hfv, upd_same], upd_same, by rw [upd_ne (Ne.symm hvd), upd_ne (Ne.symm hfd)]; exact d6, b3, b4, b5⟩
            · walk_at "sts"
              refine ⟨far, via, _, _, _, rfl, s6, f6, v6, d6, hD.skip fun b hjb z hz => ?_, hfr, htop⟩
              have := huq b hjb
              subst this
              rw [hfr] at hz
              cases hz
              exact ⟨y, hfo, by omega⟩
    · clear hD2 htop hfr f5 v5 d5 hl5 s5
      rintro σ H6 ⟨far, via, y7, y8, y9, rfl, s6, f6, v6, d6, hD, hfr, htop⟩
      have f6q := SqL.of (K := K) f6
      have d6q := SqL.of (K := K) d6
      walk_at "sts"
      refine ⟨pf, pd, n, far, dn2, rfl, f6q, d6q, hn, fun o k1 k2 => ?_⟩
      walk_at "sts"
      exact ⟨_, by omega, o, far, via, dn2, rk2, c + 1, _, _, _, rfl, s6, f6, v6, d6, hD.close fun k a hk => .inr hk, by omega, rfl, k1, k2⟩
end

/-! ### the row of links that leads to a room -/
inductive RowL (L : Lk) (via : Nat → Option Nat) : Nat → List Nat → Prop
  | nil {r : Nat} : via r = none → RowL L via r []
  | cons {r k q : Nat} {ks : List Nat} : via r = some k → JL L k q r → RowL L via q ks → RowL L via r (ks ++ [k])
/-- back from r by the links of via: what is told from r on, behind what is told of q, is r's row -/
def BackL (L : Lk) (via : Nat → Option Nat) (r q : Nat) (js : List Nat) : Prop := ∀ ks, RowL L via q ks → RowL L via r (ks ++ js.reverse)
structure ViaOk (n : Nat) (L : Lk) (via : Nat → Option Nat) (rk : Nat → Nat) : Prop where
  ok : ∀ r, r < n → ∀ k, via r = some k → k < L.length ∧ ∃ q, JL L k q r ∧ q < n ∧ rk q < rk r
theorem FareOk.via {n s : Nat} {L : Lk} {far via : Nat → Option Nat} {rk : Nat → Nat} (h : FareOk n L s far via rk) : ViaOk n L via rk := ⟨fun r hr k hk => by
  by_cases e : r = s
  · subst e; rw [h.sv] at hk; cases hk
  · cases hf : far r with
    | none => rw [h.un r hf] at hk; cases hk
    | some y =>
      obtain ⟨k', q, x, h1, h2, h3, h4, h5, h6⟩ := h.back r e y hf
      rw [h1] at hk
      cases hk
      exact ⟨h2, q, h3, h.lt q (by rw [h4]; simp), h6⟩⟩
section
variable {P : Program} {w : World} {K : PySem.W.Frag} {mg : Str → Option Value} {base : Heap} {C_OddMarks C_Parted C_TooRough C_FloorError : Addr}
def spRowTo (K : PySem.W.Frag) : Sp := fun vs H Q _ => ∃ (pl pu : Addr) (L : Lk) (n r : Nat) (via : Nat → Option Nat) (rk : Nat → Nat), vs = [.ref pl, .ref pu, .int r] ∧ Dp K H (.ref pl) (dLks L) ∧ SqL K H pu (ovs via n) ∧ ViaOk n L via rk ∧ r < n ∧ n ≤ 1000 ∧ rk r ≤ 1000 ∧
  ∀ p H' ks, Same H H' → New H p → H' p = some (.lst (iv ks)) → RowL L via r ks → Q (.ref p) H'
theorem ok_row_to {f : Addr} {fd : FuncData} (F : Fun K "row_to" "row_to" s_row_to f fd) (gf : mg "row_to" = some (.ref f)) (B : Bl mg) {C_OddMarks C_Parted C_TooRough C_FloorError : Addr} (T : Txt K mg C_OddMarks C_Parted C_TooRough C_FloorError) (h_beyond : Has P w K mg base CX0 1 "beyond" ["link", "room"] (spBeyond K)) : Has P w K mg base CX0 2 "row_to" ["links", "via", "room"] (spRowTo K) := by
  refine Has.mk' F gf (F.binds (ps := ["links", "via", "room"]) fun _ _ _ _ _ _ us hl => match us, hl with | [_, _, _], _ => rfl) sc_row_to (by walk_at "len") (fun cdv A outer s H vs Q E hr h => ?_)
  obtain ⟨pl, pu, L, n, r, via, rk, rfl, hL, hu, hV, hrn, hn, hrk, q⟩ := h
  obtain ⟨ls, hl, hls⟩ := dpLstA hL
  refine ⟨_, (pss_cons (ps_set (i := 3) sc_row_to.nd rfl (.inl rfl) (pe_lst pa_nil))
 (pss_cons (ps_while PassesOwn.never (pt_cmpR op_notN (pe_ix (ix_listK K) (pv 1) (pv 2) (fun _ _ => rfl)) pe_non (nomark _)) (pss_cons (ps_expr (pe_bmK K (pe_bm PySem.F.plainAttrs_list PySem.F.slot_list_append PySem.F.type_list_append mt_append (pv 3) (pa_cons (pe_ix (ix_listK K) (pv 1) (pv 2) (fun _ _ => rfl)) pa_nil))))
 (pss_one (ps_set (i := 2) sc_row_to.nd rfl (.inl rfl) (pe_fn h_beyond (hr.mono (by decide)) (by rfl) (pa_cons (pe_ix (ix_listK K) (pv 0) (pe_ix (ix_listK K) (pv 1) (pv 2) (fun _ _ => rfl)) (fun _ _ => rfl)) (pa_cons (pv 2) pa_nil)))))))
 (pss_cons (ps_expr (pe_bm0K K (pe_bm0 PySem.F.plainAttrs_list PySem.F.slot_list_reverse PySem.F.type_list_reverse mt_reverse (pv 3))))
 (pss_one (ps_ret (pv 3)))))), ?_⟩
  walk_at "sts"
  refine w_new fun p np => ?_
  walk_at "sts"
  refine ⟨fun k σ H' => ∃ (t : Nat) (js : List Nat), σ = [some (.ref pl), some (.ref pu), some (.int (t : Nat)), some (.ref p)] ∧ Same H H' ∧ H' p = some (.lst (iv js)) ∧ t < n ∧ BackL L via r t js ∧ rk t = k ∧ js.length + rk t ≤ rk r,
    ⟨_, r, [], rfl, same_upd np, upd_same, hrn, fun ks h => by simpa using h, rfl, by simp⟩, ?_⟩
  rintro k σ H' ⟨t, js, rfl, s1, l1, ht, hB, rfl, hj⟩
  have hu1 := s1.seq hu
  have hl1 := s1.seq hl
  have ft := ovs_at (f := via) ht
  walk_at "sts"
  rw [dec_ov]
  cases hv : via t with
  | none =>
    rw [Option.isNone_none]
    walk_at "sts"
    refine q p _ js.reverse (s1.mut np) np ?_ ?_
    · rw [upd_same]
      unfold iv
      rw [List.map_reverse]
    · have := hB [] (.nil hv)
      simpa using this
  | some k =>
    obtain ⟨hk, u, hju, hun, hrku⟩ := hV.ok t ht k hv
    rw [hv] at ft
    have hsl : (iv js).length < sizeLine := szlt (by rw [iv_len]; omega)
    rw [Option.isNone_some]
    walk_at "sts"
    refine w_wt ?_
    walk_at "sts"
    have s2 : Same H (upd H' p (.lst (iv js ++ [.int (k : Nat)]))) := s1.mut np
    have l2 : upd H' p (.lst (iv js ++ [.int (k : Nat)])) p = some (.lst (iv (js ++ [k]))) := by rw [upd_same, iv_app]; rfl
    generalize upd H' p (.lst (iv js ++ [.int (k : Nat)])) = H2 at s2 l2 ⊢
    have hu2 := s2.seq hu
    have hl2 := s2.seq hl
    obtain ⟨pk, e1, e2⟩ := dpLkAt hls hk
    have e3 := same_read s2 e2
    walk_at "sts"
    refine ⟨pk, _, _, _, t, rfl, e3, ?_⟩
    have hby : byd (lka L k) (lkb L k) t = some u := by
      unfold byd
      rcases hju with ⟨a1, a2⟩ | ⟨a1, a2⟩
      · by_cases e : lka L k = t
        · rw [if_pos e, a2, ← e, a1]
        · rw [if_neg e, if_pos a2, a1]
      · rw [if_pos a1, a2]
    rw [hby]
    walk_at "sts"
    refine ⟨_, hrku, u, js ++ [k], rfl, s2, l2, hun, fun ks hks => ?_, rfl, by simp; omega⟩
    rw [List.reverse_append]
    have := hB (ks ++ [k]) (.cons hv hju hks)
    simpa using this
def spWholeL (K : PySem.W.Frag) : Sp := fun vs H Q _ => ∃ (p : Addr) (n : Nat) (L : Lk), vs = [.int n, .ref p] ∧ Dp K H (.ref p) (dLks L) ∧ (∀ k, k < L.length → lka L k < n ∧ lkb L k < n) ∧ n ≤ 1000 ∧ L.length ≤ 1000 ∧ 0 < n ∧
  ∀ (b : Bool) H' far via rk, Same H H' → FareOk n L 0 far via rk → (b = true ↔ ∀ r, r < n → far r ≠ none) → Q (.bl b) H'
theorem ok_whole {f : Addr} {fd : FuncData} (F : Fun K "whole" "whole" s_whole f fd) (gf : mg "whole" = some (.ref f)) (B : Bl mg) {C_OddMarks C_Parted C_TooRough C_FloorError : Addr} (T : Txt K mg C_OddMarks C_Parted C_TooRough C_FloorError) (h_fares : Has P w K mg base CX0 2 "fares" ["many", "links", "start"] (spFares K)) : Has P w K mg base CX0 3 "whole" ["many", "links"] (spWholeL K) := by
  refine Has.mk' F gf (F.binds (ps := ["many", "links"]) fun _ _ _ _ _ _ us hl => match us, hl with | [_, _], _ => rfl) sc_whole (by walk_at "len") (fun cdv A outer s H vs Q E hr h => ?_)
  obtain ⟨p, n, L, rfl, hL, hb, hn, hn2, hpos, q⟩ := h
  refine ⟨_, (pss_cons (ps_for PassesOwn.never rfl (pi_listK K (pe_ix (ix_tupK K) (pe_fn h_fares (hr.mono (by decide)) (by rfl) (pa_cons (pv 0) (pa_cons (pv 1) (pa_cons pe_int pa_nil)))) pe_int (fun _ _ => rfl))) (pg_name (i := 2) sc_whole.nd rfl (.inl rfl)) (pss_one (ps_if (pt_cmpR op_isN (pv 2) pe_non (nomark _)) (pss_one (ps_ret pe_bl)) pss_nil)))
 (pss_one (ps_ret pe_bl))), ?_⟩
  walk_at "sts"
  refine ⟨p, n, 0, L, rfl, hL, hb, hn, hn2, hpos, fun pt pf pu H1 far via rk s1 n1 n2 n3 hne hpt hpf hpu hF => ?_⟩
  have hptt := SqT.of (K := K) hpt
  have hff := SqL.of (K := K) hpf
  walk_at "sts"
  refine for_list (xs := ovs far n) (fun i σ H' => ∃ (y2 : Option V), σ = [some (.int (n : Nat)), some (.ref p), y2] ∧ H' = H1 ∧ ∀ r, r < i → far r ≠ none) ?_ ?_ ?_ ?_
  · exact ⟨_, rfl, rfl, fun r hr => absurd hr (by omega)⟩
  · rintro i σ H' _ ⟨_, _, rfl, _⟩
    exact hff
  · rintro i v σ H' hv ⟨y2, rfl, rfl, hr⟩
    have hi : i < n := by rw [← ovs_len far n]; exact (List.getElem?_eq_some_iff.mp hv).1
    rw [ovs_at hi] at hv
    cases hv
    walk_at "sts"
    rw [dec_ov]
    cases hf : far i with
    | none =>
      rw [Option.isNone_none]
      walk_at "sts"
      exact q false H' far via rk s1 hF ⟨fun h => (by cases h), fun h => absurd hf (h i hi)⟩
    | some x =>
      rw [Option.isNone_some]
      walk_at "sts"
      refine ⟨_, rfl, rfl, fun r hr' => ?_⟩
      by_cases e : r = i
      · subst e; rw [hf]; simp
      · exact hr r (by omega)
  · rintro σ H' ⟨y2, rfl, rfl, hr⟩
    rw [ovs_len] at hr
    walk_at "sts"
    exact q true H' far via rk s1 hF ⟨fun _ => hr, fun _ => rfl⟩
end
theorem RowL.way {n s : Nat} {L : Lk} {far via : Nat → Option Nat} {rk : Nat → Nat} (h : FareOk n L s far via rk) {r : Nat} {ks : List Nat} (hr : RowL L via r ks) : far r ≠ none → ∃ rs, WayOk n L s far rk ks rs r := by
  induction hr with
  | @nil r hv =>
    intro hf
    have e : r = s := Classical.byContradiction fun e => by
      obtain ⟨y, hy⟩ := Option.ne_none_iff_exists'.mp hf
      obtain ⟨k, q, x, h1, _⟩ := h.back r e y hy
      rw [hv] at h1; cases h1
    subst e
    exact ⟨[r], rfl, rfl, rfl, h.s0, fun j hj => absurd hj (by simp)⟩
  | @cons r k q ks hv hj _ ih =>
    intro hf
    have e : r ≠ s := fun e => by subst e; rw [h.sv] at hv; cases hv
    obtain ⟨y, hy⟩ := Option.ne_none_iff_exists'.mp hf
    obtain ⟨k', q', x, h1, h2, h3, h4, h5, h6⟩ := h.back r e y hy
    rw [hv] at h1
    cases h1
    have eq : q' = q := by
      rcases hj with ⟨a1, a2⟩ | ⟨a1, a2⟩ <;> rcases h3 with ⟨b1, b2⟩ | ⟨b1, b2⟩ <;> omega
    subst eq
    obtain ⟨rs, hw⟩ := ih (by rw [h4]; simp)
    have hl := hw.len
    refine ⟨rs ++ [r], by simp [hl], ?_, ?_, h.s0, fun j hj' => ?_⟩
    · rw [getD_app, if_neg (by omega)]; exact hw.fst
    · rw [getD_app, if_pos (by simp [hl])]
    · rw [getD_app, getD_app, getD_app]
      have hj2 : j < ks.length + 1 := by simpa using hj'
      by_cases ej : j = ks.length
      · subst ej
        rw [if_pos rfl, if_neg (by omega), if_pos (by omega), hw.lst]
        exact ⟨h2, h3, h6, h.lt r hf, x, h4, by rw [hy, h5]⟩
      · rw [if_neg ej, if_neg (by omega), if_neg (by omega)]
        exact hw.step j (by omega)
theorem WayOk.rank {n s : Nat} {L : Lk} {far : Nat → Option Nat} {rk : Nat → Nat} {ks rs : List Nat} {r : Nat} (h : WayOk n L s far rk ks rs r) : ∀ j, j ≤ ks.length → j ≤ rk (rs.getD j 0)
  | 0, _ => Nat.zero_le _
  | j + 1, hj => by
    have h1 := (h.step j (by omega)).2.2.1
    have := WayOk.rank h j (by omega)
    omega

/-! ### pairings of a list -/
inductive PL (d : Nat → Nat → Nat) : List Nat → Nat → Prop
  | nil : PL d [] 0
  | cons {l l' : List Nat} {a b c : Nat} : l.Perm (a :: b :: l') → PL d l' c → PL d l (c + d a b)
section
variable {d : Nat → Nat → Nat} {l l' m : List Nat} {a b c x : Nat}
theorem PL.perm (h : PL d l c) (p : l.Perm m) : PL d m c := by
  cases h with
  | nil => rw [← List.Perm.nil_eq p]; exact .nil
  | cons q h' => exact .cons (p.symm.trans q) h'
theorem PL.nil_eq (h : PL d [] c) : c = 0 := by
  generalize e : ([] : List Nat) = l0 at h
  cases h with
  | nil => rfl
  | cons q _ => subst e; have := q.length_eq; simp at this
/-- the mate of a -/
theorem PL.mate (hs : ∀ x y, d x y = d y x) (h : PL d l c) : a ∈ l → ∃ x l' c', l.Perm (a :: x :: l') ∧ PL d l' c' ∧ c = c' + d a x := by
  induction h with
  | nil => intro h; simp at h
  | @cons l0 l1 u v c0 p h' ih =>
    intro ha
    rcases List.mem_cons.mp (p.mem_iff.mp ha) with e | ha2
    · subst e; exact ⟨v, l1, c0, p, h', rfl⟩
    · rcases List.mem_cons.mp ha2 with e | ha3
      · subst e; exact ⟨u, l1, c0, p.trans (.swap _ _ _), h', by rw [hs]⟩
      · obtain ⟨x, l2, c2, q, h2, e2⟩ := ih ha3
        refine ⟨x, u :: v :: l2, c2 + d u v, ?_, .cons (.refl _) h2, by omega⟩
        refine p.trans ?_
        have q2 : (u :: v :: l1).Perm (u :: v :: a :: x :: l2) := (q.cons v).cons u
        refine q2.trans ?_
        have : (u :: v :: a :: x :: l2).Perm (a :: u :: v :: x :: l2) := ((List.Perm.swap a v _).cons u).trans (.swap _ _ _)
        refine this.trans (.cons _ ?_)
        exact ((List.Perm.swap x v _).cons u).trans (.swap _ _ _)
theorem PL.map {d' : Nat → Nat → Nat} {f : Nat → Nat} (h : PL d l c) (e : ∀ x ∈ l, ∀ y ∈ l, d' (f x) (f y) = d x y) : PL d' (l.map f) c := by
  induction h with
  | nil => exact .nil
  | @cons l0 l1 u v c0 p h' ih =>
    have hm : ∀ z ∈ l1, z ∈ l0 := fun z hz => p.mem_iff.mpr (by simp [hz])
    have := PL.cons (d := d') (p.map f) (ih fun x hx y hy => e x (hm x hx) y (hm y hy))
    rw [e u (p.mem_iff.mpr (by simp)) v (p.mem_iff.mpr (by simp))] at this
    exact this
/-- one end moved, put in or taken out at a, and at b -/
def flip (l : List Nat) (a : Nat) : List Nat := if a ∈ l then l.erase a else a :: l
theorem flip_nodup (h : l.Nodup) : (flip l a).Nodup := by
  unfold flip
  split
  · exact h.erase _
  · exact List.nodup_cons.mpr ⟨by assumption, h⟩
theorem flip_mem (h : l.Nodup) : x ∈ flip l a ↔ (x ∈ l ∧ x ≠ a) ∨ (x = a ∧ a ∉ l) := by
  unfold flip
  split
  · rename_i ha
    rw [h.mem_erase_iff]
    constructor
    · rintro ⟨h1, h2⟩; exact .inl ⟨h2, h1⟩
    · rintro (⟨h1, h2⟩ | ⟨h1, h2⟩)
      · exact ⟨h2, h1⟩
      · exact absurd ha h2
  · rename_i ha
    rw [List.mem_cons]
    constructor
    · rintro (h1 | h1)
      · exact .inr ⟨h1, ha⟩
      · exact .inl ⟨h1, fun e => ha (e ▸ h1)⟩
    · rintro (⟨h1, _⟩ | ⟨h1, _⟩)
      · exact .inr h1
      · exact .inl h1
/-- a metric -/
structure Met (d : Nat → Nat → Nat) (n : Nat) : Prop where
  symm : ∀ x y, d x y = d y x
  tri : ∀ x y z, x < n → y < n → z < n → d x z ≤ d x y + d y z
theorem PL.flip2 {n : Nat} (M : Met d n) (h : PL d l c) (hl : ∀ x ∈ l, x < n) (hn : l.Nodup) (ha : a < n) (hb : b < n) (hab : a ≠ b) : ∃ c', PL d (flip (flip l a) b) c' ∧ c' ≤ c + d a b := by
  by_cases h1 : a ∈ l
  · obtain ⟨x, l1, c1, p1, q1, e1⟩ := h.mate M.symm h1
    have hx : x < n := hl x (p1.mem_iff.mpr (by simp))
    have pe : (flip l a).Perm (x :: l1) := by
      unfold flip
      rw [if_pos h1]
      have := p1.erase a
      rw [List.erase_cons_head] at this
      exact this
    have hn1 : (x :: l1).Nodup := pe.nodup_iff.mp (flip_nodup hn)
    by_cases h2 : b ∈ l
    · have hb1 : b ∈ x :: l1 := pe.mem_iff.mp ((flip_mem hn).mpr (.inl ⟨h2, Ne.symm hab⟩))
      have pe2 : (flip (flip l a) b).Perm ((x :: l1).erase b) := by
        have : b ∈ flip l a := pe.mem_iff.mpr hb1
        rw [show flip (flip l a) b = (flip l a).erase b from if_pos this]
        exact pe.erase b
      rcases List.mem_cons.mp hb1 with e | hb2
      · subst e
        rw [List.erase_cons_head] at pe2
        exact ⟨c1, q1.perm pe2.symm, by omega⟩
      · obtain ⟨y, l2, c2, p2, q2, e2⟩ := q1.mate M.symm hb2
        have hy : y < n := hl y (p1.mem_iff.mpr (by simp [p2.mem_iff.mpr (show y ∈ b :: y :: l2 by simp)]))
        have hbx : b ≠ x := fun e => (List.nodup_cons.mp hn1).1 (e ▸ hb2)
        refine ⟨c2 + d x y, .cons ?_ q2, ?_⟩
        · refine pe2.trans ?_
          rw [List.erase_cons_tail (by simpa using fun e => hbx e.symm)]
          have := p2.erase b
          rw [List.erase_cons_head] at this
          exact this.cons x
        · have t1 := M.tri x a y hx ha hy
          have t2 := M.tri a b y ha hb hy
          have s1 := M.symm x a
          omega
    · have hb1 : b ∉ flip l a := fun z => by
        rcases (flip_mem hn).mp z with ⟨z, _⟩ | ⟨z, _⟩
        · exact h2 z
        · exact hab z.symm
      refine ⟨c1 + d b x, .cons (a := b) (b := x) (l' := l1) ?_ q1, ?_⟩
      · rw [show flip (flip l a) b = b :: flip l a from if_neg hb1]
        exact pe.cons b
      · have t1 := M.tri b a x hb ha hx
        have s1 := M.symm b a
        omega
  · have hn2 : (a :: l).Nodup := List.nodup_cons.mpr ⟨h1, hn⟩
    have pe : flip l a = a :: l := if_neg h1
    by_cases h2 : b ∈ l
    · obtain ⟨x, l1, c1, p1, q1, e1⟩ := h.mate M.symm h2
      have hx : x < n := hl x (p1.mem_iff.mpr (by simp))
      refine ⟨c1 + d a x, .cons (a := a) (b := x) (l' := l1) ?_ q1, ?_⟩
      · rw [pe, show flip (a :: l) b = (a :: l).erase b from if_pos (by simp [h2]), List.erase_cons_tail (by simpa using hab)]
        have := p1.erase b
        rw [List.erase_cons_head] at this
        exact this.cons a
      · have t1 := M.tri a b x ha hb hx
        omega
    · refine ⟨c + d a b, .cons (a := a) (b := b) (l' := l) ?_ h, Nat.le_refl _⟩
      rw [pe, show flip (a :: l) b = b :: a :: l from if_neg (by simp [h2, Ne.symm hab])]
      exact .swap _ _ _
end
/-! ### least lengths -/
theorem least_nat {P : Nat → Prop} : ∀ m, P m → ∃ k, P k ∧ ∀ j, P j → k ≤ j
  | m, h => by
    by_cases hx : ∃ j, P j ∧ j < m
    · obtain ⟨j, hj, hlt⟩ := hx
      exact least_nat j hj
    · exact ⟨m, h, fun j hj => by
        rcases Nat.lt_or_ge j m with h2 | h2
        · exact absurd ⟨j, hj, h2⟩ hx
        · exact h2⟩
  termination_by m => m
def IsDist (L : Lk) (a b y : Nat) : Prop := Wk L a b y ∧ ∀ l, Wk L a b l → y ≤ l
noncomputable def dist (L : Lk) (a b : Nat) : Nat := @Classical.epsilon Nat ⟨0⟩ fun y => IsDist L a b y
theorem dist_ok {L : Lk} {a b l : Nat} (h : Wk L a b l) : IsDist L a b (dist L a b) := by
  obtain ⟨y, h1, h2⟩ := least_nat (P := fun y => Wk L a b y) l h
  exact @Classical.epsilon_spec_aux Nat ⟨0⟩ (fun y => IsDist L a b y) ⟨y, h1, h2⟩
theorem IsDist.eq {L : Lk} {a b y z : Nat} (h : IsDist L a b y) (k : IsDist L a b z) : y = z := Nat.le_antisymm (h.2 _ k.1) (k.2 _ h.1)
theorem IsDist.symm {L : Lk} {a b y : Nat} (h : IsDist L a b y) : IsDist L b a y := ⟨h.1.symm, fun l hl => h.2 l hl.symm⟩
theorem dist_symm (L : Lk) (a b : Nat) : dist L a b = dist L b a := by
  unfold dist
  congr 1
  funext y
  exact propext ⟨fun h => h.symm, fun h => h.symm⟩
theorem FareOk.isd {n s : Nat} {L : Lk} {far via : Nat → Option Nat} {rk : Nat → Nat} (h : FareOk n L s far via rk) {r y : Nat} (hy : far r = some y) : dist L s r = y := by
  have hw := h.wk hy
  have k : IsDist L s r y := ⟨hw, fun l hl => by
    obtain ⟨z, hz, hle⟩ := h.le hl h.s0
    rw [hy] at hz
    cases hz
    omega⟩
  exact (dist_ok hw).eq k
theorem WholeL.wk {L : Lk} {n : Nat} (h : WholeL L n) {r : Nat} (hr : r < n) : ∃ l, Wk L 0 r l := by
  haveI : ∀ r, Decidable (∃ l, Wk L 0 r l) := fun _ => Classical.propDecidable _
  have := h (fun r => decide (∃ l, Wk L 0 r l)) (decide_eq_true ⟨0, .refl 0⟩) (fun k hk => by
    have e : (∃ l, Wk L 0 (lka L k) l) ↔ (∃ l, Wk L 0 (lkb L k) l) := ⟨fun ⟨l, hl⟩ => ⟨_, .step hl hk (.inl ⟨rfl, rfl⟩)⟩, fun ⟨l, hl⟩ => ⟨_, .step hl hk (.inr ⟨rfl, rfl⟩)⟩⟩
    show decide _ = decide _
    by_cases h1 : ∃ l, Wk L 0 (lka L k) l
    · rw [decide_eq_true h1, decide_eq_true (e.mp h1)]
    · rw [decide_eq_false h1, decide_eq_false (fun z => h1 (e.mpr z))]) r hr
  exact of_decide_eq_true this
theorem WholeL.wk2 {L : Lk} {n : Nat} (h : WholeL L n) {a b : Nat} (ha : a < n) (hb : b < n) : ∃ l, Wk L a b l := by
  obtain ⟨l, hl⟩ := h.wk ha
  obtain ⟨m, hm⟩ := h.wk hb
  exact ⟨_, hl.symm.trans hm⟩
theorem WholeL.met {L : Lk} {n : Nat} (h : WholeL L n) : Met (dist L) n := ⟨fun x y => dist_symm L x y, fun x y z hx hy hz => by
  obtain ⟨l, hl⟩ := h.wk2 hx hy
  obtain ⟨m, hm⟩ := h.wk2 hy hz
  have a := dist_ok hl
  have b := dist_ok hm
  have := a.1.trans b.1
  exact (dist_ok this).2 _ this⟩
/-! ### sets of links -/
def oddL (L : Lk) (u : Nat) : Nat → Nat
  | 0 => 0
  | k + 1 => if u.testBit k = true then oddL L u k ^^^ 2 ^ lka L k ^^^ 2 ^ lkb L k else oddL L u k
def lcost (L : Lk) (u : Nat) : Nat → Nat
  | 0 => 0
  | k + 1 => if u.testBit k = true then lcost L u k + lkw L k else lcost L u k
/-- the rooms of a mask, as a list -/
def ML (l : List Nat) (m : Nat) : Prop := l.Nodup ∧ ∀ q, q ∈ l ↔ m.testBit q = true
theorem ML.perm {l l' : List Nat} {m : Nat} (h : ML l m) (h' : ML l' m) : l.Perm l' := perm_of_nodup h.1 h'.1 fun a => (h.2 a).trans (h'.2 a).symm
theorem ML.zero : ML [] 0 := ⟨List.nodup_nil, fun q => by simp⟩
theorem ML.flip {l : List Nat} {m a : Nat} (h : ML l m) : ML (Sf.flip l a) (m ^^^ 2 ^ a) := by
  refine ⟨flip_nodup h.1, fun q => ?_⟩
  rw [flip_mem h.1, Nat.testBit_xor, Nat.testBit_two_pow, h.2, h.2]
  by_cases e : a = q
  · subst e
    rw [decide_eq_true rfl]
    cases m.testBit a <;> simp
  · rw [decide_eq_false e]
    cases m.testBit q <;> simp [Ne.symm e]
/-- each set of links costs no less than some pairing of its odd ends -/
theorem join_ge {L : Lk} {n : Nat} (hw : WholeL L n) (hb : ∀ k, k < L.length → lka L k < n ∧ lkb L k < n) (u : Nat) : ∀ k, k ≤ L.length → ∃ l c, ML l (oddL L u k) ∧ (∀ x ∈ l, x < n) ∧ PL (dist L) l c ∧ c ≤ lcost L u k
  | 0, _ => ⟨[], 0, ML.zero, fun x hx => by simp at hx, .nil, Nat.le_refl _⟩
  | k + 1, hk => by
    obtain ⟨l, c, h1, h2, h3, h4⟩ := join_ge hw hb u k (by omega)
    have hbk := hb k (by omega)
    by_cases hu : u.testBit k = true
    · have e1 : oddL L u (k + 1) = oddL L u k ^^^ 2 ^ lka L k ^^^ 2 ^ lkb L k := if_pos hu
      have e2 : lcost L u (k + 1) = lcost L u k + lkw L k := if_pos hu
      rw [e1, e2]
      by_cases hab : lka L k = lkb L k
      · refine ⟨l, c, ?_, h2, h3, by omega⟩
        rw [hab, Nat.xor_assoc, Nat.xor_self, Nat.xor_zero]
        exact h1
      · obtain ⟨c', h5, h6⟩ := h3.flip2 hw.met h2 h1.1 hbk.1 hbk.2 hab
        refine ⟨_, c', (h1.flip).flip, fun x hx => ?_, h5, ?_⟩
        · rcases (flip_mem (flip_nodup h1.1)).mp hx with ⟨hx, _⟩ | ⟨hx, _⟩
          · rcases (flip_mem h1.1).mp hx with ⟨hx, _⟩ | ⟨hx, _⟩
            · exact h2 x hx
            · rw [hx]; exact hbk.1
          · rw [hx]; exact hbk.2
        · have w : Wk L (lka L k) (lkb L k) (0 + lkw L k) := .step (.refl _) (by omega) (.inl ⟨rfl, rfl⟩)
          have := (dist_ok w).2 _ w
          omega
    · have e1 : oddL L u (k + 1) = oddL L u k := if_neg hu
      have e2 : lcost L u (k + 1) = lcost L u k := if_neg hu
      rw [e1, e2]
      exact ⟨l, c, h1, h2, h3, h4⟩
/-- one link put in or taken out -/
theorem xor5 (t p q r s : Nat) : t ^^^ r ^^^ s ^^^ p ^^^ q = t ^^^ p ^^^ q ^^^ r ^^^ s := Nat.eq_of_testBit_eq fun i => by
  simp only [Nat.testBit_xor]
  cases t.testBit i <;> cases p.testBit i <;> cases q.testBit i <;> cases r.testBit i <;> cases s.testBit i <;> rfl
theorem xor2 (t r s : Nat) : t ^^^ r ^^^ s ^^^ r ^^^ s = t := Nat.eq_of_testBit_eq fun i => by
  simp only [Nat.testBit_xor]
  cases t.testBit i <;> cases r.testBit i <;> cases s.testBit i <;> rfl
theorem oddL_flip (L : Lk) (u j : Nat) : ∀ k, oddL L (u ^^^ 2 ^ j) k = if j < k then oddL L u k ^^^ 2 ^ lka L j ^^^ 2 ^ lkb L j else oddL L u k
  | 0 => by rw [if_neg (by omega)]; rfl
  | k + 1 => by
    have hb : (u ^^^ 2 ^ j).testBit k = xor (u.testBit k) (decide (j = k)) := by rw [Nat.testBit_xor, Nat.testBit_two_pow]
    have e1 : oddL L (u ^^^ 2 ^ j) (k + 1) = if (u ^^^ 2 ^ j).testBit k = true then oddL L (u ^^^ 2 ^ j) k ^^^ 2 ^ lka L k ^^^ 2 ^ lkb L k else oddL L (u ^^^ 2 ^ j) k := rfl
    have e2 : oddL L u (k + 1) = if u.testBit k = true then oddL L u k ^^^ 2 ^ lka L k ^^^ 2 ^ lkb L k else oddL L u k := rfl
    rw [e1, e2, hb, oddL_flip L u j k]
    by_cases e : j = k
    · subst e
      rw [if_neg (Nat.lt_irrefl j), if_pos (Nat.lt_succ_self j), decide_eq_true rfl]
      cases u.testBit j with
      | false => rfl
      | true => exact (xor2 _ _ _).symm
    · rw [decide_eq_false e, Bool.xor_false]
      by_cases hk : j < k
      · rw [if_pos hk, if_pos (show j < k + 1 by omega)]
        split
        · exact xor5 _ _ _ _ _
        · rfl
      · rw [if_neg hk, if_neg (show ¬ j < k + 1 by omega)]
theorem lcost_flip (L : Lk) (u j : Nat) : ∀ k, lcost L (u ^^^ 2 ^ j) k ≤ lcost L u k + (if j < k then lkw L j else 0)
  | 0 => Nat.zero_le _
  | k + 1 => by
    have hb : (u ^^^ 2 ^ j).testBit k = xor (u.testBit k) (decide (j = k)) := by rw [Nat.testBit_xor, Nat.testBit_two_pow]
    have ih := lcost_flip L u j k
    have e1 : lcost L (u ^^^ 2 ^ j) (k + 1) = if (u ^^^ 2 ^ j).testBit k = true then lcost L (u ^^^ 2 ^ j) k + lkw L k else lcost L (u ^^^ 2 ^ j) k := rfl
    have e2 : lcost L u (k + 1) = if u.testBit k = true then lcost L u k + lkw L k else lcost L u k := rfl
    rw [e1, e2, hb]
    by_cases e : j = k
    · subst e
      rw [if_neg (Nat.lt_irrefl j)] at ih
      rw [decide_eq_true rfl, if_pos (Nat.lt_succ_self j)]
      cases u.testBit j with
      | false => show lcost L (u ^^^ 2 ^ j) j + lkw L j ≤ lcost L u j + lkw L j; omega
      | true => show lcost L (u ^^^ 2 ^ j) j ≤ lcost L u j + lkw L j + lkw L j; omega
    · rw [decide_eq_false e, Bool.xor_false]
      by_cases hk : j < k
      · rw [if_pos hk] at ih
        rw [if_pos (show j < k + 1 by omega)]
        split <;> omega
      · rw [if_neg hk] at ih
        rw [if_neg (show ¬ j < k + 1 by omega)]
        split <;> omega

/-! ### bits of a set, ascending -/
def bl (x k : Nat) : List Nat := (List.range k).filter fun q => x.testBit q
theorem bl_succ (x k : Nat) : bl x (k + 1) = if x.testBit k = true then bl x k ++ [k] else bl x k := by
  unfold bl
  rw [List.range_succ, List.filter_append]
  split
  · rename_i h; rw [List.filter_cons_of_pos h, List.filter_nil]
  · rename_i h; rw [List.filter_cons_of_neg h, List.filter_nil, List.append_nil]
theorem bl_len (x k : Nat) : (bl x k).length ≤ k := by
  unfold bl
  have := List.length_filter_le (fun q => x.testBit q) (List.range k)
  rw [List.length_range] at this
  exact this
theorem bl_sorted (x k : Nat) : (bl x k).Pairwise (· < ·) := (List.pairwise_lt_range (n := k)).filter _
theorem bl_mem {x n q : Nat} (h : x < 2 ^ n) : q ∈ bl x n ↔ x.testBit q = true := by
  unfold bl
  rw [List.mem_filter, List.mem_range]
  refine ⟨fun h => h.2, fun hb => ⟨?_, hb⟩⟩
  rcases Nat.lt_or_ge q n with h1 | h1
  · exact h1
  · have := Nat.testBit_lt_two_pow (Nat.lt_of_lt_of_le h (Nat.pow_le_pow_right (by decide) h1))
    rw [this] at hb
    cases hb
theorem bl_ml {x n : Nat} (h : x < 2 ^ n) : ML (bl x n) x := ⟨(List.nodup_range).filter _, fun _ => bl_mem h⟩
theorem shr_zero {x n k : Nat} (h : x < 2 ^ n) (hk : n ≤ k) : x >>> k = 0 := by
  rw [Nat.shiftRight_eq_div_pow]
  exact Nat.div_eq_of_lt (Nat.lt_of_lt_of_le h (Nat.pow_le_pow_right (by decide) hk))
theorem bl_done {x k : Nat} (h : x >>> k = 0) : x < 2 ^ k := by
  rw [Nat.shiftRight_eq_div_pow] at h
  exact (Nat.div_eq_zero_iff_lt (Nat.two_pow_pos k)).mp h
theorem bl_eq {x n m : Nat} (h : x < 2 ^ n) (h2 : x < 2 ^ m) : bl x n = bl x m := by
  exact sorted_eq (bl_sorted x n) (bl_sorted x m) fun a => (bl_mem h).trans (bl_mem h2).symm
theorem nat_zero : ∀ z : Nat, ¬ (0 < (z : Int)) → z = 0 := fun z h => by omega
section
variable {P : Program} {w : World} {K : PySem.W.Frag} {mg : Str → Option Value} {base : Heap} {C_OddMarks C_Parted C_TooRough C_FloorError : Addr}
def spBits : Sp := fun vs H Q _ => ∃ (x n : Nat), vs = [.int x] ∧ x < 2 ^ n ∧ n ≤ 1000 ∧ ∀ p H', Same H H' → New H p → H' p = some (.lst (iv (bl x n))) → Q (.ref p) H'
theorem ok_bits {f : Addr} {fd : FuncData} (F : Fun K "bits" "bits" s_bits f fd) (gf : mg "bits" = some (.ref f)) (B : Bl mg) {C_OddMarks C_Parted C_TooRough C_FloorError : Addr} (T : Txt K mg C_OddMarks C_Parted C_TooRough C_FloorError) : Has P w K mg base CX0 1 "bits" ["mask"] spBits := by
  refine Has.mk' F gf (F.binds (ps := ["mask"]) fun _ _ _ _ _ _ us hl => match us, hl with | [_], _ => rfl) sc_bits (by walk_at "len") (fun cdv A outer s H vs Q E hr h => ?_)
  obtain ⟨x, n, rfl, hx, hn, q⟩ := h
  refine ⟨_, (pss_cons (ps_set (i := 1) sc_bits.nd rfl (.inl rfl) (pe_lst pa_nil))
 (pss_cons (ps_set (i := 2) sc_bits.nd rfl (.inl rfl) pe_int)
 (pss_cons (ps_while PassesOwn.never (pt_cmpR op_gt (pv 0) pe_int (nomark _)) (pss_cons (ps_if (pt_cmpR op_eq (pe_op op_and (pv 0) pe_int) pe_int (nomark _)) (pss_one (ps_expr (pe_bmK K (pe_bm PySem.F.plainAttrs_list PySem.F.slot_list_append PySem.F.type_list_append mt_append (pv 1) (pa_cons (pv 2) pa_nil))))) pss_nil)
 (pss_cons (ps_set (i := 0) sc_bits.nd rfl (.inl rfl) (pe_op op_shr (pv 0) pe_int))
 (pss_one (ps_aug (i := 2) sc_bits.nd rfl (.inl rfl) pe_int ip_add)))))
 (pss_one (ps_ret (pv 1)))))), ?_⟩
  walk_at "sts"
  refine w_new fun p np => ?_
  walk_at "sts"
  refine ⟨fun k σ H' => ∃ j : Nat, σ = [some (.int (x >>> j : Nat)), some (.ref p), some (.int (j : Nat))] ∧ Same H H' ∧ H' p = some (.lst (iv (bl x j))) ∧ j ≤ n ∧ k = n - j, ⟨_, 0, rfl, same_upd np, upd_same, Nat.zero_le _, rfl⟩, ?_⟩
  rintro k σ H' ⟨j, rfl, s1, l1, hj, rfl⟩
  have hsl : (iv (bl x j)).length < sizeLine := szlt (by rw [iv_len]; have := bl_len x j; omega)
  have eb : ((x >>> j : Nat) : Int) % 2 = (((x.testBit j).toNat : Nat) : Int) := by
    have := bit_nat x j
    rw [shr_nat, and_one _ (Int.natCast_nonneg _)] at this
    exact this
  have esh : ((x >>> j : Nat) : Int) / 2 ^ Int.toNat 1 = ((x >>> (j + 1) : Nat) : Int) := by
    have := shr_nat (x >>> j) 1
    rw [← Nat.shiftRight_add] at this
    exact this
  walk_at "sts"
  refine ifd (fun hc => w_wt ?_) (fun hc => ?_)
  · have hjn : j < n := by
      rcases Nat.lt_or_ge j n with h | h
      · exact h
      · have := shr_zero hx h
        rw [this] at hc
        exact absurd hc (by decide)
    walk_at "sts"
    rw [and_one _ (Int.natCast_nonneg _), eb]
    cases hb : x.testBit j with
    | true =>
      rw [show true.toNat = 1 from rfl]
      walk_at "sts"
      rw [esh]
      exact ⟨_, by omega, j + 1, rfl, s1.mut np, by rw [upd_same, bl_succ, if_pos hb, iv_app]; rfl, by omega, rfl⟩
    | false =>
      rw [show false.toNat = 0 from rfl]
      walk_at "sts"
      rw [esh]
      exact ⟨_, by omega, j + 1, rfl, s1, by rw [bl_succ, if_neg (by rw [hb]; decide)]; exact l1, by omega, rfl⟩
  · walk_at "sts"
    have := bl_done (x := x) (k := j) (nat_zero _ hc)
    rw [bl_eq this hx] at l1
    exact q p H' s1 np l1
end

/-! ### least pairings by recursion, kept in a dict -/
/-- c: the least cost of pairing the numbers of g -/
def IsM (pr : Nat → Nat → Nat) (g c : Nat) : Prop := (∃ l, ML l g ∧ PL pr l c) ∧ ∀ l c', ML l g → PL pr l c' → c ≤ c'
theorem IsM.eq {pr : Nat → Nat → Nat} {g c c' : Nat} (h : IsM pr g c) (k : IsM pr g c') : c = c' := by
  obtain ⟨l, h1, h2⟩ := h.1
  obtain ⟨l', k1, k2⟩ := k.1
  exact Nat.le_antisymm (h.2 _ _ k1 k2) (k.2 _ _ h1 h2)
/-- what the dict holds of a group: its cost and the mate of its first one -/
def SE (pr : Nat → Nat → Nat) (g c t : Nat) : Prop := IsM pr g c ∧ ∀ f l, bl g (g + 1) = f :: l → t ∈ l ∧ ∃ c', IsM pr (g ^^^ 2 ^ f ^^^ 2 ^ t) c' ∧ c = pr f t + c'
theorem lt_two_self (g : Nat) : g < 2 ^ (g + 1) := Nat.lt_of_lt_of_le (Nat.lt_two_pow_self) (Nat.pow_le_pow_right (by decide) (by omega))
theorem ml_zero {l : List Nat} (h : ML l 0) : l = [] := by
  cases l with
  | nil => rfl
  | cons a l => have := (h.2 a).mp (by simp); simp at this
theorem IsM.zero {pr : Nat → Nat → Nat} : IsM pr 0 0 := ⟨⟨[], ML.zero, .nil⟩, fun _ _ _ _ => Nat.zero_le _⟩
theorem SE.zero {pr : Nat → Nat → Nat} {t : Nat} : SE pr 0 0 t := ⟨IsM.zero, fun f l e => by
  have := ml_zero (bl_ml (x := 0) (n := 1) (by decide))
  rw [this] at e
  cases e⟩
theorem xor_cancel2 (g a b : Nat) : g ^^^ a ^^^ b ^^^ b ^^^ a = g := by
  rw [Nat.xor_assoc (g ^^^ a), Nat.xor_self, Nat.xor_zero, Nat.xor_assoc, Nat.xor_self, Nat.xor_zero]
theorem ml_drop {l : List Nat} {g a b : Nat} (h : ML (a :: b :: l) g) : ML l (g ^^^ 2 ^ a ^^^ 2 ^ b) := by
  obtain ⟨h1, h2⟩ := h
  have n1 := (List.nodup_cons.mp h1).1
  have n2 := List.nodup_cons.mp (List.nodup_cons.mp h1).2
  have hab : a ≠ b := fun e => n1 (by simp [e])
  refine ⟨n2.2, fun q => ?_⟩
  rw [Nat.testBit_xor, Nat.testBit_xor, Nat.testBit_two_pow, Nat.testBit_two_pow]
  have hq := h2 q
  rw [List.mem_cons, List.mem_cons] at hq
  by_cases e1 : a = q
  · subst e1
    have : g.testBit a = true := (h2 a).mp (by simp)
    rw [this, decide_eq_true rfl, decide_eq_false (fun z => hab z.symm)]
    constructor
    · intro h; exact absurd (by simp [h]) n1
    · intro h; simp at h
  · by_cases e2 : b = q
    · subst e2
      have : g.testBit b = true := (h2 b).mp (by simp)
      rw [this, decide_eq_true rfl, decide_eq_false hab]
      constructor
      · intro h; exact absurd h n2.1
      · intro h; simp at h
    · rw [decide_eq_false e1, decide_eq_false e2]
      simp only [Bool.xor_false]
      rw [← hq]
      constructor
      · intro h; exact .inr (.inr h)
      · rintro (h | h | h)
        · exact absurd h.symm e1
        · exact absurd h.symm e2
        · exact h
theorem ml_add {l : List Nat} {g a b : Nat} (h : ML l (g ^^^ 2 ^ a ^^^ 2 ^ b)) (hab : a ≠ b) (ha : g.testBit a = true) (hb : g.testBit b = true) : ML (a :: b :: l) g := by
  obtain ⟨h1, h2⟩ := h
  have na : a ∉ l := fun z => by
    have := (h2 a).mp z
    rw [Nat.testBit_xor, Nat.testBit_xor, Nat.testBit_two_pow, Nat.testBit_two_pow, ha, decide_eq_true rfl, decide_eq_false (fun z => hab z.symm)] at this
    exact absurd this (by decide)
  have nb : b ∉ l := fun z => by
    have := (h2 b).mp z
    rw [Nat.testBit_xor, Nat.testBit_xor, Nat.testBit_two_pow, Nat.testBit_two_pow, hb, decide_eq_true rfl, decide_eq_false hab] at this
    exact absurd this (by decide)
  refine ⟨List.nodup_cons.mpr ⟨by simp [hab, na], List.nodup_cons.mpr ⟨nb, h1⟩⟩, fun q => ?_⟩
  rw [List.mem_cons, List.mem_cons, h2 q, Nat.testBit_xor, Nat.testBit_xor, Nat.testBit_two_pow, Nat.testBit_two_pow]
  by_cases e1 : a = q
  · subst e1; simp [ha]
  · by_cases e2 : b = q
    · subst e2; simp [hb]
    · rw [decide_eq_false e1, decide_eq_false e2]
      simp [Ne.symm e1, Ne.symm e2]
theorem ml_len {l l' : List Nat} {g : Nat} (h : ML l g) (h' : ML l' g) : l.length = l'.length := (h.perm h').length_eq
/-- the recursion's step -/
theorem SE.of {pr : Nat → Nat → Nat} (hs : ∀ x y, pr x y = pr y x) {g f c t : Nat} {l : List Nat} (hl : ML (f :: l) g) (ht : t ∈ l) (hc : ∃ c', IsM pr (g ^^^ 2 ^ f ^^^ 2 ^ t) c' ∧ c = pr f t + c')
    (hmin : ∀ t' ∈ l, ∃ c'', IsM pr (g ^^^ 2 ^ f ^^^ 2 ^ t') c'' ∧ c ≤ pr f t' + c'') (hbl : bl g (g + 1) = f :: l) : SE pr g c t := by
  obtain ⟨c', hM, e⟩ := hc
  have nf := (List.nodup_cons.mp hl.1).1
  have hgf : g.testBit f = true := (hl.2 f).mp (by simp)
  have hg : ∀ t' ∈ l, g.testBit t' = true ∧ f ≠ t' := fun t' h => ⟨(hl.2 t').mp (by simp [h]), fun e => nf (e ▸ h)⟩
  refine ⟨⟨?_, fun l2 c2 m2 p2 => ?_⟩, fun f' l' e' => ?_⟩
  · obtain ⟨l1, m1, p1⟩ := hM.1
    refine ⟨f :: t :: l1, ml_add m1 (hg t ht).2 hgf (hg t ht).1, ?_⟩
    rw [e, Nat.add_comm]
    exact .cons (.refl _) p1
  · obtain ⟨x, l3, c3, q3, p3, e3⟩ := p2.mate hs ((m2.2 f).mpr hgf)
    have m3 : ML (f :: x :: l3) g := ⟨q3.nodup_iff.mp m2.1, fun q => (q3.mem_iff.symm).trans (m2.2 q)⟩
    have hx : x ∈ l := by
      have h1 : g.testBit x = true := (m3.2 x).mp (by simp)
      rcases List.mem_cons.mp ((hl.2 x).mpr h1) with h | h
      · exact absurd (by simp [h]) (List.nodup_cons.mp m3.1).1
      · exact h
    obtain ⟨c4, M4, h4⟩ := hmin x hx
    have := M4.2 l3 c3 (ml_drop m3) p3
    omega
  · rw [hbl] at e'
    cases e'
    exact ⟨ht, c', hM, e⟩
theorem xor_two_lt {g f : Nat} (hf : g.testBit f = true) : g ^^^ 2 ^ f < g := by
  have e : g ^^^ 2 ^ f = g &&& (g ^^^ 2 ^ f) := Nat.eq_of_testBit_eq fun i => by
    rw [Nat.testBit_and, Nat.testBit_xor, Nat.testBit_two_pow]
    by_cases h : f = i
    · subst h; rw [hf, decide_eq_true rfl]; rfl
    · rw [decide_eq_false h]; cases g.testBit i <;> rfl
  have hle : g ^^^ 2 ^ f ≤ g := by rw [e]; exact Nat.and_le_left
  refine Nat.lt_of_le_of_ne hle fun z => ?_
  have : (g ^^^ 2 ^ f).testBit f = g.testBit f := by rw [z]
  rw [Nat.testBit_xor, Nat.testBit_two_pow, hf, decide_eq_true rfl] at this
  exact absurd this (by decide)
theorem dec_ref_non (p : Addr) : decide (V.ref p = V.non) = false := decide_eq_false (by simp)
theorem dec_non_non : decide (V.non = V.non) = true := rfl
theorem sub_lt {g f t : Nat} (hft : f ≠ t) (hf : g.testBit f = true) (ht : g.testBit t = true) : g ^^^ 2 ^ f ^^^ 2 ^ t < g := by
  have h1 : g ^^^ 2 ^ f < g := xor_two_lt hf
  have h2 : (g ^^^ 2 ^ f).testBit t = true := by rw [Nat.testBit_xor, Nat.testBit_two_pow, ht, decide_eq_false hft]; rfl
  exact Nat.lt_trans (xor_two_lt h2) h1
section
variable {P : Program} {w : World} {K : PySem.W.Frag} {mg : Str → Option Value} {base : Heap} {C_OddMarks C_Parted C_TooRough C_FloorError : Addr}
def dMat (pr : Nat → Nat → Nat) (m : Nat) : PyData := .list ((List.range m).map fun i => dRow ((List.range m).map fun j => pr i j))
theorem dpMatAt {H : Hp} {xs : List V} {pr : Nat → Nat → Nat} {m : Nat} (h : DpAll K H xs ((List.range m).map fun i => dRow ((List.range m).map fun j => pr i j))) {i : Nat} (hi : i < m) : ∃ p, xs[i]? = some (.ref p) ∧ SqL K H p (iv ((List.range m).map fun j => pr i j)) := by
  obtain ⟨v, h1, h2⟩ := dpaGet (i := i) (d := dRow ((List.range m).map fun j => pr i j)) h (by rw [List.getElem?_map, List.getElem?_range hi]; rfl)
  obtain ⟨p, ys, rfl, _, _⟩ := dpLst h2
  exact ⟨p, h1, dpRowA h2⟩
theorem iv_map_at {f : Nat → Nat} {m j : Nat} (hj : j < m) : (iv ((List.range m).map f))[j]? = some (.int (f j : Nat)) := by
  unfold iv
  rw [List.map_map]
  exact map_at hj
theorem _root_.Sf.Holds.congr {kvs : List (Key × V)} {S : List Nat} {g g' : Nat → V} (h : Holds kvs S g) (e : ∀ x ∈ S, g x = g' x) : Holds kvs S g' := ⟨h.1, fun d => by
  rw [h.2]
  split
  · rename_i hd; rw [e d hd]
  · rfl⟩
/-- the dict of what is known -/
def KnAt (K : PySem.W.Frag) (H : Hp) (kd : Addr) (pr : Nat → Nat → Nat) (m : Nat) (S : List Nat) : Prop := ∃ (kvs : List (Key × V)) (ad cst mt : Nat → Nat), H kd = some (.dK kvs) ∧ Holds kvs S (fun x => .ref (ad x)) ∧ S.Nodup ∧ (∀ x ∈ S, x < 2 ^ m) ∧ 0 ∈ S ∧
  ∀ x ∈ S, SqT K (wo H kd) (ad x) [.int (cst x : Nat), .int (mt x : Nat)] ∧ SE pr x (cst x) (mt x) ∧ ∀ f l, bl x (x + 1) = f :: l → x ^^^ 2 ^ f ^^^ 2 ^ mt x ∈ S
theorem KnAt.mono {H H' : Hp} {kd : Addr} {pr : Nat → Nat → Nat} {m : Nat} {S : List Nat} (h : KnAt K H kd pr m S) (e : Same H H') : KnAt K H' kd pr m S := by
  obtain ⟨kvs, ad, cst, mt, h1, h2, h3, h4, h5, h6⟩ := h
  exact ⟨kvs, ad, cst, mt, e _ _ h1, h2, h3, h4, h5, fun x hx => ⟨same_read (wo_mono e) (h6 x hx).1, (h6 x hx).2⟩⟩
def spSettled (K : PySem.W.Frag) : Nat → Sp
  | 0 => fun _ _ _ _ => False
  | d + 1 => fun vs H Q _ => ∃ (pp kd : Addr) (g m : Nat) (pr : Nat → Nat → Nat) (S l : List Nat), vs = [.ref pp, .ref kd, .int g] ∧ Dp K (wo H kd) (.ref pp) (dMat pr m) ∧ KnAt K H kd pr m S ∧ ML l g ∧ (∃ d', l.length = 2 * d' ∧ d' ≤ d) ∧ g < 2 ^ m ∧ m ≤ 16 ∧ (∀ x y, pr x y = pr y x) ∧
    ∀ (p : Addr) H' S' c t, Same (wo H kd) H' → KnAt K H' kd pr m S' → (∀ x ∈ S', x ∈ S ∨ x ≤ g) → SqT K (wo H' kd) p [.int (c : Nat), .int (t : Nat)] → SE pr g c t → g ∈ S' → (∀ x ∈ S, x ∈ S') → Q (.ref p) H'
theorem rec_settled {f : Addr} {fd : FuncData} (F : Fun K "settled" "settled" s_settled f fd) (gf : mg "settled" = some (.ref f)) (B : Bl mg) (h_bits : Has P w K mg base CX0 1 "bits" ["mask"] spBits) : ∀ d : Nat, Has P w K mg base CX0 (2 + d) "settled" ["prices", "known", "group"] (spSettled K d)
  | 0 => Has.mk' (k := 1) F gf (F.binds (ps := ["prices", "known", "group"]) fun _ _ _ _ _ _ us hl => match us, hl with | [_, _, _], _ => rfl) sc_settled (fun _ _ _ _ h => h.elim) (fun _ _ _ _ _ _ _ _ _ h => h.elim)
  | d + 1 => by
    have h_settled := rec_settled F gf B h_bits d
    refine Has.mk' (k := 2 + d) F gf (F.binds (ps := ["prices", "known", "group"]) fun _ _ _ _ _ _ us hl => match us, hl with | [_, _, _], _ => rfl) sc_settled (fun vs H Q E h => by obtain ⟨_, _, _, _, _, _, _, e, _⟩ := h; subst e; rfl) (fun cdv A outer s H vs Q E hr h => ?_)
    obtain ⟨pp, kd, g, m, pr, S, l, rfl, hP, hK, hL, ⟨d', hd1, hd2⟩, hg, hm, hsy, q⟩ := h
    obtain ⟨kvs, ad, cst, mt, k1, k2, k3, k4, k5, k6⟩ := id hK
    refine ⟨_, (pss_cons (ps_if (pt_cmp (pc_din (hu_of hr) (pv 2) (pv 1))) (pss_one (ps_ret (pe_dget (hu_of hr) (pv 1) (pv 2) (fun _ _ => rfl)))) pss_nil)
 (pss_cons (ps_set (i := 3) sc_settled.nd rfl (.inl rfl) (pe_fn h_bits (hr.mono (by omega)) (by rfl) (pa_cons (pv 2) pa_nil)))
 (pss_cons (ps_set (i := 4) sc_settled.nd rfl (.inl rfl) pe_non)
 (pss_cons (ps_for PassesOwn.never rfl (pi_listK K (pe_slice (sl_listK K) (pv 3) (po_some pe_int) po_none)) (pg_name (i := 5) sc_settled.nd rfl (.inl rfl)) (pss_cons (ps_set (i := 6) sc_settled.nd rfl (.inl rfl) (pe_fn h_settled (hr.mono (by omega)) (by rfl) (pa_cons (pv 0) (pa_cons (pv 1) (pa_cons (pe_op op_xor (pe_op op_xor (pv 2) (pe_op op_shlW pe_int (pe_ix (ix_listK K) (pv 3) pe_int (fun _ _ => rfl)))) (pe_op op_shlW pe_int (pv 5))) pa_nil)))))
 (pss_cons (ps_set (i := 7) sc_settled.nd rfl (.inl rfl) (pe_op op_add (pe_ix (ix_listK K) (pe_ix (ix_listK K) (pv 0) (pe_ix (ix_listK K) (pv 3) pe_int (fun _ _ => rfl)) (fun _ _ => rfl)) (pv 5) (fun _ _ => rfl)) (pe_ix (ix_tupK K) (pv 6) pe_int (fun _ _ => rfl))))
 (pss_one (ps_if (PW.pt (pw_or (pt_cmpR op_isN (pv 4) pe_non (nomark _)) (pw_or1 (pt_cmpR op_lt (pv 7) (pe_ix (ix_tupK K) (pv 4) pe_int (fun _ _ => rfl)) (nomark _))))) (pss_one (ps_set (i := 4) sc_settled.nd rfl (.inl rfl) (pe_tup (pa_cons (pv 7) (pa_cons (pv 5) pa_nil))))) pss_nil)))))
 (pss_cons (ps_dput (hu_of hr) (pv 1) (pv 2) (pv 4) rfl)
 (pss_one (ps_ret (pv 4)))))))), ?_⟩
    walk_at "sts"
    have kv := k2.2 g
    rw [kv]
    by_cases hgS : g ∈ S
    · rw [if_pos hgS, Option.isSome_some]
      walk_at "sts"
      refine w_getI k1 (by rw [kv, if_pos hgS]) ?_
      exact q (ad g) H S (cst g) (mt g) wo_same hK (fun x hx => .inl hx) (k6 g hgS).1 (k6 g hgS).2.1 hgS fun x hx => hx
    · rw [if_neg hgS, Option.isSome_none]
      walk_at "sts"
      have hd0 : 0 < d' := by
        rcases Nat.eq_zero_or_pos d' with e | e
        · subst e
          have : l = [] := List.eq_nil_of_length_eq_zero (by omega)
          subst this
          have g0 : g = 0 := Nat.eq_of_testBit_eq fun q => by
            rw [Nat.zero_testBit]
            cases hb : g.testBit q with
            | false => rfl
            | true => exact absurd ((hL.2 q).mpr hb) (by simp)
          rw [g0] at hgS
          exact absurd k5 hgS
        · exact e
      refine ⟨g, m, rfl, hg, by omega, fun pi H1 s1 n1 l1 => ?_⟩
      have hbl := bl_ml hg
      have hlen := ml_len hbl hL
      obtain ⟨f, rs, hfr⟩ : ∃ f rs, bl g m = f :: rs := by
        cases e : bl g m with
        | nil => rw [e] at hlen; simp at hlen; omega
        | cons f rs => exact ⟨f, rs, rfl⟩
      have hbs : bl g (g + 1) = f :: rs := by rw [bl_eq (lt_two_self g) hg, hfr]
      rw [hfr] at l1 hbl hlen
      have hrl : rs.length + 1 = 2 * d' := by simp at hlen; omega
      have hfm : f < m := by
        have := (hbl.2 f).mp (by simp)
        rcases Nat.lt_or_ge f m with h1 | h1
        · exact h1
        · rw [Nat.testBit_lt_two_pow (Nat.lt_of_lt_of_le hg (Nat.pow_le_pow_right (by decide) h1))] at this; cases this
      have hK1 := hK.mono s1
      have hkp : kd ≠ pi := ne_new k1 n1
      have b1 : wo H1 kd pi = some (.lst (iv (f :: rs))) := wo_get l1 (Ne.symm hkp)
      walk_at "sts"
      refine w_new fun ps np => ?_
      have ecut : cutV (iv (f :: rs)) (some 1) none = iv rs := cutV_from (iv (f :: rs)) 1
      rw [ecut]
      have s2 := same_upd (o := .lst (iv rs)) np
      have hK2 := hK1.mono s2
      have hks : kd ≠ ps := by
        obtain ⟨kvs1, _, _, _, e, _⟩ := hK1
        exact ne_new e np
      have b2 : wo (upd H1 ps (.lst (iv rs))) kd pi = some (.lst (iv (f :: rs))) := wo_mono s2 _ _ b1
      have b3 : wo (upd H1 ps (.lst (iv rs))) kd ps = some (.lst (iv rs)) := wo_get upd_same (Ne.symm hks)
      have sA : Same (wo H kd) (wo (upd H1 ps (.lst (iv rs))) kd) := wo_mono (s1.trans s2)
      have hP2 := hP.same sA
      generalize upd H1 ps (.lst (iv rs)) = H2 at hK2 b2 b3 sA hP2 ⊢
      clear hK1 b1 l1 s1 s2 n1 np hK k1 k2 k3 k4 k5 k6 kv hP
      obtain ⟨rws, hrw, hrws⟩ := dpLstA hP2
      obtain ⟨pf, hf1, hf2⟩ := dpMatAt hrws hfm
      have hgf : g.testBit f = true := (hbl.2 f).mp (by simp)
      have nf := (List.nodup_cons.mp hbl.1).1
      have b3' := wo_same _ _ b3
      walk_at "sts"
      refine for_list (xs := iv rs) (fun j σ H' => ∃ (S2 : List Nat) (told : V) (y5 y6 y7 : Option V), σ = [some (.ref pp), some (.ref kd), some (.int (g : Nat)), some (.ref pi), some told, y5, y6, y7] ∧ Same (wo H2 kd) H' ∧ KnAt K H' kd pr m S2 ∧ (∀ x ∈ S2, x ∈ S ∨ x < g) ∧ (∀ x ∈ S, x ∈ S2) ∧ (j = 0 → told = .non) ∧
          (0 < j → ∃ pt c t, told = .ref pt ∧ SqT K (wo H' kd) pt [.int (c : Nat), .int (t : Nat)] ∧ g ^^^ 2 ^ f ^^^ 2 ^ t ∈ S2 ∧ t ∈ rs.take j ∧ (∃ c', IsM pr (g ^^^ 2 ^ f ^^^ 2 ^ t) c' ∧ c = pr f t + c') ∧ ∀ t' ∈ rs.take j, ∃ c'', IsM pr (g ^^^ 2 ^ f ^^^ 2 ^ t') c'' ∧ c ≤ pr f t' + c'')) ?_ ?_ ?_ ?_
      · exact ⟨S, .non, _, _, _, rfl, wo_same, hK2, fun x hx => .inl hx, fun x hx => hx, fun _ => rfl, fun h => absurd h (by omega)⟩
      · rintro j σ H' _ ⟨_, _, _, _, _, _, s3, _⟩
        exact SqL.of (s3 _ _ b3)
      · rintro j v σ H' hv ⟨S2, told, y5, y6, y7, rfl, s3, hK3, hS1, hS2, ht0, ht1⟩
        have hj : j < rs.length := by rw [← iv_len]; exact (List.getElem?_eq_some_iff.mp hv).1
        rw [iv_at hj] at hv
        cases hv
        rw [take_snoc hj]
        have htm : rs.getD j 0 ∈ rs := by rw [List.getD_eq_getElem?_getD, List.getElem?_eq_getElem hj]; exact List.getElem_mem hj
        generalize rs.getD j 0 = t at htm
        have hgt : g.testBit t = true := (hbl.2 t).mp (by simp [htm])
        have hft : f ≠ t := fun e => nf (e ▸ htm)
        have htm2 : t < m := by
          rcases Nat.lt_or_ge t m with h1 | h1
          · exact h1
          · rw [Nat.testBit_lt_two_pow (Nat.lt_of_lt_of_le hg (Nat.pow_le_pow_right (by decide) h1))] at hgt; cases hgt
        have hperm : (f :: rs).Perm (f :: t :: rs.erase t) := (List.perm_cons_erase htm).cons f
        have hml : ML (rs.erase t) (g ^^^ 2 ^ f ^^^ 2 ^ t) := ml_drop ⟨hperm.nodup_iff.mp hbl.1, fun q => (hperm.mem_iff.symm).trans (hbl.2 q)⟩
        have hle : (rs.erase t).length = 2 * (d' - 1) := by rw [List.length_erase_of_mem htm]; omega
        have hlt : g ^^^ 2 ^ f ^^^ 2 ^ t < g := sub_lt hft hgf hgt
        obtain ⟨d0, rfl⟩ : ∃ d0, d = d0 + 1 := ⟨d - 1, by omega⟩
        have e0 : H' pi = some (.lst (iv (f :: rs))) := s3 _ _ b2
        have e1 : atI (iv (f :: rs)) 0 = some (.int (f : Nat)) := show atI (iv (f :: rs)) ((0 : Nat) : Int) = _ from atI_nat rfl
        walk_at "sts"
        rw [shl_one, shl_one, xor_nat, xor_nat]
        have s3w : Same (wo H2 kd) (wo H' kd) := same_wo s3 wo_new
        refine ⟨pp, kd, _, m, pr, S2, _, rfl, hP2.same s3w, hK3, hml, ⟨d' - 1, hle, by omega⟩, Nat.lt_trans hlt hg, hm, hsy, fun p H4 S4 c t4 s4 hK4 hS4 hp4 hse hgi4 hS24 => ?_⟩
        have s4' : Same (wo H2 kd) H4 := s3w.trans s4
        have s4w : Same (wo H2 kd) (wo H4 kd) := same_wo s4' wo_new
        have hp4' := same_read (wo_same (H := H4) (D := kd)) hp4
        have e4 : H4 pi = some (.lst (iv (f :: rs))) := s4' _ _ b2
        have r4 := s4'.seq hrw
        have f4 := s4'.seq hf2
        have at4 := iv_map_at (f := fun j => pr f j) htm2
        walk_at "sts"
        rw [← Int.natCast_add]
        have hSa : ∀ x ∈ S4, x ∈ S ∨ x < g := fun x hx => by
          rcases hS4 x hx with h1 | h1
          · exact hS1 x h1
          · exact .inr (by omega)
        have hSb : ∀ x ∈ S, x ∈ S4 := fun x hx => hS24 x (hS2 x hx)
        have take1 : ∀ pt H5, Same H4 H5 → SqT K (wo H5 kd) pt [.int ((pr f t + c : Nat) : Int), .int (t : Nat)] → (∀ t' ∈ rs.take j, ∃ c'', IsM pr (g ^^^ 2 ^ f ^^^ 2 ^ t') c'' ∧ pr f t + c ≤ pr f t' + c'') →
            ∃ pt' c5 t5, V.ref pt = .ref pt' ∧ SqT K (wo H5 kd) pt' [.int (c5 : Nat), .int (t5 : Nat)] ∧ g ^^^ 2 ^ f ^^^ 2 ^ t5 ∈ S4 ∧ t5 ∈ rs.take j ++ [t] ∧ (∃ c', IsM pr (g ^^^ 2 ^ f ^^^ 2 ^ t5) c' ∧ c5 = pr f t5 + c') ∧ ∀ t' ∈ rs.take j ++ [t], ∃ c'', IsM pr (g ^^^ 2 ^ f ^^^ 2 ^ t') c'' ∧ c5 ≤ pr f t' + c'' := by
          intro pt H5 s5 hpt hall
          refine ⟨pt, pr f t + c, t, rfl, hpt, hgi4, by simp, ⟨c, hse.1, rfl⟩, fun t' ht' => ?_⟩
          rcases List.mem_append.mp ht' with h1 | h1
          · exact hall t' h1
          · simp at h1
            subst h1
            exact ⟨c, hse.1, Nat.le_refl _⟩
        rcases Nat.eq_zero_or_pos j with j0 | j0
        · have := ht0 j0
          subst this
          walk_at "sts"
          rw [dec_non_non]
          walk_at "sts"
          refine w_new fun pt nt => ?_
          walk_at "sts"
          have s5 := same_upd (o := .tup [.int ((pr f t + c : Nat) : Int), .int (t : Nat)]) nt
          have hkt : kd ≠ pt := by
            obtain ⟨kvs1, _, _, _, e, _⟩ := hK4
            exact ne_new e nt
          refine ⟨S4, .ref pt, _, _, _, rfl, s4'.trans s5, hK4.mono s5, hSa, hSb, fun h => absurd h (by omega), fun _ => take1 pt _ s5 (SqT.of (wo_get upd_same (Ne.symm hkt))) fun t' ht' => ?_⟩
          subst j0
          simp at ht'
        · obtain ⟨pt0, c0, t0, rfl, hp0, hg0, hm0, hc0, hall0⟩ := ht1 j0
          have hp0' : SqT K (wo H4 kd) pt0 [.int (c0 : Nat), .int (t0 : Nat)] := same_read (same_wo s4 wo_new) hp0
          have hp0'' := same_read (wo_same (H := H4) (D := kd)) hp0'
          walk_at "sts"
          rw [dec_ref_non]
          walk_at "sts"
          refine ifd (fun hc => ?_) (fun hc => ?_)
          · walk_at "sts"
            refine w_new fun pt nt => ?_
            walk_at "sts"
            have s5 := same_upd (o := .tup [.int ((pr f t + c : Nat) : Int), .int (t : Nat)]) nt
            have hkt : kd ≠ pt := by
              obtain ⟨kvs1, _, _, _, e, _⟩ := hK4
              exact ne_new e nt
            refine ⟨S4, .ref pt, _, _, _, rfl, s4'.trans s5, hK4.mono s5, hSa, hSb, fun h => absurd h (by omega), fun _ => take1 pt _ s5 (SqT.of (wo_get upd_same (Ne.symm hkt))) fun t' ht' => ?_⟩
            obtain ⟨c'', h1, h2⟩ := hall0 t' ht'
            exact ⟨c'', h1, by omega⟩
          · walk_at "sts"
            refine ⟨S4, .ref pt0, _, _, _, rfl, s4', hK4, hSa, hSb, fun h => absurd h (by omega), fun _ => ⟨pt0, c0, t0, rfl, hp0', hS24 _ hg0, by simp [hm0], hc0, fun t' ht' => ?_⟩⟩
            rcases List.mem_append.mp ht' with h1 | h1
            · exact hall0 t' h1
            · simp at h1
              subst h1
              exact ⟨c, hse.1, by omega⟩
      · rintro σ H' ⟨S2, told, y5, y6, y7, rfl, s3, hK3, hS1, hS2, ht0, ht1⟩
        rw [iv_len, List.take_length] at ht1
        obtain ⟨pt, c, t, rfl, hpt, hgt2, htm, hct, hall⟩ := ht1 (by omega)
        obtain ⟨kvs, ad, cst, mt, k1, k2, k3, k4, k5, k6⟩ := hK3
        have hse : SE pr g c t := SE.of hsy hbl htm hct hall hbs
        have hgS2 : g ∉ S2 := fun z => by
          rcases hS1 g z with h1 | h1
          · exact hgS h1
          · omega
        have hkl : kvs.length < sizeLine := by
          have a1 := k2.1
          have a2 : S2.length ≤ (List.range (2 ^ m)).length := nodup_sub_len k3 fun x hx => List.mem_range.mpr (k4 x hx)
          rw [List.length_range] at a2
          have a3 : 2 ^ m ≤ 2 ^ 16 := Nat.pow_le_pow_right (by decide) hm
          exact szlt (by omega)
        have hH : Holds (putK kvs (.inl ((g : Nat) : Int)) (.ref pt)) (S2 ++ [g]) (fun x => V.ref (upF ad g pt x)) := by
          have h0 : Holds kvs S2 (fun x => V.ref (upF ad g pt x)) := k2.congr fun x hx => by
            have hne : x ≠ g := fun e => hgS2 (e ▸ hx)
            show V.ref (ad x) = V.ref (upF ad g pt x)
            rw [upF_ne hne]
          have := h0.put g
          rw [upF_same] at this
          exact this
        walk_at "sts"
        refine q pt _ (S2 ++ [g]) c t (sA.trans (s3.mut wo_new)) ⟨_, upF ad g pt, upF cst g c, upF mt g t, upd_same, hH, ?_, fun x hx => ?_, by simp [k5], fun x hx => ?_⟩ (fun x hx => ?_) ?_ hse (by simp) fun x hx => by simp [hS2 x hx]
        · exact List.nodup_append.mpr ⟨k3, by simp, fun a ha b hb => by simp at hb; subst hb; exact fun e => hgS2 (e ▸ ha)⟩
        · rcases List.mem_append.mp hx with h1 | h1
          · exact k4 x h1
          · simp at h1; subst h1; exact hg
        · rw [wo_eq]
          by_cases e : x = g
          · subst e
            rw [upF_same, upF_same, upF_same]
            refine ⟨hpt, hse, fun f' l' e' => ?_⟩
            rw [hbs] at e'
            cases e'
            simp [hgt2]
          · rw [upF_ne e, upF_ne e, upF_ne e]
            rcases List.mem_append.mp hx with h1 | h1
            · obtain ⟨a1, a2, a3⟩ := k6 x h1
              exact ⟨a1, a2, fun f' l' e' => by simp [a3 f' l' e']⟩
            · simp at h1; exact absurd h1 e
        · rcases List.mem_append.mp hx with h1 | h1
          · rcases hS1 x h1 with h2 | h2
            · exact .inl h2
            · exact .inr (by omega)
          · simp at h1; exact .inr (by omega)
        · rw [wo_eq]; exact hpt
theorem ok_settled {f : Addr} {fd : FuncData} (F : Fun K "settled" "settled" s_settled f fd) (gf : mg "settled" = some (.ref f)) (B : Bl mg) (_ : Txt K mg C_OddMarks C_Parted C_TooRough C_FloorError) (h_bits : Has P w K mg base CX0 1 "bits" ["mask"] spBits) : Has P w K mg base CX0 10 "settled" ["prices", "known", "group"] (spSettled K 8) := rec_settled F gf B h_bits 8
end

/-! ### how many bits -/
def cnt (m : Nat) : Nat → Nat
  | 0 => 0
  | n + 1 => cnt m n + (m.testBit n).toNat
theorem cnt_congr {m k : Nat} : ∀ n, (∀ i, i < n → m.testBit i = k.testBit i) → cnt m n = cnt k n
  | 0, _ => rfl
  | n + 1, h => by
    unfold cnt
    rw [cnt_congr n fun i hi => h i (by omega), h n (by omega)]
theorem cnt_flip {m k a : Nat} : ∀ n, a < n → (∀ i, i ≠ a → m.testBit i = k.testBit i) → m.testBit a = false → k.testBit a = true → cnt k n = cnt m n + 1
  | 0, h, _, _, _ => absurd h (by omega)
  | n + 1, h, he, h0, h1 => by
    unfold cnt
    by_cases e : a = n
    · subst e
      rw [cnt_congr a fun i hi => he i (by omega), h0, h1]
      simp
    · rw [cnt_flip n (by omega) he h0 h1, he n (fun z => e z.symm)]
      omega
theorem cnt_zero : ∀ n, cnt 0 n = 0
  | 0 => rfl
  | n + 1 => by unfold cnt; rw [cnt_zero n]; simp
theorem cnt_full (N : Nat) : ∀ n, n ≤ N → cnt (2 ^ N - 1) n = n
  | 0, _ => rfl
  | n + 1, h => by
    unfold cnt
    rw [cnt_full N n (by omega), Nat.testBit_two_pow_sub_one]
    simp
    omega
/-- the least bit taken out -/
theorem low_out {m : Nat} (h : 0 < m) : ∃ a, m.testBit a = true ∧ (m &&& (m - 1)).testBit a = false ∧ (∀ i, i ≠ a → (m &&& (m - 1)).testBit i = m.testBit i) := by
  obtain ⟨a, q, e, ho⟩ : ∃ a q, m = (2 * q + 1) * 2 ^ a ∧ True := by
    induction m using Nat.strongRecOn with
    | _ m ih =>
      by_cases hm : m % 2 = 1
      · exact ⟨0, m / 2, by omega, True.intro⟩
      · obtain ⟨a, q, e, _⟩ := ih (m / 2) (by omega) (by omega)
        exact ⟨a + 1, q, by rw [Nat.pow_succ, ← Nat.mul_assoc, ← e]; omega, True.intro⟩
  have hp : 0 < 2 ^ a := Nat.two_pow_pos a
  have e1 : m = 2 ^ a * (2 * q) + 2 ^ a := by rw [e]; rw [Nat.mul_comm]; rw [Nat.mul_add, Nat.mul_one]
  have e2 : m - 1 = 2 ^ a * (2 * q) + (2 ^ a - 1) := by omega
  have b1 : ∀ i, m.testBit i = if i < a then false else (2 * q + 1).testBit (i - a) := fun i => by
    rw [e, Nat.mul_comm, Nat.testBit_two_pow_mul]
    by_cases h : i < a
    · rw [if_pos h]; simp; omega
    · rw [if_neg h]; simp; omega
  have b2 : ∀ i, (m - 1).testBit i = if i < a then true else (2 * q).testBit (i - a) := fun i => by
    rw [e2, Nat.testBit_two_pow_mul_add _ (by omega)]
    by_cases h : i < a
    · rw [if_pos h, if_pos h, Nat.testBit_two_pow_sub_one]; simp [h]
    · rw [if_neg h, if_neg h]
  refine ⟨a, ?_, ?_, fun i hi => ?_⟩
  · rw [b1, if_neg (by omega), Nat.sub_self, Nat.testBit_zero]; simp
  · rw [Nat.testBit_and, b2, if_neg (by omega), Nat.sub_self, Nat.testBit_zero]; simp
  · rw [Nat.testBit_and, b1, b2]
    by_cases h : i < a
    · rw [if_pos h]; simp
    · rw [if_neg h, if_neg h]
      obtain ⟨j, hj⟩ : ∃ j, i - a = j + 1 := ⟨i - a - 1, by omega⟩
      rw [hj, Nat.testBit_succ, Nat.testBit_succ, show (2 * q + 1) / 2 = q by omega, show 2 * q / 2 = q by omega]
      simp
theorem low_cnt {m : Nat} (h : 0 < m) (hb : m < 2 ^ 80) : cnt (m &&& (m - 1)) 80 + 1 = cnt m 80 ∧ (m &&& (m - 1)) < m := by
  obtain ⟨a, h1, h2, h3⟩ := low_out h
  have ha : a < 80 := Nat.lt_of_not_le fun z => by
    rw [Nat.testBit_lt_two_pow (Nat.lt_of_lt_of_le hb (Nat.pow_le_pow_right (by decide) z))] at h1
    cases h1
  refine ⟨(cnt_flip 80 ha (fun i hi => h3 i hi) h2 h1).symm, ?_⟩
  have := Nat.and_le_right (n := m) (m := m - 1)
  omega
theorem bl_cnt (x : Nat) : ∀ k, (bl x k).length = cnt x k
  | 0 => rfl
  | k + 1 => by
    rw [bl_succ]
    show _ = cnt x k + (x.testBit k).toNat
    cases h : x.testBit k with
    | true => simp [bl_cnt x k]
    | false => simp [bl_cnt x k]
theorem ml_cnt {l : List Nat} {x : Nat} (h : ML l x) (hx : x < 2 ^ 80) : l.length = cnt x 80 := by
  rw [ml_len h (bl_ml hx), bl_cnt]
section
variable {P : Program} {w : World} {K : PySem.W.Frag} {mg : Str → Option Value} {base : Heap} {C_OddMarks C_Parted C_TooRough C_FloorError : Addr}
def spOnes : Sp := fun vs H Q _ => ∃ m : Nat, vs = [.int m] ∧ m < 2 ^ 80 ∧ Q (.int (cnt m 80 : Nat)) H
theorem ok_ones {f : Addr} {fd : FuncData} (F : Fun K "ones" "ones" s_ones f fd) (gf : mg "ones" = some (.ref f)) (B : Bl mg) {C_OddMarks C_Parted C_TooRough C_FloorError : Addr} (T : Txt K mg C_OddMarks C_Parted C_TooRough C_FloorError) : Has P w K mg base CX0 1 "ones" ["mask"] spOnes := by
  refine Has.mk' F gf (F.binds (ps := ["mask"]) fun _ _ _ _ _ _ us hl => match us, hl with | [_], _ => rfl) sc_ones (by walk_at "len") (fun cdv A outer s H vs Q E hr h => ?_)
  obtain ⟨m, rfl, hm, q⟩ := h
  refine ⟨_, (pss_cons (ps_set (i := 1) sc_ones.nd rfl (.inl rfl) pe_int)
 (pss_cons (ps_while PassesOwn.never (pt_cmpR op_gt (pv 0) pe_int (nomark _)) (pss_cons (ps_set (i := 0) sc_ones.nd rfl (.inl rfl) (pe_op op_and (pv 0) (pe_op op_sub (pv 0) pe_int)))
 (pss_one (ps_aug (i := 1) sc_ones.nd rfl (.inl rfl) pe_int ip_add))))
 (pss_one (ps_ret (pv 1))))), ?_⟩
  walk_at "sts"
  refine ⟨fun k σ H' => ∃ c : Nat, σ = [some (.int k), some (.int c)] ∧ H' = H ∧ k < 2 ^ 80 ∧ c + cnt k 80 = cnt m 80, ⟨m, 0, rfl, rfl, hm, by omega⟩, ?_⟩
  rintro k σ H' ⟨c, rfl, rfl, hk, hc⟩
  walk_at "sts"
  refine ifd (fun h0 => w_wt ?_) (fun h0 => ?_)
  · obtain ⟨l1, l2⟩ := low_cnt (m := k) (by omega) hk
    walk_at "sts"
    rw [show (k : Int) - 1 = ((k - 1 : Nat) : Int) by omega, and_nat, show (c : Int) + 1 = ((c + 1 : Nat) : Int) by omega]
    exact ⟨_, l2, _, rfl, rfl, by omega, by omega⟩
  · walk_at "sts"
    have : k = 0 := by omega
    subst this
    rw [cnt_zero] at hc
    have : c = cnt m 80 := by omega
    subst this
    exact q
def spOddM : Sp := fun vs H Q _ => ∃ m : Nat, vs = [.int m] ∧ m < 2 ^ 80 ∧ Q (.int ((cnt m 80 : Nat) % 2)) H
theorem ok_odd {f : Addr} {fd : FuncData} (F : Fun K "odd" "odd" s_odd f fd) (gf : mg "odd" = some (.ref f)) (B : Bl mg) {C_OddMarks C_Parted C_TooRough C_FloorError : Addr} (T : Txt K mg C_OddMarks C_Parted C_TooRough C_FloorError) (h_ones : Has P w K mg base CX0 1 "ones" ["mask"] spOnes) : Has P w K mg base CX0 2 "odd" ["mask"] spOddM := by
  refine Has.mk' F gf (F.binds (ps := ["mask"]) fun _ _ _ _ _ _ us hl => match us, hl with | [_], _ => rfl) sc_odd (by walk_at "len") (fun cdv A outer s H vs Q E hr h => ?_)
  obtain ⟨m, rfl, hm, q⟩ := h
  refine ⟨_, (pss_one (ps_ret (pe_op op_and (pe_fn h_ones (hr.mono (by decide)) (by rfl) (pa_cons (pv 0) pa_nil)) pe_int))), ?_⟩
  walk_at "sts"
  refine ⟨m, rfl, hm, ?_⟩
  walk_at "sts"
  rw [and_one _ (Int.natCast_nonneg _)]
  exact q
end

/-! ### cheapest joinings -/
section
variable {P : Program} {w : World} {K : PySem.W.Frag} {mg : Str → Option Value} {base : Heap} {C_OddMarks C_Parted C_TooRough C_FloorError : Addr}
theorem w_disp {σ : L2.St} {H : Hp} {Q : VK} {trs : List (TE × TE)} (h : ∀ p, New H p → tPairs trs σ (upd H p (.dK [])) fun ps H2 => H2 p = some (.dK []) ∧ ∃ kvs : List (Key × V), ps = kvs.map (fun kv => (kV kv.1, kv.2)) ∧ kvs.length ≤ 15 ∧ Q (.ref p) (upd H2 p (.dK (mergeK [] kvs)))) : tDisp trs σ H Q := h
theorem w_pc {σ : L2.St} {H : Hp} {tk tv : TE} {r : List (TE × TE)} {R : List (V × V) → Hp → Prop} (h : tk σ H fun x H1 => tv σ H1 fun y H2 => tPairs r σ H2 fun ps H3 => R ((x, y) :: ps) H3) : tPairs ((tk, tv) :: r) σ H R := h
theorem w_pn {σ : L2.St} {H : Hp} {R : List (V × V) → Hp → Prop} (h : R [] H) : tPairs [] σ H R := h
def RoadAt (K : PySem.W.Frag) (H : Hp) (v : V) (n : Nat) (L : Lk) (s : Nat) : Prop := ∃ pt pf pu far via rk, v = .ref pt ∧ SqT K H pt [.ref pf, .ref pu] ∧ SqL K H pf (ovs far n) ∧ SqL K H pu (ovs via n) ∧ FareOk n L s far via rk
theorem RoadAt.same {H H' : Hp} {v : V} {n s : Nat} {L : Lk} (h : RoadAt K H v n L s) (e : Same H H') : RoadAt K H' v n L s := by
  obtain ⟨pt, pf, pu, far, via, rk, h0, h1, h2, h3, h4⟩ := h
  exact ⟨pt, pf, pu, far, via, rk, h0, same_read e h1, e.seq h2, e.seq h3, h4⟩
def RoadsIn (K : PySem.W.Frag) (H : Hp) (xs : List V) (n : Nat) (L : Lk) (pl : List Nat) : Prop := xs.length = pl.length ∧ ∀ (i : Nat) (v : V), xs[i]? = some v → RoadAt K H v n L (pl.getD i 0)
theorem RoadsIn.same {H H' : Hp} {xs : List V} {n : Nat} {L : Lk} {pl : List Nat} (h : RoadsIn K H xs n L pl) (e : Same H H') : RoadsIn K H' xs n L pl := ⟨h.1, fun i v hv => (h.2 i v hv).same e⟩
noncomputable def prc (L : Lk) (pl : List Nat) (i j : Nat) : Nat := dist L (pl.getD i 0) (pl.getD j 0)
theorem FareOk.all {n s : Nat} {L : Lk} {far via : Nat → Option Nat} {rk : Nat → Nat} (h : FareOk n L s far via rk) (hw : WholeL L n) (hs : s < n) {r : Nat} (hr : r < n) : far r = some (dist L s r) := by
  obtain ⟨l, hl⟩ := hw.wk2 hs hr
  obtain ⟨y, hy, _⟩ := h.le hl h.s0
  rw [hy, h.isd hy]
/-- how what can't be joined here is refused -/
def Refs (CO CP CR : Addr) (x n : Nat) (L : Lk) (H : Hp) (E : XK) : Prop := (cnt x 80 % 2 = 1 → ∀ H', Same H H' → E (.ref CO) none H') ∧ (cnt x 80 % 2 = 0 → ¬ WholeL L n → ∀ H', Same H H' → E (.ref CP) none H') ∧ (cnt x 80 % 2 = 0 → WholeL L n → 14 < cnt x 80 → ∀ H', Same H H' → E (.ref CR) none H')
theorem Refs.same {CO CP CR : Addr} {x n : Nat} {L : Lk} {H H1 : Hp} {E : XK} (h : Refs CO CP CR x n L H E) (s : Same H H1) : Refs CO CP CR x n L H1 E := ⟨fun a H' s' => h.1 a H' (s.trans s'), fun a b H' s' => h.2.1 a b H' (s.trans s'), fun a b c H' s' => h.2.2 a b c H' (s.trans s')⟩
def spCheckX (K : PySem.W.Frag) (CO CP CR : Addr) : Sp := fun vs H Q E => ∃ (p : Addr) (n x : Nat) (L : Lk), vs = [.int n, .ref p, .int x] ∧ Dp K H (.ref p) (dLks L) ∧ (∀ k, k < L.length → lka L k < n ∧ lkb L k < n) ∧ n ≤ 1000 ∧ L.length ≤ 1000 ∧ 0 < n ∧ x < 2 ^ 80 ∧ Refs CO CP CR x n L H E ∧ (cnt x 80 % 2 = 0 → cnt x 80 ≤ 14 → WholeL L n → ∀ H', Same H H' → Q .non H')
theorem ok_check_marks {f : Addr} {fd : FuncData} (F : Fun K "check_marks" "check_marks" s_check_marks f fd) (gf : mg "check_marks" = some (.ref f)) (B : Bl mg) {C_OddMarks C_Parted C_TooRough C_FloorError : Addr} (T : Txt K mg C_OddMarks C_Parted C_TooRough C_FloorError) (h_odd : Has P w K mg base CX0 2 "odd" ["mask"] spOddM) (h_whole : Has P w K mg base CX0 3 "whole" ["many", "links"] (spWholeL K)) (h_ones : Has P w K mg base CX0 1 "ones" ["mask"] spOnes) : Has P w K mg base (L2.CX P w) 4 "check_marks" ["many", "links", "marks"] (spCheckX K C_OddMarks C_Parted C_TooRough) := by
  refine Has.mkX F gf (F.binds (ps := ["many", "links", "marks"]) fun _ _ _ _ _ _ us hl => match us, hl with | [_, _, _], _ => rfl) sc_check_marks (by walk_at "len") (fun cdv A outer s H vs Q E hr h => ?_)
  obtain ⟨p, n, x, L, rfl, hL, hb, hn, hn2, hpos, hx, ⟨e1, e2, e3⟩, q⟩ := h
  refine ⟨_, (pss_cons (ps_if (pt_cmpR op_eq (pe_fn h_odd (hr.mono (by decide)) (by rfl) (pa_cons (pv 2) pa_nil)) pe_int (nomark _)) (pss_one (ps_raise rfl (takes_of rfl rfl rfl rfl) (pmk_own PySem.F.excBase_ValueError T.xn_OddMarks T.g_OddMarks T.xf_OddMarks.kp (raises_own T.xf_OddMarks.be T.xf_OddMarks.ty) (by exact rfl)))) pss_nil)
 (pss_cons (ps_if (pt_not (pt_val (pe_fn h_whole (hr.mono (by decide)) (by rfl) (pa_cons (pv 0) (pa_cons (pv 1) pa_nil))))) (pss_one (ps_raise rfl (takes_of rfl rfl rfl rfl) (pmk_own PySem.F.excBase_ValueError T.xn_Parted T.g_Parted T.xf_Parted.kp (raises_own T.xf_Parted.be T.xf_Parted.ty) (by exact rfl)))) pss_nil)
 (pss_one (ps_if (pt_cmpR op_gt (pe_fn h_ones (hr.mono (by decide)) (by rfl) (pa_cons (pv 2) pa_nil)) (pe_glob (v := .int 14) (by rfl) T.k_MOST_MARKS.choose_spec ⟨_, rfl⟩) (nomark _)) (pss_one (ps_raise rfl (takes_of rfl rfl rfl rfl) (pmk_own PySem.F.excBase_ValueError T.xn_TooRough T.g_TooRough T.xf_TooRough.kp (raises_own T.xf_TooRough.be T.xf_TooRough.ty) (by exact rfl)))) pss_nil)))), ?_⟩
  walk_at "sts"
  refine ⟨x, rfl, hx, ?_⟩
  walk_at "sts"
  refine ifd (fun ho => ?_) (fun ho => ?_)
  · walk_at "sts"
    exact e1 (by omega) H (Same.refl _)
  have he : cnt x 80 % 2 = 0 := by omega
  walk_at "sts"
  refine ⟨p, n, L, rfl, hL, hb, hn, hn2, hpos, fun b H1 far via rk s1 hF hbb => ?_⟩
  cases b with
  | false =>
    walk_at "sts"
    exact e2 he (fun hw => by have := hbb.mpr (hF.whole.mpr hw); cases this) H1 s1
  | true =>
    have hw : WholeL L n := hF.whole.mp (hbb.mp rfl)
    walk_at "sts"
    refine ⟨x, rfl, hx, ?_⟩
    walk_at "sts"
    refine ifd (fun hc => ?_) (fun hc => ?_)
    · walk_at "sts"
      exact e3 he hw (by omega) H1 s1
    · walk_at "sts"
      exact q he (by omega) hw H1 s1
def spCheckN (K : PySem.W.Frag) : Sp := fun vs H Q _ => ∃ (p : Addr) (n x : Nat) (L : Lk), vs = [.int n, .ref p, .int x] ∧ Dp K H (.ref p) (dLks L) ∧ (∀ k, k < L.length → lka L k < n ∧ lkb L k < n) ∧ n ≤ 1000 ∧ L.length ≤ 1000 ∧ 0 < n ∧ x < 2 ^ 80 ∧ cnt x 80 % 2 = 0 ∧ cnt x 80 ≤ 14 ∧ WholeL L n ∧ ∀ H', Same H H' → Q .non H'
def spPriced (K : PySem.W.Frag) : Sp := fun vs H Q _ => ∃ (pr pp : Addr) (xs : List V) (n : Nat) (L : Lk) (pl : List Nat), vs = [.ref pr, .ref pp] ∧ SqL K H pr xs ∧ RoadsIn K H xs n L pl ∧ SqL K H pp (iv pl) ∧ WholeL L n ∧ (∀ x ∈ pl, x < n) ∧ pl.length ≤ 1000 ∧
  ∀ p H', Same H H' → New H p → Dp K H' (.ref p) (dMat (prc L pl) pl.length) → Q (.ref p) H'
theorem ok_priced {f : Addr} {fd : FuncData} (F : Fun K "priced" "priced" s_priced f fd) (gf : mg "priced" = some (.ref f)) (B : Bl mg) {C_OddMarks C_Parted C_TooRough C_FloorError : Addr} (T : Txt K mg C_OddMarks C_Parted C_TooRough C_FloorError) : Has P w K mg base CX0 1 "priced" ["roads", "places"] (spPriced K) := by
  refine Has.mk' F gf (F.binds (ps := ["roads", "places"]) fun _ _ _ _ _ _ us hl => match us, hl with | [_, _], _ => rfl) sc_priced (by walk_at "len") (fun cdv A outer s H vs Q E hr h => ?_)
  obtain ⟨pr, pp, xs, n, L, pl, rfl, hR, hRs, hP, hw, hpl, hlen, q⟩ := h
  refine ⟨_, (pss_cons (ps_set (i := 2) sc_priced.nd rfl (.inl rfl) (pe_lst pa_nil))
 (pss_cons (ps_for PassesOwn.never rfl (pi_listK K (pv 0)) (pg_name (i := 3) sc_priced.nd rfl (.inr rfl)) (pss_one (ps_expr (pe_bmK K (pe_bm PySem.F.plainAttrs_list PySem.F.slot_list_append PySem.F.type_list_append mt_append (pv 2) (pa_cons (pe_lc (own := [("room", 4)]) rfl sc_priced.nd (pi_listK K (pv 1)) (blkOk_by (own := [("room", 4)]) (N := ["roads", "places", "prices", "road", "room"]) (sc := defScope s_priced) (by decide +kernel)) (fun _ _ _ _ _ => pg_name (i := 4) sc_priced.nd rfl (Or.inl rfl)) (fun _ _ _ _ _ => pts_nil) (fun _ _ _ _ _ => (pe_ix (ix_listK K) (pe_ix (ix_tupK K) (pv 3) pe_int (fun _ _ => rfl)) (pv 4) (fun _ _ => rfl)))) pa_nil))))))
 (pss_one (ps_ret (pv 2))))), ?_⟩
  walk_at "sts"
  refine w_new fun p np => ?_
  walk_at "sts"
  refine for_list (xs := xs) (fun i σ H' => ∃ (ys : List V) (G : Hp) (y3 y4 : Option V), σ = [some (.ref pr), some (.ref pp), some (.ref p), y3, y4] ∧ Same H G ∧ Same G H' ∧ New G p ∧ H' p = some (.lst ys) ∧ DpAll K G ys ((List.range i).map fun i => dRow ((List.range pl.length).map fun j => prc L pl i j))) ?_ ?_ ?_ ?_
  · exact ⟨[], H, _, _, rfl, Same.refl _, same_upd np, np, upd_same, .nil⟩
  · rintro i σ H' _ ⟨_, _, _, _, _, g1, g2, _⟩
    exact (g1.trans g2).seq hR
  · rintro i v σ H' hv ⟨ys, G, y3, y4, rfl, g1, g2, g3, l1, hD⟩
    have hi : i < pl.length := by rw [← hRs.1]; exact (List.getElem?_eq_some_iff.mp hv).1
    obtain ⟨pt, pf, pu, far, via, rk, rfl, r1, r2, r3, hF⟩ := (hRs.2 i v hv).same (g1.trans g2)
    have hP1 := (g1.trans g2).seq hP
    have hpi : pl.getD i 0 < n := hpl _ (by rw [List.getD_eq_getElem?_getD, List.getElem?_eq_getElem hi]; exact List.getElem_mem hi)
    have hyl : ys.length = i := by have := dpaLen hD; simpa using this
    walk_at "sts"
    intro D nD
    have hpD : p ≠ D := ne_new l1 nD
    refine lc_list (xs := iv pl) (fun j H2 => H2 D = some (.lst (iv ((List.range j).map fun j => prc L pl i j))) ∧ Same H' H2) ?_ ?_ ?_ ?_
    · exact ⟨upd_same, same_upd nD⟩
    · rintro j H2 _ ⟨_, s2⟩
      exact s2.seq hP1
    · rintro j w H2 hw2 ⟨d1, s2⟩
      have hj : j < pl.length := by rw [← iv_len]; exact (List.getElem?_eq_some_iff.mp hw2).1
      rw [iv_at hj] at hw2
      cases hw2
      have hpj : pl.getD j 0 < n := hpl _ (by rw [List.getD_eq_getElem?_getD, List.getElem?_eq_getElem hj]; exact List.getElem_mem hj)
      have fa := ovs_at (f := far) hpj
      rw [hF.all hw hpi hpj] at fa
      have r1' := same_read s2 r1
      have r2' := s2.seq r2
      walk_at "sts"
      refine ⟨_, d1, szlt (by rw [iv_len]; simp; omega), ?_, s2.mut nD⟩
      rw [upd_same, List.range_succ, List.map_append, iv_app]
      rfl
    · rintro H2 ⟨d1, s2⟩
      rw [iv_len] at d1
      have l2 := s2 _ _ l1
      have hsl : ys.length < sizeLine := szlt (by omega)
      walk_at "sts"
      refine ⟨ys ++ [.ref D], upd G D (.lst (iv ((List.range pl.length).map fun j => prc L pl i j))), _, _, rfl, g1.trans (same_upd (nD.of g2)), ?_, g3.upd hpD, upd_same, ?_⟩
      · refine Same.mut ?_ (g3.upd hpD)
        exact (g2.trans s2).add d1
      · rw [List.range_succ, List.map_append]
        exact dpaApp (hD.same (same_upd (nD.of g2))) (.cons (dpRow (SqL.of upd_same)) .nil)
  · rintro σ H' ⟨ys, G, y3, y4, rfl, g1, g2, g3, l1, hD⟩
    rw [hRs.1] at hD
    walk_at "sts"
    exact q p H' (g1.trans g2) np (.lst (SqL.of l1) (hD.same g2))
/-- the rooms of a set of places' numbers -/
def rmk (pl : List Nat) (g : Nat) : Nat → Nat
  | 0 => 0
  | k + 1 => if g.testBit k = true then rmk pl g k ^^^ 2 ^ pl.getD k 0 else rmk pl g k
theorem rmk_flip (pl : List Nat) (g f : Nat) : ∀ k, rmk pl (g ^^^ 2 ^ f) k = if f < k then rmk pl g k ^^^ 2 ^ pl.getD f 0 else rmk pl g k
  | 0 => by rw [if_neg (by omega)]; rfl
  | k + 1 => by
    have hb : (g ^^^ 2 ^ f).testBit k = xor (g.testBit k) (decide (f = k)) := by rw [Nat.testBit_xor, Nat.testBit_two_pow]
    have e1 : rmk pl (g ^^^ 2 ^ f) (k + 1) = if (g ^^^ 2 ^ f).testBit k = true then rmk pl (g ^^^ 2 ^ f) k ^^^ 2 ^ pl.getD k 0 else rmk pl (g ^^^ 2 ^ f) k := rfl
    have e2 : rmk pl g (k + 1) = if g.testBit k = true then rmk pl g k ^^^ 2 ^ pl.getD k 0 else rmk pl g k := rfl
    rw [e1, e2, hb, rmk_flip pl g f k]
    by_cases e : f = k
    · subst e
      rw [if_neg (Nat.lt_irrefl f), if_pos (Nat.lt_succ_self f), decide_eq_true rfl]
      cases g.testBit f with
      | false => rfl
      | true =>
        show rmk pl g f = rmk pl g f ^^^ 2 ^ pl.getD f 0 ^^^ 2 ^ pl.getD f 0
        rw [Nat.xor_assoc, Nat.xor_self, Nat.xor_zero]
    · rw [decide_eq_false e, Bool.xor_false]
      by_cases hk : f < k
      · rw [if_pos hk, if_pos (show f < k + 1 by omega)]
        split
        · rw [Nat.xor_assoc, Nat.xor_assoc, Nat.xor_comm (2 ^ pl.getD f 0)]
        · rfl
      · rw [if_neg hk, if_neg (show ¬ f < k + 1 by omega)]
theorem rmk_zero (pl : List Nat) : ∀ k, rmk pl 0 k = 0
  | 0 => rfl
  | k + 1 => by
    show (if (0 : Nat).testBit k = true then _ else rmk pl 0 k) = 0
    rw [Nat.zero_testBit, if_neg (by decide), rmk_zero pl k]
theorem rmk_full {pl : List Nat} (hn : pl.Nodup) (q : Nat) : ∀ k, k ≤ pl.length → (rmk pl (2 ^ pl.length - 1) k).testBit q = decide (q ∈ pl.take k)
  | 0, _ => by rw [List.take_zero]; show (0 : Nat).testBit q = _; rw [Nat.zero_testBit]; simp
  | k + 1, hk => by
    have e1 : rmk pl (2 ^ pl.length - 1) (k + 1) = if (2 ^ pl.length - 1).testBit k = true then rmk pl (2 ^ pl.length - 1) k ^^^ 2 ^ pl.getD k 0 else rmk pl (2 ^ pl.length - 1) k := rfl
    rw [e1, Nat.testBit_two_pow_sub_one, decide_eq_true (show k < pl.length by omega), if_pos rfl, Nat.testBit_xor, Nat.testBit_two_pow, rmk_full hn q k (by omega), take_snoc (by omega)]
    have hnk : pl.getD k 0 ∉ pl.take k := by
      have h := hn
      rw [← List.take_append_drop k pl] at h
      rw [List.getD_eq_getElem?_getD, List.getElem?_eq_getElem (by omega)]
      intro hm
      have hd : pl[k] ∈ pl.drop k := by
        exact List.mem_of_getElem? (i := 0) (by rw [List.getElem?_drop, Nat.add_zero, List.getElem?_eq_getElem (show k < pl.length by omega)])
      exact (List.nodup_append.mp h).2.2 _ hm _ hd rfl
    by_cases e : pl.getD k 0 = q
    · subst e
      rw [decide_eq_true rfl, decide_eq_false hnk]
      simp
    · rw [decide_eq_false e]
      have : decide (q ∈ pl.take k ++ [pl.getD k 0]) = decide (q ∈ pl.take k) := by
        congr 1
        exact propext ⟨fun h => by rcases List.mem_append.mp h with h | h; exact h; simp at h; exact absurd h.symm e, fun h => by simp [h]⟩
      rw [this]
      simp
theorem rmk_marks {pl : List Nat} {x : Nat} (h : ML pl x) : rmk pl (2 ^ pl.length - 1) pl.length = x := Nat.eq_of_testBit_eq fun q => by
  rw [rmk_full h.1 q _ (Nat.le_refl _), List.take_length]
  cases hb : x.testBit q with
  | true => exact decide_eq_true ((h.2 q).mpr hb)
  | false => exact decide_eq_false fun z => by rw [(h.2 q).mp z] at hb; cases hb
theorem full_ml (m : Nat) : ML (List.range m) (2 ^ m - 1) := ⟨List.nodup_range, fun q => by rw [List.mem_range, Nat.testBit_two_pow_sub_one]; simp⟩
theorem idx_of_at {r : List Nat} (h : r.Nodup) {i y : Nat} (e : r[i]? = some y) : r.idxOf y = i := by
  obtain ⟨hi, rfl⟩ := List.getElem?_eq_some_iff.mp e
  exact h.idxOf_getElem i hi
theorem oddL_zero (L : Lk) : ∀ k, oddL L 0 k = 0
  | 0 => rfl
  | k + 1 => by
    show (if (0 : Nat).testBit k = true then _ else oddL L 0 k) = 0
    rw [Nat.zero_testBit, if_neg (by decide), oddL_zero L k]
theorem lcost_zero (L : Lk) : ∀ k, lcost L 0 k = 0
  | 0 => rfl
  | k + 1 => by
    show (if (0 : Nat).testBit k = true then _ else lcost L 0 k) = 0
    rw [Nat.zero_testBit, if_neg (by decide), lcost_zero L k]
/-- no joining is cheaper than the pairing of the places' numbers -/
theorem pair_least {L : Lk} {n : Nat} (hw : WholeL L n) (hb : ∀ k, k < L.length → lka L k < n ∧ lkb L k < n) {pl : List Nat} {x c : Nat} (hpl : ML pl x) (hM : IsM (prc L pl) (2 ^ pl.length - 1) c) (U : Nat) (hU : oddL L U L.length = x) : c ≤ lcost L U L.length := by
  obtain ⟨l, c', h1, _, h3, h4⟩ := join_ge hw hb U L.length (Nat.le_refl _)
  rw [hU] at h1
  have hp := h1.perm hpl
  have h5 := h3.perm hp
  have hg : ∀ y ∈ pl, pl.getD (pl.idxOf y) 0 = y := fun y hy => by
    have hl : pl.idxOf y < pl.length := List.idxOf_lt_length_of_mem hy
    rw [List.getD_eq_getElem?_getD, List.getElem?_eq_getElem hl]
    exact List.getElem_idxOf hl
  have h6 : PL (prc L pl) (pl.map fun y => pl.idxOf y) c' := h5.map fun y hy z hz => by
    show dist L (pl.getD (pl.idxOf y) 0) (pl.getD (pl.idxOf z) 0) = dist L y z
    rw [hg y hy, hg z hz]
  have h7 : ML (pl.map fun y => pl.idxOf y) (2 ^ pl.length - 1) := by
    have : (pl.map fun y => pl.idxOf y) = List.range pl.length := by
      refine List.ext_getElem (by simp) fun i h1 h2 => ?_
      rw [List.getElem_map, List.getElem_range]
      have hi : i < pl.length := by simpa using h1
      exact idx_of_at hpl.1 (List.getElem?_eq_getElem hi)
    rw [this]
    exact full_ml _
  exact Nat.le_trans (hM.2 _ _ h7 h6) h4
def spPaired (K : PySem.W.Frag) : Sp := fun vs H Q _ => ∃ (p : Addr) (n x : Nat) (L : Lk), vs = [.int n, .ref p, .int x] ∧ Dp K H (.ref p) (dLks L) ∧ (∀ k, k < L.length → lka L k < n ∧ lkb L k < n) ∧ n ≤ 80 ∧ L.length ≤ 1000 ∧ 0 < n ∧ x < 2 ^ n ∧ cnt x 80 % 2 = 0 ∧ cnt x 80 ≤ 14 ∧ WholeL L n ∧
  ∀ pt H' c u, Same H H' → New H pt → H' pt = some (.tup [.int (c : Nat), .int (u : Nat)]) → oddL L u L.length = x → u < 2 ^ L.length → lcost L u L.length = c → (∀ U, oddL L U L.length = x → c ≤ lcost L U L.length) → Q (.ref pt) H'
def spPairedX (K : PySem.W.Frag) (CO CP CR : Addr) : Sp := fun vs H Q E => ∃ (p : Addr) (n x : Nat) (L : Lk), vs = [.int n, .ref p, .int x] ∧ Dp K H (.ref p) (dLks L) ∧ (∀ k, k < L.length → lka L k < n ∧ lkb L k < n) ∧ n ≤ 80 ∧ L.length ≤ 1000 ∧ 0 < n ∧ x < 2 ^ n ∧ Refs CO CP CR x n L H E ∧ (cnt x 80 % 2 = 0 → cnt x 80 ≤ 14 → WholeL L n →
  ∀ pt H' c u, Same H H' → New H pt → H' pt = some (.tup [.int (c : Nat), .int (u : Nat)]) → oddL L u L.length = x → u < 2 ^ L.length → lcost L u L.length = c → (∀ U, oddL L U L.length = x → c ≤ lcost L U L.length) → Q (.ref pt) H')
theorem ok_paired {f : Addr} {fd : FuncData} (F : Fun K "paired" "paired" s_paired f fd) (gf : mg "paired" = some (.ref f)) (B : Bl mg) {C_OddMarks C_Parted C_TooRough C_FloorError : Addr} (T : Txt K mg C_OddMarks C_Parted C_TooRough C_FloorError) (h_check_marks : Has P w K mg base (L2.CX P w) 4 "check_marks" ["many", "links", "marks"] (spCheckX K C_OddMarks C_Parted C_TooRough)) (h_bits : Has P w K mg base CX0 1 "bits" ["mask"] spBits) (h_priced : Has P w K mg base CX0 1 "priced" ["roads", "places"] (spPriced K)) (h_fares : Has P w K mg base CX0 2 "fares" ["many", "links", "start"] (spFares K)) (h_settled : Has P w K mg base CX0 10 "settled" ["prices", "known", "group"] (spSettled K 8)) (h_row_to : Has P w K mg base CX0 2 "row_to" ["links", "via", "room"] (spRowTo K)) : Has P w K mg base (L2.CX P w) 11 "paired" ["many", "links", "marks"] (spPairedX K C_OddMarks C_Parted C_TooRough) := by
  refine Has.mkX F gf (F.binds (ps := ["many", "links", "marks"]) fun _ _ _ _ _ _ us hl => match us, hl with | [_, _, _], _ => rfl) sc_paired (by walk_at "len") (fun cdv A outer s H vs Q E hr h => ?_)
  obtain ⟨p, n, x, L, rfl, hL, hb, hn, hn2, hpos, hx, hE, q⟩ := h
  have hx80 : x < 2 ^ 80 := Nat.lt_of_lt_of_le hx (Nat.pow_le_pow_right (by decide) hn)
  refine ⟨_, (pss_cons (ps_expr (pe_fnS (takes_of rfl rfl rfl rfl) h_check_marks (hr.mono (by decide)) (by rfl) (pa_cons (pv 0) (pa_cons (pv 1) (pa_cons (pv 2) pa_nil)))))
 (pss_cons (ps_set (i := 3) sc_paired.nd rfl (.inl rfl) (pe_fn h_bits (hr.mono (by decide)) (by rfl) (pa_cons (pv 2) pa_nil)))
 (pss_cons (ps_setLc (i := 4) (own := [("room", 13)]) rfl sc_paired.nd rfl rfl (sw_true rfl rfl rfl (by decide +kernel)) (pi_listK K (pv 3)) (blkOk_by (own := [("room", 13)]) (N := ["many", "links", "marks", "places", "roads", "prices", "known", "group", "cost", "used", "first", "mate", "number", "room"]) (sc := defScope s_paired) (by decide +kernel)) (fun _ _ _ _ _ => pg_name (i := 13) sc_paired.nd rfl (Or.inl rfl)) (fun _ _ _ _ _ => pts_nil) (fun _ _ _ _ _ => (pe_fn h_fares (hr.mono (by decide)) (by rfl) (pa_cons (pv 0) (pa_cons (pv 1) (pa_cons (pv 13) pa_nil))))))
 (pss_cons (ps_set (i := 5) sc_paired.nd rfl (.inl rfl) (pe_fn h_priced (hr.mono (by decide)) (by rfl) (pa_cons (pv 4) (pa_cons (pv 3) pa_nil))))
 (pss_cons (ps_set (i := 6) sc_paired.nd rfl (.inl rfl) (pe_disp (pps_cons pe_int (pe_tup (pa_cons pe_int (pa_cons pe_int pa_nil))) pps_nil) (by rfl) (by rfl) (fun z => by cases z) (by decide)))
 (pss_cons (ps_set (i := 7) sc_paired.nd rfl (.inl rfl) (pe_op op_sub (pe_op op_shlW pe_int (pe_callB (call_lenK K) (by rfl) B.len (by decide +kernel) (pa_cons (pv 3) pa_nil))) pe_int))
 (pss_cons (ps_set (i := 8) sc_paired.nd rfl (.inl rfl) (pe_ix (ix_tupK K) (pe_fn h_settled (hr.mono (by decide)) (by rfl) (pa_cons (pv 5) (pa_cons (pv 6) (pa_cons (pv 7) pa_nil)))) pe_int (fun _ _ => rfl)))
 (pss_cons (ps_set (i := 9) sc_paired.nd rfl (.inl rfl) pe_int)
 (pss_cons (ps_while (passes_of rfl) (pt_cmpR op_gt (pv 7) pe_int (nomark _)) (pss_cons (ps_set (i := 10) sc_paired.nd rfl (.inl rfl) (pe_ix (ix_listK K) (pe_fn h_bits (hr.mono (by decide)) (by rfl) (pa_cons (pv 7) pa_nil)) pe_int (fun _ _ => rfl)))
 (pss_cons (ps_set (i := 11) sc_paired.nd rfl (.inl rfl) (pe_ix (ix_seqK K) (pe_dget (hu_of hr) (pv 6) (pv 7) (fun _ _ => rfl)) pe_int (fun _ _ => rfl)))
 (pss_cons (ps_for (passes_of rfl) rfl (pi_listK K (pe_fn h_row_to (hr.mono (by decide)) (by rfl) (pa_cons (pv 1) (pa_cons (pe_ix (ix_tupK K) (pe_ix (ix_listK K) (pv 4) (pv 10) (fun _ _ => rfl)) pe_int (fun _ _ => rfl)) (pa_cons (pe_ix (ix_listK K) (pv 3) (pv 11) (fun _ _ => rfl)) pa_nil))))) (pg_name (i := 12) sc_paired.nd rfl (.inl rfl)) (pss_one (ps_set (i := 9) sc_paired.nd rfl (.inl rfl) (pe_op op_xor (pv 9) (pe_op op_shlW pe_int (pv 12))))))
 (pss_one (ps_set (i := 7) sc_paired.nd rfl (.inl rfl) (pe_op op_xor (pe_op op_xor (pv 7) (pe_op op_shlW pe_int (pv 10))) (pe_op op_shlW pe_int (pv 11)))))))))
 (pss_one (ps_ret (pe_tup (pa_cons (pv 8) (pa_cons (pv 9) pa_nil)))))))))))))), ?_⟩
  walk_at "sts"
  refine ⟨p, n, x, L, rfl, hL, hb, by omega, hn2, hpos, hx80, hE, fun he hc hw H1 s1 => ?_⟩
  have q := q he hc hw
  walk_at "sts"
  refine ⟨x, n, rfl, hx, by omega, fun pp H2 s2 n2 l2 => ?_⟩
  have hpl := bl_ml hx
  have hplen : (bl x n).length ≤ 14 := by rw [ml_cnt hpl hx80]; exact hc
  have hpev : (bl x n).length % 2 = 0 := by rw [ml_cnt hpl hx80]; exact he
  have hpn : ∀ y ∈ bl x n, y < n := fun y hy => by
    have := (hpl.2 y).mp hy
    rcases Nat.lt_or_ge y n with h1 | h1
    · exact h1
    · rw [Nat.testBit_lt_two_pow (Nat.lt_of_lt_of_le hx (Nat.pow_le_pow_right (by decide) h1))] at this; cases this
  generalize bl x n = pl at l2 hpl hplen hpev hpn
  have s12 := s1.trans s2
  have hL2 := hL.same s12
  walk_at "sts"
  intro D nD
  refine lc_list (xs := iv pl) (fun j H3 => ∃ xs, H3 D = some (.lst xs) ∧ Same H2 H3 ∧ xs.length = j ∧ ∀ (i : Nat) (v : V), xs[i]? = some v → RoadAt K (wo H3 D) v n L (pl.getD i 0)) ?_ ?_ ?_ ?_
  · exact ⟨[], upd_same, same_upd nD, rfl, fun i v hv => by simp at hv⟩
  · rintro j H3 _ ⟨_, _, g1, _, _⟩
    exact SqL.of (g1 _ _ l2)
  · rintro j v H3 hv ⟨xs, x1, g1, hxl, hR⟩
    have hj : j < pl.length := by rw [← iv_len]; exact (List.getElem?_eq_some_iff.mp hv).1
    rw [iv_at hj] at hv
    cases hv
    have hpj : pl.getD j 0 < n := hpn _ (by rw [List.getD_eq_getElem?_getD, List.getElem?_eq_getElem hj]; exact List.getElem_mem hj)
    walk_at "sts"
    refine ⟨p, n, _, L, rfl, hL2.same g1, hb, by omega, hn2, hpj, fun pt pf pu H4 far via rk s4 n4 nf nu hfu hpt hpf hpu hF => ?_⟩
    have x4 := s4 _ _ x1
    have d1 : D ≠ pt := ne_new x1 n4
    have d2 : D ≠ pf := ne_new x1 nf
    have d3 : D ≠ pu := ne_new x1 nu
    refine ⟨xs, x4, szlt (by omega), xs ++ [.ref pt], upd_same, (g1.trans s4).mut nD, by simp [hxl], fun i v hv => ?_⟩
    rw [wo_eq]
    rw [List.getElem?_append] at hv
    by_cases hi : i < xs.length
    · rw [if_pos hi] at hv
      exact (hR i v hv).same (wo_mono s4)
    · rw [if_neg hi] at hv
      have hi2 : i - xs.length < 1 := by
        have := (List.getElem?_eq_some_iff.mp hv).1
        simpa using this
      have : i = j := by omega
      subst this
      rw [show i - xs.length = 0 by omega] at hv
      simp at hv
      subst hv
      exact ⟨pt, pf, pu, far, via, rk, rfl, SqT.of (wo_get hpt (Ne.symm d1)), SqL.of (wo_get hpf (Ne.symm d2)), SqL.of (wo_get hpu (Ne.symm d3)), hF⟩
  rintro H3 ⟨xs, x1, g1, hxl, hR⟩
  rw [iv_len] at hxl
  have hR3 : RoadsIn K H3 xs n L pl := ⟨hxl, fun i v hv => (hR i v hv).same wo_same⟩
  have l3 := g1 _ _ l2
  clear hR
  walk_at "sts"
  refine ⟨D, pp, xs, n, L, pl, rfl, SqL.of x1, hR3, SqL.of l3, hw, hpn, by omega, fun pr H4 s4 n4 hM => ?_⟩
  have s24 := g1.trans s4
  have l4 := s4 _ _ l3
  have x4 := s4 _ _ x1
  have hR4 := hR3.same s4
  walk_at "sts"
  refine w_disp fun kd nk => ?_
  refine w_pc ?_
  walk_at "sts"
  refine w_new fun p0 n0 => ?_
  refine w_pn ?_
  have hk0 : kd ≠ p0 := ne_new (o := .dK []) upd_same n0
  refine ⟨by rw [upd_ne hk0, upd_same], [(.inl 0, .ref p0)], rfl, by show 1 ≤ 15; decide, ?_⟩
  have n0' : New H4 p0 := by rw [New, ← upd_ne (Ne.symm hk0) (H := H4) (o := .dK [])]; exact n0
  have e5 : upd (upd (upd H4 kd (.dK [])) p0 (.tup [.int 0, .int 0])) kd (.dK (mergeK [] [(.inl 0, .ref p0)])) = upd (upd H4 p0 (.tup [.int 0, .int 0])) kd (.dK [(.inl 0, .ref p0)]) := by
    funext b
    by_cases hb : b = kd
    · subst hb; rw [upd_same, upd_same]; rfl
    · rw [upd_ne hb, upd_ne hb]
      by_cases hb2 : b = p0
      · subst hb2; rw [upd_same, upd_same]
      · rw [upd_ne hb2, upd_ne hb2, upd_ne hb]
  rw [e5]
  have s5a : Same H4 (upd H4 p0 (.tup [.int 0, .int 0])) := same_upd n0'
  have nk5 : New (upd H4 p0 (.tup [.int 0, .int 0])) kd := by rw [New, upd_ne hk0]; exact nk
  have s5 : Same H4 (upd (upd H4 p0 (.tup [.int 0, .int 0])) kd (.dK [(.inl 0, .ref p0)])) := s5a.trans (same_upd nk5)
  have hKn : KnAt K (upd (upd H4 p0 (.tup [.int 0, .int 0])) kd (.dK [(.inl 0, .ref p0)])) kd (prc L pl) pl.length [0] := by
    refine ⟨[(.inl 0, .ref p0)], fun _ => p0, fun _ => 0, fun _ => 0, upd_same, (Holds.nil (g := fun _ => V.ref p0)).put 0, by simp, fun y hy => by simp at hy; subst hy; exact Nat.two_pow_pos _, by simp, fun y hy => ?_⟩
    simp at hy
    subst hy
    refine ⟨SqT.of (wo_get (by rw [upd_ne (Ne.symm hk0), upd_same]; rfl) (Ne.symm hk0)), SE.zero, fun f l e => ?_⟩
    have := ml_zero (bl_ml (x := 0) (n := 1) (by decide))
    rw [this] at e
    cases e
  have s5w : Same H4 (wo (upd (upd H4 p0 (.tup [.int 0, .int 0])) kd (.dK [(.inl 0, .ref p0)])) kd) := same_wo s5 nk
  generalize upd (upd H4 p0 (.tup [.int 0, .int 0])) kd (.dK [(.inl 0, .ref p0)]) = H5 at s5 hKn s5w ⊢
  have l5 := s5 _ _ l4
  walk_at "sts"
  rw [iv_len]
  walk_at "sts"
  rw [shl_one]
  have hfull : ((2 ^ pl.length : Nat) : Int) - 1 = ((2 ^ pl.length - 1 : Nat) : Int) := by have := Nat.two_pow_pos pl.length; omega
  rw [hfull]
  have hlt : 2 ^ pl.length - 1 < 2 ^ pl.length := by have := Nat.two_pow_pos pl.length; omega
  refine ⟨pr, kd, _, pl.length, prc L pl, [0], List.range pl.length, rfl, hM.same s5w, hKn, full_ml _, ⟨pl.length / 2, by rw [List.length_range]; omega, show pl.length / 2 ≤ 7 by omega⟩, hlt, by omega, fun x y => dist_symm _ _ _, fun pt0 H6 S c t s6 hK6 _ hpt0 hse hgS _ => ?_⟩
  have hpt0' := same_read (wo_same (H := H6) (D := kd)) hpt0
  walk_at "sts"
  have s46 : Same H4 (wo H6 kd) := s5w.trans (same_wo s6 wo_new)
  have s46' : Same H4 H6 := s46.trans wo_same
  obtain ⟨hIsM, _⟩ := id hse
  refine ⟨fun k σ H' => ∃ (g u cg : Nat) (y11 y12 y13 y14 : Option V), σ = [some (.int (n : Nat)), some (.ref p), some (.int (x : Nat)), some (.ref pp), some (.ref D), some (.ref pr), some (.ref kd), some (.int (g : Nat)), some (.int (c : Nat)), some (.int (u : Nat)), y11, y12, y13, y14] ∧ Same H6 H' ∧ g ∈ S ∧ IsM (prc L pl) g cg ∧
      oddL L u L.length = x ^^^ rmk pl g pl.length ∧ lcost L u L.length + cg ≤ c ∧ u < 2 ^ L.length ∧ k = g,
    ⟨_, _, 0, c, _, _, _, _, rfl, Same.refl _, hgS, hIsM, ?_, ?_, Nat.two_pow_pos _, rfl⟩, ?_⟩
  · rw [rmk_marks hpl, Nat.xor_self]
    exact oddL_zero L _
  · rw [lcost_zero]; omega
  rintro k σ H' ⟨g, u, cg, y11, y12, y13, y14, rfl, s7, hgS, hMg, hodd, hcost, hu, rfl⟩
  walk_at "sts"
  have hK7 := hK6.mono s7
  obtain ⟨kvs, ad, cst, mt, k1, k2, k3, k4, k5, k6⟩ := id hK7
  have hgm : k < 2 ^ pl.length := k4 k hgS
  refine ifd (fun h0 => w_wt ?_) (fun h0 => ?_)
  · walk_at "sts"
    refine ⟨k, pl.length, rfl, hgm, by omega, fun pb H8 s8 n8 l8 => ?_⟩
    have hbl := bl_ml hgm
    obtain ⟨f, rs, hfr⟩ : ∃ f rs, bl k pl.length = f :: rs := by
      cases e : bl k pl.length with
      | nil =>
        rw [e] at hbl
        have : k = 0 := Nat.eq_of_testBit_eq fun q => by
          rw [Nat.zero_testBit]
          cases hb : k.testBit q with
          | false => rfl
          | true => exact absurd ((hbl.2 q).mpr hb) (by simp)
        subst this
        exact absurd h0 (by decide)
      | cons f rs => exact ⟨f, rs, rfl⟩
    have hbs : bl k (k + 1) = f :: rs := by rw [bl_eq (lt_two_self k) hgm, hfr]
    rw [hfr] at l8 hbl
    obtain ⟨q1, q2, q3⟩ := k6 k hgS
    obtain ⟨htm, c', hM', hce⟩ := q2.2 f rs hbs
    have hrest := q3 f rs hbs
    have ecg : cg = cst k := hMg.eq q2.1
    generalize mt k = t at q1 htm hM' hce hrest
    have hgf : k.testBit f = true := (hbl.2 f).mp (by simp)
    have hgt : k.testBit t = true := (hbl.2 t).mp (by simp [htm])
    have hft : f ≠ t := fun e => (List.nodup_cons.mp hbl.1).1 (e ▸ htm)
    have blt : ∀ y, k.testBit y = true → y < pl.length := fun y hy => by
      rcases Nat.lt_or_ge y pl.length with h1 | h1
      · exact h1
      · rw [Nat.testBit_lt_two_pow (Nat.lt_of_lt_of_le hgm (Nat.pow_le_pow_right (by decide) h1))] at hy; cases hy
    have hfm := blt f hgf
    have htm2 := blt t hgt
    have hK8 := hK7.mono s8
    have e1 : atI (iv (f :: rs)) 0 = some (.int (f : Nat)) := show atI (iv (f :: rs)) ((0 : Nat) : Int) = _ from atI_nat rfl
    have q1' := same_read (wo_same (H := H') (D := kd)) q1
    have q18 := same_read s8 q1'
    walk_at "sts"
    refine w_getI (s8 _ _ k1) (by rw [k2.2, if_pos hgS]) ?_
    walk_at "sts"
    have t68 := s46'.trans (s7.trans s8)
    have x8 := t68 _ _ x4
    have l8p := t68 _ _ l4
    have hxf : f < xs.length := by rw [hxl]; exact hfm
    have exf : xs[f]? = some xs[f] := List.getElem?_eq_getElem hxf
    obtain ⟨ptr, pfr, pur, far, via, rk, evr, r1, r2, r3, hF⟩ := (hR4.same t68).2 f _ exf
    rw [evr] at exf
    have pat := iv_at htm2
    have hpf : pl.getD f 0 < n := hpn _ (by rw [List.getD_eq_getElem?_getD, List.getElem?_eq_getElem hfm]; exact List.getElem_mem hfm)
    have hpt : pl.getD t 0 < n := hpn _ (by rw [List.getD_eq_getElem?_getD, List.getElem?_eq_getElem htm2]; exact List.getElem_mem htm2)
    have hfar := hF.all hw hpf hpt
    have hrk := hF.rkl _ (by rw [hfar]; simp : far (pl.getD t 0) ≠ none)
    walk_at "sts"
    refine ⟨p, pur, L, n, _, via, rk, rfl, hL2.same (g1.trans (s4.trans t68)), r3, hF.via, hpt, by omega, by omega, fun p9 H9 ks s9 n9 h9 hR9 => ?_⟩
    obtain ⟨rs9, hW⟩ := hR9.way hF (by rw [hfar]; simp)
    walk_at "sts"
    refine for_list (xs := iv ks) (fun j σ H10 => ∃ (u' : Nat) (y13 y14 : Option V) (z : Nat), σ = [some (.int (n : Nat)), some (.ref p), some (.int (x : Nat)), some (.ref pp), some (.ref D), some (.ref pr), some (.ref kd), some (.int (k : Nat)), some (.int (c : Nat)), some (.int (u' : Nat)), some (.int (f : Nat)), some (.int (t : Nat)), y13, y14] ∧ H10 = H9 ∧
        far (rs9.getD j 0) = some z ∧ oddL L u' L.length = oddL L u L.length ^^^ 2 ^ pl.getD f 0 ^^^ 2 ^ rs9.getD j 0 ∧ lcost L u' L.length ≤ lcost L u L.length + z ∧ u' < 2 ^ L.length) ?_ ?_ ?_ ?_
    · exact ⟨u, _, _, 0, rfl, rfl, by rw [hW.fst]; exact hW.f0, by rw [hW.fst, Nat.xor_assoc, Nat.xor_self, Nat.xor_zero], Nat.le_refl _, hu⟩
    · rintro j σ H10 _ ⟨_, _, _, _, _, rfl, _⟩
      exact SqL.of h9
    · rintro j v σ H10 hv ⟨u', y13, y14, z, rfl, rfl, hz, hod, hco, hul⟩
      have hj : j < ks.length := by rw [← iv_len]; exact (List.getElem?_eq_some_iff.mp hv).1
      rw [iv_at hj] at hv
      cases hv
      obtain ⟨w1, w2, _, _, y, w5, w6⟩ := hW.step j hj
      rw [hz] at w5
      cases w5
      walk_at "sts"
      rw [shl_one, xor_nat]
      refine ⟨_, _, _, _, rfl, rfl, w6, ?_, ?_, Nat.xor_lt_two_pow hul (Nat.pow_lt_pow_right (by decide) w1)⟩
      · rw [oddL_flip, if_pos w1, hod]
        generalize rs9.getD j 0 = a at w2 ⊢
        generalize rs9.getD (j + 1) 0 = b at w2 ⊢
        rcases w2 with ⟨e1, e2⟩ | ⟨e1, e2⟩
        · rw [e1, e2, Nat.xor_assoc _ (2 ^ a) (2 ^ a), Nat.xor_self, Nat.xor_zero]
        · rw [e1, e2, Nat.xor_assoc _ (2 ^ b) (2 ^ a), Nat.xor_comm (2 ^ b), Nat.xor_assoc _ (2 ^ a), ← Nat.xor_assoc (2 ^ a), Nat.xor_self, Nat.zero_xor]
      · have := lcost_flip L u' (ks.getD j 0) L.length
        rw [if_pos w1] at this
        omega
    · rintro σ H10 ⟨u', y13, y14, z, rfl, rfl, hz, hod, hco, hul⟩
      rw [iv_len, hW.lst] at hz hod
      rw [hfar] at hz
      cases hz
      walk_at "sts"
      rw [shl_one, shl_one, xor_nat, xor_nat]
      have hpr : prc L pl f t = dist L (pl.getD f 0) (pl.getD t 0) := rfl
      refine ⟨_, sub_lt hft hgf hgt, _, u', c', _, _, _, _, rfl, (s7.trans s8).trans s9, hrest, hM', ?_, by omega, hul, rfl⟩
      rw [rmk_flip, if_pos htm2, rmk_flip, if_pos hfm, hod, hodd]
      generalize rmk pl k pl.length = R
      rw [← Nat.xor_assoc, ← Nat.xor_assoc]
  · have k0 : k = 0 := by omega
    subst k0
    walk_at "sts"
    refine w_new fun pt nt => ?_
    rw [rmk_zero, Nat.xor_zero] at hodd
    have hleast := fun U hU => pair_least hw hb hpl hIsM U hU
    have := hleast u hodd
    have sall := s12.trans (g1.trans (s4.trans (s46'.trans s7)))
    exact q pt _ c u (sall.trans (same_upd nt)) (nt.of sall) upd_same hodd hu (by omega) hleast
end

/-! ### least costs by trial -/
theorem oddL_high (L : Lk) (u j : Nat) : oddL L (u ^^^ 2 ^ j) j = oddL L u j := by rw [oddL_flip, if_neg (Nat.lt_irrefl j)]
theorem lcost_high (L : Lk) (u j : Nat) : lcost L (u ^^^ 2 ^ j) j = lcost L u j := by
  have h1 := lcost_flip L u j j
  have h2 := lcost_flip L (u ^^^ 2 ^ j) j j
  rw [Nat.xor_assoc, Nat.xor_self, Nat.xor_zero] at h2
  rw [if_neg (Nat.lt_irrefl j)] at h1 h2
  omega
/-- the same links ahead of the j-th one, that one put in or left out -/
theorem with_bit (L : Lk) (u j : Nat) (b : Bool) : ∃ u', u'.testBit j = b ∧ oddL L u' j = oddL L u j ∧ lcost L u' j = lcost L u j := by
  by_cases h : u.testBit j = b
  · exact ⟨u, h, rfl, rfl⟩
  · refine ⟨u ^^^ 2 ^ j, ?_, oddL_high L u j, lcost_high L u j⟩
    rw [Nat.testBit_xor, Nat.testBit_two_pow, decide_eq_true rfl]
    cases hu : u.testBit j <;> cases b <;> simp_all
theorem odd_in {L : Lk} {u j : Nat} (h : u.testBit j = true) : oddL L u (j + 1) = oddL L u j ^^^ (2 ^ lka L j ^^^ 2 ^ lkb L j) ∧ lcost L u (j + 1) = lcost L u j + lkw L j := by
  refine ⟨?_, if_pos h⟩
  rw [show oddL L u (j + 1) = oddL L u j ^^^ 2 ^ lka L j ^^^ 2 ^ lkb L j from if_pos h, Nat.xor_assoc]
theorem odd_out {L : Lk} {u j : Nat} (h : u.testBit j = false) : oddL L u (j + 1) = oddL L u j ∧ lcost L u (j + 1) = lcost L u j := ⟨if_neg (by rw [h]; decide), if_neg (by rw [h]; decide)⟩

/-! ### sets of links, the links in another order -/
theorem oddL_xor (L : Lk) (u v : Nat) : ∀ k, oddL L (u ^^^ v) k = oddL L u k ^^^ oddL L v k
  | 0 => (Nat.xor_self 0).symm
  | k + 1 => by
    have ih := oddL_xor L u v k
    have hb : (u ^^^ v).testBit k = xor (u.testBit k) (v.testBit k) := Nat.testBit_xor ..
    unfold oddL
    rw [hb, ih]
    refine Nat.eq_of_testBit_eq fun q => ?_
    cases u.testBit k <;> cases v.testBit k <;> simp [Nat.testBit_xor] <;> (cases (oddL L u k).testBit q <;> cases (oddL L v k).testBit q <;> cases (2 ^ lka L k).testBit q <;> cases (2 ^ lkb L k).testBit q <;> simp)
theorem oddL_lt {L : Lk} {n : Nat} (u : Nat) (h : ∀ k, k < L.length → lka L k < n ∧ lkb L k < n) : ∀ k, k ≤ L.length → oddL L u k < 2 ^ n
  | 0, _ => Nat.two_pow_pos n
  | k + 1, hk => by
    have ih := oddL_lt u h k (by omega)
    have hb := h k (by omega)
    unfold oddL
    split
    · exact Nat.xor_lt_two_pow (Nat.xor_lt_two_pow ih (Nat.pow_lt_pow_right (by decide) hb.1)) (Nat.pow_lt_pow_right (by decide) hb.2)
    · exact ih
theorem xor_swap3 (g a b : Nat) : g ^^^ a ^^^ b = g ^^^ b ^^^ a := by rw [Nat.xor_assoc, Nat.xor_comm a b, ← Nat.xor_assoc]
/-- some of the links: the ends met an odd number of times, and the cost -/
inductive SubL : Lk → Nat → Nat → Prop
  | nil : SubL [] 0 0
  | skip {l : Nat × Nat × Nat} {L : Lk} {g c : Nat} : SubL L g c → SubL (l :: L) g c
  | take {l : Nat × Nat × Nat} {L : Lk} {g c : Nat} : SubL L g c → SubL (l :: L) (g ^^^ (2 ^ l.1 ^^^ 2 ^ l.2.1)) (c + l.2.2)
theorem SubL.eq {L : Lk} {g g' c c' : Nat} (h : SubL L g c) (e : g = g') (f : c = c') : SubL L g' c' := by subst e f; exact h
theorem SubL.perm {L L' : Lk} (p : L.Perm L') : ∀ {g c : Nat}, SubL L g c → SubL L' g c := by
  induction p with
  | nil => exact fun h => h
  | cons x _ ih =>
    intro g c h
    cases h with
    | skip h => exact .skip (ih h)
    | take h => exact .take (ih h)
  | swap x y l =>
    intro g c h
    cases h with
    | skip h => cases h with
      | skip h => exact .skip (.skip h)
      | take h => exact .take (.skip h)
    | take h => cases h with
      | skip h => exact .skip (.take h)
      | take h => exact (SubL.take (SubL.take h)).eq (xor_swap3 _ _ _) (by omega)
  | trans _ _ ih1 ih2 => exact fun h => ih2 (ih1 h)
theorem oddL_app (L M : Lk) (u : Nat) : ∀ k, k ≤ L.length → oddL (L ++ M) u k = oddL L u k ∧ lcost (L ++ M) u k = lcost L u k
  | 0, _ => ⟨rfl, rfl⟩
  | k + 1, hk => by
    obtain ⟨h1, h2⟩ := oddL_app L M u k (by omega)
    have e : (L ++ M).getD k (0, 0, 0) = L.getD k (0, 0, 0) := by
      rw [List.getD_eq_getElem?_getD, List.getD_eq_getElem?_getD, List.getElem?_append_left (by omega)]
    unfold oddL lcost lka lkb lkw
    rw [e, h1, h2]
    exact ⟨rfl, rfl⟩
theorem snoc_at (L : Lk) (l : Nat × Nat × Nat) : lka (L ++ [l]) L.length = l.1 ∧ lkb (L ++ [l]) L.length = l.2.1 ∧ lkw (L ++ [l]) L.length = l.2.2 := by
  have e : (L ++ [l]).getD L.length (0, 0, 0) = l := by
    rw [List.getD_eq_getElem?_getD, List.getElem?_append_right (by omega), Nat.sub_self]
    rfl
  unfold lka lkb lkw
  rw [e]
  exact ⟨rfl, rfl, rfl⟩
theorem sub_of (u : Nat) : ∀ M : Lk, SubL M (oddL M.reverse u M.length) (lcost M.reverse u M.length)
  | [] => .nil
  | l :: M => by
    have ih := sub_of u M
    obtain ⟨a1, a2⟩ := oddL_app M.reverse [l] u M.length (by simp)
    obtain ⟨b1, b2, b3⟩ := snoc_at M.reverse l
    rw [List.length_reverse] at b1 b2 b3
    rw [List.reverse_cons, List.length_cons]
    cases hb : u.testBit M.length with
    | false =>
      obtain ⟨c1, c2⟩ := odd_out (L := M.reverse ++ [l]) hb
      rw [c1, c2, a1, a2]
      exact .skip ih
    | true =>
      obtain ⟨c1, c2⟩ := odd_in (L := M.reverse ++ [l]) hb
      rw [c1, c2, a1, a2, b1, b2, b3]
      exact .take ih
theorem of_sub {M : Lk} {g c : Nat} (h : SubL M g c) : ∃ u, oddL M.reverse u M.length = g ∧ lcost M.reverse u M.length = c := by
  induction h with
  | nil => exact ⟨0, rfl, rfl⟩
  | @skip l M g c _ ih =>
    obtain ⟨u, h1, h2⟩ := ih
    obtain ⟨a1, a2⟩ := oddL_app M.reverse [l] u M.length (by simp)
    obtain ⟨u', e1, e2, e3⟩ := with_bit (M.reverse ++ [l]) u M.length false
    obtain ⟨c1, c2⟩ := odd_out (L := M.reverse ++ [l]) e1
    exact ⟨u', by rw [List.reverse_cons, List.length_cons, c1, e2, a1, h1], by rw [List.reverse_cons, List.length_cons, c2, e3, a2, h2]⟩
  | @take l M g c _ ih =>
    obtain ⟨u, h1, h2⟩ := ih
    obtain ⟨a1, a2⟩ := oddL_app M.reverse [l] u M.length (by simp)
    obtain ⟨u', e1, e2, e3⟩ := with_bit (M.reverse ++ [l]) u M.length true
    obtain ⟨c1, c2⟩ := odd_in (L := M.reverse ++ [l]) e1
    obtain ⟨b1, b2, b3⟩ := snoc_at M.reverse l
    rw [List.length_reverse] at b1 b2 b3
    exact ⟨u', by rw [List.reverse_cons, List.length_cons, c1, e2, a1, h1, b1, b2], by rw [List.reverse_cons, List.length_cons, c2, e3, a2, h2, b3]⟩
theorem move_set {L L' : Lk} (p : L.Perm L') (u : Nat) : ∃ v, oddL L' v L'.length = oddL L u L.length ∧ lcost L' v L'.length = lcost L u L.length := by
  have h := sub_of u L.reverse
  rw [List.reverse_reverse, List.length_reverse] at h
  obtain ⟨v, h1, h2⟩ := of_sub (h.perm ((List.reverse_perm L).trans (p.trans (List.reverse_perm L').symm)))
  rw [List.reverse_reverse, List.length_reverse] at h1 h2
  exact ⟨v, h1, h2⟩
/-! ### ends in twos -/
theorem cnt_flip1 (x a : Nat) {n : Nat} (ha : a < n) : (cnt (x ^^^ 2 ^ a) n + cnt x n) % 2 = 1 := by
  have hb : ∀ i, (x ^^^ 2 ^ a).testBit i = xor (x.testBit i) (decide (a = i)) := fun i => by rw [Nat.testBit_xor, Nat.testBit_two_pow]
  have ho : ∀ i, i ≠ a → (x ^^^ 2 ^ a).testBit i = x.testBit i := fun i hi => by rw [hb i, decide_eq_false (fun e => hi e.symm)]; simp
  cases e : x.testBit a with
  | false =>
    have := cnt_flip (m := x) (k := x ^^^ 2 ^ a) n ha (fun i hi => (ho i hi).symm) e (by rw [hb a, e, decide_eq_true rfl]; rfl)
    omega
  | true =>
    have := cnt_flip (m := x ^^^ 2 ^ a) (k := x) n ha ho (by rw [hb a, e, decide_eq_true rfl]; rfl) e
    omega
theorem oddL_even {L : Lk} {n : Nat} (u : Nat) (h : ∀ k, k < L.length → lka L k < n ∧ lkb L k < n) : ∀ k, k ≤ L.length → cnt (oddL L u k) n % 2 = 0
  | 0, _ => by rw [show oddL L u 0 = 0 from rfl, cnt_zero]
  | k + 1, hk => by
    have ih := oddL_even u h k (by omega)
    have hb := h k (by omega)
    unfold oddL
    split
    · have a1 := cnt_flip1 (oddL L u k) (lka L k) hb.1
      have a2 := cnt_flip1 (oddL L u k ^^^ 2 ^ lka L k) (lkb L k) hb.2
      omega
    · exact ih
/-! ### a tree's ways -/
theorem xor_same (a b : Nat) : a ^^^ b ^^^ b = a := by rw [Nat.xor_assoc, Nat.xor_self, Nat.xor_zero]
theorem oddL_one (L : Lk) (j : Nat) (hj : j < L.length) : oddL L (2 ^ j) L.length = 2 ^ lka L j ^^^ 2 ^ lkb L j := by
  have := oddL_flip L 0 j L.length
  rw [Nat.zero_xor, if_pos hj, oddL_zero, Nat.zero_xor] at this
  exact this
/-- W r: the way from 0 to r -/
structure WaysOk (L : Lk) (n : Nat) (W : Nat → Nat) : Prop where
  zero : W 0 = 0
  step : ∀ r, 0 < r → r < n → ∃ low, low < r ∧ JL L (r - 1) r low ∧ W r = W low ||| 2 ^ (r - 1)
theorem WaysOk.lt {L : Lk} {n : Nat} {W : Nat → Nat} (h : WaysOk L n W) : ∀ m r, r ≤ m → r < n → W r < 2 ^ r := by
  intro m
  induction m with
  | zero => intro r h1 _; rw [show r = 0 by omega, h.zero]; decide
  | succ m ih =>
    intro r h1 h2
    by_cases e : r = 0
    · rw [e, h.zero]; decide
    · obtain ⟨low, l1, _, l3⟩ := h.step r (by omega) h2
      rw [l3]
      refine Nat.or_lt_two_pow (Nat.lt_of_lt_of_le (ih low (by omega) (by omega)) (Nat.pow_le_pow_right (by decide) (by omega))) (Nat.pow_lt_pow_right (by decide) (by omega))
theorem or_xor {a b : Nat} (h : a < 2 ^ b) : a ||| 2 ^ b = a ^^^ 2 ^ b := Nat.eq_of_testBit_eq fun q => by
  rw [Nat.testBit_or, Nat.testBit_xor, Nat.testBit_two_pow]
  by_cases e : b = q
  · subst e; rw [Nat.testBit_lt_two_pow h]; simp
  · rw [decide_eq_false e]; simp
theorem WaysOk.odd {L M : Lk} {n : Nat} {W f : Nat → Nat} (h : WaysOk L n W) (hl : n - 1 ≤ M.length) (hM : ∀ k a b, k < n - 1 → JL L k a b → JL M k (f a) (f b)) : ∀ m r, r ≤ m → r < n → oddL M (W r) M.length = 2 ^ f 0 ^^^ 2 ^ f r := by
  intro m
  induction m with
  | zero => intro r h1 _; rw [show r = 0 by omega, h.zero, oddL_zero, Nat.xor_self]
  | succ m ih =>
    intro r h1 h2
    by_cases e : r = 0
    · rw [e, h.zero, oddL_zero, Nat.xor_self]
    · obtain ⟨low, l1, l2, l3⟩ := h.step r (by omega) h2
      have w := Nat.lt_of_lt_of_le (h.lt low low (Nat.le_refl _) (by omega)) (Nat.pow_le_pow_right (by decide : 0 < 2) (show low ≤ r - 1 by omega))
      rw [l3, or_xor w, oddL_xor, ih low (by omega) (by omega), oddL_one M (r - 1) (by omega)]
      rcases hM _ _ _ (by omega) l2 with ⟨a, b⟩ | ⟨a, b⟩
      · rw [a, b, Nat.xor_comm (2 ^ f r), ← Nat.xor_assoc, xor_same]
      · rw [a, b, ← Nat.xor_assoc, xor_same]

/-! ### sets of links for pairings; the marks with two ends turned -/
theorem lcost_xor (L : Lk) (u v : Nat) : ∀ k, lcost L (u ^^^ v) k ≤ lcost L u k + lcost L v k
  | 0 => Nat.zero_le _
  | k + 1 => by
    have ih := lcost_xor L u v k
    have hb : (u ^^^ v).testBit k = xor (u.testBit k) (v.testBit k) := Nat.testBit_xor ..
    unfold lcost
    rw [hb]
    cases u.testBit k <;> cases v.testBit k <;> simp <;> omega
/-- the least cost of the sets of links whose odd ends are T -/
def LC (L : Lk) (T c : Nat) : Prop := (∃ U, oddL L U L.length = T ∧ lcost L U L.length = c) ∧ ∀ U, oddL L U L.length = T → c ≤ lcost L U L.length
theorem LC.eq {L : Lk} {T c c' : Nat} (h : LC L T c) (k : LC L T c') : c = c' := by
  obtain ⟨U, u1, u2⟩ := h.1
  obtain ⟨V, v1, v2⟩ := k.1
  have := h.2 V v1
  have := k.2 U u1
  omega
theorem wk_set {L : Lk} {a b l : Nat} (h : Wk L a b l) : ∃ U, oddL L U L.length = 2 ^ a ^^^ 2 ^ b ∧ lcost L U L.length ≤ l := by
  induction h with
  | refl => exact ⟨0, by rw [oddL_zero, Nat.xor_self], by rw [lcost_zero]; omega⟩
  | @step b c l k _ hk hj ih =>
    obtain ⟨U, h1, h2⟩ := ih
    refine ⟨U ^^^ 2 ^ k, ?_, ?_⟩
    · rw [oddL_flip, if_pos hk, h1]
      rcases hj with ⟨e1, e2⟩ | ⟨e1, e2⟩
      · rw [e1, e2, xor_same]
      · rw [e1, e2, Nat.xor_assoc _ (2 ^ c), Nat.xor_comm (2 ^ c), ← Nat.xor_assoc, xor_same]
    · have := lcost_flip L U k L.length
      rw [if_pos hk] at this
      omega
theorem pl_set {L : Lk} {n : Nat} (hw : WholeL L n) {l : List Nat} {c : Nat} (h : PL (dist L) l c) : (∀ x ∈ l, x < n) → ∀ {T : Nat}, ML l T → ∃ U, oddL L U L.length = T ∧ lcost L U L.length ≤ c := by
  induction h with
  | nil =>
    intro _ T hT
    refine ⟨0, ?_, by rw [lcost_zero]; omega⟩
    rw [oddL_zero]
    refine Nat.eq_of_testBit_eq fun q => ?_
    rw [Nat.zero_testBit]
    cases hb : T.testBit q with
    | false => rfl
    | true => exact absurd ((hT.2 q).mpr hb) (by simp)
  | @cons l0 l1 a b c p h' ih =>
    intro hl T hT
    have hT2 : ML (a :: b :: l1) T := ⟨p.nodup_iff.mp hT.1, fun q => (p.mem_iff.symm).trans (hT.2 q)⟩
    have ha : a < n := hl a (p.mem_iff.mpr (by simp))
    have hb : b < n := hl b (p.mem_iff.mpr (by simp))
    obtain ⟨U, u1, u2⟩ := ih (fun x hx => hl x (p.mem_iff.mpr (by simp [hx]))) (ml_drop hT2)
    obtain ⟨w, hw'⟩ := hw.wk2 ha hb
    obtain ⟨V, v1, v2⟩ := wk_set (dist_ok hw').1
    refine ⟨U ^^^ V, ?_, Nat.le_trans (lcost_xor L U V _) (by omega)⟩
    rw [oddL_xor, u1, v1, ← Nat.xor_assoc, xor2]
theorem bit_lt {x n y : Nat} (hx : x < 2 ^ n) (hy : x.testBit y = true) : y < n := by
  rcases Nat.lt_or_ge y n with h1 | h1
  · exact h1
  · rw [Nat.testBit_lt_two_pow (Nat.lt_of_lt_of_le hx (Nat.pow_le_pow_right (by decide) h1))] at hy; cases hy
theorem lc_of {L : Lk} {n : Nat} (hw : WholeL L n) (hb : ∀ k, k < L.length → lka L k < n ∧ lkb L k < n) {T c : Nat} (hT : T < 2 ^ n) (h : IsM (dist L) T c) : LC L T c := by
  have ge : ∀ U, oddL L U L.length = T → c ≤ lcost L U L.length := fun U hU => by
    obtain ⟨l, c', h1, _, h3, h4⟩ := join_ge hw hb U L.length (Nat.le_refl _)
    rw [hU] at h1
    exact Nat.le_trans (h.2 _ _ h1 h3) h4
  obtain ⟨l, m1, p1⟩ := h.1
  obtain ⟨U, u1, u2⟩ := pl_set hw p1 (fun x hx => bit_lt hT ((m1.2 x).mp hx)) m1
  have := ge U u1
  exact ⟨⟨U, u1, by omega⟩, ge⟩
/-- the numbers' pairing, said of the rooms -/
theorem rmk_bit {pl : List Nat} (hn : pl.Nodup) (g q : Nat) : ∀ k, k ≤ pl.length → ((rmk pl g k).testBit q = true ↔ ∃ i, i < k ∧ g.testBit i = true ∧ pl.getD i 0 = q)
  | 0, _ => by simp [rmk]
  | k + 1, hk => by
    have ih := rmk_bit hn g q k (by omega)
    have hne : ∀ i, i < k → pl.getD i 0 ≠ pl.getD k 0 := fun i hi e => by
      rw [List.getD_eq_getElem?_getD, List.getD_eq_getElem?_getD, List.getElem?_eq_getElem (by omega), List.getElem?_eq_getElem (by omega)] at e
      have := (List.getElem_inj hn).mp e
      omega
    have e1 : rmk pl g (k + 1) = if g.testBit k = true then rmk pl g k ^^^ 2 ^ pl.getD k 0 else rmk pl g k := rfl
    rw [e1]
    by_cases hg : g.testBit k = true
    · rw [if_pos hg, Nat.testBit_xor, Nat.testBit_two_pow]
      by_cases e : pl.getD k 0 = q
      · rw [decide_eq_true e]
        have : (rmk pl g k).testBit q = false := by
          cases hb : (rmk pl g k).testBit q with
          | false => rfl
          | true =>
            obtain ⟨i, i1, _, i3⟩ := ih.mp hb
            exact absurd (i3.trans e.symm) (hne i i1)
        rw [this]
        exact ⟨fun _ => ⟨k, by omega, hg, e⟩, fun _ => rfl⟩
      · rw [decide_eq_false e, Bool.xor_false, ih]
        constructor
        · rintro ⟨i, a, b⟩; exact ⟨i, by omega, b⟩
        · rintro ⟨i, a, b, c⟩
          have : i ≠ k := fun z => e (z ▸ c)
          exact ⟨i, by omega, b, c⟩
    · rw [if_neg hg, ih]
      constructor
      · rintro ⟨i, a, b⟩; exact ⟨i, by omega, b⟩
      · rintro ⟨i, a, b, c⟩
        have : i ≠ k := fun z => hg (z ▸ b)
        exact ⟨i, by omega, b, c⟩
theorem getD_idx {pl : List Nat} (hn : pl.Nodup) {i : Nat} (hi : i < pl.length) : pl.idxOf (pl.getD i 0) = i := by
  refine idx_of_at hn ?_
  rw [List.getD_eq_getElem?_getD, List.getElem?_eq_getElem hi]
  rfl
theorem isM_rooms {L : Lk} {pl : List Nat} (hn : pl.Nodup) {g c : Nat} (hg : g < 2 ^ pl.length) (h : IsM (prc L pl) g c) : IsM (dist L) (rmk pl g pl.length) c := by
  have hmlr : ∀ l, ML l g → ML (l.map fun i => pl.getD i 0) (rmk pl g pl.length) := fun l hl => by
    have hlt : ∀ i ∈ l, i < pl.length := fun i hi => bit_lt hg ((hl.2 i).mp hi)
    refine ⟨?_, fun q => ?_⟩
    · refine List.pairwise_map.mpr (List.Pairwise.imp_of_mem ?_ hl.1)
      intro a b ha hb hab e
      apply hab
      rw [← getD_idx hn (hlt a ha), ← getD_idx hn (hlt b hb), e]
    · rw [rmk_bit hn g q _ (Nat.le_refl _), List.mem_map]
      constructor
      · rintro ⟨i, i1, i2⟩; exact ⟨i, hlt i i1, (hl.2 i).mp i1, i2⟩
      · rintro ⟨i, _, i2, i3⟩; exact ⟨i, (hl.2 i).mpr i2, i3⟩
  refine ⟨?_, fun l c' hl hp => ?_⟩
  · obtain ⟨l, m1, p1⟩ := h.1
    exact ⟨_, hmlr l m1, p1.map fun x _ y _ => rfl⟩
  · have hin : ∀ y ∈ l, ∃ i, i < pl.length ∧ g.testBit i = true ∧ pl.getD i 0 = y := fun y hy => (rmk_bit hn g y _ (Nat.le_refl _)).mp ((hl.2 y).mp hy)
    have hgd : ∀ y ∈ l, pl.getD (pl.idxOf y) 0 = y := fun y hy => by
      obtain ⟨i, i1, _, i3⟩ := hin y hy
      rw [← i3, getD_idx hn i1]
    have h6 : PL (prc L pl) (l.map fun y => pl.idxOf y) c' := hp.map fun y hy z hz => by
      show dist L (pl.getD (pl.idxOf y) 0) (pl.getD (pl.idxOf z) 0) = dist L y z
      rw [hgd y hy, hgd z hz]
    refine h.2 _ c' ⟨?_, fun q => ?_⟩ h6
    · refine List.pairwise_map.mpr (List.Pairwise.imp_of_mem ?_ hl.1)
      intro a b ha hb hab e
      apply hab
      rw [← hgd a ha, ← hgd b hb, e]
    · rw [List.mem_map]
      constructor
      · rintro ⟨y, y1, y2⟩
        obtain ⟨i, i1, i2, i3⟩ := hin y y1
        rw [← y2, ← i3, getD_idx hn i1]
        exact i2
      · intro hq
        have hql := bit_lt hg hq
        exact ⟨pl.getD q 0, (hl.2 _).mpr ((rmk_bit hn g _ _ (Nat.le_refl _)).mpr ⟨q, hql, hq, rfl⟩), getD_idx hn hql⟩
theorem ml_cons_of {l : List Nat} {T a : Nat} (h : ML (a :: l) T) : T.testBit a = true := (h.2 a).mp (by simp)
theorem ML.drop1 {l : List Nat} {g a b : Nat} (h : ML (a :: b :: l) g) : a ≠ b := fun e => (List.nodup_cons.mp h.1).1 (by simp [e])
/-- the least cost with the root and a room turned over -/
theorem turned_least {L : Lk} {n : Nat} (hw : WholeL L n) (hb : ∀ k, k < L.length → lka L k < n ∧ lkb L k < n) {T root room low : Nat} (hT : T < 2 ^ n) (hr : T.testBit root = true) (hn : room < n)
    (h1 : ∃ m c, T.testBit m = true ∧ m ≠ root ∧ IsM (dist L) (T ^^^ 2 ^ root ^^^ 2 ^ m) c ∧ low = dist L m room + c)
    (h2 : ∀ m, T.testBit m = true → m ≠ root → ∃ c, IsM (dist L) (T ^^^ 2 ^ root ^^^ 2 ^ m) c ∧ low ≤ dist L m room + c) : LC L (T ^^^ 2 ^ root ^^^ 2 ^ room) low := by
  have hrn := bit_lt hT hr
  have hlt : ∀ m, m < n → T ^^^ 2 ^ root ^^^ 2 ^ m < 2 ^ n := fun m hm => Nat.xor_lt_two_pow (Nat.xor_lt_two_pow hT (Nat.pow_lt_pow_right (by decide) hrn)) (Nat.pow_lt_pow_right (by decide) hm)
  have ge : ∀ U, oddL L U L.length = T ^^^ 2 ^ root ^^^ 2 ^ room → low ≤ lcost L U L.length := fun U hU => by
    obtain ⟨l, c', m1, _, p1, le1⟩ := join_ge hw hb U L.length (Nat.le_refl _)
    rw [hU] at m1
    refine Nat.le_trans ?_ le1
    by_cases e : room = root
    · subst e
      rw [xor_same] at m1
      obtain ⟨x, l2, c2, q2, p2, e2⟩ := p1.mate (dist_symm L) ((m1.2 room).mpr hr)
      have m2 : ML (room :: x :: l2) T := ⟨q2.nodup_iff.mp m1.1, fun q => (q2.mem_iff.symm).trans (m1.2 q)⟩
      obtain ⟨c, i1, i2⟩ := h2 x ((m2.2 x).mp (by simp)) (Ne.symm m2.drop1)
      have := i1.2 _ _ (ml_drop m2) p2
      have := dist_symm L x room
      omega
    · by_cases ht : T.testBit room = true
      · obtain ⟨c, i1, i2⟩ := h2 room ht e
        have := i1.2 _ _ m1 p1
        have hd0 : dist L room room = 0 := (dist_ok (Wk.refl room)).eq ⟨.refl room, fun l _ => Nat.zero_le l⟩
        omega
      · have hroom : (T ^^^ 2 ^ root ^^^ 2 ^ room).testBit room = true := by
          rw [Nat.testBit_xor, Nat.testBit_xor, Nat.testBit_two_pow, Nat.testBit_two_pow, decide_eq_true rfl, decide_eq_false (fun z => e z.symm)]
          cases hq : T.testBit room with
          | true => exact absurd hq ht
          | false => rfl
        obtain ⟨x, l2, c2, q2, p2, e2⟩ := p1.mate (dist_symm L) ((m1.2 room).mpr hroom)
        have m2 : ML (room :: x :: l2) (T ^^^ 2 ^ root ^^^ 2 ^ room) := ⟨q2.nodup_iff.mp m1.1, fun q => (q2.mem_iff.symm).trans (m1.2 q)⟩
        have hx : (T ^^^ 2 ^ root ^^^ 2 ^ room).testBit x = true := (m2.2 x).mp (by simp)
        have hxr : room ≠ x := m2.drop1
        rw [Nat.testBit_xor, Nat.testBit_xor, Nat.testBit_two_pow, Nat.testBit_two_pow, decide_eq_false hxr, Bool.xor_false] at hx
        have hxo : x ≠ root := fun z => by
          subst z
          rw [hr, decide_eq_true rfl] at hx
          exact absurd hx (by decide)
        rw [decide_eq_false (fun z => hxo z.symm), Bool.xor_false] at hx
        obtain ⟨c, i1, i2⟩ := h2 x hx hxo
        have m3 := ml_drop m2
        rw [xor_same (T ^^^ 2 ^ root)] at m3
        have := i1.2 _ _ m3 p2
        have := dist_symm L x room
        omega
  obtain ⟨m, c, t1, t2, t3, t4⟩ := h1
  have hm := bit_lt hT t1
  obtain ⟨U, u1, u2⟩ := (lc_of hw hb (hlt m hm) t3).1
  obtain ⟨w, hw'⟩ := hw.wk2 hm hn
  obtain ⟨V, v1, v2⟩ := wk_set (dist_ok hw').1
  have hUV : oddL L (U ^^^ V) L.length = T ^^^ 2 ^ root ^^^ 2 ^ room := by rw [oddL_xor, u1, v1, ← Nat.xor_assoc, xor_same]
  have := ge _ hUV
  have := lcost_xor L U V L.length
  exact ⟨⟨_, hUV, by omega⟩, ge⟩

section
variable {P : Program} {w : World} {K : PySem.W.Frag} {mg : Str → Option Value} {base : Heap} {C_OddMarks C_Parted C_TooRough C_FloorError : Addr}
def spLeastT (K : PySem.W.Frag) : Sp := fun vs H Q _ => ∃ (pd pp kd : Addr) (xs : List V) (n room : Nat) (L : Lk) (pl S : List Nat), vs = [.ref pd, .ref pp, .ref kd, .int room] ∧ SqL K (wo H kd) pd xs ∧ RoadsIn K (wo H kd) xs n L pl ∧ Dp K (wo H kd) (.ref pp) (dMat (prc L pl) pl.length) ∧ KnAt K H kd (prc L pl) pl.length S ∧
  WholeL L n ∧ (∀ x ∈ pl, x < n) ∧ room < n ∧ pl.length ≤ 14 ∧ pl.length % 2 = 0 ∧ 2 ≤ pl.length ∧
  ∀ H' S' low, Same (wo H kd) (wo H' kd) → KnAt K H' kd (prc L pl) pl.length S' → (∃ j, 0 < j ∧ j < pl.length ∧ ∃ c, IsM (prc L pl) ((2 ^ pl.length - 1) ^^^ 2 ^ 0 ^^^ 2 ^ j) c ∧ low = dist L (pl.getD j 0) room + c) →
    (∀ j, 0 < j → j < pl.length → ∃ c, IsM (prc L pl) ((2 ^ pl.length - 1) ^^^ 2 ^ 0 ^^^ 2 ^ j) c ∧ low ≤ dist L (pl.getD j 0) room + c) → Q (.int (low : Nat)) H'
theorem ok_least_turned {f : Addr} {fd : FuncData} (F : Fun K "least_turned" "least_turned" s_least_turned f fd) (gf : mg "least_turned" = some (.ref f)) (B : Bl mg) {C_OddMarks C_Parted C_TooRough C_FloorError : Addr} (T : Txt K mg C_OddMarks C_Parted C_TooRough C_FloorError) (h_settled : Has P w K mg base CX0 10 "settled" ["prices", "known", "group"] (spSettled K 8)) : Has P w K mg base CX0 11 "least_turned" ["roads", "prices", "known", "room"] (spLeastT K) := by
  refine Has.mk' F gf (F.binds (ps := ["roads", "prices", "known", "room"]) fun _ _ _ _ _ _ us hl => match us, hl with | [_, _, _, _], _ => rfl) sc_least_turned (by walk_at "len") (fun cdv A outer s H vs Q E hr h => ?_)
  obtain ⟨pd, pp, kd, xs, n, room, L, pl, S, rfl, hR, hRs, hP, hK, hw, hpl, hrn, hl1, hl2, hl3, q⟩ := h
  obtain ⟨rws, hrw, hrws⟩ := dpLstA hP
  have hrl : rws.length = pl.length := by have := dpaLen hrws; simpa using this
  have hR' := wo_same (H := H) (D := kd) |>.seq hR
  have hrw' := wo_same (H := H) (D := kd) |>.seq hrw
  refine ⟨_, (pss_cons (ps_set (i := 4) sc_least_turned.nd rfl (.inl rfl) (pe_op op_sub (pe_op op_shlW pe_int (pe_callB (call_lenK K) (by rfl) B.len (by decide +kernel) (pa_cons (pv 1) pa_nil))) pe_int))
 (pss_cons (ps_set (i := 5) sc_least_turned.nd rfl (.inl rfl) pe_non)
 (pss_cons (ps_for PassesOwn.never rfl (pi_range2 (by rfl) B.range (pa_cons pe_int (pa_cons (pe_callB (call_lenK K) (by rfl) B.len (by decide +kernel) (pa_cons (pv 1) pa_nil)) pa_nil))) (pg_name (i := 6) sc_least_turned.nd rfl (.inl rfl)) (pss_cons (ps_set (i := 7) sc_least_turned.nd rfl (.inl rfl) (pe_op op_add (pe_ix (ix_listK K) (pe_ix (ix_tupK K) (pe_ix (ix_listK K) (pv 0) (pv 6) (fun _ _ => rfl)) pe_int (fun _ _ => rfl)) (pv 3) (fun _ _ => rfl)) (pe_ix (ix_tupK K) (pe_fn h_settled (hr.mono (by decide)) (by rfl) (pa_cons (pv 1) (pa_cons (pv 2) (pa_cons (pe_op op_xor (pe_op op_xor (pv 4) pe_int) (pe_op op_shlW pe_int (pv 6))) pa_nil)))) pe_int (fun _ _ => rfl))))
 (pss_one (ps_if (PW.pt (pw_or (pt_cmpR op_isN (pv 5) pe_non (nomark _)) (pw_or1 (pt_cmpR op_lt (pv 7) (pv 5) (nomark _))))) (pss_one (ps_set (i := 5) sc_least_turned.nd rfl (.inl rfl) (pv 7))) pss_nil))))
 (pss_one (ps_ret (pv 5)))))), ?_⟩
  walk_at "sts"
  rw [hrl]
  walk_at "sts"
  rw [shl_one]
  have hfull : ((2 ^ pl.length : Nat) : Int) - 1 = ((2 ^ pl.length - 1 : Nat) : Int) := by have := Nat.two_pow_pos pl.length; omega
  rw [hfull]
  have hlt : 2 ^ pl.length - 1 < 2 ^ pl.length := by have := Nat.two_pow_pos pl.length; omega
  have hfm := full_ml pl.length
  walk_at "sts"
  rw [show (((pl.length : Nat) : Int) - 1).toNat = pl.length - 1 by omega]
  refine for_range (lo := 1) (n := pl.length - 1) (fun i σ H' => ∃ (S2 : List Nat) (lv : V) (y6 y7 : Option V), σ = [some (.ref pd), some (.ref pp), some (.ref kd), some (.int (room : Nat)), some (.int ((2 ^ pl.length - 1 : Nat) : Int)), some lv, y6, y7] ∧ Same (wo H kd) (wo H' kd) ∧ KnAt K H' kd (prc L pl) pl.length S2 ∧ (i = 0 → lv = .non) ∧
    (0 < i → ∃ low : Nat, lv = .int (low : Nat) ∧ (∃ j, 0 < j ∧ j < i + 1 ∧ ∃ c, IsM (prc L pl) ((2 ^ pl.length - 1) ^^^ 2 ^ 0 ^^^ 2 ^ j) c ∧ low = dist L (pl.getD j 0) room + c) ∧
      (∀ j, 0 < j → j < i + 1 → ∃ c, IsM (prc L pl) ((2 ^ pl.length - 1) ^^^ 2 ^ 0 ^^^ 2 ^ j) c ∧ low ≤ dist L (pl.getD j 0) room + c))) ?_ ?_ ?_
  · exact ⟨S, .non, _, _, rfl, Same.refl _, hK, fun _ => rfl, fun h => absurd h (by omega)⟩
  · rintro i σ H' hi ⟨S2, lv, y6, y7, rfl, s1, hK1, h0, h1⟩
    rw [show (1 : Int) + (i : Int) = ((i + 1 : Nat) : Int) by omega]
    have hj : i + 1 < pl.length := by omega
    have hix : i + 1 < xs.length := by rw [hRs.1]; exact hj
    have ex : xs[i + 1]? = some xs[i + 1] := List.getElem?_eq_getElem hix
    have s1' : Same (wo H kd) H' := s1.trans wo_same
    obtain ⟨pt, pf, pu, far, via, rk, ev, r1, r2, r3, hF⟩ := (hRs.same s1').2 (i + 1) _ ex
    rw [ev] at ex
    have hpj : pl.getD (i + 1) 0 < n := hpl _ (by rw [List.getD_eq_getElem?_getD, List.getElem?_eq_getElem hj]; exact List.getElem_mem hj)
    have fa := ovs_at (f := far) hrn
    rw [hF.all hw hpj hrn] at fa
    have hR1 := s1'.seq hR
    have hml : ML (List.range pl.length) (2 ^ pl.length - 1) := full_ml _
    have hb0 : (2 ^ pl.length - 1).testBit 0 = true := by rw [Nat.testBit_two_pow_sub_one]; exact decide_eq_true (by omega)
    have hbj : (2 ^ pl.length - 1).testBit (i + 1) = true := by rw [Nat.testBit_two_pow_sub_one]; exact decide_eq_true hj
    have hsub := sub_lt (show 0 ≠ i + 1 by omega) hb0 hbj
    obtain ⟨l2, hl2p, hml2⟩ : ∃ l2 : List Nat, l2.length + 2 = pl.length ∧ ML l2 ((2 ^ pl.length - 1) ^^^ 2 ^ 0 ^^^ 2 ^ (i + 1)) := by
      have m0 : 0 ∈ List.range pl.length := List.mem_range.mpr (by omega)
      have p0 := List.perm_cons_erase m0
      have mj : i + 1 ∈ (List.range pl.length).erase 0 := (List.nodup_range.mem_erase_iff).mpr ⟨by omega, List.mem_range.mpr hj⟩
      have p1 := p0.trans ((List.perm_cons_erase mj).cons 0)
      have hm3 : ML (0 :: (i + 1) :: ((List.range pl.length).erase 0).erase (i + 1)) (2 ^ pl.length - 1) := ⟨p1.nodup_iff.mp hml.1, fun q => (p1.mem_iff.symm).trans (hml.2 q)⟩
      have := p1.length_eq
      exact ⟨_, by simpa using this.symm, ml_drop hm3⟩
    walk_at "sts"
    rw [shl_one, show (1 : Int) = ((2 ^ 0 : Nat) : Int) by decide, xor_nat, xor_nat]
    refine ⟨pp, kd, _, pl.length, prc L pl, S2, l2, rfl, hP.same s1, hK1, hml2, ⟨l2.length / 2, by omega, show l2.length / 2 ≤ 7 by omega⟩, by omega, by omega, fun x y => dist_symm _ _ _, fun p4 H4 S4 c t4 s4 hK4 _ hp4 hse _ _ => ?_⟩
    have s4w : Same (wo H kd) (wo H4 kd) := s1.trans (same_wo s4 wo_new)
    have hp4' := same_read (wo_same (H := H4) (D := kd)) hp4
    walk_at "sts"
    rw [← Int.natCast_add]
    have hM := hse.1
    rcases Nat.eq_zero_or_pos i with j0 | j0
    · have := h0 j0
      subst this
      subst j0
      walk_at "sts"
      rw [dec_non_non]
      walk_at "sts"
      refine ⟨S4, _, _, _, rfl, s4w, hK4, fun h => absurd h (by omega), fun _ => ⟨_, rfl, ⟨1, by omega, by omega, c, hM, rfl⟩, fun j h1 h2 => ?_⟩⟩
      have : j = 1 := by omega
      subst this
      exact ⟨c, hM, Nat.le_refl _⟩
    · obtain ⟨low, rfl, hlo, hall⟩ := h1 j0
      walk_at "sts"
      rw [dec_int_non]
      walk_at "sts"
      refine ifd (fun hc => ?_) (fun hc => ?_)
      · walk_at "sts"
        refine ⟨S4, _, _, _, rfl, s4w, hK4, fun h => absurd h (by omega), fun _ => ⟨_, rfl, ⟨i + 1, by omega, by omega, c, hM, rfl⟩, fun j h1 h2 => ?_⟩⟩
        by_cases e : j = i + 1
        · subst e
          exact ⟨c, hM, Nat.le_refl _⟩
        · obtain ⟨c', a1, a2⟩ := hall j h1 (by omega)
          exact ⟨c', a1, by omega⟩
      · walk_at "sts"
        obtain ⟨j1, b1, b2, b3⟩ := hlo
        refine ⟨S4, _, _, _, rfl, s4w, hK4, fun h => absurd h (by omega), fun _ => ⟨low, rfl, ⟨j1, b1, by omega, b3⟩, fun j h1 h2 => ?_⟩⟩
        by_cases e : j = i + 1
        · subst e
          exact ⟨c, hM, by omega⟩
        · exact hall j h1 (by omega)
  · rintro σ H' ⟨S2, lv, y6, y7, rfl, s1, hK1, h0, h1⟩
    obtain ⟨low, rfl, hlo, hall⟩ := h1 (by omega)
    walk_at "sts"
    rw [show pl.length - 1 + 1 = pl.length by omega] at hlo hall
    exact q H' S2 low s1 hK1 hlo hall
structure HtOk (L : Lk) (n T : Nat) (hts : Nat → Int) (root c0 : Nat) : Prop where
  r0 : T = 0 → root = 0
  r1 : T ≠ 0 → T.testBit root = true ∧ ∀ i, i < root → T.testBit i = false
  c : LC L T c0
  h : ∀ r, r < n → ∃ c, LC L (T ^^^ 2 ^ root ^^^ 2 ^ r) c ∧ hts r = (c0 : Int) - (c : Int)
theorem lc_zero (L : Lk) : LC L 0 0 := ⟨⟨0, oddL_zero L _, lcost_zero L _⟩, fun _ _ => Nat.zero_le _⟩
theorem lc_two {L : Lk} {n : Nat} (hw : WholeL L n) (hb : ∀ k, k < L.length → lka L k < n ∧ lkb L k < n) {a b : Nat} (ha : a < n) (hbn : b < n) : LC L (2 ^ a ^^^ 2 ^ b) (dist L a b) := by
  have hd0 : dist L a a = 0 := (dist_ok (Wk.refl a)).eq ⟨.refl a, fun l _ => Nat.zero_le l⟩
  by_cases e : a = b
  · subst e
    rw [Nat.xor_self, hd0]
    exact lc_zero L
  · refine lc_of hw hb (Nat.xor_lt_two_pow (Nat.pow_lt_pow_right (by decide) ha) (Nat.pow_lt_pow_right (by decide) hbn)) ?_
    have hm : ML [a, b] (2 ^ a ^^^ 2 ^ b) := ⟨by simp [e], fun q => by
      rw [Nat.testBit_xor, Nat.testBit_two_pow, Nat.testBit_two_pow]
      by_cases e1 : a = q
      · subst e1; simp [Ne.symm e]
      · by_cases e2 : b = q
        · subst e2; simp [e]
        · simp [e1, e2, Ne.symm e1, Ne.symm e2]⟩
    refine ⟨⟨_, hm, by have := PL.cons (d := dist L) (.refl [a, b]) .nil; rw [Nat.zero_add] at this; exact this⟩, fun l c' hl hp => ?_⟩
    have p := hl.perm hm
    obtain ⟨x, l2, c2, q2, p2, e2⟩ := (hp.perm p).mate (dist_symm L) (a := a) (by simp)
    have hlen := q2.length_eq
    have : l2 = [] := List.eq_nil_of_length_eq_zero (by simpa using hlen.symm)
    subst this
    have hx : x = b := by
      have h1 : x ∈ [a, b] := q2.mem_iff.mpr (by simp)
      have h2 : [a, x].Nodup := q2.nodup_iff.mp hm.1
      simp at h1 h2
      rcases h1 with h1 | h1
      · exact absurd h1.symm h2
      · exact h1
    subst hx
    omega
def spHeights (K : PySem.W.Frag) : Sp := fun vs H Q _ => ∃ (p : Addr) (n x : Nat) (L : Lk), vs = [.int n, .ref p, .int x] ∧ Dp K H (.ref p) (dLks L) ∧ (∀ k, k < L.length → lka L k < n ∧ lkb L k < n) ∧ n ≤ 80 ∧ L.length ≤ 1000 ∧ 0 < n ∧ x < 2 ^ n ∧ cnt x 80 % 2 = 0 ∧ cnt x 80 ≤ 14 ∧ WholeL L n ∧
  ∀ p H' hts root c0, Same H H' → New H p → H' p = some (.lst ((List.range n).map fun r => V.int (hts r))) → HtOk L n x hts root c0 → Q (.ref p) H'
def spHeightsX (K : PySem.W.Frag) (CO CP CR : Addr) : Sp := fun vs H Q E => ∃ (p : Addr) (n x : Nat) (L : Lk), vs = [.int n, .ref p, .int x] ∧ Dp K H (.ref p) (dLks L) ∧ (∀ k, k < L.length → lka L k < n ∧ lkb L k < n) ∧ n ≤ 80 ∧ L.length ≤ 1000 ∧ 0 < n ∧ x < 2 ^ n ∧ Refs CO CP CR x n L H E ∧ (cnt x 80 % 2 = 0 → cnt x 80 ≤ 14 → WholeL L n →
  ∀ p H' hts root c0, Same H H' → New H p → H' p = some (.lst ((List.range n).map fun r => V.int (hts r))) → HtOk L n x hts root c0 → Q (.ref p) H')
theorem ok_heights {f : Addr} {fd : FuncData} (F : Fun K "heights" "heights" s_heights f fd) (gf : mg "heights" = some (.ref f)) (B : Bl mg) {C_OddMarks C_Parted C_TooRough C_FloorError : Addr} (T : Txt K mg C_OddMarks C_Parted C_TooRough C_FloorError) (h_check_marks : Has P w K mg base (L2.CX P w) 4 "check_marks" ["many", "links", "marks"] (spCheckX K C_OddMarks C_Parted C_TooRough)) (h_bits : Has P w K mg base CX0 1 "bits" ["mask"] spBits) (h_priced : Has P w K mg base CX0 1 "priced" ["roads", "places"] (spPriced K)) (h_fares : Has P w K mg base CX0 2 "fares" ["many", "links", "start"] (spFares K)) (h_settled : Has P w K mg base CX0 10 "settled" ["prices", "known", "group"] (spSettled K 8)) (h_least_turned : Has P w K mg base CX0 11 "least_turned" ["roads", "prices", "known", "room"] (spLeastT K)) : Has P w K mg base (L2.CX P w) 12 "heights" ["many", "links", "marks"] (spHeightsX K C_OddMarks C_Parted C_TooRough) := by
  refine Has.mkX F gf (F.binds (ps := ["many", "links", "marks"]) fun _ _ _ _ _ _ us hl => match us, hl with | [_, _, _], _ => rfl) sc_heights (by walk_at "len") (fun cdv A outer s H vs Q E hr h => ?_)
  obtain ⟨p, n, x, L, rfl, hL, hb, hn, hn2, hpos, hx, hE, q⟩ := h
  have hx80 : x < 2 ^ 80 := Nat.lt_of_lt_of_le hx (Nat.pow_le_pow_right (by decide) hn)
  refine ⟨_, (pss_cons (ps_expr (pe_fnS (takes_of rfl rfl rfl rfl) h_check_marks (hr.mono (by decide)) (by rfl) (pa_cons (pv 0) (pa_cons (pv 1) (pa_cons (pv 2) pa_nil)))))
 (pss_cons (ps_if (pt_cmpR op_eq (pv 2) pe_int (nomark _)) (pss_one (ps_ret (pe_lc (own := [("far", 9)]) rfl sc_heights.nd (pi_listK K (pe_ix (ix_tupK K) (pe_fn h_fares (hr.mono (by decide)) (by rfl) (pa_cons (pv 0) (pa_cons (pv 1) (pa_cons pe_int pa_nil)))) pe_int (fun _ _ => rfl))) (blkOk_by (own := [("far", 9)]) (N := ["many", "links", "marks", "places", "roads", "prices", "known", "cost", "room", "far"]) (sc := defScope s_heights) (by decide +kernel)) (fun _ _ _ _ _ => pg_name (i := 9) sc_heights.nd rfl (Or.inl rfl)) (fun _ _ _ _ _ => pts_nil) (fun _ _ _ _ _ => (pe_un un_neg (pv 9)))))) pss_nil)
 (pss_cons (ps_set (i := 3) sc_heights.nd rfl (.inl rfl) (pe_fn h_bits (hr.mono (by decide)) (by rfl) (pa_cons (pv 2) pa_nil)))
 (pss_cons (ps_set (i := 4) sc_heights.nd rfl (.inr rfl) (pe_lc (own := [("room", 8)]) rfl sc_heights.nd (pi_listK K (pv 3)) (blkOk_by (own := [("room", 8)]) (N := ["many", "links", "marks", "places", "roads", "prices", "known", "cost", "room", "far"]) (sc := defScope s_heights) (by decide +kernel)) (fun _ _ _ _ _ => pg_name (i := 8) sc_heights.nd rfl (Or.inl rfl)) (fun _ _ _ _ _ => pts_nil) (fun _ _ _ _ _ => (pe_fn h_fares (hr.mono (by decide)) (by rfl) (pa_cons (pv 0) (pa_cons (pv 1) (pa_cons (pv 8) pa_nil)))))))
 (pss_cons (ps_set (i := 5) sc_heights.nd rfl (.inr rfl) (pe_fn h_priced (hr.mono (by decide)) (by rfl) (pa_cons (pv 4) (pa_cons (pv 3) pa_nil))))
 (pss_cons (ps_set (i := 6) sc_heights.nd rfl (.inr rfl) (pe_disp (pps_cons pe_int (pe_tup (pa_cons pe_int (pa_cons pe_int pa_nil))) pps_nil) (by rfl) (by rfl) (fun z => by cases z) (by decide)))
 (pss_cons (ps_set (i := 7) sc_heights.nd rfl (.inr rfl) (pe_ix (ix_tupK K) (pe_fn h_settled (hr.mono (by decide)) (by rfl) (pa_cons (pv 5) (pa_cons (pv 6) (pa_cons (pe_op op_sub (pe_op op_shlW pe_int (pe_callB (call_lenK K) (by rfl) B.len (by decide +kernel) (pa_cons (pv 3) pa_nil))) pe_int) pa_nil)))) pe_int (fun _ _ => rfl)))
 (pss_one (ps_ret (pe_lc (own := [("room", 8)]) rfl sc_heights.nd (pi_range1 (by rfl) B.range (pa_cons (pv 0) pa_nil)) (blkOk_by (own := [("room", 8)]) (N := ["many", "links", "marks", "places", "roads", "prices", "known", "cost", "room", "far"]) (sc := defScope s_heights) (by decide +kernel)) (fun _ _ _ _ _ => pg_name (i := 8) sc_heights.nd rfl (Or.inl rfl)) (fun _ _ _ _ _ => pts_nil) (fun _ _ _ _ _ => (PE.frm2 (pe_op op_sub (pv 7) (pe_fn h_least_turned (hr.mono (by decide)) (by rfl) (pa_cons (pv 4) (pa_cons (pv 5) (pa_cons (pv 6) (pa_cons (pv 8) pa_nil)))))))))))))))))), ?_⟩
  walk_at "sts"
  refine ⟨p, n, x, L, rfl, hL, hb, by omega, hn2, hpos, hx80, hE, fun he hc hw H1 s1 => ?_⟩
  have q := q he hc hw
  walk_at "sts"
  refine ifd (fun h0 => ?_) (fun h0 => ?_)
  · have x0 : x = 0 := by omega
    subst x0
    walk_at "sts"
    refine ⟨p, n, 0, L, rfl, hL.same s1, hb, by omega, hn2, hpos, fun pt pf pu H4 far via rk s4 n4 nf nu hfu hpt hpf hpu hF => ?_⟩
    have hptt := SqT.of (K := K) hpt
    have hpff := SqL.of (K := K) hpf
    walk_at "sts"
    intro D nD
    refine lc_list (xs := ovs far n) (fun j H3 => H3 D = some (.lst ((List.range j).map fun r => V.int (-((dist L 0 r : Nat) : Int)))) ∧ Same H4 H3) ?_ ?_ ?_ ?_
    · exact ⟨upd_same, same_upd nD⟩
    · rintro j H3 _ ⟨_, g1⟩
      exact g1.seq hpff
    · rintro j v H3 hv ⟨d1, g1⟩
      have hj : j < n := by have := (List.getElem?_eq_some_iff.mp hv).1; simpa [ovs] using this
      rw [ovs_at hj, hF.all hw hpos hj] at hv
      cases hv
      walk_at "sts"
      refine ⟨_, d1, szlt (by simp; omega), ?_, g1.mut nD⟩
      rw [upd_same, List.range_succ, List.map_append]
      rfl
    · rintro H3 ⟨d1, g1⟩
      have hl : (ovs far n).length = n := by simp [ovs]
      rw [hl] at d1
      walk_at "sts"
      have s14 := s1.trans s4
      refine q D H3 (fun r => -((dist L 0 r : Nat) : Int)) 0 0 (s14.trans g1) (nD.of s14) d1 ⟨fun _ => rfl, fun h => absurd rfl h, lc_zero L, fun r hr => ⟨dist L 0 r, ?_, ?_⟩⟩
      · rw [Nat.zero_xor]
        exact lc_two hw hb hpos hr
      · show -((dist L 0 r : Nat) : Int) = ((0 : Nat) : Int) - _
        omega
  walk_at "sts"
  refine ⟨x, n, rfl, hx, by omega, fun pp H2 s2 n2 l2 => ?_⟩
  have hpl := bl_ml hx
  have hplen : (bl x n).length ≤ 14 := by rw [ml_cnt hpl hx80]; exact hc
  have hpev : (bl x n).length % 2 = 0 := by rw [ml_cnt hpl hx80]; exact he
  have hpn : ∀ y ∈ bl x n, y < n := fun y hy => bit_lt hx ((hpl.2 y).mp hy)
  obtain ⟨root, rs, hfr⟩ : ∃ f rs, bl x n = f :: rs := by
    cases e : bl x n with
    | nil =>
      rw [e] at hpl
      have : x = 0 := Nat.eq_of_testBit_eq fun q => by
        rw [Nat.zero_testBit]
        cases hb : x.testBit q with
        | false => rfl
        | true => exact absurd ((hpl.2 q).mpr hb) (by simp)
      omega
    | cons f rs => exact ⟨f, rs, rfl⟩
  have hlow : ∀ i, i < root → x.testBit i = false := fun i hi => by
    cases hbi : x.testBit i with
    | false => rfl
    | true =>
      have hm := (bl_mem hx).mpr hbi
      have hs := bl_sorted x n
      rw [hfr] at hm hs
      rcases List.mem_cons.mp hm with e | e
      · omega
      · have := (List.pairwise_cons.mp hs).1 i e
        omega
  have hroot : (bl x n).getD 0 0 = root := by rw [hfr]; rfl
  have hlen2 : 2 ≤ (bl x n).length := by
    have : 0 < (bl x n).length := by rw [hfr]; simp
    omega
  have hrx : x.testBit root = true := (hpl.2 root).mp (by rw [hfr]; simp)
  clear hfr
  generalize bl x n = pl at l2 hpl hplen hpev hpn hroot hlen2
  have s12 := s1.trans s2
  have hL2 := hL.same s12
  walk_at "sts"
  intro D nD
  refine lc_list (xs := iv pl) (fun j H3 => ∃ xs, H3 D = some (.lst xs) ∧ Same H2 H3 ∧ xs.length = j ∧ ∀ (i : Nat) (v : V), xs[i]? = some v → RoadAt K (wo H3 D) v n L (pl.getD i 0)) ?_ ?_ ?_ ?_
  · exact ⟨[], upd_same, same_upd nD, rfl, fun i v hv => by simp at hv⟩
  · rintro j H3 _ ⟨_, _, g1, _, _⟩
    exact SqL.of (g1 _ _ l2)
  · rintro j v H3 hv ⟨xs, x1, g1, hxl, hR⟩
    have hj : j < pl.length := by rw [← iv_len]; exact (List.getElem?_eq_some_iff.mp hv).1
    rw [iv_at hj] at hv
    cases hv
    have hpj : pl.getD j 0 < n := hpn _ (by rw [List.getD_eq_getElem?_getD, List.getElem?_eq_getElem hj]; exact List.getElem_mem hj)
    walk_at "sts"
    refine ⟨p, n, _, L, rfl, hL2.same g1, hb, by omega, hn2, hpj, fun pt pf pu H4 far via rk s4 n4 nf nu hfu hpt hpf hpu hF => ?_⟩
    have x4 := s4 _ _ x1
    have d1 : D ≠ pt := ne_new x1 n4
    have d2 : D ≠ pf := ne_new x1 nf
    have d3 : D ≠ pu := ne_new x1 nu
    refine ⟨xs, x4, szlt (by omega), xs ++ [.ref pt], upd_same, (g1.trans s4).mut nD, by simp [hxl], fun i v hv => ?_⟩
    rw [wo_eq]
    rw [List.getElem?_append] at hv
    by_cases hi : i < xs.length
    · rw [if_pos hi] at hv
      exact (hR i v hv).same (wo_mono s4)
    · rw [if_neg hi] at hv
      have hi2 : i - xs.length < 1 := by
        have := (List.getElem?_eq_some_iff.mp hv).1
        simpa using this
      have : i = j := by omega
      subst this
      rw [show i - xs.length = 0 by omega] at hv
      simp at hv
      subst hv
      exact ⟨pt, pf, pu, far, via, rk, rfl, SqT.of (wo_get hpt (Ne.symm d1)), SqL.of (wo_get hpf (Ne.symm d2)), SqL.of (wo_get hpu (Ne.symm d3)), hF⟩
  rintro H3 ⟨xs, x1, g1, hxl, hR⟩
  rw [iv_len] at hxl
  have hR3 : RoadsIn K H3 xs n L pl := ⟨hxl, fun i v hv => (hR i v hv).same wo_same⟩
  have l3 := g1 _ _ l2
  clear hR
  walk_at "sts"
  refine ⟨D, pp, xs, n, L, pl, rfl, SqL.of x1, hR3, SqL.of l3, hw, hpn, by omega, fun pr H4 s4 n4 hM => ?_⟩
  have s24 := g1.trans s4
  have l4 := s4 _ _ l3
  have x4 := s4 _ _ x1
  have hR4 := hR3.same s4
  walk_at "sts"
  refine w_disp fun kd nk => ?_
  refine w_pc ?_
  walk_at "sts"
  refine w_new fun p0 n0 => ?_
  refine w_pn ?_
  have hk0 : kd ≠ p0 := ne_new (o := .dK []) upd_same n0
  refine ⟨by rw [upd_ne hk0, upd_same], [(.inl 0, .ref p0)], rfl, by show 1 ≤ 15; decide, ?_⟩
  have n0' : New H4 p0 := by rw [New, ← upd_ne (Ne.symm hk0) (H := H4) (o := .dK [])]; exact n0
  have e5 : upd (upd (upd H4 kd (.dK [])) p0 (.tup [.int 0, .int 0])) kd (.dK (mergeK [] [(.inl 0, .ref p0)])) = upd (upd H4 p0 (.tup [.int 0, .int 0])) kd (.dK [(.inl 0, .ref p0)]) := by
    funext b
    by_cases hb : b = kd
    · subst hb; rw [upd_same, upd_same]; rfl
    · rw [upd_ne hb, upd_ne hb]
      by_cases hb2 : b = p0
      · subst hb2; rw [upd_same, upd_same]
      · rw [upd_ne hb2, upd_ne hb2, upd_ne hb]
  rw [e5]
  have s5a : Same H4 (upd H4 p0 (.tup [.int 0, .int 0])) := same_upd n0'
  have nk5 : New (upd H4 p0 (.tup [.int 0, .int 0])) kd := by rw [New, upd_ne hk0]; exact nk
  have s5 : Same H4 (upd (upd H4 p0 (.tup [.int 0, .int 0])) kd (.dK [(.inl 0, .ref p0)])) := s5a.trans (same_upd nk5)
  have hKn : KnAt K (upd (upd H4 p0 (.tup [.int 0, .int 0])) kd (.dK [(.inl 0, .ref p0)])) kd (prc L pl) pl.length [0] := by
    refine ⟨[(.inl 0, .ref p0)], fun _ => p0, fun _ => 0, fun _ => 0, upd_same, (Holds.nil (g := fun _ => V.ref p0)).put 0, by simp, fun y hy => by simp at hy; subst hy; exact Nat.two_pow_pos _, by simp, fun y hy => ?_⟩
    simp at hy
    subst hy
    refine ⟨SqT.of (wo_get (by rw [upd_ne (Ne.symm hk0), upd_same]; rfl) (Ne.symm hk0)), SE.zero, fun f l e => ?_⟩
    have := ml_zero (bl_ml (x := 0) (n := 1) (by decide))
    rw [this] at e
    cases e
  have s5w : Same H4 (wo (upd (upd H4 p0 (.tup [.int 0, .int 0])) kd (.dK [(.inl 0, .ref p0)])) kd) := same_wo s5 nk
  generalize upd (upd H4 p0 (.tup [.int 0, .int 0])) kd (.dK [(.inl 0, .ref p0)]) = H5 at s5 hKn s5w ⊢
  have l5 := s5 _ _ l4
  walk_at "sts"
  rw [iv_len]
  walk_at "sts"
  rw [shl_one]
  have hfull : ((2 ^ pl.length : Nat) : Int) - 1 = ((2 ^ pl.length - 1 : Nat) : Int) := by have := Nat.two_pow_pos pl.length; omega
  rw [hfull]
  have hlt : 2 ^ pl.length - 1 < 2 ^ pl.length := by have := Nat.two_pow_pos pl.length; omega
  refine ⟨pr, kd, _, pl.length, prc L pl, [0], List.range pl.length, rfl, hM.same s5w, hKn, full_ml _, ⟨pl.length / 2, by rw [List.length_range]; omega, show pl.length / 2 ≤ 7 by omega⟩, hlt, by omega, fun x y => dist_symm _ _ _, fun pt0 H6 S c t s6 hK6 _ hpt0 hse hgS _ => ?_⟩
  have hpt0' := same_read (wo_same (H := H6) (D := kd)) hpt0
  walk_at "sts"
  have s46 : Same H4 (wo H6 kd) := s5w.trans (same_wo s6 wo_new)
  have s46' : Same H4 H6 := s46.trans wo_same
  have hIsM : IsM (dist L) x c := by have := isM_rooms hpl.1 hlt hse.1; rw [rmk_marks hpl] at this; exact this
  have hlc0 := lc_of hw hb hx hIsM
  intro D5 nD5
  have hk6 : H6 kd ≠ none := by obtain ⟨_, _, _, _, e, _⟩ := id hK6; rw [e]; simp
  have h5k : D5 ≠ kd := fun z => hk6 (z ▸ nD5)
  have n45 : New H4 D5 := nD5.of s46'
  refine lc_r0 (n := n) rfl (fun j H' => ∃ (S2 : List Nat) (hts : Nat → Int), H' D5 = some (.lst ((List.range j).map fun r => V.int (hts r))) ∧ Same H4 (wo (wo H' D5) kd) ∧ KnAt K (wo H' D5) kd (prc L pl) pl.length S2 ∧ ∀ r, r < j → ∃ cc, LC L (x ^^^ 2 ^ root ^^^ 2 ^ r) cc ∧ hts r = (c : Int) - (cc : Int)) ?_ ?_ ?_
  · have s6D : Same H6 (wo (upd H6 D5 (.lst [])) D5) := by rw [wo_eq]; exact same_wo (Same.refl _) nD5
    exact ⟨S, fun _ => 0, upd_same, s46.trans (wo_mono s6D), hK6.mono s6D, fun r hr => absurd hr (by omega)⟩
  · rintro j H' hj ⟨S2, hts, d1, s7, hK7, hall⟩
    walk_at "sts"
    refine w_frm d1 ?_
    walk_at "sts"
    refine ⟨D, pr, kd, xs, n, j, L, pl, S2, rfl, SqL.of (s7 _ _ x4), hR4.same s7, hM.same s7, hK7, hw, hpn, hj, hplen, hpev, hlen2, fun H8 S8 low s8 hK8 hlo hall2 => ?_⟩
    walk_at "sts"
    intro h8
    walk_at "sts"
    have e8 : wo H8 D5 = H8 := by
      funext b
      by_cases e : b = D5
      · subst e; rw [h8]; exact if_pos rfl
      · exact if_neg e
    have hTL : LC L (x ^^^ 2 ^ root ^^^ 2 ^ j) low := by
      have hb0 : ∀ j, 0 < j → j < pl.length → x.testBit (pl.getD j 0) = true ∧ pl.getD j 0 ≠ root ∧ rmk pl ((2 ^ pl.length - 1) ^^^ 2 ^ 0 ^^^ 2 ^ j) pl.length = x ^^^ 2 ^ root ^^^ 2 ^ pl.getD j 0 := fun j h1 h2 => by
        refine ⟨(hpl.2 _).mp (by rw [List.getD_eq_getElem?_getD, List.getElem?_eq_getElem h2]; exact List.getElem_mem h2), fun e => ?_, ?_⟩
        · have a := getD_idx hpl.1 h2
          have b := getD_idx hpl.1 (show 0 < pl.length by omega)
          rw [e, ← hroot, b] at a
          omega
        · rw [rmk_flip, if_pos h2, rmk_flip, if_pos (by omega), rmk_marks hpl, hroot]
      have hgl : ∀ j, 0 < j → j < pl.length → (2 ^ pl.length - 1) ^^^ 2 ^ 0 ^^^ 2 ^ j < 2 ^ pl.length := fun j h1 h2 => Nat.xor_lt_two_pow (Nat.xor_lt_two_pow hlt (Nat.pow_lt_pow_right (by decide) (by omega))) (Nat.pow_lt_pow_right (by decide) h2)
      refine turned_least hw hb hx hrx hj ?_ ?_
      · obtain ⟨i, i1, i2, cc, i3, i4⟩ := hlo
        obtain ⟨a1, a2, a3⟩ := hb0 i i1 i2
        have := isM_rooms hpl.1 (hgl i i1 i2) i3
        rw [a3] at this
        exact ⟨_, cc, a1, a2, this, i4⟩
      · intro m hm hmr
        have hmm : m ∈ pl := (hpl.2 m).mpr hm
        obtain ⟨i, i2, rfl⟩ : ∃ i, i < pl.length ∧ pl.getD i 0 = m := by
          obtain ⟨i, i2, e⟩ := List.getElem_of_mem hmm
          exact ⟨i, i2, by rw [List.getD_eq_getElem?_getD, List.getElem?_eq_getElem i2]; exact e⟩
        have i1 : 0 < i := Nat.pos_of_ne_zero fun e => hmr (by rw [e, hroot])
        obtain ⟨a1, a2, a3⟩ := hb0 i i1 i2
        obtain ⟨cc, i3, i4⟩ := hall2 i i1 i2
        have := isM_rooms hpl.1 (hgl i i1 i2) i3
        rw [a3] at this
        exact ⟨cc, this, i4⟩
    refine ⟨_, upd_same, szlt (by simp; omega), S8, fun r => if r = j then (c : Int) - (low : Int) else hts r, ?_, ?_, ?_, fun r hr => ?_⟩
    · have em : (List.range j).map (fun r => V.int (if r = j then (c : Int) - (low : Int) else hts r)) = (List.range j).map fun r => V.int (hts r) := List.map_congr_left fun r hr => by
        have := List.mem_range.mp hr
        rw [if_neg (by omega)]
      have ej : (if j = j then (c : Int) - (low : Int) else hts j) = (c : Int) - (low : Int) := if_pos rfl
      rw [upd_same, List.range_succ, List.map_append, em, List.map_cons, List.map_nil]
      exact congrArg (fun z => some (HO.lst (_ ++ [V.int z]))) ej.symm
    · rw [wo_eq, wo_eq, e8]
      exact s7.trans s8
    · rw [wo_eq, wo_eq, e8]
      exact hK8
    · by_cases e : r = j
      · subst e
        exact ⟨low, hTL, if_pos rfl⟩
      · obtain ⟨cc, c1, c2⟩ := hall r (by omega)
        exact ⟨cc, c1, (if_neg e).trans c2⟩
  · rintro H' ⟨S2, hts, d1, s7, hK7, hall⟩
    walk_at "sts"
    have hs4 := s1.trans (s2.trans s24)
    have st : Same H H' := hs4.trans ((s7.trans wo_same).trans wo_same)
    exact q D5 H' hts root c st (n45.of hs4) d1 ⟨fun e => absurd e (by omega), fun _ => ⟨hrx, hlow⟩, hlc0, hall⟩
end

/-! ### weights of sets of links -/
def ws (ω : Nat → Nat) (U : Nat) : Nat → Nat
  | 0 => 0
  | k + 1 => if U.testBit k = true then ws ω U k + ω k else ws ω U k
section
variable {ω ω' : Nat → Nat} {U V : Nat}
theorem ws_lcost (L : Lk) (U : Nat) : ∀ k, ws (lkw L) U k = lcost L U k
  | 0 => rfl
  | k + 1 => by unfold ws lcost; rw [ws_lcost L U k]
theorem ws_congr : ∀ k, (∀ j, j < k → ω j = ω' j) → ws ω U k = ws ω' U k
  | 0, _ => rfl
  | k + 1, h => by unfold ws; rw [ws_congr k fun j hj => h j (by omega), h k (by omega)]
theorem ws_add (ω ω' : Nat → Nat) (U : Nat) : ∀ k, ws (fun j => ω j + ω' j) U k = ws ω U k + ws ω' U k
  | 0 => rfl
  | k + 1 => by
    unfold ws
    rw [ws_add ω ω' U k]
    split <;> omega
theorem ws_dbl (ω : Nat → Nat) (U : Nat) : ∀ k, ws (fun j => 2 * ω j) U k = 2 * ws ω U k
  | 0 => rfl
  | k + 1 => by
    unfold ws
    rw [ws_dbl ω U k]
    split <;> omega
theorem ws_swap (ω : Nat → Nat) (U V Q : Nat) : ∀ k, (∀ j, j < k → Q.testBit j = true → U.testBit j ≠ V.testBit j) → ws ω (U ^^^ Q) k + ws ω (V ^^^ Q) k = ws ω U k + ws ω V k
  | 0, _ => rfl
  | k + 1, h => by
    have ih := ws_swap ω U V Q k fun j hj => h j (by omega)
    have hk := h k (by omega)
    unfold ws
    rw [Nat.testBit_xor, Nat.testBit_xor]
    cases hq : Q.testBit k with
    | false => cases U.testBit k <;> cases V.testBit k <;> simp <;> omega
    | true =>
      have := hk hq
      cases hu : U.testBit k <;> cases hv : V.testBit k
      · rw [hu, hv] at this; exact absurd rfl this
      · simp; omega
      · simp; omega
      · rw [hu, hv] at this; exact absurd rfl this
theorem ws_xor (ω : Nat → Nat) (U V : Nat) : ∀ k, ws ω (U ^^^ V) k ≤ ws ω U k + ws ω V k
  | 0 => Nat.zero_le _
  | k + 1 => by
    have ih := ws_xor ω U V k
    unfold ws
    rw [Nat.testBit_xor]
    cases U.testBit k <;> cases V.testBit k <;> simp <;> omega
theorem ws_off (ω : Nat → Nat) (U Z : Nat) : ∀ k, (∀ j, j < k → Z.testBit j = true → ω j = 0) → ws ω (U ^^^ Z) k = ws ω U k
  | 0, _ => rfl
  | k + 1, h => by
    have ih := ws_off ω U Z k fun j hj => h j (by omega)
    have hk := h k (by omega)
    unfold ws
    rw [Nat.testBit_xor, ih]
    cases hz : Z.testBit k with
    | false => rw [Bool.xor_false]
    | true =>
      have := hk hz
      cases U.testBit k <;> simp <;> omega
theorem ws_flip (ω : Nat → Nat) (U j : Nat) : ∀ k, U.testBit j = true → ws ω (U ^^^ 2 ^ j) k + (if j < k then ω j else 0) = ws ω U k
  | 0, _ => by rw [if_neg (by omega)]; rfl
  | k + 1, h => by
    have ih := ws_flip ω U j k h
    unfold ws
    rw [Nat.testBit_xor, Nat.testBit_two_pow]
    by_cases e : j = k
    · subst e
      rw [if_neg (Nat.lt_irrefl j)] at ih
      rw [decide_eq_true rfl, h, if_pos (show j < j + 1 by omega)]
      simp
      omega
    · rw [decide_eq_false e, Bool.xor_false]
      by_cases hk : j < k
      · rw [if_pos hk] at ih
        rw [if_pos (show j < k + 1 by omega)]
        split <;> omega
      · rw [if_neg hk] at ih
        rw [if_neg (show ¬ j < k + 1 by omega)]
        split <;> omega
theorem ws_zero (ω : Nat → Nat) : ∀ k, ws ω 0 k = 0
  | 0 => rfl
  | k + 1 => by unfold ws; rw [Nat.zero_testBit, if_neg (by decide), ws_zero ω k]
theorem ws_none : ∀ k, (∀ j, j < k → U.testBit j = true → ω j = 0) → ws ω U k = 0
  | 0, _ => rfl
  | k + 1, h => by
    have ih := ws_none k fun j hj => h j (by omega)
    unfold ws
    split
    · rename_i hb
      rw [ih, h k (by omega) hb]
    · exact ih
theorem ws_ge {j : Nat} : ∀ k, j < k → U.testBit j = true → ω j ≤ ws ω U k
  | 0, h, _ => absurd h (by omega)
  | k + 1, h, hb => by
    unfold ws
    by_cases e : j = k
    · subst e; rw [if_pos hb]; omega
    · have := ws_ge k (by omega) hb
      split <;> omega
theorem ws_pos : ∀ k, 0 < ws ω U k → ∃ j, j < k ∧ U.testBit j = true ∧ 0 < ω j
  | 0, h => absurd h (by simp [ws])
  | k + 1, h => by
    unfold ws at h
    by_cases hb : U.testBit k = true
    · rw [if_pos hb] at h
      by_cases h0 : 0 < ω k
      · exact ⟨k, by omega, hb, h0⟩
      · obtain ⟨j, h1, h2⟩ := ws_pos k (show 0 < ws ω U k by omega)
        exact ⟨j, by omega, h2⟩
    · rw [if_neg hb] at h
      obtain ⟨j, h1, h2⟩ := ws_pos k h
      exact ⟨j, by omega, h2⟩
theorem ws_sum (c : Nat → Nat → Nat) (U m : Nat) : ∀ Ds : List Nat, ws (fun k => (Ds.map fun D => c D k).sum) U m = (Ds.map fun D => ws (c D) U m).sum
  | [] => ws_none m fun _ _ _ => rfl
  | D :: Ds => by
    rw [List.map_cons, List.sum_cons, ← ws_sum c U m Ds, ← ws_add]
    exact ws_congr m fun j _ => by rw [List.map_cons, List.sum_cons]
/-! ### odd numbers of a mask's rooms in a set -/
def mpar (A : Nat → Bool) (m : Nat) : Nat → Bool
  | 0 => false
  | i + 1 => xor (mpar A m i) (A i && m.testBit i)
theorem mpar_xor (A : Nat → Bool) (a b : Nat) : ∀ n, mpar A (a ^^^ b) n = xor (mpar A a n) (mpar A b n)
  | 0 => rfl
  | n + 1 => by
    unfold mpar
    rw [mpar_xor A a b n, Nat.testBit_xor]
    cases mpar A a n <;> cases mpar A b n <;> cases A n <;> cases a.testBit n <;> cases b.testBit n <;> rfl
theorem mpar_two (A : Nat → Bool) (a : Nat) : ∀ n, mpar A (2 ^ a) n = (decide (a < n) && A a)
  | 0 => by rw [decide_eq_false (by omega)]; rfl
  | n + 1 => by
    unfold mpar
    rw [mpar_two A a n, Nat.testBit_two_pow]
    by_cases e : a = n
    · subst e
      rw [decide_eq_false (Nat.lt_irrefl a), decide_eq_true rfl, decide_eq_true (show a < a + 1 by omega)]
      simp
    · rw [decide_eq_false e]
      by_cases h : a < n
      · rw [decide_eq_true h, decide_eq_true (show a < n + 1 by omega)]; simp
      · rw [decide_eq_false h, decide_eq_false (show ¬ a < n + 1 by omega)]; simp
theorem mpar_in {A : Nat → Bool} {a n : Nat} (h : a < n) : mpar A (2 ^ a) n = A a := by rw [mpar_two, decide_eq_true h, Bool.true_and]
theorem mpar_zero (A : Nat → Bool) : ∀ n, mpar A 0 n = false
  | 0 => rfl
  | n + 1 => by unfold mpar; rw [mpar_zero A n, Nat.zero_testBit]; simp
theorem mpar_oddL {L : Lk} {n : Nat} (A : Nat → Bool) (U : Nat) : ∀ k, (∀ j, j < k → lka L j < n ∧ lkb L j < n) → (∀ j, j < k → U.testBit j = true → A (lka L j) = A (lkb L j)) → mpar A (oddL L U k) n = false
  | 0, _, _ => mpar_zero A n
  | k + 1, hb, h => by
    have ih := mpar_oddL A U k (fun j hj => hb j (by omega)) fun j hj => h j (by omega)
    obtain ⟨h1, h2⟩ := hb k (by omega)
    unfold oddL
    split
    · rename_i hu
      rw [mpar_xor, mpar_xor, ih, mpar_in h1, mpar_in h2, h k (by omega) hu]
      cases A (lkb L k) <;> rfl
    · exact ih
end
/-! ### rooms' least costs, levels and pieces -/
/-- R: an odd set of rooms; f v: the least cost of R with v turned -/
structure Dual (L : Lk) (n R : Nat) (f : Nat → Nat) : Prop where
  b : ∀ k, k < L.length → lka L k < n ∧ lkb L k < n
  o : ∀ v, v < n → LC L (R ^^^ 2 ^ v) (f v)
def lvl (L : Lk) (f : Nat → Nat) (k : Nat) : Nat := lkw L k + f (lka L k) + f (lkb L k)
def Wd (L : Lk) (f : Nat → Nat) (d k : Nat) : Nat := 2 * lkw L k - (d - 2 * f (lka L k)) - (d - 2 * f (lkb L k))
def bt (D v : Nat) : Nat := (D.testBit v).toNat
def cD (L : Lk) (f : Nat → Nat) (d D k : Nat) : Nat := if lvl L f k ≤ d then 0 else bt D (lka L k) + bt D (lkb L k)
structure Lev (L : Lk) (n : Nat) (f : Nat → Nat) (d : Nat) (Ds : List Nat) : Prop where
  nd : Ds.Nodup
  mem : ∀ v, v < n → (2 * f v ≤ d ↔ ∃ D ∈ Ds, D.testBit v = true)
  one : ∀ D ∈ Ds, ∀ D' ∈ Ds, ∀ v, D.testBit v = true → D'.testBit v = true → D = D'
  lt : ∀ D ∈ Ds, ∀ v, D.testBit v = true → v < n
  ne : ∀ D ∈ Ds, ∃ v, D.testBit v = true
  cl : ∀ D ∈ Ds, ∀ k, k < L.length → lvl L f k ≤ d → D.testBit (lka L k) = D.testBit (lkb L k)
  cn : ∀ D ∈ Ds, ∀ a b, D.testBit a = true → D.testBit b = true → ∃ Z, oddL L Z L.length = 2 ^ a ^^^ 2 ^ b ∧ ∀ k, k < L.length → Z.testBit k = true → lvl L f k ≤ d
def nD (L : Lk) (f : Nat → Nat) (d D U : Nat) : Nat := ws (cD L f d D) U L.length
def nS (L : Lk) (f : Nat → Nat) (d : Nat) (Ds : List Nat) (U : Nat) : Nat := (Ds.map fun D => nD L f d D U).sum
/-- how many of the pieces lack v -/
def mS (Ds : List Nat) (v : Nat) : Nat := (Ds.filter fun D => !D.testBit v).length
section
variable {L : Lk} {n R d : Nat} {f : Nat → Nat} {Ds : List Nat}
theorem Dual.lip (h : Dual L n R f) {k : Nat} (hk : k < L.length) : f (lka L k) ≤ f (lkb L k) + lkw L k ∧ f (lkb L k) ≤ f (lka L k) + lkw L k := by
  obtain ⟨ha, hb⟩ := h.b k hk
  have key : ∀ a b, a < n → b < n → oddL L (2 ^ k) L.length = 2 ^ a ^^^ 2 ^ b → f b ≤ f a + lkw L k := fun a b ha hb e => by
    obtain ⟨U, u1, u2⟩ := (h.o a ha).1
    have := (h.o b hb).2 (U ^^^ 2 ^ k) (by rw [oddL_xor, u1, e, ← Nat.xor_assoc, xor_same])
    have h2 := lcost_flip L U k L.length
    rw [if_pos hk] at h2
    omega
  refine ⟨key _ _ hb ha ?_, key _ _ ha hb (oddL_one L k hk)⟩
  rw [oddL_one L k hk, Nat.xor_comm]
theorem Dual.dry_in (h : Dual L n R f) {k : Nat} (hk : k < L.length) (hd : lvl L f k ≤ d) : 2 * f (lka L k) ≤ d ∧ 2 * f (lkb L k) ≤ d ∧ Wd L f d k = 0 := by
  have := h.lip hk
  unfold lvl at hd
  unfold Wd
  omega
theorem sum_bt : ∀ {Ds : List Nat}, Ds.Nodup → ∀ v, (∀ D ∈ Ds, ∀ D' ∈ Ds, D.testBit v = true → D'.testBit v = true → D = D') → (Ds.map fun D => bt D v).sum ≤ 1 ∧ ((Ds.map fun D => bt D v).sum = 1 ↔ ∃ D ∈ Ds, D.testBit v = true)
  | [], _, v, _ => by simp
  | D :: Ds, hn, v, h => by
    obtain ⟨n1, n2⟩ := List.nodup_cons.mp hn
    obtain ⟨i1, i2⟩ := sum_bt n2 v fun A hA B hB => h A (List.mem_cons_of_mem _ hA) B (List.mem_cons_of_mem _ hB)
    rw [List.map_cons, List.sum_cons]
    by_cases hb : D.testBit v = true
    · have h0 : ¬ ∃ A ∈ Ds, A.testBit v = true := fun ⟨A, hA, hA2⟩ => n1 (h D List.mem_cons_self A (List.mem_cons_of_mem _ hA) hb hA2 ▸ hA)
      have : (Ds.map fun D => bt D v).sum ≠ 1 := fun e => h0 (i2.mp e)
      have e : bt D v = 1 := by unfold bt; rw [hb]; rfl
      rw [e]
      exact ⟨by omega, fun _ => ⟨D, List.mem_cons_self, hb⟩, fun _ => by omega⟩
    · have hf : D.testBit v = false := by cases hq : D.testBit v with | true => exact absurd hq hb | false => rfl
      have e : bt D v = 0 := by unfold bt; rw [hf]; rfl
      rw [e, Nat.zero_add]
      refine ⟨i1, i2.trans ⟨fun ⟨A, hA, hA2⟩ => ⟨A, List.mem_cons_of_mem _ hA, hA2⟩, fun ⟨A, hA, hA2⟩ => ?_⟩⟩
      rcases List.mem_cons.mp hA with e | hA
      · subst e; exact absurd hA2 hb
      · exact ⟨A, hA, hA2⟩
theorem bt_mS : ∀ (Ds : List Nat) (v : Nat), (Ds.map fun D => bt D v).sum + mS Ds v = Ds.length
  | [], _ => rfl
  | D :: Ds, v => by
    have ih := bt_mS Ds v
    rw [List.map_cons, List.sum_cons, List.length_cons]
    unfold mS at ih ⊢
    cases hb : D.testBit v with
    | true =>
      rw [List.filter_cons_of_neg (by simp [hb]), show bt D v = 1 by unfold bt; rw [hb]; rfl]
      omega
    | false =>
      rw [List.filter_cons_of_pos (by simp [hb]), List.length_cons, show bt D v = 0 by unfold bt; rw [hb]; rfl]
      omega
theorem Lev.sum (h : Lev L n f d Ds) {v : Nat} (hv : v < n) : (Ds.map fun D => bt D v).sum = if 2 * f v ≤ d then 1 else 0 := by
  obtain ⟨h1, h2⟩ := sum_bt h.nd v fun A hA B hB => h.one A hA B hB v
  split
  · rename_i hd
    exact h2.mpr ((h.mem v hv).mp hd)
  · rename_i hd
    have : (Ds.map fun D => bt D v).sum ≠ 1 := fun e => hd ((h.mem v hv).mpr (h2.mp e))
    omega
theorem Lev.mSin (h : Lev L n f d Ds) {v : Nat} (hv : v < n) (hd : 2 * f v ≤ d) : mS Ds v + 1 = Ds.length := by
  have := bt_mS Ds v
  rw [h.sum hv, if_pos hd] at this
  omega
theorem Lev.mSout (h : Lev L n f d Ds) {v : Nat} (hv : v < n) (hd : ¬ 2 * f v ≤ d) : mS Ds v = Ds.length := by
  have := bt_mS Ds v
  rw [h.sum hv, if_neg hd] at this
  omega
/-- what a link loses from level to level -/
def inc (f : Nat → Nat) (L : Lk) (d k : Nat) : Nat := if lvl L f k ≤ d then 0 else (if 2 * f (lka L k) ≤ d then 1 else 0) + (if 2 * f (lkb L k) ≤ d then 1 else 0)
theorem sum_add2 : ∀ (Ds : List Nat) (p q : Nat → Nat), (Ds.map fun D => p D + q D).sum = (Ds.map p).sum + (Ds.map q).sum
  | [], _, _ => rfl
  | D :: Ds, p, q => by
    rw [List.map_cons, List.map_cons, List.map_cons, List.sum_cons, List.sum_cons, List.sum_cons, sum_add2 Ds p q]
    omega
theorem sum_zero : ∀ (Ds : List Nat), (Ds.map fun _ => 0).sum = 0
  | [] => rfl
  | D :: Ds => by rw [List.map_cons, List.sum_cons, sum_zero Ds]
theorem Lev.inc (h : Lev L n f d Ds) (hb : ∀ k, k < L.length → lka L k < n ∧ lkb L k < n) {k : Nat} (hk : k < L.length) : (Ds.map fun D => cD L f d D k).sum = Sf.inc f L d k := by
  obtain ⟨h1, h2⟩ := hb k hk
  unfold cD Sf.inc
  by_cases hd : lvl L f k ≤ d
  · rw [if_pos hd]
    simp only [if_pos hd]
    exact sum_zero Ds
  · rw [if_neg hd]
    simp only [if_neg hd]
    rw [sum_add2 Ds (fun D => bt D (lka L k)) (fun D => bt D (lkb L k)), h.sum h1, h.sum h2]
theorem Dual.step (h : Dual L n R f) {k : Nat} (hk : k < L.length) : Wd L f d k = Wd L f (d + 1) k + Sf.inc f L d k ∧ (¬ lvl L f k ≤ d → 2 * f (lka L k) ≤ d → 2 * f (lkb L k) ≤ d → 2 ≤ Wd L f d k) := by
  have := h.lip hk
  unfold Wd Sf.inc lvl
  constructor
  · split
    · omega
    · split <;> split <;> omega
  · intro h1 h2 h3; omega
theorem Lev.nS (h : Lev L n f d Ds) (D : Dual L n R f) (U : Nat) : ws (Wd L f d) U L.length = ws (Wd L f (d + 1)) U L.length + Sf.nS L f d Ds U := by
  unfold Sf.nS nD
  rw [← ws_sum (cD L f d) U L.length Ds, ← ws_add]
  refine ws_congr _ fun k hk => ?_
  rw [h.inc D.b hk]
  exact (D.step hk).1
end

/-- the least costs at a level -/
structure Op (L : Lk) (n R : Nat) (f : Nat → Nat) (d : Nat) (F : Nat → Nat) (G : Int) : Prop where
  ex : ∀ v, v < n → ∃ U, oddL L U L.length = R ^^^ 2 ^ v ∧ ws (Wd L f d) U L.length = F v
  le : ∀ v, v < n → ∀ U, oddL L U L.length = R ^^^ 2 ^ v → F v ≤ ws (Wd L f d) U L.length
  lo : ∀ v, v < n → 2 * f v ≤ d → (F v : Int) = G + (d : Int)
  hi : ∀ v, v < n → ¬ 2 * f v ≤ d → (F v : Int) = G + 2 * (f v : Int)
section
variable {L : Lk} {n R d : Nat} {f F : Nat → Nat} {G : Int} {Ds : List Nat}
theorem bt_in {D v : Nat} (h : D.testBit v = true) : bt D v = 1 := by unfold bt; rw [h]; rfl
theorem bt_out {D v : Nat} (h : D.testBit v = false) : bt D v = 0 := by unfold bt; rw [h]; rfl
theorem not_bit {D v : Nat} (h : ¬ D.testBit v = true) : D.testBit v = false := by
  cases hb : D.testBit v with
  | true => exact absurd hb h
  | false => rfl
theorem xor_mid (r v b : Nat) : r ^^^ v ^^^ (v ^^^ b) = r ^^^ b := by rw [← Nat.xor_assoc, xor_same]
/-- one link of a set at v's piece taken out -/
theorem Op.cut (h : Op L n R f d F G) (D : Dual L n R f) (hl : Lev L n f d Ds) {D0 v U : Nat} (hD : D0 ∈ Ds) (hv : D0.testBit v = true) (hU : oddL L U L.length = R ^^^ 2 ^ v) (hn : 0 < nD L f d D0 U) :
    ∃ x U1 ω i, x < n ∧ oddL L U1 L.length = R ^^^ 2 ^ x ∧ ws (Wd L f d) U1 L.length + ω = ws (Wd L f d) U L.length ∧ nS L f d Ds U1 + i = nS L f d Ds U ∧ ((2 * f x ≤ d ∧ 2 ≤ ω ∧ i = 2) ∨ (¬ 2 * f x ≤ d ∧ 1 ≤ ω ∧ i = 1)) := by
  obtain ⟨k, hk, hb, hc⟩ := ws_pos _ hn
  obtain ⟨ha, hb2⟩ := D.b k hk
  have hdry : ¬ lvl L f k ≤ d := fun z => by unfold cD at hc; rw [if_pos z] at hc; omega
  obtain ⟨b', x, hj, hb'⟩ : ∃ b' x, JL L k b' x ∧ D0.testBit b' = true := by
    unfold cD at hc
    rw [if_neg hdry] at hc
    by_cases e : D0.testBit (lka L k) = true
    · exact ⟨_, _, .inl ⟨rfl, rfl⟩, e⟩
    · rw [bt_out (not_bit e)] at hc
      by_cases e2 : D0.testBit (lkb L k) = true
      · exact ⟨_, _, .inr ⟨rfl, rfl⟩, e2⟩
      · rw [bt_out (not_bit e2)] at hc
        omega
  obtain ⟨Z, z1, z2⟩ := hl.cn D0 hD v b' hv hb'
  have hbn := hl.lt D0 hD b' hb'
  have hbd := (hl.mem b' hbn).mpr ⟨D0, hD, hb'⟩
  have hxn : x < n := by rcases hj with ⟨e1, e2⟩ | ⟨e1, e2⟩ <;> omega
  have hodd : oddL L (2 ^ k) L.length = 2 ^ b' ^^^ 2 ^ x := by
    rw [oddL_one L k hk]
    rcases hj with ⟨e1, e2⟩ | ⟨e1, e2⟩
    · rw [e1, e2]
    · rw [e1, e2, Nat.xor_comm]
  have w0 : ∀ j, j < L.length → Z.testBit j = true → Wd L f d j = 0 := fun j h1 h2 => (D.dry_in h1 (z2 j h1 h2)).2.2
  have c0 : ∀ D', ∀ j, j < L.length → Z.testBit j = true → cD L f d D' j = 0 := fun D' j h1 h2 => if_pos (z2 j h1 h2)
  have hw := ws_flip (Wd L f d) U k L.length hb
  rw [if_pos hk] at hw
  have hnS : nS L f d Ds (U ^^^ 2 ^ k ^^^ Z) + (Ds.map fun D => cD L f d D k).sum = nS L f d Ds U := by
    unfold nS nD
    rw [← sum_add2 Ds (fun D => ws (cD L f d D) (U ^^^ 2 ^ k ^^^ Z) L.length) fun D => cD L f d D k]
    refine congrArg List.sum (List.map_congr_left fun D' _ => ?_)
    rw [ws_off _ _ Z _ (c0 D')]
    have := ws_flip (cD L f d D') U k L.length hb
    rw [if_pos hk] at this
    exact this
  refine ⟨x, U ^^^ 2 ^ k ^^^ Z, Wd L f d k, (Ds.map fun D => cD L f d D k).sum, hxn, ?_, ?_, hnS, ?_⟩
  · rw [oddL_xor, oddL_xor, hU, hodd, z1]
    refine Nat.eq_of_testBit_eq fun q => ?_
    simp only [Nat.testBit_xor]
    cases R.testBit q <;> cases (2 ^ v).testBit q <;> cases (2 ^ b').testBit q <;> cases (2 ^ x).testBit q <;> rfl
  · rw [ws_off _ _ Z _ w0]; exact hw
  · rw [hl.inc D.b hk]
    obtain ⟨s1, s2⟩ := D.step (d := d) hk
    have hi : Sf.inc f L d k = (if 2 * f b' ≤ d then 1 else 0) + (if 2 * f x ≤ d then 1 else 0) := by
      unfold Sf.inc
      rw [if_neg hdry]
      rcases hj with ⟨e1, e2⟩ | ⟨e1, e2⟩
      · rw [e1, e2]
      · rw [e1, e2, Nat.add_comm]
    rw [if_pos hbd] at hi
    by_cases hx : 2 * f x ≤ d
    · rw [if_pos hx] at hi
      refine .inl ⟨hx, ?_, by omega⟩
      rcases hj with ⟨e1, e2⟩ | ⟨e1, e2⟩
      · exact s2 hdry (by rw [e1]; exact hbd) (by rw [e2]; exact hx)
      · exact s2 hdry (by rw [e1]; exact hx) (by rw [e2]; exact hbd)
    · rw [if_neg hx] at hi
      exact .inr ⟨hx, by omega, by omega⟩
/-- a cheapest set of a piece's room has no link at the piece -/
theorem Op.none (h : Op L n R f d F G) (D : Dual L n R f) (hl : Lev L n f d Ds) {D0 v U : Nat} (hD : D0 ∈ Ds) (hv : D0.testBit v = true) (hU : oddL L U L.length = R ^^^ 2 ^ v) (hw : ws (Wd L f d) U L.length = F v) : nD L f d D0 U = 0 := by
  refine Nat.eq_zero_of_not_pos fun hn => ?_
  obtain ⟨x, U1, ω, i, hx, o1, w1, _, hc⟩ := h.cut D hl hD hv hU hn
  have hvn := hl.lt D0 hD v hv
  have hvd := (hl.mem v hvn).mpr ⟨D0, hD, hv⟩
  have := h.le x hx U1 o1
  have a1 := h.lo v hvn hvd
  rcases hc with ⟨c1, c2, _⟩ | ⟨c1, c2, _⟩
  · have := h.lo x hx c1; omega
  · have := h.hi x hx c1; omega
theorem Lev.nD0 (hl : Lev L n f d Ds) (D : Dual L n R f) {D0 U : Nat} (hD : D0 ∈ Ds) (h : nD L f d D0 U = 0) : mpar (fun v => D0.testBit v) (oddL L U L.length) n = false := by
  refine mpar_oddL _ U L.length D.b fun j hj hb => ?_
  by_cases hd : lvl L f j ≤ d
  · exact hl.cl D0 hD j hj hd
  · have h1 := ws_ge (ω := cD L f d D0) L.length hj hb
    unfold nD at h
    rw [h] at h1
    unfold cD at h1
    rw [if_neg hd] at h1
    have e1 : D0.testBit (lka L j) = false := by
      cases hq : D0.testBit (lka L j) with
      | false => rfl
      | true => rw [bt_in hq] at h1; omega
    have e2 : D0.testBit (lkb L j) = false := by
      cases hq : D0.testBit (lkb L j) with
      | false => rfl
      | true => rw [bt_in hq] at h1; omega
    show D0.testBit (lka L j) = D0.testBit (lkb L j)
    rw [e1, e2]
/-- each piece holds an odd number of R -/
theorem Op.odd (h : Op L n R f d F G) (D : Dual L n R f) (hl : Lev L n f d Ds) {D0 : Nat} (hD : D0 ∈ Ds) : mpar (fun v => D0.testBit v) R n = true := by
  obtain ⟨b, hb⟩ := hl.ne D0 hD
  have hbn := hl.lt D0 hD b hb
  obtain ⟨U, u1, u2⟩ := h.ex b hbn
  have := hl.nD0 D hD (h.none D hl hD hb u1 u2)
  rw [u1, mpar_xor, mpar_in hbn] at this
  rw [hb] at this
  cases hp : mpar (fun v => D0.testBit v) R n with
  | true => rfl
  | false => rw [hp] at this; cases this
theorem Op.one (h : Op L n R f d F G) (D : Dual L n R f) (hl : Lev L n f d Ds) {D0 v U : Nat} (hD : D0 ∈ Ds) (hv : v < n) (ho : D0.testBit v = false) (hU : oddL L U L.length = R ^^^ 2 ^ v) : 1 ≤ nD L f d D0 U := by
  refine Nat.pos_of_ne_zero fun z => ?_
  have := hl.nD0 D hD z
  rw [hU, mpar_xor, mpar_in hv, h.odd D hl hD] at this
  rw [ho] at this
  cases this
theorem mS_le {v : Nat} : ∀ (Ds : List Nat) (g : Nat → Nat), (∀ D ∈ Ds, D.testBit v = false → 1 ≤ g D) → mS Ds v ≤ (Ds.map g).sum
  | [], _, _ => Nat.le_refl _
  | D :: Ds, g, h => by
    have ih := mS_le Ds g fun A hA => h A (List.mem_cons_of_mem _ hA)
    rw [List.map_cons, List.sum_cons]
    unfold mS at ih ⊢
    cases hb : D.testBit v with
    | true => rw [List.filter_cons_of_neg (by simp [hb])]; omega
    | false =>
      have := h D List.mem_cons_self hb
      rw [List.filter_cons_of_pos (by simp [hb]), List.length_cons]
      omega
theorem le_mS {v : Nat} : ∀ (Ds : List Nat) (g : Nat → Nat), (∀ D ∈ Ds, D.testBit v = true → g D = 0) → (∀ D ∈ Ds, D.testBit v = false → g D ≤ 1) → (Ds.map g).sum ≤ mS Ds v
  | [], _, _, _ => Nat.le_refl _
  | D :: Ds, g, h, h' => by
    have ih := le_mS Ds g (fun A hA => h A (List.mem_cons_of_mem _ hA)) fun A hA => h' A (List.mem_cons_of_mem _ hA)
    rw [List.map_cons, List.sum_cons]
    unfold mS at ih ⊢
    cases hb : D.testBit v with
    | true =>
      have := h D List.mem_cons_self hb
      rw [List.filter_cons_of_neg (by simp [hb])]; omega
    | false =>
      have := h' D List.mem_cons_self hb
      rw [List.filter_cons_of_pos (by simp [hb]), List.length_cons]
      omega
theorem Op.mSle (h : Op L n R f d F G) (D : Dual L n R f) (hl : Lev L n f d Ds) {v U : Nat} (hv : v < n) (hU : oddL L U L.length = R ^^^ 2 ^ v) : mS Ds v ≤ nS L f d Ds U :=
  mS_le Ds _ fun D0 hD ho => h.one D hl hD hv ho hU
/-- some of the links of X lead from v to D0, one of them alone at D0 -/
theorem Lev.reach (hl : Lev L n f d Ds) (D : Dual L n R f) {D0 v b X : Nat} (hv : v < n) (hb : b < n) (hv0 : D0.testBit v = false) (hb0 : D0.testBit b = true) (hX : oddL L X L.length = 2 ^ v ^^^ 2 ^ b) :
    ∃ Q b0, D0.testBit b0 = true ∧ oddL L Q L.length = 2 ^ v ^^^ 2 ^ b0 ∧ (∀ j, j < L.length → Q.testBit j = true → X.testBit j = true) ∧ nD L f d D0 Q ≤ 1 := by
  obtain ⟨A, hA⟩ : ∃ A : Nat → Bool, ∀ x, A x = true ↔ ∃ Q, oddL L Q L.length = 2 ^ v ^^^ 2 ^ x ∧ ∀ j, j < L.length → Q.testBit j = true → X.testBit j = true ∧ D0.testBit (lka L j) = false ∧ D0.testBit (lkb L j) = false := by
    haveI : ∀ p : Prop, Decidable p := fun _ => Classical.propDecidable _
    exact ⟨fun x => decide (∃ Q, oddL L Q L.length = 2 ^ v ^^^ 2 ^ x ∧ ∀ j, j < L.length → Q.testBit j = true → X.testBit j = true ∧ D0.testBit (lka L j) = false ∧ D0.testBit (lkb L j) = false), fun x => decide_eq_true_iff⟩
  have hAv : A v = true := (hA v).mpr ⟨0, by rw [oddL_zero, Nat.xor_self], fun j _ h => by rw [Nat.zero_testBit] at h; cases h⟩
  have hAD : ∀ x, x < n → A x = true → D0.testBit x = false := fun x hx h => by
    obtain ⟨Q, q1, q2⟩ := (hA x).mp h
    have := mpar_oddL (n := n) (fun v => D0.testBit v) Q L.length D.b fun j hj hb => by
      obtain ⟨_, e1, e2⟩ := q2 j hj hb
      show D0.testBit _ = D0.testBit _
      rw [e1, e2]
    rw [q1, mpar_xor, mpar_in hv, mpar_in hx] at this
    rw [hv0, Bool.false_xor] at this
    exact this
  have hAb : A b = false := by
    cases hq : A b with
    | false => rfl
    | true => rw [hAD b hb hq] at hb0; cases hb0
  have : ∃ j, j < L.length ∧ X.testBit j = true ∧ A (lka L j) ≠ A (lkb L j) := by
    refine Classical.byContradiction fun hc => ?_
    have := mpar_oddL (n := n) A X L.length D.b fun j hj hb => Classical.byContradiction fun hne => hc ⟨j, hj, hb, hne⟩
    rw [hX, mpar_xor, mpar_in hv, mpar_in hb, hAv, hAb] at this
    cases this
  obtain ⟨j, hj, hjX, hne⟩ := this
  obtain ⟨hja, hjb⟩ := D.b j hj
  obtain ⟨p, q, hpq, hp, hq⟩ : ∃ p q, JL L j p q ∧ A p = true ∧ A q = false := by
    cases e1 : A (lka L j) <;> cases e2 : A (lkb L j)
    · rw [e1, e2] at hne; exact absurd rfl hne
    · exact ⟨_, _, .inr ⟨rfl, rfl⟩, e2, e1⟩
    · exact ⟨_, _, .inl ⟨rfl, rfl⟩, e1, e2⟩
    · rw [e1, e2] at hne; exact absurd rfl hne
  have hpn : p < n := by rcases hpq with ⟨e1, e2⟩ | ⟨e1, e2⟩ <;> omega
  have hqn : q < n := by rcases hpq with ⟨e1, e2⟩ | ⟨e1, e2⟩ <;> omega
  obtain ⟨Q, q1, q2⟩ := (hA p).mp hp
  have hpD := hAD p hpn hp
  have hone : oddL L (2 ^ j) L.length = 2 ^ p ^^^ 2 ^ q := by
    rw [oddL_one L j hj]
    rcases hpq with ⟨e1, e2⟩ | ⟨e1, e2⟩
    · rw [e1, e2]
    · rw [e1, e2, Nat.xor_comm]
  have hQj : oddL L (Q ^^^ 2 ^ j) L.length = 2 ^ v ^^^ 2 ^ q := by rw [oddL_xor, q1, hone, xor_mid]
  have hbits : ∀ i, i < L.length → (Q ^^^ 2 ^ j).testBit i = true → i = j ∨ Q.testBit i = true := fun i hi h => by
    rw [Nat.testBit_xor, Nat.testBit_two_pow] at h
    by_cases e : j = i
    · exact .inl e.symm
    · rw [decide_eq_false e, Bool.xor_false] at h
      exact .inr h
  by_cases hqD : D0.testBit q = true
  · refine ⟨Q ^^^ 2 ^ j, q, hqD, hQj, fun i hi h => ?_, ?_⟩
    · rcases hbits i hi h with e | e
      · rw [e]; exact hjX
      · exact (q2 i hi e).1
    · unfold nD
      have h1 := ws_xor (cD L f d D0) Q (2 ^ j) L.length
      have h2 : ws (cD L f d D0) Q L.length = 0 := ws_none _ fun i hi hb => by
        obtain ⟨_, e1, e2⟩ := q2 i hi hb
        unfold cD
        rw [bt_out e1, bt_out e2]
        split <;> rfl
      have h3 := ws_flip (cD L f d D0) (2 ^ j) j L.length (Nat.testBit_two_pow_self)
      rw [Nat.xor_self, ws_zero, if_pos hj] at h3
      have h4 : cD L f d D0 j ≤ 1 := by
        unfold cD
        split
        · omega
        · rcases hpq with ⟨e1, e2⟩ | ⟨e1, e2⟩
          · rw [e1, e2, bt_out hpD, bt_in hqD]; omega
          · rw [e1, e2, bt_out hpD, bt_in hqD]; omega
      omega
  · have hqF := not_bit hqD
    have : A q = true := (hA q).mpr ⟨Q ^^^ 2 ^ j, hQj, fun i hi h => by
      rcases hbits i hi h with e | e
      · subst e
        refine ⟨hjX, ?_⟩
        rcases hpq with ⟨e1, e2⟩ | ⟨e1, e2⟩
        · rw [e1, e2]; exact ⟨hpD, hqF⟩
        · rw [e1, e2]; exact ⟨hqF, hpD⟩
      · exact q2 i hi e⟩
    rw [hq] at this
    cases this
/-- each link more at a piece than is needed costs -/
theorem Op.slack (h : Op L n R f d F G) (D : Dual L n R f) (hl : Lev L n f d Ds) : ∀ s v U, v < n → oddL L U L.length = R ^^^ 2 ^ v → ws (Wd L f d) U L.length = F v + s → nS L f d Ds U ≤ s + mS Ds v := by
  intro s
  induction s using Nat.strongRecOn with
  | _ s ih =>
    have c1 : ∀ s' v U D0, s' ≤ s → D0 ∈ Ds → D0.testBit v = true → oddL L U L.length = R ^^^ 2 ^ v → ws (Wd L f d) U L.length = F v + s' → 0 < nD L f d D0 U → nS L f d Ds U ≤ s' + mS Ds v ∧ 2 ≤ s' := by
      intro s' v U D0 hs hD hv hU hw hn
      obtain ⟨x, U1, ω, i, hx, o1, w1, n1, hc⟩ := h.cut D hl hD hv hU hn
      have hvn := hl.lt D0 hD v hv
      have hvd := (hl.mem v hvn).mpr ⟨D0, hD, hv⟩
      have l1 := h.le x hx U1 o1
      have a1 := h.lo v hvn hvd
      have m1 := hl.mSin hvn hvd
      rcases hc with ⟨c1, c2, c3⟩ | ⟨c1, c2, c3⟩
      · have a2 := h.lo x hx c1
        have m2 := hl.mSin hx c1
        have := ih (s' - ω) (by omega) x U1 hx o1 (by omega)
        omega
      · have a2 := h.hi x hx c1
        have m2 := hl.mSout hx c1
        have := ih (s' - ω - (2 * f x - d)) (by omega) x U1 hx o1 (by omega)
        omega
    intro v U hv hU hw
    by_cases hA : ∃ D0 ∈ Ds, D0.testBit v = true ∧ 0 < nD L f d D0 U
    · obtain ⟨D0, hD, hv0, hn⟩ := hA
      exact (c1 s v U D0 (Nat.le_refl s) hD hv0 hU hw hn).1
    · by_cases hB : ∃ D0 ∈ Ds, D0.testBit v = false ∧ 2 ≤ nD L f d D0 U
      · obtain ⟨D0, hD, hv0, hn⟩ := hB
        obtain ⟨b, hb0⟩ := hl.ne D0 hD
        have hb := hl.lt D0 hD b hb0
        obtain ⟨Ub, u1, u2⟩ := h.ex b hb
        have un := h.none D hl hD hb0 u1 u2
        have hX : oddL L (U ^^^ Ub) L.length = 2 ^ v ^^^ 2 ^ b := by
          rw [oddL_xor, hU, u1]
          refine Nat.eq_of_testBit_eq fun q => ?_
          simp only [Nat.testBit_xor]
          cases R.testBit q <;> cases (2 ^ v).testBit q <;> cases (2 ^ b).testBit q <;> rfl
        obtain ⟨Q, b0, hb00, q1, q2, q3⟩ := hl.reach D hv hb hv0 hb0 hX
        have hb0n := hl.lt D0 hD b0 hb00
        have hsub : ∀ j, j < L.length → Q.testBit j = true → U.testBit j ≠ Ub.testBit j := fun j hj hq => by
          have := q2 j hj hq
          rw [Nat.testBit_xor] at this
          intro e
          rw [e, Bool.xor_self] at this
          cases this
        obtain ⟨Z, z1, z2⟩ := hl.cn D0 hD b b0 hb0 hb00
        have w0 : ∀ j, j < L.length → Z.testBit j = true → Wd L f d j = 0 := fun j h1 h2 => (D.dry_in h1 (z2 j h1 h2)).2.2
        have e1 := ws_swap (Wd L f d) U Ub Q L.length hsub
        have e2 : ws (Wd L f d) (Ub ^^^ Q ^^^ Z) L.length = ws (Wd L f d) (Ub ^^^ Q) L.length := ws_off _ _ Z _ w0
        have o1 : oddL L (U ^^^ Q) L.length = R ^^^ 2 ^ b0 := by rw [oddL_xor, hU, q1, xor_mid]
        have o2 : oddL L (Ub ^^^ Q ^^^ Z) L.length = R ^^^ 2 ^ v := by
          rw [oddL_xor, oddL_xor, u1, q1, z1]
          refine Nat.eq_of_testBit_eq fun q => ?_
          simp only [Nat.testBit_xor]
          cases R.testBit q <;> cases (2 ^ v).testBit q <;> cases (2 ^ b).testBit q <;> cases (2 ^ b0).testBit q <;> rfl
        have l1 := h.le b0 hb0n _ o1
        have l2 := h.le v hv _ o2
        have a1 := h.lo b hb ((hl.mem b hb).mpr ⟨D0, hD, hb0⟩)
        have a2 := h.lo b0 hb0n ((hl.mem b0 hb0n).mpr ⟨D0, hD, hb00⟩)
        have m1 := hl.mSin hb ((hl.mem b hb).mpr ⟨D0, hD, hb0⟩)
        have m2 := hl.mSin hb0n ((hl.mem b0 hb0n).mpr ⟨D0, hD, hb00⟩)
        have n1 : nD L f d D0 (U ^^^ Q) + nD L f d D0 (Ub ^^^ Q) = nD L f d D0 U + nD L f d D0 Ub := ws_swap (cD L f d D0) U Ub Q L.length hsub
        have n2 : nD L f d D0 (Ub ^^^ Q) ≤ nD L f d D0 Ub + nD L f d D0 Q := ws_xor (cD L f d D0) Ub Q L.length
        have n3 : nS L f d Ds (U ^^^ Q) + nS L f d Ds (Ub ^^^ Q ^^^ Z) = nS L f d Ds U + nS L f d Ds Ub := by
          unfold nS
          rw [← sum_add2 Ds (fun D => nD L f d D (U ^^^ Q)) fun D => nD L f d D (Ub ^^^ Q ^^^ Z), ← sum_add2 Ds (fun D => nD L f d D U) fun D => nD L f d D Ub]
          refine congrArg List.sum (List.map_congr_left fun D' _ => ?_)
          unfold nD
          rw [ws_off (cD L f d D') (Ub ^^^ Q) Z _ fun j h1 h2 => if_pos (z2 j h1 h2)]
          exact ws_swap (cD L f d D') U Ub Q L.length hsub
        obtain ⟨k1, k2⟩ := c1 (ws (Wd L f d) (U ^^^ Q) L.length - F b0) b0 (U ^^^ Q) D0 (by omega) hD hb00 o1 (by omega) (by omega)
        have k3 := ih (ws (Wd L f d) (Ub ^^^ Q ^^^ Z) L.length - F v) (by omega) v _ hv o2 (by omega)
        have k4 := h.mSle D hl hb u1
        omega
      · refine Nat.le_trans (le_mS Ds _ (fun D0 hD hv0 => ?_) fun D0 hD hv0 => ?_) (Nat.le_add_left _ _)
        · exact Nat.eq_zero_of_not_pos fun z => hA ⟨D0, hD, hv0, z⟩
        · exact Nat.le_of_not_lt fun z => hB ⟨D0, hD, hv0, z⟩
/-- one level up -/
theorem Op.up (h : Op L n R f d F G) (D : Dual L n R f) (hl : Lev L n f d Ds) : ∃ F' G', Op L n R f (d + 1) F' G' ∧ ∀ v, v < n → F' v + mS Ds v = F v := by
  have key : ∀ v, v < n → ∃ U, oddL L U L.length = R ^^^ 2 ^ v ∧ ws (Wd L f (d + 1)) U L.length + mS Ds v = F v := fun v hv => by
    obtain ⟨U, u1, u2⟩ := h.ex v hv
    have a := hl.nS D U
    have b := h.mSle D hl hv u1
    have c := h.slack D hl 0 v U hv u1 (by omega)
    exact ⟨U, u1, by omega⟩
  refine ⟨fun v => F v - mS Ds v, G - (Ds.length : Int), ⟨fun v hv => ?_, fun v hv U hU => ?_, fun v hv hd => ?_, fun v hv hd => ?_⟩, fun v hv => ?_⟩
  · obtain ⟨U, u1, u2⟩ := key v hv
    exact ⟨U, u1, by omega⟩
  · have a := hl.nS D U
    have b := h.le v hv U hU
    have c := h.slack D hl (ws (Wd L f d) U L.length - F v) v U hv hU (by omega)
    show F v - mS Ds v ≤ _
    omega
  · obtain ⟨U, u1, u2⟩ := key v hv
    by_cases e : 2 * f v ≤ d
    · have a := h.lo v hv e
      have b := hl.mSin hv e
      show ((F v - mS Ds v : Nat) : Int) = _
      omega
    · have a := h.hi v hv e
      have b := hl.mSout hv e
      show ((F v - mS Ds v : Nat) : Int) = _
      omega
  · obtain ⟨U, u1, u2⟩ := key v hv
    have e : ¬ 2 * f v ≤ d := by omega
    have a := h.hi v hv e
    have b := hl.mSout hv e
    show ((F v - mS Ds v : Nat) : Int) = _
    omega
  · obtain ⟨U, u1, u2⟩ := key v hv
    show F v - mS Ds v + mS Ds v = F v
    omega
theorem Dual.op0 (D : Dual L n R f) : Op L n R f 0 (fun v => 2 * f v) 0 := by
  have e : ∀ U, ws (Wd L f 0) U L.length = 2 * lcost L U L.length := fun U => by
    rw [← ws_lcost, ← ws_dbl]
    exact ws_congr _ fun j _ => by unfold Wd; omega
  refine ⟨fun v hv => ?_, fun v hv U hU => ?_, fun v hv hd => ?_, fun v hv hd => ?_⟩
  · obtain ⟨U, u1, u2⟩ := (D.o v hv).1
    exact ⟨U, u1, by rw [e, u2]⟩
  · have := (D.o v hv).2 U hU
    rw [e]
    show 2 * f v ≤ _
    omega
  · show ((2 * f v : Nat) : Int) = _
    omega
  · show ((2 * f v : Nat) : Int) = _
    omega
/-- all dry: nothing is left -/
theorem Op.dry (h : Op L n R f d F G) (D : Dual L n R f) (hd : ∀ k, k < L.length → lvl L f k ≤ d) {v : Nat} (hv : v < n) : F v = 0 := by
  obtain ⟨U, u1, u2⟩ := h.ex v hv
  rw [← u2]
  exact ws_none _ fun j hj _ => (D.dry_in hj (hd j hj)).2.2
end

/-! ### sorted(xs), xs a list of triples of whole numbers -/
abbrev Ev := Int × Int × Int
def e3 (e : Ev) : PyData := .tuple [.int e.1, .int e.2.1, .int e.2.2]
def evLe (e g : Ev) : Prop := e.1 < g.1 ∨ (e.1 = g.1 ∧ (e.2.1 < g.2.1 ∨ (e.2.1 = g.2.1 ∧ e.2.2 ≤ g.2.2)))
section
open PySem.W
theorem dataLt_e3 (e g : Ev) : dataLt (e3 e) (e3 g) = decide (e.1 < g.1 ∨ (e.1 = g.1 ∧ (e.2.1 < g.2.1 ∨ (e.2.1 = g.2.1 ∧ e.2.2 < g.2.2)))) := by
  obtain ⟨x, y, z⟩ := e
  obtain ⟨x', y', z'⟩ := g
  have ai : ∀ a b : Int, alike (.int a) (.int b) = true := fun a b => by simp only [alike]
  have ev : ∀ a b : Int, PyData.eqv (.int a) (.int b) = decide (a = b) := fun a b => by
    rw [show PyData.eqv (.int a) (.int b) = (a == b) by simp [PyData.eqv]]
    rfl
  show dataLt (.tuple [.int x, .int y, .int z]) (.tuple [.int x', .int y', .int z']) = _
  rw [dataLt_tuple, dataLt_cons (ai _ _), dataLt_cons (ai _ _), dataLt_cons (ai _ _), ev, ev, ev, dataLt_int, dataLt_int, dataLt_int]
  by_cases h1 : x = x'
  · by_cases h2 : y = y'
    · by_cases h3 : z = z'
      · subst h1 h2 h3
        simp
        rfl
      · simp [h1, h2, h3]
    · simp [h1, h2]
  · simp [h1]
end

section
open PySem.W
theorem e3_le {bs : List (Addr × Ev)} : (bs.mergeSort (dataLe false fun b => e3 b.2)).Pairwise (fun b c => evLe b.2 c.2) := by
  have hle : ∀ b c : Addr × Ev, dataLe false (fun b => e3 b.2) b c = true ↔ evLe b.2 c.2 := fun b c => by
    rw [dataLe_eq]
    show (!dataLt (e3 c.2) (e3 b.2)) = true ↔ _
    rw [dataLt_e3]
    unfold evLe
    by_cases h : c.2.1 < b.2.1 ∨ (c.2.1 = b.2.1 ∧ (c.2.2.1 < b.2.2.1 ∨ (c.2.2.1 = b.2.2.1 ∧ c.2.2.2 < b.2.2.2)))
    · rw [decide_eq_true h]
      constructor
      · intro z; cases z
      · intro z; exfalso; omega
    · rw [decide_eq_false h]
      constructor
      · intro _; omega
      · intro _; rfl
  have := List.pairwise_mergeSort (le := dataLe false fun b : Addr × Ev => e3 b.2) (fun a b c h1 h2 => by
    rw [hle] at h1 h2 ⊢
    unfold evLe at h1 h2 ⊢
    omega) (fun a b => by
    have : evLe a.2 b.2 ∨ evLe b.2 a.2 := by unfold evLe; omega
    rcases this with h | h
    · rw [(hle a b).mpr h]; rfl
    · rw [(hle b a).mpr h]; exact Bool.or_true _) bs
  exact this.imp fun h => (hle _ _).mp h
end
section
variable {X : Cx}
def rSort3 (K : PySem.W.Frag) : List V → Hp → VK → Prop := fun vs H Q => ∃ (a : Addr) (bs : List (Addr × Ev)), vs = [V.ref a] ∧ SqL K H a (bs.map fun b => V.ref b.1) ∧ (∀ b ∈ bs, Dp K H (.ref b.1) (e3 b.2)) ∧ bs.length ≤ 10000 ∧
  ∀ (cs : List (Addr × Ev)) (p : Addr), cs.Perm bs → cs.Pairwise (fun b c => evLe b.2 c.2) → New H p → Q (.ref p) (upd H p (.lst (cs.map fun b => V.ref b.1)))
theorem each_refs {P : Value → Addr × Ev → Prop} (hP : ∀ b, P (.ref b.1) b) : ∀ bs : List (Addr × Ev), PySem.W.EachIs P (bs.map fun b => Value.ref b.1) bs
  | [] => .nil
  | b :: bs => .cons (hP b) (each_refs hP bs)
theorem each_refs' {P : Value → Addr × Ev → Prop} : ∀ bs : List (Addr × Ev), (∀ b ∈ bs, P (.ref b.1) b) → PySem.W.EachIs P (bs.map fun b => Value.ref b.1) bs
  | [], _ => .nil
  | b :: bs, h => .cons (h b (by simp)) (each_refs' bs fun c hc => h c (by simp [hc]))
theorem each_back : ∀ {out : List Value} {bs : List (Addr × Ev)}, PySem.W.EachIs (fun v b => v = .ref b.1) out bs → out = bs.map fun b => Value.ref b.1
  | _, _, .nil => rfl
  | _, _, .cons h t => by rw [List.map_cons, ← h, each_back t]
theorem vals_refs : ∀ {bs : List (Addr × Ev)} {us : List Value}, Vals (bs.map fun b => V.ref b.1) us → us = bs.map fun b => Value.ref b.1
  | [], _, .nil => rfl
  | b :: bs, _, .cons r t => by
    cases r
    rw [vals_refs t]
    rfl
theorem vals_of_refs' : ∀ bs : List (Addr × Ev), Vals (bs.map fun b => V.ref b.1) (bs.map fun b => Value.ref b.1)
  | [] => .nil
  | b :: bs => .cons (show RelV (.ref b.1) (.ref b.1) from rfl) (vals_of_refs' bs)
theorem cr_sort3 (K : PySem.W.Frag) (hu : X.A.units + 64 < cLine) (hK : X.K = K := by rfl) : CallR X (.builtin "sorted") (rSort3 K) := by
  subst hK
  intro pins s σ H vs us Q I r h
  obtain ⟨a, bs, rfl, hs, hd, hl, q⟩ := h
  obtain ⟨its, rv, hlst, hz⟩ := I.list hs
  rw [Vals.ref1 r]
  obtain rfl := vals_refs rv
  refine PySem.W.sorted_data (R := fun v b => v = .ref b.1) (enc := fun b : Addr × Ev => e3 b.2) (bs := bs) hlst.isList (each_refs (fun _ => rfl) bs) (each_refs' bs fun b hb => (hd b hb).reads I _ _ _ (show RelV (.ref b.1) (.ref b.1) from rfl)) (PySem.W.AllAlike.of fun b c => ?_) (PySem.W.Sortable.tuples fun b => ⟨_, _, rfl⟩) (by rw [sizeLine_eq]; omega) (fun b _ => ?_) fun out ho eo => ?_
  · show PySem.W.alike (.tuple ([b.2.1, b.2.2.1, b.2.2.2].map .int)) (.tuple ([c.2.1, c.2.2.1, c.2.2.2].map .int)) = true
    rw [PySem.W.alike]
    exact PySem.W.alike_ints _ _
  · have : (e3 b.2).depth ≤ 2 := by
      show PyData.depth (.tuple ([b.2.1, b.2.2.1, b.2.2.2].map .int)) ≤ 2
      rw [PyData.depth, PySem.W.depth_ints]
      omega
    omega
  · obtain rfl := each_back eo
    have hp : (bs.mergeSort (PySem.W.dataLe false fun b : Addr × Ev => e3 b.2)).Perm bs := List.mergeSort_perm _ _
    have hpw := e3_le (bs := bs)
    generalize bs.mergeSort (PySem.W.dataLe false fun b : Addr × Ev => e3 b.2) = cs at hp hpw ho ⊢
    obtain ⟨ep, he'⟩ := PyProof.Rows.sortedAll_at s.heap (bs.map fun b => Value.ref b.1) (cs.map fun b => Value.ref b.1).toArray
    refine ⟨.ref _, upd H (s.heap.objs.size + 1) (.lst (cs.map fun b => V.ref b.1)), I.laid (t' := s.toks) (fun _ _ => PyProof.Rows.sortedAll_old) (Nat.le_succ _) ⟨?_, cs.map fun b => Value.ref b.1, ep, vals_of_refs' cs, he'⟩, rfl, q cs _ hp hpw (I.hok.fresh (Nat.le_succ _))⟩
    rw [List.length_map, hp.length_eq, sizeLine_eq]
    omega
end

/-! ### hills: the pieces of the levels, from event to event -/
def rmE (f : Nat → Nat) (c0 v : Nat) : Ev := (2 * (f v : Int) - 2 * (c0 : Int), 0, (v : Int))
def lkE (L : Lk) (f : Nat → Nat) (c0 k : Nat) : Ev := ((lvl L f k : Int) - 2 * (c0 : Int), 1, (k : Int))
def evL (L : Lk) (f : Nat → Nat) (c0 n : Nat) : List Ev := (List.range n).map (rmE f c0) ++ (List.range L.length).map (lkE L f c0)
def xk (L : Lk) (k D : Nat) : Nat := if D.testBit (lka L k) = D.testBit (lkb L k) then 0 else 1
def nr (r D : Nat) : Nat := if D.testBit r = true then 0 else 1
def accF (g : Nat → Nat) (fd : List (Nat × Nat)) : Nat := (fd.map fun p => p.2 * g p.1).sum
def accD (g sn : Nat → Nat) (δ : Nat) (Ds : List Nat) : Nat := (Ds.map fun D => (δ - sn D) * g D).sum
def mn (a b : Nat) : Nat := if b ≤ a then b else a
/-- two sets: not alike, one in the other or apart -/
def Lam (m m' : Nat) : Prop := m ≠ m' ∧ ((∀ v, m.testBit v = true → m'.testBit v = true) ∨ (∀ v, m'.testBit v = true → m.testBit v = true) ∨ (∀ v, ¬ (m.testBit v = true ∧ m'.testBit v = true)))
structure EvOk (L : Lk) (f : Nat → Nat) (c0 n : Nat) (evs : List Ev) : Prop where
  p : evs.Perm (evL L f c0 n)
  s : evs.Pairwise evLe
structure HI (L : Lk) (n R : Nat) (f : Nat → Nat) (c0 r : Nat) (evs : List Ev) (i δ : Nat) (Ds : List Nat) (hd sn : Nat → Nat) (ks : List Nat) (fd : List (Nat × Nat)) (F : Nat → Nat) (G : Int) : Prop where
  op : Op L n R f δ F G
  past : ∀ j e, j < i → evs[j]? = some e → e.1 ≤ (δ : Int) - 2 * (c0 : Int)
  nd : Ds.Nodup
  vis : ∀ v, v < n → ((∃ D ∈ Ds, D.testBit v = true) ↔ ∃ j, j < i ∧ evs[j]? = some (rmE f c0 v))
  one : ∀ D ∈ Ds, ∀ D' ∈ Ds, ∀ v, D.testBit v = true → D'.testBit v = true → D = D'
  lt : ∀ D ∈ Ds, ∀ v, D.testBit v = true → v < n
  ne : ∀ D ∈ Ds, ∃ v, D.testBit v = true
  cl : ∀ D ∈ Ds, ∀ k, k < L.length → (∃ j, j < i ∧ evs[j]? = some (lkE L f c0 k)) → D.testBit (lka L k) = D.testBit (lkb L k)
  cn : ∀ D ∈ Ds, ∀ a b, D.testBit a = true → D.testBit b = true → ∃ Z, oddL L Z L.length = 2 ^ a ^^^ 2 ^ b ∧ ∀ k, k < L.length → Z.testBit k = true → lvl L f k ≤ δ
  hin : ∀ D ∈ Ds, ∀ v, D.testBit v = true → hd v = D
  hout : ∀ v, v < n → (∀ D ∈ Ds, D.testBit v = false) → hd v = 2 ^ v
  key : ∀ D ∈ Ds, D ∈ ks
  sl : ∀ D ∈ Ds, sn D ≤ δ
  so : ∀ D ∈ Ds, sn D < δ → mpar (fun v => D.testBit v) R n = true
  fo : ∀ p ∈ fd, mpar (fun v => p.1.testBit v) R n = true ∧ 0 < p.2 ∧ ∀ v, p.1.testBit v = true → v < n
  fs : ∀ p ∈ fd, ∃ D ∈ Ds, (∀ v, p.1.testBit v = true → D.testBit v = true) ∧ p.1 ≠ D
  fp : fd.Pairwise fun p q => Lam p.1 q.1
  ar : accF (nr r) fd + accD (nr r) sn δ Ds + F r = 2 * c0
  ak : ∀ k, k < L.length → accF (xk L k) fd + accD (xk L k) sn δ Ds ≤ (mn δ (lvl L f k) - 2 * f (lka L k)) + (mn δ (lvl L f k) - 2 * f (lkb L k))
section
variable {L : Lk} {n R c0 r i δ : Nat} {f hd sn F : Nat → Nat} {G : Int} {evs : List Ev} {Ds ks : List Nat} {fd : List (Nat × Nat)}
theorem rmE_inj {v w : Nat} (h : rmE f c0 v = rmE f c0 w) : v = w := by
  have := congrArg (fun e : Ev => e.2.2) h
  have : (v : Int) = (w : Int) := this
  omega
theorem lkE_inj {k j : Nat} (h : lkE L f c0 k = lkE L f c0 j) : k = j := by
  have := congrArg (fun e : Ev => e.2.2) h
  have : (k : Int) = (j : Int) := this
  omega
theorem rm_ne_lk {v k : Nat} (h : rmE f c0 v = lkE L f c0 k) : False := by
  have := congrArg (fun e : Ev => e.2.1) h
  have : (0 : Int) = 1 := this
  omega
theorem evL_nodup (L : Lk) (f : Nat → Nat) (c0 n : Nat) : (evL L f c0 n).Nodup := by
  unfold evL
  refine List.nodup_append.mpr ⟨?_, ?_, ?_⟩
  · exact List.pairwise_map.mpr (List.nodup_range.imp fun h e => h (rmE_inj e))
  · exact List.pairwise_map.mpr (List.nodup_range.imp fun h e => h (lkE_inj e))
  · intro a ha b hb e
    obtain ⟨v, _, rfl⟩ := List.mem_map.mp ha
    obtain ⟨k, _, rfl⟩ := List.mem_map.mp hb
    exact rm_ne_lk e
theorem EvOk.nodup (h : EvOk L f c0 n evs) : evs.Nodup := h.p.nodup_iff.mpr (evL_nodup L f c0 n)
theorem EvOk.rm (h : EvOk L f c0 n evs) {v : Nat} (hv : v < n) : ∃ j : Nat, evs[j]? = some (rmE f c0 v) :=
  List.getElem?_of_mem (h.p.mem_iff.mpr (List.mem_append_left _ (List.mem_map.mpr ⟨v, List.mem_range.mpr hv, rfl⟩)))
theorem EvOk.lk (h : EvOk L f c0 n evs) {k : Nat} (hk : k < L.length) : ∃ j : Nat, evs[j]? = some (lkE L f c0 k) :=
  List.getElem?_of_mem (h.p.mem_iff.mpr (List.mem_append_right _ (List.mem_map.mpr ⟨k, List.mem_range.mpr hk, rfl⟩)))
theorem EvOk.is (h : EvOk L f c0 n evs) {j : Nat} {e : Ev} (hj : evs[j]? = some e) : (∃ v, v < n ∧ e = rmE f c0 v) ∨ (∃ k, k < L.length ∧ e = lkE L f c0 k) := by
  have hm := h.p.mem_iff.mp (List.mem_of_getElem? hj)
  rcases List.mem_append.mp hm with hm | hm
  · obtain ⟨v, hv, rfl⟩ := List.mem_map.mp hm
    exact .inl ⟨v, List.mem_range.mp hv, rfl⟩
  · obtain ⟨k, hk, rfl⟩ := List.mem_map.mp hm
    exact .inr ⟨k, List.mem_range.mp hk, rfl⟩
theorem EvOk.ord (h : EvOk L f c0 n evs) {j k : Nat} {e g : Ev} (hj : evs[j]? = some e) (hk : evs[k]? = some g) (hjk : j < k) : evLe e g := by
  obtain ⟨j1, rfl⟩ := List.getElem?_eq_some_iff.mp hj
  obtain ⟨k1, rfl⟩ := List.getElem?_eq_some_iff.mp hk
  exact List.pairwise_iff_getElem.mp h.s j k j1 k1 hjk
theorem EvOk.inj (h : EvOk L f c0 n evs) {j k : Nat} {e : Ev} (hj : evs[j]? = some e) (hk : evs[k]? = some e) : j = k := by
  obtain ⟨j1, e1⟩ := List.getElem?_eq_some_iff.mp hj
  obtain ⟨k1, e2⟩ := List.getElem?_eq_some_iff.mp hk
  exact (List.getElem_inj h.nodup).mp (e1.trans e2.symm)
theorem sumP {l m : List Nat} (p : l.Perm m) : l.sum = m.sum := by
  induction p with
  | nil => rfl
  | cons x _ ih => rw [List.sum_cons, List.sum_cons, ih]
  | swap x y l => rw [List.sum_cons, List.sum_cons, List.sum_cons, List.sum_cons]; omega
  | trans _ _ a b => exact a.trans b
theorem mS_nr : ∀ (Ds : List Nat) (r : Nat), mS Ds r = (Ds.map (nr r)).sum
  | [], _ => rfl
  | D :: Ds, r => by
    have ih := mS_nr Ds r
    rw [List.map_cons, List.sum_cons, ← ih]
    unfold mS nr
    cases hb : D.testBit r with
    | true => rw [List.filter_cons_of_neg (by simp [hb]), if_pos rfl, Nat.zero_add]
    | false => rw [List.filter_cons_of_pos (by simp [hb]), if_neg (by decide), List.length_cons]; omega
theorem accD_up (g sn : Nat → Nat) (δ : Nat) : ∀ Ds : List Nat, (∀ D ∈ Ds, sn D ≤ δ) → accD g sn (δ + 1) Ds = accD g sn δ Ds + (Ds.map g).sum
  | [], _ => rfl
  | D :: Ds, h => by
    have ih := accD_up g sn δ Ds fun A hA => h A (List.mem_cons_of_mem _ hA)
    have hD := h D List.mem_cons_self
    unfold accD at ih ⊢
    rw [List.map_cons, List.sum_cons, List.map_cons, List.sum_cons, List.map_cons, List.sum_cons, ih, show δ + 1 - sn D = δ - sn D + 1 by omega, Nat.succ_mul]
    omega
theorem sum_mono : ∀ (Ds : List Nat) (g h : Nat → Nat), (∀ D ∈ Ds, g D ≤ h D) → (Ds.map g).sum ≤ (Ds.map h).sum
  | [], _, _, _ => Nat.le_refl _
  | D :: Ds, g, h, hh => by
    have ih := sum_mono Ds g h fun A hA => hh A (List.mem_cons_of_mem _ hA)
    have := hh D List.mem_cons_self
    rw [List.map_cons, List.sum_cons, List.map_cons, List.sum_cons]
    omega
theorem sum_eq0 (Ds : List Nat) (g : Nat → Nat) (h : ∀ D ∈ Ds, g D = 0) : (Ds.map g).sum = 0 := by
  have := sum_mono Ds g (fun _ => 0) fun D hD => by rw [h D hD]; exact Nat.le_refl _
  rw [sum_zero] at this
  omega
theorem xk_le (L : Lk) (k D : Nat) : xk L k D ≤ bt D (lka L k) + bt D (lkb L k) := by
  unfold xk bt
  cases D.testBit (lka L k) <;> cases D.testBit (lkb L k) <;> simp
/-- all events up to the level are done -/
theorem HI.lev (h : HI L n R f c0 r evs i δ Ds hd sn ks fd F G) (ev : EvOk L f c0 n evs) (D : Dual L n R f) (hnext : ∀ e, evs[i]? = some e → (δ : Int) - 2 * (c0 : Int) < e.1) : Lev L n f δ Ds := by
  have late : ∀ j e, evs[j]? = some e → e.1 ≤ (δ : Int) - 2 * (c0 : Int) → j < i := fun j e hj he => by
    refine Nat.lt_of_not_le fun hij => ?_
    rcases Nat.eq_or_lt_of_le hij with e1 | e1
    · subst e1
      have := hnext e hj
      omega
    · have hji := (List.getElem?_eq_some_iff.mp hj).1
      have hi : evs[i]? = some (evs[i]'(by omega)) := List.getElem?_eq_getElem (by omega)
      have a := hnext _ hi
      have b := ev.ord hi hj e1
      unfold evLe at b
      omega
  refine ⟨h.nd, fun v hv => ⟨fun hd => ?_, fun hd => ?_⟩, h.one, h.lt, h.ne, fun D0 hD k hk hl => ?_, h.cn⟩
  · obtain ⟨j, hj⟩ := ev.rm hv
    exact (h.vis v hv).mpr ⟨j, late j _ hj (by show 2 * (f v : Int) - 2 * (c0 : Int) ≤ _; omega), hj⟩
  · obtain ⟨j, h1, h2⟩ := (h.vis v hv).mp hd
    have := h.past j _ h1 h2
    have : 2 * (f v : Int) - 2 * (c0 : Int) ≤ (δ : Int) - 2 * (c0 : Int) := this
    omega
  · obtain ⟨j, hj⟩ := ev.lk hk
    exact h.cl D0 hD k hk ⟨j, late j _ hj (by show (lvl L f k : Int) - 2 * (c0 : Int) ≤ _; omega), hj⟩
/-- a level up between two events -/
theorem HI.up (h : HI L n R f c0 r evs i δ Ds hd sn ks fd F G) (ev : EvOk L f c0 n evs) (D : Dual L n R f) (hr : r < n) (hnext : ∀ e, evs[i]? = some e → (δ : Int) - 2 * (c0 : Int) < e.1) : ∃ F' G', HI L n R f c0 r evs i (δ + 1) Ds hd sn ks fd F' G' := by
  have hl := h.lev ev D hnext
  obtain ⟨F', G', o1, o2⟩ := h.op.up D hl
  refine ⟨F', G', ⟨o1, fun j e a b => ?_, h.nd, h.vis, h.one, h.lt, h.ne, h.cl, fun D0 hD a b ha hb => ?_, h.hin, h.hout, h.key, fun D0 hD => ?_, fun D0 hD _ => h.op.odd D hl hD, h.fo, h.fs, h.fp, ?_, fun k hk => ?_⟩⟩
  · have := h.past j e a b
    omega
  · obtain ⟨Z, z1, z2⟩ := h.cn D0 hD a b ha hb
    exact ⟨Z, z1, fun k hk hz => by have := z2 k hk hz; omega⟩
  · have := h.sl D0 hD; omega
  · rw [accD_up _ _ _ _ h.sl, ← mS_nr]
    have a := h.ar
    have b := o2 r hr
    omega
  · rw [accD_up _ _ _ _ h.sl]
    have a := h.ak k hk
    obtain ⟨ha, hb⟩ := D.b k hk
    by_cases hd : lvl L f k ≤ δ
    · have e : (Ds.map (xk L k)).sum = 0 := sum_eq0 Ds _ fun D0 hD => if_pos (hl.cl D0 hD k hk hd)
      unfold mn at a ⊢
      rw [if_pos hd] at a
      rw [if_pos (show lvl L f k ≤ δ + 1 by omega), e]
      omega
    · have e : (Ds.map (xk L k)).sum ≤ (if 2 * f (lka L k) ≤ δ then 1 else 0) + (if 2 * f (lkb L k) ≤ δ then 1 else 0) := by
        refine Nat.le_trans (sum_mono Ds _ (fun D => bt D (lka L k) + bt D (lkb L k)) fun D0 _ => xk_le L k D0) ?_
        rw [sum_add2 Ds (fun D => bt D (lka L k)) fun D => bt D (lkb L k), hl.sum ha, hl.sum hb]
        exact Nat.le_refl _
      have m1 : mn δ (lvl L f k) = δ := if_neg hd
      have m2 : mn (δ + 1) (lvl L f k) = δ + 1 := by unfold mn; split <;> omega
      rw [m1] at a
      rw [m2]
      revert e
      split <;> split <;> intro e <;> omega
theorem HI.upto (ev : EvOk L f c0 n evs) (D : Dual L n R f) (hr : r < n) {e : Ev} (hi : evs[i]? = some e) : ∀ (m δ : Nat) (F : Nat → Nat) (G : Int), HI L n R f c0 r evs i δ Ds hd sn ks fd F G → ((δ + m : Nat) : Int) - 2 * (c0 : Int) ≤ e.1 → ∃ F' G', HI L n R f c0 r evs i (δ + m) Ds hd sn ks fd F' G'
  | 0, δ, F, G, h, _ => ⟨F, G, h⟩
  | m + 1, δ, F, G, h, hm => by
    obtain ⟨F', G', h'⟩ := h.up ev D hr fun e' he' => by
      rw [hi] at he'
      cases he'
      omega
    have := HI.upto ev D hr hi m (δ + 1) F' G' h' (by omega)
    rw [show δ + (m + 1) = δ + 1 + m by omega]
    exact this
theorem HI.start (D : Dual L n R f) (hr : f r = c0) (sn : Nat → Nat) (ks : List Nat) : HI L n R f c0 r evs 0 0 [] (fun v => 2 ^ v) sn ks [] (fun v => 2 * f v) 0 := by
  refine ⟨D.op0, fun j e h => absurd h (by omega), List.nodup_nil, fun v _ => ⟨fun ⟨_, h, _⟩ => absurd h (by simp), fun ⟨j, h, _⟩ => absurd h (by omega)⟩, ?_, ?_, ?_, ?_, ?_, ?_, fun _ _ _ => rfl, ?_, ?_, ?_, ?_, ?_, List.Pairwise.nil, ?_, fun k _ => Nat.zero_le _⟩
  all_goals first
    | exact fun _ h => absurd h (by simp)
    | skip
  show 0 + 0 + 2 * f r = 2 * c0
  omega
theorem bits_one {v q : Nat} : (2 ^ v).testBit q = true ↔ q = v := by
  rw [Nat.testBit_two_pow, decide_eq_true_iff]
  exact ⟨fun h => h.symm, fun h => h.symm⟩
/-- a room's event -/
theorem HI.room (h : HI L n R f c0 r evs i δ Ds hd sn ks fd F G) (ev : EvOk L f c0 n evs) (D : Dual L n R f) {v : Nat} (hv : v < n) (hi : evs[i]? = some (rmE f c0 v)) (hδ : δ = 2 * f v) : HI L n R f c0 r evs (i + 1) δ (2 ^ v :: Ds) hd (upF sn (2 ^ v) δ) (2 ^ v :: ks) fd F G := by
  have hnv : ∀ D ∈ Ds, D.testBit v = false := fun D0 hD => by
    cases hb : D0.testBit v with
    | false => rfl
    | true =>
      obtain ⟨j, j1, j2⟩ := (h.vis v hv).mp ⟨D0, hD, hb⟩
      have := ev.inj j2 hi
      omega
  have hne : ∀ D ∈ Ds, D ≠ 2 ^ v := fun D0 hD e => by
    have := hnv D0 hD
    rw [e, Nat.testBit_two_pow_self] at this
    cases this
  have hsn : ∀ D ∈ Ds, upF sn (2 ^ v) δ D = sn D := fun D0 hD => upF_ne (hne D0 hD)
  have hacc : ∀ g : Nat → Nat, accD g (upF sn (2 ^ v) δ) δ (2 ^ v :: Ds) = accD g sn δ Ds := fun g => by
    unfold accD
    rw [List.map_cons, List.sum_cons, upF_same, Nat.sub_self, Nat.zero_mul, Nat.zero_add]
    exact congrArg List.sum (List.map_congr_left fun D0 hD => by rw [hsn D0 hD])
  have idx : ∀ {e : Ev}, (∃ j, j < i + 1 ∧ evs[j]? = some e) ↔ e = rmE f c0 v ∨ ∃ j, j < i ∧ evs[j]? = some e := fun {e} => by
    constructor
    · rintro ⟨j, j1, j2⟩
      by_cases ej : j = i
      · subst ej
        rw [hi] at j2
        exact .inl (Option.some.inj j2).symm
      · exact .inr ⟨j, by omega, j2⟩
    · rintro (e1 | ⟨j, j1, j2⟩)
      · subst e1; exact ⟨i, by omega, hi⟩
      · exact ⟨j, by omega, j2⟩
  refine ⟨h.op, fun j e a b => ?_, List.nodup_cons.mpr ⟨fun hm => hne _ hm rfl, h.nd⟩, fun u hu => ?_, ?_, ?_, ?_, ?_, ?_, ?_, ?_, ?_, ?_, ?_, h.fo, ?_, h.fp, ?_, ?_⟩
  · by_cases ej : j = i
    · subst ej
      rw [hi] at b
      cases b
      show 2 * (f v : Int) - 2 * (c0 : Int) ≤ _
      omega
    · exact h.past j e (by omega) b
  · rw [idx]
    constructor
    · rintro ⟨D0, hD, hb⟩
      rcases List.mem_cons.mp hD with e | hD
      · subst e; rw [bits_one.mp hb]; exact .inl rfl
      · exact .inr ((h.vis u hu).mp ⟨D0, hD, hb⟩)
    · rintro (e | e)
      · rw [rmE_inj e]; exact ⟨_, List.mem_cons_self, Nat.testBit_two_pow_self⟩
      · obtain ⟨D0, hD, hb⟩ := (h.vis u hu).mpr e
        exact ⟨D0, List.mem_cons_of_mem _ hD, hb⟩
  · intro A hA B hB u ha hb
    rcases List.mem_cons.mp hA with e | hA <;> rcases List.mem_cons.mp hB with e2 | hB
    · rw [e, e2]
    · subst e; rw [bits_one.mp ha, hnv B hB] at hb; cases hb
    · subst e2; rw [bits_one.mp hb, hnv A hA] at ha; cases ha
    · exact h.one A hA B hB u ha hb
  · intro A hA u ha
    rcases List.mem_cons.mp hA with e | hA
    · subst e; rw [bits_one.mp ha]; exact hv
    · exact h.lt A hA u ha
  · intro A hA
    rcases List.mem_cons.mp hA with e | hA
    · subst e; exact ⟨v, Nat.testBit_two_pow_self⟩
    · exact h.ne A hA
  · intro A hA k hk hj
    rcases idx.mp hj with e | hj
    · exact absurd e.symm (fun z => rm_ne_lk z)
    · rcases List.mem_cons.mp hA with e | hA
      · subst e
        have hev : evLe (lkE L f c0 k) (rmE f c0 v) := by
          obtain ⟨j, j1, j2⟩ := hj
          exact ev.ord j2 hi j1
        have hq : ∀ u, u = lka L k ∨ u = lkb L k → u ≠ v := by
          intro u hu e
          subst e
          have hlip := D.lip hk
          have hev' : (lvl L f k : Int) - 2 * (c0 : Int) < 2 * (f u : Int) - 2 * (c0 : Int) ∨ ((lvl L f k : Int) - 2 * (c0 : Int) = 2 * (f u : Int) - 2 * (c0 : Int) ∧ ((1 : Int) < 0 ∨ ((1 : Int) = 0 ∧ (k : Int) ≤ (u : Int)))) := hev
          unfold lvl at hev'
          rcases hu with e | e
          · rw [← e] at hev' hlip; omega
          · rw [← e] at hev' hlip; omega
        have e1 : (2 ^ v).testBit (lka L k) = false := not_bit fun z => hq _ (.inl rfl) (bits_one.mp z)
        have e2 : (2 ^ v).testBit (lkb L k) = false := not_bit fun z => hq _ (.inr rfl) (bits_one.mp z)
        rw [e1, e2]
      · exact h.cl A hA k hk hj
  · intro A hA a b ha hb
    rcases List.mem_cons.mp hA with e | hA
    · subst e
      rw [bits_one.mp ha, bits_one.mp hb]
      exact ⟨0, by rw [oddL_zero, Nat.xor_self], fun k _ hz => by rw [Nat.zero_testBit] at hz; cases hz⟩
    · exact h.cn A hA a b ha hb
  · intro A hA u ha
    rcases List.mem_cons.mp hA with e | hA
    · subst e
      rw [bits_one.mp ha]
      exact h.hout v hv hnv
    · exact h.hin A hA u ha
  · intro u hu hA
    exact h.hout u hu fun A h2 => hA A (List.mem_cons_of_mem _ h2)
  · intro A hA
    rcases List.mem_cons.mp hA with e | hA
    · subst e; exact List.mem_cons_self
    · exact List.mem_cons_of_mem _ (h.key A hA)
  · intro A hA
    rcases List.mem_cons.mp hA with e | hA
    · subst e; rw [upF_same]; exact Nat.le_refl _
    · rw [hsn A hA]; exact h.sl A hA
  · intro A hA hlt
    rcases List.mem_cons.mp hA with e | hA
    · subst e; rw [upF_same] at hlt; omega
    · rw [hsn A hA] at hlt; exact h.so A hA hlt
  · intro p hp
    obtain ⟨A, hA, h2⟩ := h.fs p hp
    exact ⟨A, List.mem_cons_of_mem _ hA, h2⟩
  · rw [hacc]; exact h.ar
  · intro k hk
    rw [hacc]; exact h.ak k hk
theorem HI.seen (h : HI L n R f c0 r evs i δ Ds hd sn ks fd F G) (ev : EvOk L f c0 n evs) (D : Dual L n R f) {k : Nat} (hk : k < L.length) (hi : evs[i]? = some (lkE L f c0 k)) :
    ∃ A B, A ∈ Ds ∧ B ∈ Ds ∧ A.testBit (lka L k) = true ∧ B.testBit (lkb L k) = true ∧ hd (lka L k) = A ∧ hd (lkb L k) = B := by
  have hlip := D.lip hk
  have key : ∀ u, u < n → 2 * f u ≤ lvl L f k → ∃ A ∈ Ds, A.testBit u = true := fun u hu hl => by
    obtain ⟨j, hj⟩ := ev.rm hu
    refine (h.vis u hu).mpr ⟨j, Nat.lt_of_not_le fun hij => ?_, hj⟩
    rcases Nat.eq_or_lt_of_le hij with e | e
    · subst e
      rw [hi] at hj
      exact rm_ne_lk (Option.some.inj hj).symm
    · have hev : (lvl L f k : Int) - 2 * (c0 : Int) < 2 * (f u : Int) - 2 * (c0 : Int) ∨ ((lvl L f k : Int) - 2 * (c0 : Int) = 2 * (f u : Int) - 2 * (c0 : Int) ∧ ((1 : Int) < 0 ∨ ((1 : Int) = 0 ∧ (k : Int) ≤ (u : Int)))) := ev.ord hi hj e
      omega
  obtain ⟨ha, hb⟩ := D.b k hk
  obtain ⟨A, hA, a1⟩ := key _ ha (by unfold lvl; omega)
  obtain ⟨B, hB, b1⟩ := key _ hb (by unfold lvl; omega)
  exact ⟨A, B, hA, hB, a1, b1, h.hin A hA _ a1, h.hin B hB _ b1⟩
theorem HI.pastS (h : HI L n R f c0 r evs i δ Ds hd sn ks fd F G) {k : Nat} (hi : evs[i]? = some (lkE L f c0 k)) (hδ : δ = lvl L f k) : ∀ j e, j < i + 1 → evs[j]? = some e → e.1 ≤ (δ : Int) - 2 * (c0 : Int) := fun j e a b => by
  by_cases ej : j = i
  · subst ej
    rw [hi] at b
    cases b
    show (lvl L f k : Int) - 2 * (c0 : Int) ≤ _
    omega
  · exact h.past j e (by omega) b
theorem idx_rm {k : Nat} (hi : evs[i]? = some (lkE L f c0 k)) {v : Nat} : (∃ j, j < i + 1 ∧ evs[j]? = some (rmE f c0 v)) ↔ ∃ j, j < i ∧ evs[j]? = some (rmE f c0 v) := by
  constructor
  · rintro ⟨j, j1, j2⟩
    by_cases ej : j = i
    · subst ej
      rw [hi] at j2
      exact absurd (Option.some.inj j2).symm fun z => rm_ne_lk z
    · exact ⟨j, by omega, j2⟩
  · rintro ⟨j, j1, j2⟩; exact ⟨j, by omega, j2⟩
theorem idx_lk {k k' : Nat} (hi : evs[i]? = some (lkE L f c0 k)) (h : ∃ j, j < i + 1 ∧ evs[j]? = some (lkE L f c0 k')) : k' = k ∨ ∃ j, j < i ∧ evs[j]? = some (lkE L f c0 k') := by
  obtain ⟨j, j1, j2⟩ := h
  by_cases ej : j = i
  · subst ej
    rw [hi] at j2
    exact .inl (lkE_inj (Option.some.inj j2)).symm
  · exact .inr ⟨j, by omega, j2⟩
/-- a link's event, both its rooms in one piece -/
theorem HI.same (h : HI L n R f c0 r evs i δ Ds hd sn ks fd F G) (ev : EvOk L f c0 n evs) (D : Dual L n R f) {k : Nat} (hk : k < L.length) (hi : evs[i]? = some (lkE L f c0 k)) (hδ : δ = lvl L f k) (he : hd (lka L k) = hd (lkb L k)) : HI L n R f c0 r evs (i + 1) δ Ds hd sn ks fd F G := by
  obtain ⟨A, B, hA, hB, a1, b1, a2, b2⟩ := h.seen ev D hk hi
  have hAB : A = B := by rw [← a2, ← b2, he]
  subst hAB
  refine ⟨h.op, h.pastS hi hδ, h.nd, fun u hu => (h.vis u hu).trans (idx_rm hi).symm, h.one, h.lt, h.ne, fun C hC j hj hx => ?_, h.cn, h.hin, h.hout, h.key, h.sl, h.so, h.fo, h.fs, h.fp, h.ar, h.ak⟩
  rcases idx_lk hi hx with e | hx
  · subst e
    cases e1 : C.testBit (lka L j) <;> cases e2 : C.testBit (lkb L j)
    · rfl
    · rw [h.one C hC A hA _ e2 b1, a1] at e1; cases e1
    · rw [h.one C hC A hA _ e1 a1, b1] at e2; cases e2
    · rfl
  · exact h.cl C hC j hj hx
def endl (sn : Nat → Nat) (δ D : Nat) : List (Nat × Nat) := if sn D < δ then [(D, δ - sn D)] else []
theorem accF_app (g : Nat → Nat) (a b : List (Nat × Nat)) : accF g (a ++ b) = accF g a + accF g b := by
  unfold accF
  rw [List.map_append, List.sum_append]
theorem accF_endl (g sn : Nat → Nat) {δ D : Nat} (h : sn D ≤ δ) : accF g (endl sn δ D) = (δ - sn D) * g D := by
  unfold endl accF
  split
  · simp
  · rw [show δ - sn D = 0 by omega, Nat.zero_mul]; rfl
theorem endl_mem {sn : Nat → Nat} {δ D : Nat} {p : Nat × Nat} (h : p ∈ endl sn δ D) : p = (D, δ - sn D) ∧ sn D < δ := by
  unfold endl at h
  split at h
  · exact ⟨List.mem_singleton.mp h, by assumption⟩
  · simp at h
theorem or_bitH {A B v : Nat} : (A ||| B).testBit v = true ↔ A.testBit v = true ∨ B.testBit v = true := by
  rw [Nat.testBit_or, Bool.or_eq_true]
/-- a link's event that joins two pieces -/
theorem HI.join (h : HI L n R f c0 r evs i δ Ds hd sn ks fd F G) (ev : EvOk L f c0 n evs) (D : Dual L n R f) {k A B : Nat} (hk : k < L.length) (hi : evs[i]? = some (lkE L f c0 k)) (hδ : δ = lvl L f k) (ha : hd (lka L k) = A) (hb : hd (lkb L k) = B) (hAB : A ≠ B) :
    A ∈ Ds ∧ B ∈ Ds ∧ ∃ Ds', HI L n R f c0 r evs (i + 1) δ Ds' (fun v => if (A ||| B).testBit v = true then A ||| B else hd v) (upF sn (A ||| B) δ) ((A ||| B) :: ks) (fd ++ (endl sn δ A ++ endl sn δ B)) F G := by
  obtain ⟨A', B', hA, hB, a1, b1, a2, b2⟩ := h.seen ev D hk hi
  have eA : A = A' := ha.symm.trans a2
  have eB : B = B' := hb.symm.trans b2
  subst eA eB
  have p1 := List.perm_cons_erase hA
  have hB' : B ∈ Ds.erase A := (h.nd.mem_erase_iff).mpr ⟨Ne.symm hAB, hB⟩
  have p2 := p1.trans ((List.perm_cons_erase hB').cons A)
  generalize (Ds.erase A).erase B = E at p2
  have hnd : (A :: B :: E).Nodup := p2.nodup_iff.mp h.nd
  obtain ⟨n1, n2⟩ := List.nodup_cons.mp hnd
  obtain ⟨n3, n4⟩ := List.nodup_cons.mp n2
  have hE : ∀ C ∈ E, C ∈ Ds ∧ C ≠ A ∧ C ≠ B := fun C hC => ⟨p2.mem_iff.mpr (by simp [hC]), fun e => n1 (by rw [← e]; simp [hC]), fun e => n3 (e ▸ hC)⟩
  have hDs : ∀ C ∈ Ds, C = A ∨ C = B ∨ C ∈ E := fun C hC => by
    have := p2.mem_iff.mp hC
    simpa using this
  have dAB : ∀ v, A.testBit v = true → B.testBit v = true → False := fun v x y => hAB (h.one A hA B hB v x y)
  have dEA : ∀ C ∈ E, ∀ v, C.testBit v = true → A.testBit v = true → False := fun C hC v x y => (hE C hC).2.1 (h.one C (hE C hC).1 A hA v x y)
  have dEB : ∀ C ∈ E, ∀ v, C.testBit v = true → B.testBit v = true → False := fun C hC v x y => (hE C hC).2.2 (h.one C (hE C hC).1 B hB v x y)
  have hneE : ∀ C ∈ E, C ≠ A ||| B := fun C hC e => by
    obtain ⟨v, hv⟩ := h.ne C (hE C hC).1
    have hv' := hv
    rw [e, or_bitH] at hv'
    rcases hv' with h1 | h1
    · exact dEA C hC v hv h1
    · exact dEB C hC v hv h1
  have hsn : ∀ C ∈ E, upF sn (A ||| B) δ C = sn C := fun C hC => upF_ne (hneE C hC)
  have hacc : ∀ g : Nat → Nat, accF g (fd ++ (endl sn δ A ++ endl sn δ B)) + accD g (upF sn (A ||| B) δ) δ ((A ||| B) :: E) = accF g fd + accD g sn δ Ds := fun g => by
    have q1 : accD g sn δ Ds = (δ - sn A) * g A + ((δ - sn B) * g B + accD g sn δ E) := by
      unfold accD
      rw [sumP (p2.map _), List.map_cons, List.map_cons, List.sum_cons, List.sum_cons]
    have q2 : accD g (upF sn (A ||| B) δ) δ ((A ||| B) :: E) = accD g sn δ E := by
      unfold accD
      rw [List.map_cons, List.sum_cons, upF_same, Nat.sub_self, Nat.zero_mul, Nat.zero_add]
      exact congrArg List.sum (List.map_congr_left fun C hC => by rw [hsn C hC])
    rw [q1, q2, accF_app, accF_app, accF_endl g sn (h.sl A hA), accF_endl g sn (h.sl B hB)]
    omega
  have lamA : ∀ C, C = A ∨ C = B → ∀ p ∈ fd, Lam p.1 C := fun C hC p hp => by
    obtain ⟨C', hC', c1, c2⟩ := h.fs p hp
    have hCD : C ∈ Ds := by rcases hC with e | e <;> rw [e] <;> assumption
    by_cases e : C' = C
    · subst e; exact ⟨c2, .inl c1⟩
    · refine ⟨fun z => ?_, .inr (.inr fun v hv => e (h.one C' hC' C hCD v (c1 v hv.1) hv.2))⟩
      obtain ⟨v, hv⟩ := h.ne C hCD
      exact e (h.one C' hC' C hCD v (c1 v (z ▸ hv)) hv)
  refine ⟨hA, hB, (A ||| B) :: E, ⟨h.op, h.pastS hi hδ, List.nodup_cons.mpr ⟨fun z => hneE _ z rfl, n4⟩, fun u hu => ?_, ?_, ?_, ?_, ?_, ?_, ?_, ?_, ?_, ?_, ?_, ?_, ?_, ?_, ?_, ?_⟩⟩
  · rw [idx_rm hi, ← h.vis u hu]
    constructor
    · rintro ⟨C, hC, c1⟩
      rcases List.mem_cons.mp hC with e | hC
      · subst e
        rcases or_bitH.mp c1 with c1 | c1
        · exact ⟨A, hA, c1⟩
        · exact ⟨B, hB, c1⟩
      · exact ⟨C, (hE C hC).1, c1⟩
    · rintro ⟨C, hC, c1⟩
      rcases hDs C hC with e | e | e
      · subst e; exact ⟨_, List.mem_cons_self, or_bitH.mpr (.inl c1)⟩
      · subst e; exact ⟨_, List.mem_cons_self, or_bitH.mpr (.inr c1)⟩
      · exact ⟨C, List.mem_cons_of_mem _ e, c1⟩
  · intro C hC C' hC' u c1 c2
    have far : ∀ C ∈ E, C.testBit u = true → (A ||| B).testBit u = true → False := fun C hC x y => by
      rcases or_bitH.mp y with y | y
      · exact dEA C hC u x y
      · exact dEB C hC u x y
    rcases List.mem_cons.mp hC with e | hC <;> rcases List.mem_cons.mp hC' with e2 | hC'
    · rw [e, e2]
    · subst e; exact (far C' hC' c2 c1).elim
    · subst e2; exact (far C hC c1 c2).elim
    · exact h.one C (hE C hC).1 C' (hE C' hC').1 u c1 c2
  · intro C hC u c1
    rcases List.mem_cons.mp hC with e | hC
    · subst e
      rcases or_bitH.mp c1 with c1 | c1
      · exact h.lt A hA u c1
      · exact h.lt B hB u c1
    · exact h.lt C (hE C hC).1 u c1
  · intro C hC
    rcases List.mem_cons.mp hC with e | hC
    · subst e; exact ⟨_, or_bitH.mpr (.inl a1)⟩
    · exact h.ne C (hE C hC).1
  · intro C hC j hj hx
    rcases idx_lk hi hx with e | hx
    · subst e
      rcases List.mem_cons.mp hC with e | hC
      · subst e
        rw [or_bitH.mpr (.inl a1), or_bitH.mpr (.inr b1)]
      · rw [not_bit fun z => dEA C hC _ z a1, not_bit fun z => dEB C hC _ z b1]
    · rcases List.mem_cons.mp hC with e | hC
      · subst e
        rw [Nat.testBit_or, Nat.testBit_or, h.cl A hA j hj hx, h.cl B hB j hj hx]
      · exact h.cl C (hE C hC).1 j hj hx
  · intro C hC a b ca cb
    rcases List.mem_cons.mp hC with e | hC
    · subst e
      have reachA : ∀ x, (A ||| B).testBit x = true → ∃ Z, oddL L Z L.length = 2 ^ lka L k ^^^ 2 ^ x ∧ ∀ j, j < L.length → Z.testBit j = true → lvl L f j ≤ δ := fun x hx => by
        rcases or_bitH.mp hx with hx | hx
        · exact h.cn A hA _ _ a1 hx
        · obtain ⟨Z, z1, z2⟩ := h.cn B hB _ _ b1 hx
          refine ⟨2 ^ k ^^^ Z, ?_, fun j hj hz => ?_⟩
          · rw [oddL_xor, oddL_one L k hk, z1, xor_mid]
          · rw [Nat.testBit_xor, Nat.testBit_two_pow] at hz
            by_cases e : k = j
            · subst e; omega
            · rw [decide_eq_false e, Bool.false_xor] at hz
              exact z2 j hj hz
      obtain ⟨Z1, z1, z2⟩ := reachA a ca
      obtain ⟨Z2, z3, z4⟩ := reachA b cb
      refine ⟨Z1 ^^^ Z2, ?_, fun j hj hz => ?_⟩
      · rw [oddL_xor, z1, z3, Nat.xor_comm (2 ^ lka L k), xor_mid]
      · rw [Nat.testBit_xor] at hz
        cases e1 : Z1.testBit j with
        | true => exact z2 j hj e1
        | false =>
          rw [e1, Bool.false_xor] at hz
          exact z4 j hj hz
    · exact h.cn C (hE C hC).1 a b ca cb
  · intro C hC u c1
    rcases List.mem_cons.mp hC with e | hC
    · subst e; exact if_pos c1
    · have : ¬ (A ||| B).testBit u = true := fun z => by
        rcases or_bitH.mp z with z | z
        · exact dEA C hC u c1 z
        · exact dEB C hC u c1 z
      show (if (A ||| B).testBit u = true then A ||| B else hd u) = C
      rw [if_neg this]
      exact h.hin C (hE C hC).1 u c1
  · intro u hu hall
    have h0 : ¬ (A ||| B).testBit u = true := fun z => by rw [hall _ List.mem_cons_self] at z; cases z
    show (if (A ||| B).testBit u = true then A ||| B else hd u) = 2 ^ u
    rw [if_neg h0]
    refine h.hout u hu fun C hC => ?_
    rcases hDs C hC with e | e | e
    · subst e; exact not_bit fun z => h0 (or_bitH.mpr (.inl z))
    · subst e; exact not_bit fun z => h0 (or_bitH.mpr (.inr z))
    · exact hall C (List.mem_cons_of_mem _ e)
  · intro C hC
    rcases List.mem_cons.mp hC with e | hC
    · subst e; exact List.mem_cons_self
    · exact List.mem_cons_of_mem _ (h.key C (hE C hC).1)
  · intro C hC
    rcases List.mem_cons.mp hC with e | hC
    · subst e; rw [upF_same]; exact Nat.le_refl _
    · rw [hsn C hC]; exact h.sl C (hE C hC).1
  · intro C hC hlt
    rcases List.mem_cons.mp hC with e | hC
    · subst e; rw [upF_same] at hlt; omega
    · rw [hsn C hC] at hlt; exact h.so C (hE C hC).1 hlt
  · intro p hp
    rcases List.mem_append.mp hp with hp | hp
    · exact h.fo p hp
    · rcases List.mem_append.mp hp with hp | hp
      · obtain ⟨rfl, e2⟩ := endl_mem hp
        exact ⟨h.so A hA e2, by show 0 < δ - sn A; omega, h.lt A hA⟩
      · obtain ⟨rfl, e2⟩ := endl_mem hp
        exact ⟨h.so B hB e2, by show 0 < δ - sn B; omega, h.lt B hB⟩
  · intro p hp
    rcases List.mem_append.mp hp with hp | hp
    · obtain ⟨C, hC, c1, c2⟩ := h.fs p hp
      rcases hDs C hC with e | e | e
      · subst e
        refine ⟨_, List.mem_cons_self, fun v hv => or_bitH.mpr (.inl (c1 v hv)), fun z => ?_⟩
        exact dAB _ (c1 _ (by rw [z]; exact or_bitH.mpr (.inr b1))) b1
      · subst e
        refine ⟨_, List.mem_cons_self, fun v hv => or_bitH.mpr (.inr (c1 v hv)), fun z => ?_⟩
        exact dAB _ a1 (c1 _ (by rw [z]; exact or_bitH.mpr (.inl a1)))
      · exact ⟨C, List.mem_cons_of_mem _ e, c1, c2⟩
    · rcases List.mem_append.mp hp with hp | hp
      · obtain ⟨rfl, e2⟩ := endl_mem hp
        refine ⟨_, List.mem_cons_self, fun v hv => or_bitH.mpr (.inl hv), fun z => ?_⟩
        have z' : A = A ||| B := z
        exact dAB _ (by rw [z']; exact or_bitH.mpr (.inr b1)) b1
      · obtain ⟨rfl, e2⟩ := endl_mem hp
        refine ⟨_, List.mem_cons_self, fun v hv => or_bitH.mpr (.inr hv), fun z => ?_⟩
        have z' : B = A ||| B := z
        exact dAB _ a1 (by rw [z']; exact or_bitH.mpr (.inl a1))
  · refine List.pairwise_append.mpr ⟨h.fp, List.pairwise_append.mpr ⟨?_, ?_, ?_⟩, ?_⟩
    · unfold endl; split <;> simp
    · unfold endl; split <;> simp
    · intro p hp q hq
      obtain ⟨rfl, _⟩ := endl_mem hp
      obtain ⟨rfl, _⟩ := endl_mem hq
      exact ⟨hAB, .inr (.inr fun v hv => dAB v hv.1 hv.2)⟩
    · intro p hp q hq
      rcases List.mem_append.mp hq with hq | hq
      · obtain ⟨rfl, _⟩ := endl_mem hq
        exact lamA A (.inl rfl) p hp
      · obtain ⟨rfl, _⟩ := endl_mem hq
        exact lamA B (.inr rfl) p hp
  · rw [hacc]; exact h.ar
  · intro j hj
    rw [hacc]; exact h.ak j hj
/-- what the hills are -/
structure HillsOk (L : Lk) (n T r c0 : Nat) (hs : List (Nat × Nat)) : Prop where
  o : ∀ p ∈ hs, mpar (fun v => p.1.testBit v) T n = true ∧ 0 < p.2 ∧ p.1.testBit r = false ∧ ∀ v, p.1.testBit v = true → v < n
  l : hs.Pairwise fun p q => Lam p.1 q.1
  k : ∀ k, k < L.length → accF (xk L k) hs ≤ 2 * lkw L k
  s : (hs.map fun p => p.2).sum = 2 * c0
theorem accF_filter (g : Nat → Nat) (r : Nat) : ∀ fd : List (Nat × Nat), accF g (fd.filter fun p => !p.1.testBit r) ≤ accF g fd ∧ ((fd.filter fun p => !p.1.testBit r).map fun p => p.2).sum = accF (nr r) fd
  | [] => ⟨Nat.le_refl _, rfl⟩
  | p :: fd => by
    obtain ⟨h1, h2⟩ := accF_filter g r fd
    unfold accF at h1 h2 ⊢
    cases hb : p.1.testBit r with
    | true =>
      rw [List.filter_cons_of_neg (by simp [hb]), List.map_cons, List.sum_cons, List.map_cons, List.sum_cons, show nr r p.1 = 0 from if_pos hb]
      constructor
      · omega
      · rw [h2]; omega
    | false =>
      rw [List.filter_cons_of_pos (by simp [hb]), List.map_cons, List.sum_cons, List.map_cons, List.sum_cons, List.map_cons, List.sum_cons, List.map_cons, List.sum_cons, show nr r p.1 = 1 from if_neg (by rw [hb]; decide)]
      constructor
      · omega
      · rw [h2]; omega
theorem HI.fin (h : HI L n R f c0 r evs evs.length δ Ds hd sn ks fd F G) (ev : EvOk L f c0 n evs) (D : Dual L n R f) (hw : WholeL L n) (hr : r < n) : HillsOk L n (R ^^^ 2 ^ r) r c0 (fd.filter fun p => !p.1.testBit r) := by
  have hl := h.lev ev D fun e he => by
    have := (List.getElem?_eq_some_iff.mp he).1
    omega
  have hdry : ∀ k, k < L.length → lvl L f k ≤ δ := fun k hk => by
    obtain ⟨j, hj⟩ := ev.lk hk
    have := h.past j _ (List.getElem?_eq_some_iff.mp hj).1 hj
    have : (lvl L f k : Int) - 2 * (c0 : Int) ≤ (δ : Int) - 2 * (c0 : Int) := this
    omega
  have hF := h.op.dry D hdry hr
  have hall : ∀ C ∈ Ds, C.testBit r = true := fun C hC => by
    obtain ⟨u, hu⟩ := h.ne C hC
    have hun := h.lt C hC u hu
    have key := hw (fun v => C.testBit v == C.testBit 0) (by simp) fun k hk => by
      show (C.testBit (lka L k) == C.testBit 0) = (C.testBit (lkb L k) == C.testBit 0)
      rw [hl.cl C hC k hk (hdry k hk)]
    have k1 := key u hun
    have k2 := key r hr
    have k1' : C.testBit u = C.testBit 0 := by simpa using k1
    have k2' : C.testBit r = C.testBit 0 := by simpa using k2
    rw [k2', ← k1', hu]
  have hD0 : accD (nr r) sn δ Ds = 0 := sum_eq0 Ds _ fun C hC => by rw [show nr r C = 0 from if_pos (hall C hC), Nat.mul_zero]
  refine ⟨fun p hp => ?_, h.fp.filter _, fun k hk => ?_, ?_⟩
  · obtain ⟨h1, h2⟩ := List.mem_filter.mp hp
    have h2' : p.1.testBit r = false := by simpa using h2
    obtain ⟨a1, a2, a3⟩ := h.fo p h1
    refine ⟨?_, a2, h2', a3⟩
    rw [mpar_xor, a1, mpar_in hr]
    show (true ^^ p.1.testBit r) = true
    rw [h2']
    rfl
  · have a := h.ak k hk
    have b := (accF_filter (xk L k) r fd).1
    have c := D.lip hk
    have hm : mn δ (lvl L f k) = lvl L f k := if_pos (hdry k hk)
    rw [hm] at a
    unfold lvl at a
    omega
  · have a := h.ar
    rw [(accF_filter (nr r) r fd).2]
    omega
end

section
variable {P : Program} {w : World} {K : PySem.W.Frag} {mg : Str → Option Value} {base : Heap} {C_OddMarks C_Parted C_TooRough C_FloorError : Addr}
def spEvents (K : PySem.W.Frag) : Sp := fun vs H Q _ => ∃ (p pt : Addr) (n c0 : Nat) (L : Lk) (f : Nat → Nat), vs = [.int n, .ref p, .ref pt] ∧ Dp K H (.ref p) (dLks L) ∧ (∀ k, k < L.length → lka L k < n ∧ lkb L k < n) ∧ n ≤ 1000 ∧ L.length ≤ 1000 ∧ c0 ≤ 10 ^ 45 ∧ (∀ r, r < n → f r ≤ 10 ^ 45) ∧ SqL K H pt ((List.range n).map fun r => V.int ((c0 : Int) - (f r : Nat))) ∧
  ∀ (q : Addr) H' (cs : List (Addr × Ev)), Same H H' → New H q → H' q = some (.lst (cs.map fun b => V.ref b.1)) → (∀ b ∈ cs, SqT K (wo H' q) b.1 [.int b.2.1, .int b.2.2.1, .int b.2.2.2]) → EvOk L f c0 n (cs.map fun b => b.2) → Q (.ref q) H'
/-- fresh triples, gathered in a list -/
def EvsAt (K : PySem.W.Frag) (H : Hp) (D : Addr) (es : List Ev) : Prop := ∃ cs : List (Addr × Ev), H D = some (.lst (cs.map fun b => V.ref b.1)) ∧ cs.map (fun b => b.2) = es ∧ ∀ b ∈ cs, SqT K (wo H D) b.1 [.int b.2.1, .int b.2.2.1, .int b.2.2.2]
theorem EvsAt.nil {H : Hp} {D : Addr} : EvsAt K (upd H D (.lst [])) D [] := ⟨[], upd_same, rfl, fun b hb => absurd hb (by simp)⟩
theorem EvsAt.app {H H' : Hp} {D : Addr} {cs : List (Addr × Ev)} {e : Ev} {pt : Addr} (h1 : H D = some (.lst (cs.map fun b => V.ref b.1))) (h3 : ∀ b ∈ cs, SqT K (wo H D) b.1 [.int b.2.1, .int b.2.2.1, .int b.2.2.2]) (np : New H pt) :
    EvsAt K (upd (upd H pt (.tup [.int e.1, .int e.2.1, .int e.2.2])) D (.lst (cs.map (fun b => V.ref b.1) ++ [.ref pt]))) D (cs.map (fun b => b.2) ++ [e]) := by
  have hD : D ≠ pt := ne_new h1 np
  refine ⟨cs ++ [(pt, e)], by rw [upd_same, List.map_append]; rfl, by rw [List.map_append]; rfl, fun b hb => ?_⟩
  rw [wo_eq]
  rcases List.mem_append.mp hb with hb | hb
  · exact same_read (wo_mono (same_upd np)) (h3 b hb)
  · rw [List.mem_singleton.mp hb]
    exact SqT.of (wo_get upd_same (Ne.symm hD))
theorem ok_events_of {f : Addr} {fd : FuncData} (F : Fun K "events_of" "events_of" s_events_of f fd) (gf : mg "events_of" = some (.ref f)) (B : Bl mg) {C_OddMarks C_Parted C_TooRough C_FloorError : Addr} (T : Txt K mg C_OddMarks C_Parted C_TooRough C_FloorError) : Has P w K mg base CX0 1 "events_of" ["many", "links", "tops"] (spEvents K) := by
  refine Has.mk' F gf (F.binds (ps := ["many", "links", "tops"]) fun _ _ _ _ _ _ us hl => match us, hl with | [_, _, _], _ => rfl) sc_events_of (by walk_at "len") (fun cdv A outer s H vs Q E hr h => ?_)
  obtain ⟨p, pt, n, c0, L, f, rfl, hL, hb, hn, hll, hcB, hfB, hT, q⟩ := h
  obtain ⟨ls, hl, hls⟩ := dpLstA hL
  have hlen : ls.length = L.length := by have := dpaLen hls; simpa using this
  refine ⟨_, (pss_cons (ps_setLc (i := 3) (own := [("room", 7)]) rfl sc_events_of.nd rfl rfl (sw_true rfl rfl rfl (by decide +kernel)) (pi_range1 (by rfl) B.range (pa_cons (pv 0) pa_nil)) (blkOk_by (own := [("room", 7)]) (N := ["many", "links", "tops", "rooms", "dry", "k", "link", "room"]) (sc := defScope s_events_of) (by decide +kernel)) (fun _ _ _ _ _ => pg_name (i := 7) sc_events_of.nd rfl (Or.inl rfl)) (fun _ _ _ _ _ => pts_nil) (fun _ _ _ _ _ => (pe_tup (pa_cons (pe_op op_mulX (pe_un un_neg pe_int) (pe_ix (ix_listK K) (pv 2) (pv 7) (fun _ _ => rfl))) (pa_cons pe_int (pa_cons (pv 7) pa_nil))))))
 (pss_cons (ps_set (i := 4) sc_events_of.nd rfl (.inl rfl) (pe_lst pa_nil))
 (pss_cons (ps_for PassesOwn.never rfl (pi_range1 (by rfl) B.range (pa_cons (pe_callB (call_lenK K) (by rfl) B.len (by decide +kernel) (pa_cons (pv 1) pa_nil)) pa_nil)) (pg_name (i := 5) sc_events_of.nd rfl (.inl rfl)) (pss_cons (ps_set (i := 6) sc_events_of.nd rfl (.inl rfl) (pe_ix (ix_listK K) (pv 1) (pv 5) (fun _ _ => rfl)))
 (pss_one (ps_expr (pe_bmK K (pe_bm PySem.F.plainAttrs_list PySem.F.slot_list_append PySem.F.type_list_append mt_append (pv 4) (pa_cons (pe_tup (pa_cons (pe_op op_sub (pe_op op_sub (pe_ix (ix_tupK K) (pv 6) pe_int (fun _ _ => rfl)) (pe_ix (ix_listK K) (pv 2) (pe_ix (ix_tupK K) (pv 6) pe_int (fun _ _ => rfl)) (fun _ _ => rfl))) (pe_ix (ix_listK K) (pv 2) (pe_ix (ix_tupK K) (pv 6) pe_int (fun _ _ => rfl)) (fun _ _ => rfl))) (pa_cons pe_int (pa_cons (pv 5) pa_nil)))) pa_nil)))))))
 (pss_one (ps_ret (pe_callB (cr_sort3 K hr.units) (by rfl) B.sorted (by decide +kernel) (pa_cons (pe_op op_cat (pv 3) (pv 4)) pa_nil))))))), ?_⟩
  walk_at "sts"
  intro D nD
  refine lc_r0 (n := n) rfl (fun i H' => EvsAt K H' D ((List.range i).map (rmE f c0)) ∧ Same H H') ?_ ?_ ?_
  · exact ⟨EvsAt.nil, same_upd nD⟩
  · rintro i H' hi ⟨⟨cs, x1, x2, x3⟩, s1⟩
    have hT1 := s1.seq hT
    have hfi := hfB i hi
    have er : ((List.range n).map fun r => V.int ((c0 : Int) - (f r : Nat)))[i]? = some (.int ((c0 : Int) - (f i : Nat))) := map_at hi
    walk_at "sts"
    refine w_new fun pe ne => ?_
    have hcl : cs.length = i := by have := congrArg List.length x2; simpa using this
    have hD : D ≠ pe := ne_new x1 ne
    have e1 : -2 * ((c0 : Int) - (f i : Nat)) = 2 * (f i : Int) - 2 * (c0 : Int) := by omega
    rw [e1]
    refine ⟨_, (same_upd ne) _ _ x1, szlt (by simp; omega), ?_, (s1.trans (same_upd ne)).mut nD⟩
    have := EvsAt.app (K := K) (H' := H') (e := rmE f c0 i) x1 x3 ne
    rw [List.range_succ, List.map_append, ← x2]
    exact this
  rintro H1 ⟨⟨cs, x1, x2, x3⟩, s1⟩
  walk_at "sts"
  refine w_new fun pd nd => ?_
  have hT1 := s1.seq hT
  have hL1 := hL.same s1
  obtain ⟨ls1, hl1, hls1⟩ := dpLstA hL1
  have hlen1 : ls1.length = L.length := by have := dpaLen hls1; simpa using this
  have hDd : D ≠ pd := ne_new x1 nd
  have sd := same_upd (o := .lst []) nd
  walk_at "sts"
  refine for_r0 (n := L.length) ?_ (fun i σ H' => ∃ (y5 y6 y7 : Option V), σ = [some (.int (n : Nat)), some (.ref p), some (.ref pt), some (.ref D), some (.ref pd), y5, y6, y7] ∧ EvsAt K H' pd ((List.range i).map (lkE L f c0)) ∧ Same H1 H') ?_ ?_ ?_
  · rw [hlen1]
  · exact ⟨_, _, _, rfl, EvsAt.nil, sd⟩
  · rintro i σ H' hi ⟨y5, y6, y7, rfl, ⟨ds, z1, z2, z3⟩, s2⟩
    have hl2 := s2.seq hl1
    obtain ⟨pk, e1, e2⟩ := dpLkAt hls1 hi
    have e3 := same_read s2 e2
    have hT2 := s2.seq hT1
    obtain ⟨hba, hbb⟩ := hb i hi
    have era : ((List.range n).map fun r => V.int ((c0 : Int) - (f r : Nat)))[lka L i]? = some (.int ((c0 : Int) - (f (lka L i) : Nat))) := map_at hba
    have erb : ((List.range n).map fun r => V.int ((c0 : Int) - (f r : Nat)))[lkb L i]? = some (.int ((c0 : Int) - (f (lkb L i) : Nat))) := map_at hbb
    walk_at "sts"
    refine w_new fun pe ne => ?_
    have hcl : ds.length = i := by have := congrArg List.length z2; simpa using this
    have e4 : (lkw L i : Int) - ((c0 : Int) - (f (lka L i) : Nat)) - ((c0 : Int) - (f (lkb L i) : Nat)) = (lvl L f i : Int) - 2 * (c0 : Int) := by unfold lvl; omega
    rw [e4]
    have z1' := (same_upd (o := .tup [V.int ((lvl L f i : Int) - 2 * (c0 : Int)), V.int 1, V.int (i : Nat)]) ne) _ _ z1
    walk_at "sts"
    refine ⟨_, _, _, rfl, ?_, ((s2.trans (same_upd ne)).mut nd)⟩
    have := EvsAt.app (K := K) (H' := H') (e := lkE L f c0 i) z1 z3 ne
    rw [List.range_succ, List.map_append, ← z2]
    exact this
  · rintro σ H' ⟨y5, y6, y7, rfl, ⟨ds, z1, z2, z3⟩, s2⟩
    have x1' := s2 _ _ x1
    walk_at "sts"
    refine ⟨D, pd, _, _, rfl, rfl, x1', z1, ?_, w_new fun pc nc => ?_⟩
    · have e1 := congrArg List.length x2
      have e2 := congrArg List.length z2
      rw [List.length_map, List.length_map, List.length_range] at e1 e2
      rw [List.length_map, List.length_map, sizeLine_eq]
      omega
    have hc : upd H' pc (.lst (cs.map (fun b => V.ref b.1) ++ ds.map fun b => V.ref b.1)) pc = some (.lst ((cs ++ ds).map fun b => V.ref b.1)) := by rw [upd_same, List.map_append]
    have s3 := same_upd (o := .lst (cs.map (fun b => V.ref b.1) ++ ds.map fun b => V.ref b.1)) nc
    have hall : ∀ b ∈ cs ++ ds, SqT K (upd H' pc (.lst (cs.map (fun b => V.ref b.1) ++ ds.map fun b => V.ref b.1))) b.1 [.int b.2.1, .int b.2.2.1, .int b.2.2.2] := fun b hb => by
      rcases List.mem_append.mp hb with hb | hb
      · exact same_read ((wo_same.trans s2).trans s3) (x3 b hb)
      · exact same_read (wo_same.trans s3) (z3 b hb)
    generalize upd H' pc (.lst (cs.map (fun b => V.ref b.1) ++ ds.map fun b => V.ref b.1)) = H4 at hc s3 hall ⊢
    walk_at "sts"
    refine ⟨pc, cs ++ ds, rfl, SqL.of hc, fun b hb => .tup (hall b hb) (dpInts [b.2.1, b.2.2.1, b.2.2.2]), ?_, fun es pz hp hs nz => ?_⟩
    · have e1 := congrArg List.length x2
      have e2 := congrArg List.length z2
      rw [List.length_map, List.length_map, List.length_range] at e1 e2
      rw [List.length_append]
      omega
    have st := (s1.trans s2).trans s3
    refine q pz _ es (st.trans (same_upd nz)) (nz.of st) upd_same (fun b hb => ?_) ⟨?_, ?_⟩
    · rw [wo_eq]
      exact same_read (same_wo (Same.refl _) nz) (hall b (hp.mem_iff.mp hb))
    · have := hp.map fun b : Addr × Ev => b.2
      rw [List.map_append, x2, z2] at this
      exact this
    · exact List.pairwise_map.mpr hs
theorem wo_inv {H : Hp} {p b : Addr} {o : HO} (h : wo H p b = some o) : b ≠ p ∧ H b = some o := by
  unfold wo at h
  split at h
  · cases h
  · exact ⟨by assumption, h⟩
def TsAt (K : PySem.W.Frag) (H : Hp) (D ph ps : Addr) (ts : List (Addr × Nat × Nat)) : Prop := H D = some (.lst (ts.map fun t => V.ref t.1)) ∧ ∀ t ∈ ts, SqT K (wo (wo (wo H D) ph) ps) t.1 [.int (t.2.1 : Nat), .int (t.2.2 : Nat)]
theorem TsAt.app {H : Hp} {D ph ps pt : Addr} {ts : List (Addr × Nat × Nat)} {m c : Nat} {xs : List V} {o o' : HO} (h : TsAt K H D ph ps ts) (n : New H pt) (h1 : H ph = some o) (h2 : H ps = some o') : TsAt K (upd (upd H pt (.tup [.int (m : Nat), .int (c : Nat)])) D (.lst (ts.map (fun t => V.ref t.1) ++ [.ref pt]))) D ph ps (ts ++ [(pt, m, c)]) := by
  have d1 : D ≠ pt := ne_new h.1 n
  have d2 : ph ≠ pt := ne_new h1 n
  have d3 : ps ≠ pt := ne_new h2 n
  refine ⟨by rw [upd_same, List.map_append]; rfl, fun t ht => ?_⟩
  rw [wo_eq]
  rcases List.mem_append.mp ht with ht | ht
  · exact same_read (wo_mono (wo_mono (wo_mono (same_upd n)))) (h.2 t ht)
  · rw [List.mem_singleton.mp ht]
    exact SqT.of (wo_get (wo_get (wo_get upd_same (Ne.symm d1)) (Ne.symm d2)) (Ne.symm d3))
theorem iv_setF (W : Nat → Nat) (n j v : Nat) : (iv ((List.range n).map W)).set j (.int (v : Nat)) = iv ((List.range n).map (upF W j v)) := by
  have e : ∀ W : Nat → Nat, iv ((List.range n).map W) = (List.range n).map fun r => V.int ((W r : Nat) : Int) := fun W => by unfold iv; rw [List.map_map]; rfl
  rw [e, e, map_set]
  refine List.map_congr_left fun r _ => ?_
  by_cases e : r = j
  · subst e; rw [if_pos rfl, upF_same]
  · rw [if_neg e, upF_ne e]
def spJoined (K : PySem.W.Frag) : Sp := fun vs H Q _ => ∃ (ph ps pk : Addr) (n c0 δ a b w : Nat) (hd sn : Nat → Nat) (ks : List Nat) (kvs : List (Key × V)), vs = [.ref ph, .ref ps, .ref pk, .int ((δ : Int) - 2 * (c0 : Int))] ∧
  H ph = some (.lst (iv ((List.range n).map hd))) ∧ H ps = some (.dK kvs) ∧ Holds kvs ks (fun D => .int ((sn D : Int) - 2 * (c0 : Int))) ∧ SqT K H pk [.int (a : Nat), .int (b : Nat), .int (w : Nat)] ∧ a < n ∧ b < n ∧ n ≤ 80 ∧ hd a ∈ ks ∧ hd b ∈ ks ∧ sn (hd a) ≤ δ ∧ sn (hd b) ≤ δ ∧ hd a < 2 ^ n ∧ hd b < 2 ^ n ∧ ks.length ≤ 10000 ∧
  (hd a = hd b → ∀ p H', Same H H' → New H p → H' p = some (.lst []) → Q (.ref p) H') ∧
  (hd a ≠ hd b → ∀ (p : Addr) (H' : Hp) (kvs' : List (Key × V)) (ts : List (Addr × Nat × Nat)), Same (wo (wo H ph) ps) H' → New H p → H' ph = some (.lst (iv ((List.range n).map fun v => if (hd a ||| hd b).testBit v = true then hd a ||| hd b else hd v))) → H' ps = some (.dK kvs') → Holds kvs' (ks ++ [hd a ||| hd b]) (fun D => .int (((upF sn (hd a ||| hd b) δ D : Nat) : Int) - 2 * (c0 : Int))) →
    H' p = some (.lst (ts.map fun t => V.ref t.1)) → ts.map (fun t => t.2) = endl sn δ (hd a) ++ endl sn δ (hd b) → (∀ t ∈ ts, SqT K (wo (wo (wo H' p) ph) ps) t.1 [.int (t.2.1 : Nat), .int (t.2.2 : Nat)] ∧ New H t.1) → Q (.ref p) H')
local macro_rules | `(tactic| walk_at "len") => `(tactic| (intro vs H Q E h; obtain ⟨_, _, _, _, _, _, _, _, _, _, _, _, _, e, _⟩ := h; subst e; rfl))
theorem ok_joined {f : Addr} {fd : FuncData} (F : Fun K "joined" "joined" s_joined f fd) (gf : mg "joined" = some (.ref f)) (B : Bl mg) {C_OddMarks C_Parted C_TooRough C_FloorError : Addr} (T : Txt K mg C_OddMarks C_Parted C_TooRough C_FloorError) (h_bits : Has P w K mg base CX0 1 "bits" ["mask"] spBits) : Has P w K mg base CX0 2 "joined" ["holder", "since", "link", "depth"] (spJoined K) := by
  refine Has.mk' F gf (F.binds (ps := ["holder", "since", "link", "depth"]) fun _ _ _ _ _ _ us hl => match us, hl with | [_, _, _, _], _ => rfl) sc_joined (by walk_at "len") (fun cdv A outer s H vs Q E hr h => ?_)
  obtain ⟨ph, ps, pk, n, c0, δ, a, b, w, hd, sn, ks, kvs, rfl, hph, hps, hks, hpk, ha, hb, hn, hka, hkb, hsa, hsb, hla, hlb, hkl, q1, q2⟩ := h
  have hne : ph ≠ ps := fun e => by subst e; rw [hph] at hps; cases hps
  have hphS := SqL.of (K := K) hph
  have ea : (iv ((List.range n).map hd))[a]? = some (.int (hd a : Nat)) := iv_map_at ha
  have eb : (iv ((List.range n).map hd))[b]? = some (.int (hd b : Nat)) := iv_map_at hb
  refine ⟨_, (pss_cons (ps_set (i := 4) sc_joined.nd rfl (.inl rfl) (pe_ix (ix_listK K) (pv 0) (pe_ix (ix_tupK K) (pv 2) pe_int (fun _ _ => rfl)) (fun _ _ => rfl)))
 (pss_cons (ps_set (i := 5) sc_joined.nd rfl (.inl rfl) (pe_ix (ix_listK K) (pv 0) (pe_ix (ix_tupK K) (pv 2) pe_int (fun _ _ => rfl)) (fun _ _ => rfl)))
 (pss_cons (ps_if (pt_cmpR op_eq (pv 4) (pv 5) (nomark _)) (pss_one (ps_ret (pe_lst pa_nil))) pss_nil)
 (pss_cons (ps_setLc (i := 6) (own := [("mask", 9)]) rfl sc_joined.nd rfl rfl (sw_true rfl rfl rfl (by decide +kernel)) (pi_listK K (pe_lst (pa_cons (pv 4) (pa_cons (pv 5) pa_nil)))) (blkOk_by (own := [("mask", 9)]) (N := ["holder", "since", "link", "depth", "one", "two", "ended", "both", "room", "mask"]) (sc := defScope s_joined) (by decide +kernel)) (fun _ _ _ _ _ => pg_name (i := 9) sc_joined.nd rfl (Or.inl rfl)) (fun _ _ _ _ _ => (pts_one (pt_cmpR op_gt (pv 3) (pe_dget (hu_of hr) (pv 1) (pv 9) (fun _ _ => rfl)) (nomark _)))) (fun _ _ _ _ _ => (pe_tup (pa_cons (pv 9) (pa_cons (pe_op op_sub (pv 3) (pe_dget (hu_of hr) (pv 1) (pv 9) (fun _ _ => rfl))) pa_nil)))))
 (pss_cons (ps_set (i := 7) sc_joined.nd rfl (.inl rfl) (pe_op op_or (pv 4) (pv 5)))
 (pss_cons (ps_dput (hu_of hr) (pv 1) (pv 7) (pv 3) rfl)
 (pss_cons (ps_for PassesOwn.never rfl (pi_listK K (pe_fn h_bits (hr.mono (by decide)) (by rfl) (pa_cons (pv 7) pa_nil))) (pg_name (i := 8) sc_joined.nd rfl (.inl rfl)) (pss_one (ps_asg (pv 7) (pg_sub (pv 0) (pv 8) set_list))))
 (pss_one (ps_ret (pv 6)))))))))), ?_⟩
  walk_at "sts"
  refine ifd (fun he => ?_) (fun he => ?_)
  · walk_at "sts"
    refine w_new fun p np => ?_
    exact q1 (by omega) p _ (same_upd np) np upd_same
  have hAB : hd a ≠ hd b := fun e => he (by rw [e])
  have q := q2 hAB
  clear q1 q2 he
  generalize hd a = A at q hAB hka hsa hla ea ⊢
  generalize hd b = B at q hAB hkb hsb hlb eb ⊢
  walk_at "sts"
  refine w_new fun p0 n0 => ?_
  have s0 := same_upd (o := .lst [V.int (A : Nat), V.int (B : Nat)]) n0
  have h0 : upd H p0 (.lst [V.int (A : Nat), V.int (B : Nat)]) p0 = some (.lst [V.int (A : Nat), V.int (B : Nat)]) := upd_same
  have hps0 := s0 _ _ hps
  have hph0 := s0 _ _ hph
  generalize upd H p0 (.lst [V.int (A : Nat), V.int (B : Nat)]) = H0 at s0 h0 hps0 hph0 ⊢
  have hgv : ∀ M, M ∈ ks → valV kvs (.inl (M : Int)) = some (.int ((sn M : Int) - 2 * (c0 : Int))) := fun M hM => by
    have := hks.2 M
    rw [if_pos hM] at this
    exact this
  walk_at "sts"
  intro D nD
  refine lc_list (xs := iv [A, B]) (fun i H' => ∃ ts : List (Addr × Nat × Nat), TsAt K H' D ph ps ts ∧ Same H0 H' ∧ ts.map (fun t => t.2) = (([A, B].take i).map (endl sn δ)).flatten ∧ ts.length ≤ i ∧ ∀ t ∈ ts, New H t.1) ?_ ?_ ?_ ?_
  · exact ⟨[], ⟨upd_same, fun t ht => absurd ht (by simp)⟩, same_upd nD, rfl, Nat.le_refl _, fun t ht => absurd ht (by simp)⟩
  · rintro i H' _ ⟨_, _, g, _⟩
    exact SqL.of (g _ _ h0)
  · rintro i v H' hv ⟨ts, hts, g, t3, t5, t4⟩
    have t1 := hts.1
    have hi : i < [A, B].length := by rw [← iv_len]; exact (List.getElem?_eq_some_iff.mp hv).1
    rw [iv_at hi] at hv
    cases hv
    have hi2 : i < 2 := hi
    have hMk : [A, B].getD i 0 ∈ ks ∧ sn ([A, B].getD i 0) ≤ δ := by
      have : i = 0 ∨ i = 1 := by omega
      rcases this with rfl | rfl
      · exact ⟨hka, hsa⟩
      · exact ⟨hkb, hsb⟩
    rw [take_snoc hi, List.map_append, List.flatten_append, ← t3]
    generalize [A, B].getD i 0 = M at hMk ⊢
    have hps' := g _ _ hps0
    have hg := hgv M hMk.1
    have em : ([M].map (endl sn δ)).flatten = endl sn δ M := by simp
    rw [em]
    walk_at "sts"
    refine w_getI hps' hg ?_
    walk_at "sts"
    refine ifd (fun hc => ?_) (fun hc => ?_)
    · walk_at "sts"
      refine w_getI hps' hg ?_
      walk_at "sts"
      refine w_new fun pt nt => ?_
      have hD : D ≠ pt := ne_new t1 nt
      rw [show (δ : Int) - 2 * (c0 : Int) - ((sn M : Int) - 2 * (c0 : Int)) = ((δ - sn M : Nat) : Int) by omega]
      refine ⟨_, (same_upd nt) _ _ t1, szlt (by simp; omega), ts ++ [(pt, M, δ - sn M)], hts.app (xs := []) nt (g _ _ hph0) hps', (g.trans (same_upd nt)).mut nD, ?_, by simp; omega, fun t ht => ?_⟩
      · rw [List.map_append]
        unfold endl
        rw [if_pos (by omega)]
        rfl
      · rcases List.mem_append.mp ht with ht | ht
        · exact t4 t ht
        · rw [List.mem_singleton.mp ht]
          exact nt.of (s0.trans g)
    · refine ⟨ts, hts, g, ?_, by omega, t4⟩
      unfold endl
      rw [if_neg (by omega), List.append_nil]
  rintro H1 ⟨ts, ⟨t1, t2⟩, g, t3, t5, t4⟩
  have t3' : ts.map (fun t => t.2) = endl sn δ A ++ endl sn δ B := by rw [t3]; simp [iv]
  have hps1 := g _ _ hps0
  have hph1 := g _ _ hph0
  have hDp : D ≠ ph := Ne.symm (ne_new hph0 nD)
  have hDs : D ≠ ps := Ne.symm (ne_new hps0 nD)
  have hkl' : kvs.length < sizeLine := szlt (by have := hks.1; omega)
  walk_at "sts"
  rw [or_nat]
  obtain ⟨C, hC⟩ : ∃ C, C = A ||| B := ⟨_, rfl⟩
  rw [← hC] at q ⊢
  have hCn : C < 2 ^ n := by rw [hC]; exact Nat.or_lt_two_pow hla hlb
  have hH : Holds (putK kvs (.inl ((C : Nat) : Int)) (.int ((δ : Int) - 2 * (c0 : Int)))) (ks ++ [C]) (fun D => .int (((upF sn C δ D : Nat) : Int) - 2 * (c0 : Int))) := by
    refine ⟨by have := putK_len (kvs := kvs) (k := .inl (C : Int)) (v := .int ((δ : Int) - 2 * (c0 : Int))); have := hks.1; simp; omega, fun d => ?_⟩
    rw [valV_put, hks.2]
    by_cases e : d = C
    · subst e
      rw [if_pos rfl, if_pos (by simp)]
      show _ = some (V.int (((upF sn d δ d : Nat) : Int) - 2 * (c0 : Int)))
      rw [upF_same]
    · rw [if_neg (fun z => e (by have := Sum.inl.inj z; omega))]
      by_cases hd : d ∈ ks
      · rw [if_pos hd, if_pos (by simp [hd])]
        show some (V.int ((sn d : Int) - 2 * (c0 : Int))) = some (V.int (((upF sn C δ d : Nat) : Int) - 2 * (c0 : Int)))
        rw [upF_ne e]
      · rw [if_neg hd, if_neg (by simp [hd, e])]
  walk_at "sts"
  generalize hkv : putK kvs (.inl ((C : Nat) : Int)) (.int ((δ : Int) - 2 * (c0 : Int))) = kvs' at hH ⊢
  have z0 : upd H1 ps (.dK kvs') ps = some (.dK kvs') := upd_same
  have zo : ∀ b o, b ≠ ps → H1 b = some o → upd H1 ps (.dK kvs') b = some o := fun b o h1 h2 => (upd_ne h1).trans h2
  generalize upd H1 ps (.dK kvs') = Hs at z0 zo ⊢
  refine ⟨C, n, rfl, hCn, by omega, fun pb H2 s2 n2 l2 => ?_⟩
  have hph2 := s2 _ _ (zo _ _ hne hph1)
  have hps2 := s2 _ _ z0
  have hD2 := s2 _ _ (zo _ _ hDs t1)
  have hpb : pb ≠ ph := Ne.symm (ne_new (zo _ _ hne hph1) n2)
  have lpb : wo H2 ph pb = some (.lst (iv (bl C n))) := wo_get l2 hpb
  have hbm : ∀ v, v ∈ bl C n ↔ C.testBit v = true := fun v => bl_mem hCn
  walk_at "sts"
  refine for_list (xs := iv (bl C n)) (fun j σ H' => ∃ (y8 y9 : Option V), σ = [some (.ref ph), some (.ref ps), some (.ref pk), some (.int ((δ : Int) - 2 * (c0 : Int))), some (.int (A : Nat)), some (.int (B : Nat)), some (.ref D), some (.int (C : Nat)), y8, y9] ∧ Same (wo H2 ph) H' ∧ H' ph = some (.lst (iv ((List.range n).map fun v => if v ∈ (bl C n).take j then C else hd v)))) ?_ ?_ ?_ ?_
  · exact ⟨_, _, rfl, wo_same, by simp only [List.take_zero, List.not_mem_nil, if_false]; exact hph2⟩
  · rintro j σ H' _ ⟨_, _, _, g3, _⟩
    exact SqL.of (g3 _ _ lpb)
  · rintro j v σ H' hv ⟨y8, y9, rfl, g3, hp3⟩
    have hj : j < (bl C n).length := by rw [← iv_len]; exact (List.getElem?_eq_some_iff.mp hv).1
    rw [iv_at hj] at hv
    cases hv
    have hm : (bl C n).getD j 0 ∈ bl C n := by rw [List.getD_eq_getElem?_getD, List.getElem?_eq_getElem hj]; exact List.getElem_mem hj
    rw [take_snoc hj]
    generalize (bl C n).getD j 0 = u at hm ⊢
    have hun : u < n := bit_lt hCn ((hbm u).mp hm)
    have hix : ixN (iv ((List.range n).map fun v => if v ∈ (bl C n).take j then C else hd v)).length (u : Int) = some u := ixN_nat (by rw [iv_len]; simp; omega)
    walk_at "sts"
    refine ⟨_, _, rfl, g3.mut wo_new, ?_⟩
    rw [upd_same, iv_setF]
    refine congrArg (fun z => some (HO.lst (iv z))) (List.map_congr_left fun v _ => ?_)
    by_cases e : v = u
    · subst e; rw [upF_same, if_pos (by simp)]
    · rw [upF_ne e]
      by_cases h2 : v ∈ (bl C n).take j
      · rw [if_pos h2, if_pos (by simp [h2])]
      · rw [if_neg h2, if_neg (by simp [h2, e])]
  · rintro σ H' ⟨y8, y9, rfl, g3, hp3⟩
    rw [iv_len, List.take_length] at hp3
    walk_at "sts"
    have far : ∀ b o, b ≠ ps → b ≠ ph → H1 b = some o → H' b = some o := fun b o h1 h2 h3 => g3 _ _ (wo_get (s2 _ _ (zo _ _ h1 h3)) h2)
    refine q D H' kvs' ts (fun b o hbo => ?_) (nD.of s0) ?_ (g3 _ _ (wo_get hps2 (Ne.symm hne))) hH (far D _ hDs hDp t1) t3' fun t ht => ⟨?_, t4 t ht⟩
    · obtain ⟨m1, hbo⟩ := wo_inv hbo
      obtain ⟨m2, hbo⟩ := wo_inv hbo
      exact far b o m1 m2 (g _ _ (s0 _ _ hbo))
    · rw [hp3]
      refine congrArg (fun z => some (HO.lst (iv z))) (List.map_congr_left fun v _ => ?_)
      by_cases h2 : C.testBit v = true
      · rw [if_pos h2, if_pos ((hbm v).mpr h2)]
      · rw [if_neg h2, if_neg (fun z => h2 ((hbm v).mp z))]
    · refine same_read (fun b o hbo => ?_) (t2 t ht)
      obtain ⟨m1, hbo⟩ := wo_inv hbo
      obtain ⟨m2, hbo⟩ := wo_inv hbo
      obtain ⟨m3, hbo⟩ := wo_inv hbo
      exact wo_get (wo_get (wo_get (far b o m1 m2 hbo) m3) m2) m1
theorem SqT_wo {H : Hp} {p a : Addr} {xs : List V} {o : HO} (h : SqT K H a xs) (hp : H p = some o) (h1 : ∀ zs, o ≠ .tup zs) (h2 : ∀ u v, o ≠ .frz u v) : SqT K (wo H p) a xs := by
  rcases h with (h | ⟨u, h⟩) | h
  · exact .inl (.inl (wo_get h fun e => by subst e; rw [hp] at h; exact h1 _ (Option.some.inj h)))
  · exact .inl (.inr ⟨u, wo_get h fun e => by subst e; rw [hp] at h; exact h2 _ _ (Option.some.inj h)⟩)
  · exact .inr h
theorem SqT_woL {H : Hp} {p a : Addr} {xs ys : List V} (h : SqT K H a xs) (hp : H p = some (.lst ys)) : SqT K (wo H p) a xs := SqT_wo h hp (fun _ e => by cases e) fun _ _ e => by cases e
theorem SqT_woK {H : Hp} {p a : Addr} {xs : List V} {kvs : List (Key × V)} (h : SqT K H a xs) (hp : H p = some (.dK kvs)) : SqT K (wo H p) a xs := SqT_wo h hp (fun _ e => by cases e) fun _ _ e => by cases e
theorem lcost_le {L : Lk} {B : Nat} (h : ∀ k, lkw L k ≤ B) (U : Nat) : ∀ k, lcost L U k ≤ k * B
  | 0 => by show 0 ≤ _; omega
  | k + 1 => by
    have := lcost_le h U k
    have := h k
    unfold lcost
    rw [Nat.succ_mul]
    split <;> omega
theorem LC.le {L : Lk} {T c : Nat} (h : LC L T c) (hw : ∀ k, lkw L k ≤ 10 ^ 40) (hl : L.length ≤ 1000) : c ≤ 10 ^ 45 := by
  obtain ⟨U, _, u2⟩ := h.1
  have := lcost_le hw U L.length
  have : L.length * 10 ^ 40 ≤ 1000 * 10 ^ 40 := Nat.mul_le_mul_right _ hl
  omega
theorem same_wo_upd' {H : Hp} {p : Addr} {o : HO} : Same (wo H p) (upd H p o) := fun b u h => by
  obtain ⟨h1, h2⟩ := wo_inv h
  exact (upd_ne h1).trans h2
theorem SqT_updL {H : Hp} {p a : Addr} {xs ys : List V} {o : HO} (h : SqT K H a xs) (hp : H p = some (.lst ys)) : SqT K (upd H p o) a xs := same_read same_wo_upd' (SqT_woL h hp)
theorem SqT_updK {H : Hp} {p a : Addr} {xs : List V} {kvs : List (Key × V)} {o : HO} (h : SqT K H a xs) (hp : H p = some (.dK kvs)) : SqT K (upd H p o) a xs := same_read same_wo_upd' (SqT_woK h hp)
theorem Holds_since {kvs : List (Key × V)} {ks : List Nat} {sn : Nat → Nat} {c0 : Nat} (hks : Holds kvs ks (fun D => .int ((sn D : Int) - 2 * (c0 : Int)))) (C δ : Nat) : Holds (putK kvs (.inl ((C : Nat) : Int)) (.int ((δ : Int) - 2 * (c0 : Int)))) (ks ++ [C]) (fun D => .int (((upF sn C δ D : Nat) : Int) - 2 * (c0 : Int))) := by
  refine ⟨by have := putK_len (kvs := kvs) (k := .inl (C : Int)) (v := .int ((δ : Int) - 2 * (c0 : Int))); have := hks.1; simp; omega, fun d => ?_⟩
  rw [valV_put, hks.2]
  by_cases e : d = C
  · subst e
    rw [if_pos rfl, if_pos (by simp)]
    show _ = some (V.int (((upF sn d δ d : Nat) : Int) - 2 * (c0 : Int)))
    rw [upF_same]
  · rw [if_neg (fun z => e (by have := Sum.inl.inj z; omega))]
    by_cases hd : d ∈ ks
    · rw [if_pos hd, if_pos (by simp [hd])]
      show some (V.int ((sn d : Int) - 2 * (c0 : Int))) = some (V.int (((upF sn C δ d : Nat) : Int) - 2 * (c0 : Int)))
      rw [upF_ne e]
    · rw [if_neg hd, if_neg (by simp [hd, e])]
theorem _root_.Sf.HI.ksub {L : Lk} {n R c0 r i δ : Nat} {f hd sn F : Nat → Nat} {G : Int} {evs : List Ev} {Ds ks ks' : List Nat} {fd : List (Nat × Nat)} (h : HI L n R f c0 r evs i δ Ds hd sn ks fd F G) (hs : ∀ D ∈ ks, D ∈ ks') : HI L n R f c0 r evs i δ Ds hd sn ks' fd F G := { h with key := fun D hD => hs D (h.key D hD) }
theorem mask_lt {A n : Nat} (h : ∀ v, A.testBit v = true → v < n) : A < 2 ^ n := Nat.lt_pow_two_of_testBit A fun i hi => not_bit fun z => by have := h i z; omega
def spHills (K : PySem.W.Frag) : Sp := fun vs H Q _ => ∃ (p : Addr) (n x : Nat) (L : Lk), vs = [.int n, .ref p, .int x] ∧ Dp K H (.ref p) (dLks L) ∧ (∀ k, k < L.length → lka L k < n ∧ lkb L k < n) ∧ n ≤ 80 ∧ L.length ≤ 1000 ∧ (∀ k, lkw L k ≤ 10 ^ 40) ∧ 0 < n ∧ x < 2 ^ n ∧ cnt x 80 % 2 = 0 ∧ cnt x 80 ≤ 14 ∧ WholeL L n ∧
  ∀ (q : Addr) (H' : Hp) (ts : List (Addr × Nat × Nat)) (root c0 : Nat), Same H H' → New H q → H' q = some (.lst (ts.map fun t => V.ref t.1)) → (∀ t ∈ ts, SqT K H' t.1 [.int (t.2.1 : Nat), .int (t.2.2 : Nat)] ∧ New H t.1) → ts.length ≤ 2160 → LC L x c0 → root < n → (x = 0 → root = 0) → (x ≠ 0 → x.testBit root = true) → HillsOk L n x root c0 (ts.map fun t => t.2) → Q (.ref q) H'
def spHillsX (K : PySem.W.Frag) (CO CP CR : Addr) : Sp := fun vs H Q E => ∃ (p : Addr) (n x : Nat) (L : Lk), vs = [.int n, .ref p, .int x] ∧ Dp K H (.ref p) (dLks L) ∧ (∀ k, k < L.length → lka L k < n ∧ lkb L k < n) ∧ n ≤ 80 ∧ L.length ≤ 1000 ∧ (∀ k, lkw L k ≤ 10 ^ 40) ∧ 0 < n ∧ x < 2 ^ n ∧ Refs CO CP CR x n L H E ∧ (cnt x 80 % 2 = 0 → cnt x 80 ≤ 14 → WholeL L n →
  ∀ (q : Addr) (H' : Hp) (ts : List (Addr × Nat × Nat)) (root c0 : Nat), Same H H' → New H q → H' q = some (.lst (ts.map fun t => V.ref t.1)) → (∀ t ∈ ts, SqT K H' t.1 [.int (t.2.1 : Nat), .int (t.2.2 : Nat)] ∧ New H t.1) → ts.length ≤ 2160 → LC L x c0 → root < n → (x = 0 → root = 0) → (x ≠ 0 → x.testBit root = true) → HillsOk L n x root c0 (ts.map fun t => t.2) → Q (.ref q) H')
theorem ok_hills {f : Addr} {fd : FuncData} (F : Fun K "hills" "hills" s_hills f fd) (gf : mg "hills" = some (.ref f)) (B : Bl mg) {C_OddMarks C_Parted C_TooRough C_FloorError : Addr} (T : Txt K mg C_OddMarks C_Parted C_TooRough C_FloorError) (h_heights : Has P w K mg base (L2.CX P w) 12 "heights" ["many", "links", "marks"] (spHeightsX K C_OddMarks C_Parted C_TooRough)) (h_events_of : Has P w K mg base CX0 1 "events_of" ["many", "links", "tops"] (spEvents K)) (h_bits : Has P w K mg base CX0 1 "bits" ["mask"] spBits) (h_joined : Has P w K mg base CX0 2 "joined" ["holder", "since", "link", "depth"] (spJoined K)) : Has P w K mg base (L2.CX P w) 13 "hills" ["many", "links", "marks"] (spHillsX K C_OddMarks C_Parted C_TooRough) := by
  refine Has.mkX F gf (F.binds (ps := ["many", "links", "marks"]) fun _ _ _ _ _ _ us hl => match us, hl with | [_, _, _], _ => rfl) sc_hills (by walk_at "len") (fun cdv A outer s H vs Q E hr h => ?_)
  obtain ⟨p, n, x, L, rfl, hL, hb, hn, hn2, hw40, hpos, hx, hE, q⟩ := h
  refine ⟨_, (pss_cons (ps_set (i := 3) sc_hills.nd rfl (.inl rfl) (pe_fnS (takes_of rfl rfl rfl rfl) h_heights (hr.mono (by decide)) (by rfl) (pa_cons (pv 0) (pa_cons (pv 1) (pa_cons (pv 2) pa_nil)))))
 (pss_cons (ps_set (i := 4) sc_hills.nd rfl (.inr rfl) pe_int)
 (pss_cutX (ps_if (pt_cmpR op_gt (pv 2) pe_int (nomark _)) (pss_one (ps_set (i := 4) sc_hills.nd rfl (.inr rfl) (pe_ix (ix_listK K) (pe_fn h_bits (hr.mono (by decide)) (by rfl) (pa_cons (pv 2) pa_nil)) pe_int (fun _ _ => rfl)))) pss_nil)
 (pss_cons (ps_setLc (i := 5) (own := [("room", 9)]) rfl sc_hills.nd rfl rfl (sw_true rfl rfl rfl (by decide +kernel)) (pi_range1 (by rfl) B.range (pa_cons (pv 0) pa_nil)) (blkOk_by (own := [("room", 9)]) (N := ["many", "links", "marks", "tops", "root", "holder", "since", "found", "event", "room", "pair"]) (sc := defScope s_hills) (by decide +kernel)) (fun _ _ _ _ _ => pg_name (i := 9) sc_hills.nd rfl (Or.inl rfl)) (fun _ _ _ _ _ => pts_nil) (fun _ _ _ _ _ => (pe_op op_shlW pe_int (pv 9))))
 (pss_cons (ps_set (i := 6) sc_hills.nd rfl (.inl rfl) pe_dnewK)
 (pss_cons (ps_set (i := 7) sc_hills.nd rfl (.inl rfl) (pe_lst pa_nil))
 (pss_cons (ps_for (passes_of rfl) rfl (pi_listK K (pe_fn h_events_of (hr.mono (by decide)) (by rfl) (pa_cons (pv 0) (pa_cons (pv 1) (pa_cons (pv 3) pa_nil))))) (pg_name (i := 8) sc_hills.nd rfl (.inl rfl)) (pss_one (ps_if (pt_cmpR op_eq (pe_ix (ix_tupK K) (pv 8) pe_int (fun _ _ => rfl)) pe_int (nomark _)) (pss_one (ps_dput (hu_of hr) (pv 6) (pe_op op_shlW pe_int (pe_ix (ix_tupK K) (pv 8) pe_int (fun _ _ => rfl))) (pe_ix (ix_tupK K) (pv 8) pe_int (fun _ _ => rfl)) rfl)) (pss_one (ps_expr (pe_bmK K (pe_bm PySem.F.plainAttrs_list PySem.F.slot_list_extend PySem.F.type_list_extend mt_extend (pv 7) (pa_cons (pe_fn h_joined (hr.mono (by decide)) (by rfl) (pa_cons (pv 5) (pa_cons (pv 6) (pa_cons (pe_ix (ix_listK K) (pv 1) (pe_ix (ix_tupK K) (pv 8) pe_int (fun _ _ => rfl)) (fun _ _ => rfl)) (pa_cons (pe_ix (ix_tupK K) (pv 8) pe_int (fun _ _ => rfl)) pa_nil))))) pa_nil))))))))
 (pss_one (ps_ret (pe_lc (own := [("pair", 10)]) rfl sc_hills.nd (pi_listK K (pv 7)) (blkOk_by (own := [("pair", 10)]) (N := ["many", "links", "marks", "tops", "root", "holder", "since", "found", "event", "room", "pair"]) (sc := defScope s_hills) (by decide +kernel)) (fun _ _ _ _ _ => pg_name (i := 10) sc_hills.nd rfl (Or.inl rfl)) (fun _ _ _ _ _ => (pts_one (pt_cmpR op_eq (pe_op op_and (pe_op op_shr (pe_ix (ix_tupK K) (pv 10) pe_int (fun _ _ => rfl)) (pv 4)) pe_int) pe_int (nomark _)))) (fun _ _ _ _ _ => (pv 10)))))))))))), ?_⟩
  walk_at "sts"
  refine ⟨p, n, x, L, rfl, hL, hb, hn, hn2, hpos, hx, hE, fun he hc hw pt H1 hts root c0 s1 n1 hpt hok => ?_⟩
  have q := q he hc hw
  have hrn : root < n := by
    by_cases e : x = 0
    · rw [hok.r0 e]; exact hpos
    · exact bit_lt hx (hok.r1 e).1
  walk_at "sts"
  refine w_cut (fun σ' H2 => σ' = [some (.int (n : Nat)), some (.ref p), some (.int (x : Nat)), some (.ref pt), some (.int (root : Nat)), none, none, none, none, none, none] ∧ Same H1 H2) ?_ ?_
  · walk_at "sts"
    refine ifd (fun h0 => ?_) (fun h0 => ?_)
    · walk_at "sts"
      refine ⟨x, n, rfl, hx, by omega, fun pb H2 s2 n2 l2 => ?_⟩
      obtain ⟨r1, r2⟩ := hok.r1 (by omega)
      have hfr : ∃ rs, bl x n = root :: rs := by
        cases e : bl x n with
        | nil =>
          have := (bl_mem hx).mpr r1
          rw [e] at this
          simp at this
        | cons f rs =>
          have hf : x.testBit f = true := (bl_mem hx).mp (by rw [e]; simp)
          have hs := bl_sorted x n
          have hm := (bl_mem hx).mpr r1
          rw [e] at hs hm
          have hfr : f = root := by
            rcases List.mem_cons.mp hm with e1 | e1
            · exact e1.symm
            · have := (List.pairwise_cons.mp hs).1 root e1
              have := r2 f this
              rw [hf] at this
              cases this
          exact ⟨rs, by rw [hfr]⟩
      obtain ⟨rs, hrs⟩ := hfr
      rw [hrs] at l2
      have e1 : atI (iv (root :: rs)) 0 = some (.int (root : Nat)) := show atI (iv (root :: rs)) ((0 : Nat) : Int) = _ from atI_nat rfl
      walk_at "sts"
      exact ⟨rfl, s2⟩
    · walk_at "sts"
      have : root = 0 := hok.r0 (by omega)
      subst this
      exact ⟨rfl, Same.refl _⟩
  rintro σ' H2 ⟨rfl, s2⟩
  walk_at "sts"
  intro ph nph
  refine lc_r0 (n := n) rfl (fun i H' => H' ph = some (.lst (iv ((List.range i).map fun v => 2 ^ v))) ∧ Same H2 H') ?_ ?_ ?_
  · exact ⟨upd_same, same_upd nph⟩
  · rintro i H' hi ⟨l1, g1⟩
    walk_at "sts"
    rw [shl_one]
    refine ⟨_, l1, szlt (by rw [iv_len]; simp; omega), ?_, g1.mut nph⟩
    rw [upd_same, List.range_succ, List.map_append, iv_app]
    rfl
  rintro H3 ⟨l3, s3⟩
  walk_at "sts"
  intro ps nps
  have s4 := same_upd (o := .dK []) nps
  have l4 := s4 _ _ l3
  have k4 : upd H3 ps (.dK []) ps = some (.dK []) := upd_same
  have d1 : ph ≠ ps := ne_new l3 nps
  generalize upd H3 ps (.dK []) = H4 at s4 l4 k4 ⊢
  walk_at "sts"
  refine w_new fun pf nf => ?_
  have s5 := same_upd (o := .lst []) nf
  have l5 := s5 _ _ l4
  have k5 := s5 _ _ k4
  have f5 : upd H4 pf (.lst []) pf = some (.lst []) := upd_same
  have d2 : ph ≠ pf := ne_new l4 nf
  have d3 : ps ≠ pf := ne_new k4 nf
  generalize upd H4 pf (.lst []) = H5 at s5 l5 k5 f5 ⊢
  walk_at "sts"
  obtain ⟨R, hR⟩ : ∃ R, R = x ^^^ 2 ^ root := ⟨_, rfl⟩
  obtain ⟨f, hf⟩ : ∃ f : Nat → Nat, f = fun v => ((c0 : Int) - hts v).toNat := ⟨_, rfl⟩
  have hfv : ∀ v, v < n → LC L (R ^^^ 2 ^ v) (f v) ∧ hts v = (c0 : Int) - (f v : Nat) := fun v hv => by
    obtain ⟨c, c1, c2⟩ := hok.h v hv
    have e : f v = c := by rw [hf]; show ((c0 : Int) - hts v).toNat = c; omega
    rw [e, hR]
    exact ⟨c1, c2⟩
  have hD : Dual L n R f := ⟨hb, fun v hv => (hfv v hv).1⟩
  have hfr : f root = c0 := LC.eq (hfv root hrn).1 (by rw [hR, xor_same]; exact hok.c)
  have hcB := hok.c.le hw40 hn2
  have hfB : ∀ v, v < n → f v ≤ 10 ^ 45 := fun v hv => (hfv v hv).1.le hw40 hn2
  have hptE : (List.range n).map (fun r => V.int (hts r)) = (List.range n).map fun r => V.int ((c0 : Int) - (f r : Nat)) := List.map_congr_left fun v hv => by rw [(hfv v (List.mem_range.mp hv)).2]
  rw [hptE] at hpt
  have s15 := s2.trans (s3.trans (s4.trans s5))
  have hpt5 := SqL.of (K := K) (s15 _ _ hpt)
  have hL5 := (hL.same s1).same s15
  refine ⟨p, pt, n, c0, L, f, rfl, hL5, hb, by omega, hn2, hcB, hfB, hpt5, fun pe H6 cs s6 n6 l6 hcs hev => ?_⟩
  have l6h := s6 _ _ l5
  have k6 := s6 _ _ k5
  have f6 := s6 _ _ f5
  have hcs6 : ∀ b ∈ cs, SqT K (wo (wo (wo H6 ph) ps) pf) b.1 [.int b.2.1, .int b.2.2.1, .int b.2.2.2] := fun b hb2 =>
    SqT_woL (SqT_woK (SqT_woL (same_read wo_same (hcs b hb2)) l6h) (wo_get k6 (Ne.symm d1))) (wo_get (wo_get f6 (Ne.symm d2)) (Ne.symm d3))
  have hclen : cs.length ≤ 1080 := by
    have := hev.p.length_eq
    unfold evL at this
    simp at this
    omega
  have e1 : pe ≠ ph := Ne.symm (ne_new l5 n6)
  have e2 : pe ≠ ps := Ne.symm (ne_new k5 n6)
  have e3' : pe ≠ pf := Ne.symm (ne_new f5 n6)
  obtain ⟨evs, hevs⟩ : ∃ evs, evs = cs.map fun b => b.2 := ⟨_, rfl⟩
  rw [← hevs] at hev
  have hel : evs.length = cs.length := by rw [hevs, List.length_map]
  have s13 := s1.trans (s2.trans s3)
  have sH : Same H (wo (wo (wo H6 ph) ps) pf) := same_wo (same_wo (same_wo (s1.trans (s15.trans s6)) (nph.of (s1.trans s2))) (nps.of s13)) (nf.of (s13.trans s4))
  have l6q := SqL.of (K := K) l6
  walk_at "sts"
  refine for_list (xs := cs.map fun b => V.ref b.1) (fun i σ H' => ∃ (δ : Nat) (Ds ks : List Nat) (hd sn F : Nat → Nat) (G : Int) (kvs : List (Key × V)) (ts : List (Addr × Nat × Nat)) (y8 : Option V), σ = [some (.int (n : Nat)), some (.ref p), some (.int (x : Nat)), some (.ref pt), some (.int (root : Nat)), some (.ref ph), some (.ref ps), some (.ref pf), y8, none, none] ∧
    Same (wo (wo (wo H6 ph) ps) pf) H' ∧ H' ph = some (.lst (iv ((List.range n).map hd))) ∧ H' ps = some (.dK kvs) ∧ Holds kvs ks (fun D => .int ((sn D : Int) - 2 * (c0 : Int))) ∧ ks.length ≤ i ∧ H' pf = some (.lst (ts.map fun t => V.ref t.1)) ∧ ts.length ≤ 2 * i ∧ (∀ t ∈ ts, SqT K H' t.1 [.int (t.2.1 : Nat), .int (t.2.2 : Nat)] ∧ New H t.1) ∧
    HI L n R f c0 root evs i δ Ds hd sn ks (ts.map fun t => t.2) F G ∧ ∀ j e, i ≤ j → evs[j]? = some e → (δ : Int) - 2 * (c0 : Int) ≤ e.1) ?_ ?_ ?_ ?_
  · refine ⟨0, [], [], fun v => 2 ^ v, fun _ => 0, fun v => 2 * f v, 0, [], [], _, rfl, fun b o h => ?_, l6h, k6, Holds.nil, Nat.le_refl _, f6, Nat.le_refl _, fun t ht => absurd ht (by simp), HI.start hD hfr _ _, fun j e _ hj => ?_⟩
    · exact (wo_inv (wo_inv (wo_inv h).2).2).2
    · rcases hev.is hj with ⟨v, hv, rfl⟩ | ⟨k, hk, rfl⟩
      · show ((0 : Nat) : Int) - 2 * (c0 : Int) ≤ 2 * (f v : Int) - 2 * (c0 : Int); omega
      · show ((0 : Nat) : Int) - 2 * (c0 : Int) ≤ (lvl L f k : Int) - 2 * (c0 : Int); omega
  · rintro i σ H' _ ⟨_, _, _, _, _, _, _, _, _, _, _, g, _⟩
    exact SqL.of (g _ _ (wo_get (wo_get (wo_get l6 e1) e2) e3'))
  · rintro i v σ H' hv ⟨δ, Ds, ks, hd, sn, F, G, kvs, ts, y8, rfl, g, lh, lk, hks, hkl, lf, htl, hts', hI, hnx⟩
    have hi : i < cs.length := by have := (List.getElem?_eq_some_iff.mp hv).1; simpa using this
    rw [List.getElem?_map, List.getElem?_eq_getElem hi] at hv
    have hmem := List.getElem_mem hi
    have hei : evs[i]? = some (cs[i]).2 := by rw [hevs, List.getElem?_map, List.getElem?_eq_getElem hi]; rfl
    have hv' : v = .ref (cs[i]).1 := (Option.some.inj hv).symm
    subst hv'
    have hce := same_read g (hcs6 _ hmem)
    generalize cs[i] = be at hmem hei hce ⊢
    obtain ⟨ae, e⟩ := be
    obtain ⟨δ', hδ', hle⟩ : ∃ δ' : Nat, e.1 = (δ' : Int) - 2 * (c0 : Int) ∧ δ ≤ δ' := by
      have := hnx i e (Nat.le_refl _) hei
      rcases hev.is hei with ⟨v, hv, rfl⟩ | ⟨k, hk, rfl⟩
      · have h9 : (δ : Int) - 2 * (c0 : Int) ≤ 2 * (f v : Int) - 2 * (c0 : Int) := this
        exact ⟨2 * f v, by show 2 * (f v : Int) - 2 * (c0 : Int) = _; omega, by omega⟩
      · have h9 : (δ : Int) - 2 * (c0 : Int) ≤ (lvl L f k : Int) - 2 * (c0 : Int) := this
        exact ⟨lvl L f k, rfl, by omega⟩
    obtain ⟨F', G', hI'⟩ := HI.upto hev hD hrn hei (δ' - δ) δ F G hI (by rw [hδ']; omega)
    rw [show δ + (δ' - δ) = δ' by omega] at hI'
    have hnx' : ∀ j e', i + 1 ≤ j → evs[j]? = some e' → (δ' : Int) - 2 * (c0 : Int) ≤ e'.1 := fun j e' hj he' => by
      have : evLe e e' := hev.ord hei he' hj
      unfold evLe at this
      omega
    clear hI hnx
    have hkv : kvs.length < sizeLine := szlt (by have := hks.1; omega)
    have gH := sH.trans g
    rcases hev.is hei with ⟨v, hv, rfl⟩ | ⟨k, hk, rfl⟩
    · have hce : SqT K H' ae [.int ((δ' : Int) - 2 * (c0 : Int)), .int 0, .int (v : Nat)] := by rw [← hδ']; exact hce
      have hd2 : δ' = 2 * f v := by have : 2 * (f v : Int) - 2 * (c0 : Int) = _ := hδ'; omega
      have hR' := hI'.room hev hD hv hei hd2
      walk_at "sts"
      rw [shl_one]
      refine ⟨δ', 2 ^ v :: Ds, ks ++ [2 ^ v], hd, upF sn (2 ^ v) δ', F', G', _, ts, _, rfl, fun b o h => ?_, (upd_ne d1).trans lh, upd_same, Holds_since hks _ _, by simp; omega, (upd_ne (Ne.symm d3)).trans lf, by omega, fun t ht => ⟨SqT_updK (hts' t ht).1 lk, (hts' t ht).2⟩, hR'.ksub fun D hDm => ?_, hnx'⟩
      · have h1 := (wo_inv (wo_inv h).2).1
        exact (upd_ne h1).trans (g _ _ h)
      · rcases List.mem_cons.mp hDm with e | e
        · simp [e]
        · simp [e]
    · have hce : SqT K H' ae [.int ((δ' : Int) - 2 * (c0 : Int)), .int 1, .int (k : Nat)] := by rw [← hδ']; exact hce
      have hd2 : δ' = lvl L f k := by have : (lvl L f k : Int) - 2 * (c0 : Int) = _ := hδ'; omega
      obtain ⟨A, B, hA, hB, a1, b1, a2, b2⟩ := hI'.seen hev hD hk hei
      obtain ⟨ls7, hl7, hls7⟩ := dpLstA (hL.same gH)
      obtain ⟨pk, p1, p2⟩ := dpLkAt hls7 hk
      obtain ⟨hba, hbb⟩ := hb k hk
      have hfp : pf ≠ ph := Ne.symm d2
      have hfs : pf ≠ ps := Ne.symm d3
      walk_at "sts"
      refine ⟨ph, ps, pk, n, c0, δ', lka L k, lkb L k, lkw L k, hd, sn, ks, kvs, rfl, lh, lk, hks, p2, hba, hbb, hn, by rw [a2]; exact hI'.key A hA, by rw [b2]; exact hI'.key B hB, by rw [a2]; exact hI'.sl A hA, by rw [b2]; exact hI'.sl B hB, by rw [a2]; exact mask_lt (hI'.lt A hA), by rw [b2]; exact mask_lt (hI'.lt B hB), by omega, fun heq p9 H9 s9 n9 h9 => ?_, fun hne p9 H9 kvs9 us s9 n9 lh9 lk9 hks9 h9 hus hus9 => ?_⟩
      · have hS' := hI'.same hev hD hk hei hd2 heq
        have lf9 := s9 _ _ lf
        refine ⟨pf, p9, _, _, rfl, rfl, lf9, h9, by simp [sizeLine_eq]; omega, ?_⟩
        rw [List.append_nil]
        walk_at "sts"
        refine ⟨δ', Ds, ks, hd, sn, F', G', kvs, ts, _, rfl, fun b o h => ?_, (upd_ne d2).trans (s9 _ _ lh), (upd_ne d3).trans (s9 _ _ lk), hks, by omega, upd_same, by omega, fun t ht => ⟨SqT_updL (same_read s9 (hts' t ht).1) lf9, (hts' t ht).2⟩, hS', hnx'⟩
        exact (upd_ne (wo_inv h).1).trans (s9 _ _ (g _ _ h))
      · obtain ⟨_, _, Ds', hJ⟩ := hI'.join hev hD hk hei hd2 rfl rfl hne
        have lf9 := s9 _ _ (wo_get (wo_get lf hfp) hfs)
        have hul : us.length ≤ 2 := by
          have := congrArg List.length hus
          rw [List.length_map, List.length_append] at this
          have q1 : ∀ D, (endl sn δ' D).length ≤ 1 := fun D => by unfold endl; split <;> simp
          have := q1 (hd (lka L k))
          have := q1 (hd (lkb L k))
          omega
        refine ⟨pf, p9, _, _, rfl, rfl, lf9, h9, by simp [sizeLine_eq]; omega, ?_⟩
        rw [← List.map_append]
        walk_at "sts"
        refine ⟨δ', Ds', ks ++ [hd (lka L k) ||| hd (lkb L k)], fun v => if (hd (lka L k) ||| hd (lkb L k)).testBit v = true then hd (lka L k) ||| hd (lkb L k) else hd v, upF sn (hd (lka L k) ||| hd (lkb L k)) δ', F', G', kvs9, ts ++ us, _, rfl, fun b o h => ?_, (upd_ne d2).trans lh9, (upd_ne d3).trans lk9, hks9, by simp; omega, upd_same, by simp; omega, fun t ht => ⟨SqT_updL ?_ lf9, ?_⟩, ?_, hnx'⟩
        · obtain ⟨m1, h1⟩ := wo_inv h
          obtain ⟨m2, h2⟩ := wo_inv h1
          obtain ⟨m3, h3⟩ := wo_inv h2
          exact (upd_ne m1).trans (s9 _ _ (wo_get (wo_get (g _ _ h) m3) m2))
        · rcases List.mem_append.mp ht with ht | ht
          · exact same_read s9 (SqT_woK (SqT_woL (hts' t ht).1 lh) (wo_get lk (Ne.symm d1)))
          · exact same_read ((wo_same.trans wo_same).trans wo_same) (hus9 t ht).1
        · rcases List.mem_append.mp ht with ht | ht
          · exact (hts' t ht).2
          · exact (hus9 t ht).2.of gH
        · rw [List.map_append, hus]
          exact hJ.ksub fun D hDm => by
            rcases List.mem_cons.mp hDm with e | e
            · simp [e]
            · simp [e]
  · rintro σ H' ⟨δ, Ds, ks, hd, sn, F, G, kvs, ts, y8, rfl, g, lh, lk, hks, hkl, lf, htl, hts', hI, hnx⟩
    rw [List.length_map, ← hel] at hI
    have hfin := hI.fin hev hD hw hrn
    rw [hR, xor_same] at hfin
    have gH := sH.trans g
    walk_at "sts"
    intro D nD
    refine lc_list (xs := ts.map fun t => V.ref t.1) (fun i H8 => H8 D = some (.lst (((ts.take i).filter fun t => !t.2.1.testBit root).map fun t => V.ref t.1)) ∧ Same H' H8) ?_ ?_ ?_ ?_
    · exact ⟨upd_same, same_upd nD⟩
    · rintro i H8 _ ⟨_, g8⟩
      exact SqL.of (g8 _ _ lf)
    · rintro i v H8 hv ⟨l8, g8⟩
      have hi : i < ts.length := by have := (List.getElem?_eq_some_iff.mp hv).1; simpa using this
      rw [List.getElem?_map, List.getElem?_eq_getElem hi] at hv
      have hmem := List.getElem_mem hi
      have hv' : v = .ref (ts[i]).1 := (Option.some.inj hv).symm
      subst hv'
      have ht8 := same_read g8 (hts' _ hmem).1
      rw [List.take_add_one, List.getElem?_eq_getElem hi, Option.toList_some, List.filter_append]
      generalize ts[i] = t at hmem ht8 ⊢
      walk_at "sts"
      rw [bit_nat]
      have hlen : ((ts.take i).filter fun t => !t.2.1.testBit root).length ≤ 2 * cs.length := by
        have h1 := List.length_filter_le (fun t => !t.2.1.testBit root) (ts.take i)
        have h2 := List.length_take_le i ts
        rw [List.length_map] at htl
        omega
      cases hbt : t.2.1.testBit root with
      | true =>
        rw [if_neg (show ¬ decide (((true.toNat : Nat) : Int) = 0) = true by decide)]
        rw [List.filter_cons_of_neg (by simp [hbt]), List.filter_nil, List.append_nil]
        exact ⟨l8, g8⟩
      | false =>
        rw [if_pos (show decide (((false.toNat : Nat) : Int) = 0) = true by decide)]
        rw [List.filter_cons_of_pos (by simp [hbt]), List.filter_nil]
        walk_at "sts"
        refine ⟨_, l8, szlt (by rw [List.length_map]; omega), ?_, g8.mut nD⟩
        rw [upd_same, List.map_append]
        rfl
    · rintro H8 ⟨l8, g8⟩
      rw [List.length_map, List.take_length] at l8
      walk_at "sts"
      refine q D H8 _ root c0 (gH.trans g8) (nD.of gH) l8 (fun t ht => ?_) ?_ hok.c hrn hok.r0 (fun h => (hok.r1 h).1) ?_
      · have := (List.mem_filter.mp ht).1
        exact ⟨same_read g8 (hts' t this).1, (hts' t this).2⟩
      · have h1 := List.length_filter_le (fun t : Addr × Nat × Nat => !t.2.1.testBit root) ts
        rw [List.length_map] at htl
        omega
      · have : (ts.filter fun t => !t.2.1.testBit root).map (fun t => t.2) = (ts.map fun t => t.2).filter fun p => !p.1.testBit root := by
          rw [List.filter_map]
          rfl
        rw [this]
        exact hfin
end

section
variable {P : Program} {w : World} {K : PySem.W.Frag} {mg : Str → Option Value} {base : Heap} {C_OddMarks C_Parted C_TooRough C_FloorError : Addr}
def spCell (K : PySem.W.Frag) : Sp := fun vs H Q _ => ∃ (p : Addr) (ns : List Int) (k : Nat), vs = [.ref p, .int k] ∧ SqL K H p (ns.map V.int) ∧ Q (.int (ns.getD k 0)) H
theorem ok_law_cell_at {f : Addr} {fd : FuncData} (F : Fun K "_law_cell_at" "_law_cell_at" s_law_cell_at f fd) (gf : mg "_law_cell_at" = some (.ref f)) (B : Bl mg) {C_OddMarks C_Parted C_TooRough C_FloorError : Addr} (T : Txt K mg C_OddMarks C_Parted C_TooRough C_FloorError) : Has P w K mg base CX0 1 "_law_cell_at" ["script", "k"] (spCell K) := by
  refine Has.mk' F gf (F.binds (ps := ["script", "k"]) fun _ _ _ _ _ _ us hl => match us, hl with | [_, _], _ => rfl) sc_law_cell_at (by walk_at "len") (fun cdv A outer s H vs Q E hr h => ?_)
  obtain ⟨p, ns, k, rfl, hp, q⟩ := h
  refine ⟨_, (pss_cons (ps_if (pt_cmpR op_lt (pv 1) (pe_callB (call_lenK K) (by rfl) B.len (by decide +kernel) (pa_cons (pv 0) pa_nil)) (nomark _)) (pss_one (ps_ret (pe_ix (ix_listK K) (pv 0) (pv 1) (fun _ _ => rfl)))) pss_nil)
 (pss_one (ps_ret pe_int))), ?_⟩
  walk_at "sts"
  refine ifd (fun hc => ?_) (fun hc => ?_)
  · rw [List.length_map] at hc
    have e : (ns.map V.int)[k]? = some (.int (ns.getD k 0)) := by
      rw [List.getElem?_map, List.getD_eq_getElem?_getD, List.getElem?_eq_getElem (by omega)]
      rfl
    walk_at "sts"
    exact q
  · rw [List.length_map] at hc
    walk_at "sts"
    rw [List.getD_eq_getElem?_getD, List.getElem?_eq_none (by omega)] at q
    exact q
end

section
variable {P : Program} {w : World} {K : PySem.W.Frag} {mg : Str → Option Value} {base : Heap} {C_OddMarks C_Parted C_TooRough C_FloorError : Addr}
def spIsInt : Sp := fun vs H Q _ => ∃ i : Int, vs = [.int i] ∧ Q (.bl true) H
end

section
variable {P : Program} {w : World} {K : PySem.W.Frag} {mg : Str → Option Value} {base : Heap} {C_OddMarks C_Parted C_TooRough C_FloorError : Addr}
def spLaw (K : PySem.W.Frag) : Sp := fun vs H Q _ => ∃ (a : Addr) (ns : List Int), vs = [.ref a] ∧ LsE K H a (ns.map V.int) ∧ ns.length ≤ 63 ∧ (∀ z ∈ ns, Builtin.Int.intBits z ≤ 1048576) ∧ ∀ H', Q (.bl true) H'
end
theorem modN (z : Int) {n : Nat} (h : 0 < n) : ∃ k : Nat, z % (n : Int) = (k : Int) ∧ k < n := by
  have h1 := Int.emod_nonneg z (show (n : Int) ≠ 0 by omega)
  have h2 := Int.emod_lt_of_pos z (show (0 : Int) < n by omega)
  exact ⟨(z % (n : Int)).toNat, by omega, by omega⟩

/-! ### an order of numbers -/
def putAt (r : List Nat) (k x : Nat) : List Nat := r.take k ++ [x] ++ r.drop k
theorem putAt_len (r : List Nat) (k x : Nat) : (putAt r k x).length = r.length + 1 := by
  unfold putAt
  simp
  omega
theorem putAt_perm (r : List Nat) (k x : Nat) : (putAt r k x).Perm (x :: r) := by
  unfold putAt
  rw [List.append_assoc]
  refine (List.perm_append_comm_assoc _ _ _).trans ?_
  rw [List.take_append_drop]
  exact List.Perm.refl _
/-! ### numbered anew -/
def pm (π : List Nat) (i : Nat) : Nat := π.getD i 0
section
variable {π : List Nat} {m : Nat}
theorem pm_at (h : π.Perm (List.range m)) {i : Nat} (hi : i < m) : π[i]? = some (pm π i) := by
  have hl : π.length = m := by rw [h.length_eq, List.length_range]
  unfold pm
  rw [List.getD_eq_getElem?_getD, List.getElem?_eq_getElem (by omega)]
  rfl
theorem pm_lt (h : π.Perm (List.range m)) {i : Nat} (hi : i < m) : pm π i < m := by
  have := List.mem_of_getElem? (pm_at h hi)
  rw [h.mem_iff, List.mem_range] at this
  exact this
theorem pm_inj (h : π.Perm (List.range m)) {i j : Nat} (hi : i < m) (hj : j < m) (e : pm π i = pm π j) : i = j := by
  have hl : π.length = m := by rw [h.length_eq, List.length_range]
  have hn : π.Nodup := h.nodup_iff.mpr List.nodup_range
  have a := pm_at h hi
  have b := pm_at h hj
  rw [List.getElem?_eq_getElem (by omega)] at a b
  have e2 : π[i]'(by omega) = π[j]'(by omega) := by rw [Option.some.inj a, Option.some.inj b, e]
  exact (List.getElem_inj hn).mp e2
theorem pm_surj (h : π.Perm (List.range m)) {x : Nat} (hx : x < m) : ∃ i, i < m ∧ pm π i = x := by
  have hm : x ∈ π := h.mem_iff.mpr (List.mem_range.mpr hx)
  obtain ⟨i, hi, e⟩ := List.mem_iff_getElem.mp hm
  have hl : π.length = m := by rw [h.length_eq, List.length_range]
  refine ⟨i, by omega, ?_⟩
  have := pm_at h (i := i) (by omega)
  rw [List.getElem?_eq_getElem hi] at this
  rw [← Option.some.inj this, e]
end
theorem iv_put (r : List Nat) (k x : Nat) : (iv r).take k ++ [V.int (x : Int)] ++ (iv r).drop k = iv (putAt r k x) := by
  unfold iv putAt
  simp
theorem iv_put1 (r : List Nat) (k : Nat) (x : Int) (j : Nat) (hx : x = (j : Int)) : (iv r).take (Int.toNat (k : Int)) ++ [V.int x] ++ (iv r).drop (Int.toNat (k : Int)) = iv (putAt r k j) := by
  rw [hx, Int.toNat_natCast]
  exact iv_put r k j
theorem perm_put {r : List Nat} {i k : Nat} (h : r.Perm (List.range i)) : (putAt r k i).Perm (List.range (i + 1)) := by
  refine (putAt_perm r k i).trans ?_
  rw [List.range_succ]
  exact (h.cons i).trans (List.perm_append_comm (l₁ := [i]) (l₂ := List.range i))
section
variable {P : Program} {w : World} {K : PySem.W.Frag} {mg : Str → Option Value} {base : Heap} {C_OddMarks C_Parted C_TooRough C_FloorError : Addr}
def spNames : Sp := fun vs H Q _ => ∃ (c : Int) (m : Nat), vs = [.int c, .int m] ∧ m ≤ 1000 ∧ ∀ p H' π, Same H H' → New H p → π.Perm (List.range m) → H' p = some (.lst (iv π)) → Q (.ref p) H'
theorem ok_law_names {f : Addr} {fd : FuncData} (F : Fun K "_law_names" "_law_names" s_law_names f fd) (gf : mg "_law_names" = some (.ref f)) (B : Bl mg) {C_OddMarks C_Parted C_TooRough C_FloorError : Addr} (T : Txt K mg C_OddMarks C_Parted C_TooRough C_FloorError) : Has P w K mg base CX0 1 "_law_names" ["cell", "many"] spNames := by
  refine Has.mk' F gf (F.binds (ps := ["cell", "many"]) fun _ _ _ _ _ _ us hl => match us, hl with | [_, _], _ => rfl) sc_law_names (by walk_at "len") (fun cdv A outer s H vs Q E hr h => ?_)
  obtain ⟨c, m, rfl, hm, q⟩ := h
  refine ⟨_, (pss_cons (ps_set (i := 2) sc_law_names.nd rfl (.inl rfl) (pe_lst pa_nil))
 (pss_cons (ps_for PassesOwn.never rfl (pi_range1 (by rfl) B.range (pa_cons (pv 1) pa_nil)) (pg_name (i := 3) sc_law_names.nd rfl (.inl rfl)) (pss_cons (ps_set (i := 4) sc_law_names.nd rfl (.inl rfl) (pe_op op_mod (pe_op op_mulX (pe_op op_mulX (pe_op op_add (pe_op op_mod (pv 0) pe_int) pe_int) (pe_op op_add (pv 3) pe_int)) pe_int) pe_int))
 (pss_one (ps_expr (pe_bmK K (pe_bm PySem.F.plainAttrs_list PySem.F.slot_list_insert PySem.F.type_list_insert mt_insert (pv 2) (pa_cons (pe_op op_mod (pv 4) (pe_op op_add (pv 3) pe_int)) (pa_cons (pv 3) pa_nil))))))))
 (pss_one (ps_ret (pv 2))))), ?_⟩
  walk_at "sts"
  refine w_new fun p1 n1 => ?_
  walk_at "sts"
  refine for_r0 (n := m) ?_ (fun i σ H' => ∃ (π : List Nat) (y1 y2 : Option V), σ = [some (.int c), some (.int (m : Int)), some (.ref p1), y1, y2] ∧ π.Perm (List.range i) ∧ Same H H' ∧ H' p1 = some (.lst (iv π))) ?_ ?_ ?_
  · rfl
  · exact ⟨[], _, _, rfl, .nil, same_upd n1, upd_same⟩
  · rintro i σ H' hi ⟨π, y1, y2, rfl, hp, s1, e1⟩
    have hl : π.length = i := by have := hp.length_eq; simpa using this
    have hsl : (iv π).length < sizeLine := szlt (by rw [iv_len]; omega)
    walk_at "sts"
    obtain ⟨X, hX, hX2, hX3⟩ : ∃ X : Int, (c % 1000000007 + 77) * ((i : Int) + 3) = X ∧ 0 ≤ X ∧ X ≤ 1000000084 * 1003 := ⟨_, rfl, Int.mul_nonneg (by omega) (by omega), Int.mul_le_mul (by omega) (by omega) (by omega) (by omega)⟩
    rw [hX]
    walk_at "sts"
    obtain ⟨M, hM, hM2, hM3⟩ : ∃ M : Int, X * 48271 % 2147483647 = M ∧ 0 ≤ M ∧ M < 2147483647 := ⟨_, rfl, by omega, by omega⟩
    rw [hM]
    walk_at "sts"
    obtain ⟨k, hk⟩ : ∃ k : Nat, M % ((i : Int) + 1) = (k : Int) := ⟨(M % ((i : Int) + 1)).toNat, by
      have := Int.emod_nonneg M (show (i : Int) + 1 ≠ 0 by omega)
      omega⟩
    have hk2 : k < 2 ^ 63 := by
      have := Int.emod_lt_of_pos M (show 0 < (i : Int) + 1 by omega)
      omega
    rw [hk]
    refine w_ins e1 hsl (by omega) (by omega) ?_
    rw [iv_put1 π k _ i rfl]
    walk_at "sts"
    exact ⟨putAt π k i, _, _, rfl, perm_put hp, s1.mut n1, upd_same⟩
  · rintro σ H' ⟨π, y1, y2, rfl, hp, s1, e1⟩
    walk_at "sts"
    exact q p1 H' π s1 n1 hp e1
end

/-! ### a made list of links -/
def LkAt (K : PySem.W.Frag) (H : Hp) (p : Addr) (L : Lk) : Prop := ∃ xs, H p = some (.lst xs) ∧ DpAll K (wo H p) xs (L.map dLk)
theorem LkAt.dp {K : PySem.W.Frag} {H : Hp} {p : Addr} {L : Lk} (h : LkAt K H p L) : Dp K H (.ref p) (dLks L) := by
  obtain ⟨xs, h1, h2⟩ := h
  exact .lst (SqL.of h1) (h2.same wo_same)

/-! ### links by names, whole -/
theorem WholeL.perm {L L' : Lk} {n : Nat} (h : WholeL L n) (p : L'.Perm L) : WholeL L' n := fun C h0 hC r hr => by
  refine h C h0 (fun k hk => ?_) r hr
  have hm : L[k] ∈ L' := p.mem_iff.mpr (List.getElem_mem hk)
  obtain ⟨i, hi, e⟩ := List.mem_iff_getElem.mp hm
  have := hC i hi
  unfold lka lkb at this ⊢
  rw [List.getD_eq_getElem?_getD, List.getElem?_eq_getElem hi, e] at this
  rw [List.getD_eq_getElem?_getD, List.getElem?_eq_getElem hk]
  exact this
theorem whole_names {L : Lk} {n : Nat} {π : List Nat} (hn : 0 < n) (hp : π.Perm (List.range n)) (hl : n - 1 ≤ L.length) (h : ∀ k, k < L.length → k < n - 1 → ∃ j, j ≤ k ∧ JL L k (pm π (k + 1)) (pm π j)) : WholeL L n := fun C h0 hC r hr => by
  have all : ∀ m i, i ≤ m → i < n → C (pm π i) = C (pm π 0) := by
    intro m
    induction m with
    | zero => intro i hi _; rw [show i = 0 by omega]
    | succ m ih =>
      intro i hi hin
      by_cases e : i ≤ m
      · exact ih i e hin
      · have ei : i = m + 1 := by omega
        subst ei
        obtain ⟨j, hj, hj2⟩ := h m (by omega) (by omega)
        have := hC m (by omega)
        have hj3 := ih j hj (by omega)
        rcases hj2 with ⟨h1, h2⟩ | ⟨h1, h2⟩
        · rw [h1, h2] at this; rw [this, hj3]
        · rw [h1, h2] at this; rw [← this, hj3]
  obtain ⟨i, hi, ei⟩ := pm_surj hp hn
  obtain ⟨k, hk, ek⟩ := pm_surj hp hr
  have a := all i i (Nat.le_refl _) hi
  have b := all k k (Nat.le_refl _) hk
  rw [ei, h0] at a
  rw [ek, ← a] at b
  exact b
theorem cut_rotV (xs : List V) (c : Nat) (h : c ≤ xs.length) : cutV xs (some (c : Int)) none ++ cutV xs none (some (c : Int)) = xs.drop c ++ xs.take c := by
  have h1 : HT.sIx xs.length 0 (some (c : Int)) = c := by
    rw [HT.sIx_nat]; omega
  have h2 : HT.sIx xs.length xs.length (some (c : Int)) = c := by
    rw [HT.sIx_nat]; omega
  unfold cutV
  rw [h1, h2]
  show List.take (HT.sIx xs.length xs.length none - c) (List.drop c xs) ++ List.take (c - HT.sIx xs.length 0 none) (List.drop (HT.sIx xs.length 0 none) xs) = _
  have h3 : HT.sIx xs.length xs.length none = xs.length := rfl
  have h4 : HT.sIx xs.length 0 none = 0 := rfl
  rw [h3, h4, List.drop_zero, Nat.sub_zero, List.take_of_length_le (by simp)]
theorem dpaDrop {K : PySem.W.Frag} {H : Hp} : ∀ (c : Nat) {xs : List V} {ds : List PyData}, DpAll K H xs ds → DpAll K H (xs.drop c) (ds.drop c)
  | 0, _, _, h => h
  | c + 1, [], _, h => by cases h; exact .nil
  | c + 1, _ :: _, _, h => by cases h with | cons a b => exact dpaDrop c b
theorem dpaTake {K : PySem.W.Frag} {H : Hp} : ∀ (c : Nat) {xs : List V} {ds : List PyData}, DpAll K H xs ds → DpAll K H (xs.take c) (ds.take c)
  | 0, _, _, h => by rw [List.take_zero, List.take_zero]; exact .nil
  | c + 1, [], _, h => by cases h; exact .nil
  | c + 1, _ :: _, _, h => by cases h with | cons a b => exact .cons a (dpaTake c b)

theorem lk_perm {L L' : Lk} (p : L'.Perm L) {k : Nat} (hk : k < L'.length) : ∃ i, i < L.length ∧ lka L' k = lka L i ∧ lkb L' k = lkb L i ∧ lkw L' k = lkw L i := by
  have hm : L'[k] ∈ L := p.mem_iff.mp (List.getElem_mem hk)
  obtain ⟨i, hi, e⟩ := List.mem_iff_getElem.mp hm
  refine ⟨i, hi, ?_⟩
  unfold lka lkb lkw
  rw [List.getD_eq_getElem?_getD, List.getElem?_eq_getElem hk, List.getD_eq_getElem?_getD, List.getElem?_eq_getElem hi, e]
  exact ⟨rfl, rfl, rfl⟩
theorem rotP {α : Type} (c : Nat) (r : List α) : (r.drop c ++ r.take c).Perm r := by
  refine List.perm_append_comm.trans ?_
  rw [List.take_append_drop]

section
variable {P : Program} {w : World} {K : PySem.W.Frag} {mg : Str → Option Value} {base : Heap} {C_OddMarks C_Parted C_TooRough C_FloorError : Addr}
def spLinksBy (K : PySem.W.Frag) : Sp := fun vs H Q _ => ∃ (a : Addr) (ns : List Int) (first many most : Nat), vs = [.ref a, .int first, .int many, .int most] ∧ SqL K H a (ns.map V.int) ∧ ns.length ≤ 63 ∧ first ≤ 10 ∧ 1 ≤ many ∧ many ≤ most ∧ most ≤ 100 ∧
  ∀ p H' L, Same H H' → New H p → LkAt K H' p L → (∀ k, k < L.length → lka L k < many ∧ lkb L k < many) → L.length ≤ most → (∀ k, lkw L k ≤ 10 ^ 31) → WholeL L many → Q (.ref p) H'
theorem ok_law_links_by {f : Addr} {fd : FuncData} (F : Fun K "_law_links_by" "_law_links_by" s_law_links_by f fd) (gf : mg "_law_links_by" = some (.ref f)) (B : Bl mg) {C_OddMarks C_Parted C_TooRough C_FloorError : Addr} (T : Txt K mg C_OddMarks C_Parted C_TooRough C_FloorError) (h_law_names : Has P w K mg base CX0 1 "_law_names" ["cell", "many"] spNames) (h_law_cell_at : Has P w K mg base CX0 1 "_law_cell_at" ["script", "k"] (spCell K)) : Has P w K mg base CX0 2 "_law_links_by" ["script", "first", "many", "most"] (spLinksBy K) := by
  refine Has.mk' F gf (F.binds (ps := ["script", "first", "many", "most"]) fun _ _ _ _ _ _ us hl => match us, hl with | [_, _, _, _], _ => rfl) sc_law_links_by (by walk_at "len") (fun cdv A outer s H vs Q E hr h => ?_)
  obtain ⟨a, ns, first, many, most, rfl, hS, hlen, hf, hm1, hm2, hmo, q⟩ := h
  refine ⟨_, (pss_cons (ps_set (i := 4) sc_law_links_by.nd rfl (.inl rfl) (pe_lst pa_nil))
 (pss_cons (ps_set (i := 5) sc_law_links_by.nd rfl (.inl rfl) (pe_fn h_law_names (hr.mono (by decide)) (by rfl) (pa_cons (pe_fn h_law_cell_at (hr.mono (by decide)) (by rfl) (pa_cons (pv 0) (pa_cons pe_int pa_nil))) (pa_cons (pv 2) pa_nil))))
 (pss_cons (ps_for PassesOwn.never rfl (pi_range1 (by rfl) B.range (pa_cons (pe_callB (call_min2 rfl) (by rfl) B.min (by decide +kernel) (pa_cons (pv 3) (pa_cons (pe_callB (call_max2 rfl) (by rfl) B.max (by decide +kernel) (pa_cons (pe_op op_sub (pv 2) pe_int) (pa_cons (pe_op op_fdivW (pe_op op_add (pe_op op_sub (pe_callB (call_lenK K) (by rfl) B.len (by decide +kernel) (pa_cons (pv 0) pa_nil)) (pv 1)) pe_int) pe_int) pa_nil))) pa_nil))) pa_nil)) (pg_name (i := 6) sc_law_links_by.nd rfl (.inl rfl)) (pss_cons (ps_set (i := 7) sc_law_links_by.nd rfl (.inl rfl) (pe_fn h_law_cell_at (hr.mono (by decide)) (by rfl) (pa_cons (pv 0) (pa_cons (pe_op op_add (pv 1) (pe_op op_mulX pe_int (pv 6))) pa_nil))))
 (pss_cons (ps_set (i := 8) sc_law_links_by.nd rfl (.inl rfl) (pe_op op_mod (pe_op op_mulX (pe_op op_mod (pv 7) pe_int) pe_int) pe_int))
 (pss_cons (ps_set (i := 9) sc_law_links_by.nd rfl (.inl rfl) (pe_op op_mod (pv 8) (pv 2)))
 (pss_cons (ps_set (i := 10) sc_law_links_by.nd rfl (.inl rfl) (pe_op op_mod (pe_op op_mod (pe_op op_mulX (pv 8) (pv 8)) pe_int) (pv 2)))
 (pss_cutX (ps_if (pt_cmpR op_lt (pv 6) (pe_op op_sub (pv 2) pe_int) (nomark _)) (pss_cons (ps_set (i := 9) sc_law_links_by.nd rfl (.inl rfl) (pe_op op_add (pv 6) pe_int))
 (pss_one (ps_set (i := 10) sc_law_links_by.nd rfl (.inl rfl) (pe_op op_mod (pv 8) (pe_op op_add (pv 6) pe_int))))) pss_nil)
 (pss_cutX (ps_if (pt_cmpR op_eq (pe_op op_mod (pe_op op_fdivW (pv 7) pe_int) pe_int) pe_int (nomark _)) (pss_one (ps_par (i := 9) (j := 10) (by rfl) sc_law_links_by.nd rfl rfl (by decide) rfl rfl (pa_cons (pv 10) (pa_cons (pv 9) pa_nil)) (by rfl))) pss_nil)
 (pss_one (ps_expr (pe_bmK K (pe_bm PySem.F.plainAttrs_list PySem.F.slot_list_append PySem.F.type_list_append mt_append (pv 4) (pa_cons (pe_tup (pa_cons (pe_ix (ix_listK K) (pv 5) (pv 9) (fun _ _ => rfl)) (pa_cons (pe_ix (ix_listK K) (pv 5) (pv 10) (fun _ _ => rfl)) (pa_cons (pe_op op_mod (pe_fn h_law_cell_at (hr.mono (by decide)) (by rfl) (pa_cons (pv 0) (pa_cons (pe_op op_add (pe_op op_add (pv 1) (pe_op op_mulX pe_int (pv 6))) pe_int) pa_nil))) (pe_op op_add (pe_op op_pow pe_int pe_int) pe_int)) pa_nil)))) pa_nil))))))))))))
 (pss_cons (ps_set (i := 11) sc_law_links_by.nd rfl (.inl rfl) (pe_op op_mod (pe_op op_fdivW (pe_fn h_law_cell_at (hr.mono (by decide)) (by rfl) (pa_cons (pv 0) (pa_cons pe_int pa_nil))) pe_int) (pe_callB (call_max2 rfl) (by rfl) B.max (by decide +kernel) (pa_cons pe_int (pa_cons (pe_callB (call_lenK K) (by rfl) B.len (by decide +kernel) (pa_cons (pv 4) pa_nil)) pa_nil)))))
 (pss_one (ps_ret (pe_op op_cat (pe_slice (sl_listK K) (pv 4) (po_some (pv 11)) po_none) (pe_slice (sl_listK K) (pv 4) po_none (po_some (pv 11)))))))))), ?_⟩
  walk_at "sts"
  refine w_new fun p np => ?_
  have s0 := same_upd (o := .lst []) np
  have hS0 := s0.seq hS
  walk_at "sts"
  refine ⟨a, ns, 1, rfl, hS0, ?_⟩
  walk_at "sts"
  refine ⟨_, many, rfl, by omega, fun pN H1 π s1 nN hπ hpN => ?_⟩
  have hπl : π.length = many := by have := hπ.length_eq; simpa using this
  have hS1 := s1.seq hS0
  have hN := SqL.of (K := K) hpN
  walk_at "sts"
  have hne : p ≠ pN := ne_new upd_same nN
  have hp1 : H1 p = some (.lst []) := s1 _ _ upd_same
  rw [List.length_map]
  have hNat : ∃ N : Nat, N = min most (max (many - 1) ((ns.length + 1 - first) / 2)) ∧ many - 1 ≤ N ∧ N ≤ most := ⟨_, rfl, by omega, by omega⟩
  obtain ⟨N, hN0, hN1, hN2⟩ := hNat
  refine for_r0 (n := N) ?_ (fun i σ H' => ∃ (y6 y7 y8 y9 y10 y11 : Option V) (L : Lk), σ = [some (.ref a), some (.int (first : Nat)), some (.int (many : Nat)), some (.int (most : Nat)), some (.ref p), some (.ref pN), y6, y7, y8, y9, y10, y11] ∧ Same H H' ∧ H' pN = some (.lst (iv π)) ∧ LkAt K H' p L ∧ L.length = i ∧ (∀ k, k < L.length → lka L k < many ∧ lkb L k < many) ∧ (∀ k, lkw L k ≤ 10 ^ 31) ∧ (∀ k, k < L.length → k < many - 1 → ∃ j, j ≤ k ∧ JL L k (pm π (k + 1)) (pm π j))) ?_ ?_ ?_
  · subst hN0
    split <;> (try split) <;> omega
  · exact ⟨_, _, _, _, _, _, [], rfl, s0.trans s1, hpN, ⟨[], hp1, .nil⟩, rfl, fun k hk => absurd hk (by simp), fun k => Nat.zero_le _, fun k hk => absurd hk (by simp)⟩
  · rintro i σ H' hi ⟨y6, y7, y8, y9, y10, y11, L, rfl, s2, hpN2, ⟨xs, x1, x2⟩, hLi, hLb, hLw, hLn⟩
    have hS2 := s2.seq hS
    have hN := SqL.of (K := K) hpN2
    have hxl : xs.length = i := by have := dpaLen x2; simp at this; omega
    walk_at "sts"
    rw [show ((first : Int) + 2 * (i : Int)) = ((first + 2 * i : Nat) : Int) by omega]
    refine ⟨a, ns, first + 2 * i, rfl, hS2, ?_⟩
    generalize ns.getD (first + 2 * i) 0 = z
    walk_at "sts"
    obtain ⟨M, hM, hM2⟩ : ∃ M : Nat, z % 1000000007 * 48271 % 2147483647 = (M : Int) ∧ M < 2147483647 := ⟨(z % 1000000007 * 48271 % 2147483647).toNat, by omega, by omega⟩
    rw [hM]
    obtain ⟨one, h1, h1b⟩ := modN (M : Int) (show 0 < many by omega)
    walk_at "sts"
    rw [h1]
    walk_at "sts"
    obtain ⟨two, h2, h2b⟩ := modN ((M : Int) * (M : Int) % 1000003) (show 0 < many by omega)
    rw [h2]
    walk_at "sts"
    refine w_cut (fun σ' H2 => ∃ (o t : Nat), σ' = [some (.ref a), some (.int (first : Nat)), some (.int (many : Nat)), some (.int (most : Nat)), some (.ref p), some (.ref pN), some (.int (i : Nat)), some (.int z), some (.int (M : Nat)), some (.int (o : Nat)), some (.int (t : Nat)), y11] ∧ H' = H2 ∧ o < many ∧ t < many ∧ (i < many - 1 → o = i + 1 ∧ t ≤ i)) ?_ ?_
    · walk_at "sts"
      refine ifd (fun hc => ?_) (fun hc => ?_)
      · walk_at "sts"
        obtain ⟨t, ht, htb⟩ := modN (M : Int) (show 0 < i + 1 by omega)
        rw [show ((i : Int) + 1) = ((i + 1 : Nat) : Int) by omega, ht]
        exact ⟨i + 1, t, rfl, rfl, by omega, by omega, fun _ => ⟨rfl, by omega⟩⟩
      · walk_at "sts"
        exact ⟨one, two, rfl, rfl, h1b, h2b, fun h => absurd h (by omega)⟩
    rintro σ' H2 ⟨o, t, rfl, rfl, ho, ht, hot⟩
    walk_at "sts"
    refine w_cut (fun σ' H2 => ∃ (o' t' : Nat), σ' = [some (.ref a), some (.int (first : Nat)), some (.int (many : Nat)), some (.int (most : Nat)), some (.ref p), some (.ref pN), some (.int (i : Nat)), some (.int z), some (.int (M : Nat)), some (.int (o' : Nat)), some (.int (t' : Nat)), y11] ∧ H' = H2 ∧ ((o' = o ∧ t' = t) ∨ (o' = t ∧ t' = o))) ?_ ?_
    · walk_at "sts"
      refine ifd (fun hc => ?_) (fun hc => ?_)
      · walk_at "sts"
        exact ⟨t, o, rfl, rfl, .inr ⟨rfl, rfl⟩⟩
      · walk_at "sts"
        exact ⟨o, t, rfl, rfl, .inl ⟨rfl, rfl⟩⟩
    rintro σ' H2 ⟨o', t', rfl, rfl, hor⟩
    have ho' : o' < many := by omega
    have ht' : t' < many := by omega
    have e1 : (iv π)[o']? = some (.int ((pm π o' : Nat) : Int)) := iv_at (by omega)
    have e2 : (iv π)[t']? = some (.int ((pm π t' : Nat) : Int)) := iv_at (by omega)
    have p31 : (10 : Int) ^ Int.toNat 31 + 1 = 10000000000000000000000000000001 := by decide
    walk_at "sts"
    rw [show ((first : Int) + 2 * (i : Int) + 1) = ((first + 2 * i + 1 : Nat) : Int) by omega]
    refine ⟨a, ns, first + 2 * i + 1, rfl, hS2, ?_⟩
    generalize ns.getD (first + 2 * i + 1) 0 = z2
    walk_at "sts"
    rw [p31]
    walk_at "sts"
    obtain ⟨w, hw, hw2⟩ : ∃ w : Nat, z2 % 10000000000000000000000000000001 = (w : Int) ∧ w ≤ 10 ^ 31 := ⟨(z2 % 10000000000000000000000000000001).toNat, by omega, by omega⟩
    rw [hw]
    refine w_new fun pt nt => ?_
    have hpt : p ≠ pt := ne_new x1 nt
    have hpt2 : pN ≠ pt := ne_new hpN2 nt
    have hsl : xs.length < sizeLine := szlt (by omega)
    walk_at "sts"
    have hg : ∀ k, (L ++ [(pm π o', pm π t', w)]).getD k (0, 0, 0) = if k = L.length then (pm π o', pm π t', w) else L.getD k (0, 0, 0) := fun k => by
      rw [List.getD_eq_getElem?_getD, List.getD_eq_getElem?_getD, List.getElem?_append]
      by_cases e : k = L.length
      · subst e; simp
      · by_cases e2 : k < L.length
        · rw [if_pos e2, if_neg e]
        · rw [if_neg e2, if_neg e, List.getElem?_eq_none (by simp; omega), List.getElem?_eq_none (by omega)]
    refine ⟨_, _, _, _, _, _, L ++ [(pm π o', pm π t', w)], rfl, (s2.trans (same_upd nt)).mut np, ?_, ⟨xs ++ [.ref pt], upd_same, ?_⟩, by simp; omega, fun k hk => ?_, fun k => ?_, fun k hk hk2 => ?_⟩
    · rw [upd_ne (Ne.symm hne), upd_ne hpt2]
      exact hpN2
    · rw [List.map_append]
      refine dpaApp ?_ (.cons ?_ .nil)
      · rw [wo_eq]
        exact x2.same (wo_mono (same_upd nt))
      · refine .tup (xs := [V.int (pm π o' : Nat), V.int (pm π t' : Nat), V.int (w : Nat)]) (SqT.of ?_) (dpInts [((pm π o' : Nat) : Int), ((pm π t' : Nat) : Int), ((w : Nat) : Int)])
        refine wo_get ?_ (Ne.symm hpt)
        rw [upd_ne (Ne.symm hpt), upd_same]
    · unfold lka lkb
      rw [hg k]
      by_cases e : k = L.length
      · rw [if_pos e]; exact ⟨pm_lt hπ ho', pm_lt hπ ht'⟩
      · rw [if_neg e]; exact hLb k (by simp at hk; omega)
    · unfold lkw
      rw [hg k]
      by_cases e : k = L.length
      · rw [if_pos e]; exact hw2
      · rw [if_neg e]; exact hLw k
    · unfold JL lka lkb
      rw [hg k]
      by_cases e : k = L.length
      · rw [if_pos e]
        have hki : k = i := by omega
        subst hki
        obtain ⟨q1, q2⟩ := hot hk2
        refine ⟨t, q2, ?_⟩
        rcases hor with ⟨r1, r2⟩ | ⟨r1, r2⟩
        · subst r1 r2 q1; exact .inl ⟨rfl, rfl⟩
        · subst r1 r2 q1; exact .inr ⟨rfl, rfl⟩
      · rw [if_neg e]; exact hLn k (by simp at hk; omega) hk2
  · rintro σ H' ⟨y6, y7, y8, y9, y10, y11, L, rfl, s2, hpN2, hL, hLi, hLb, hLw, hLn⟩
    have hS2 := s2.seq hS
    have hWh := whole_names (by omega) hπ (by omega) hLn
    obtain ⟨xs, x1, x2⟩ := id hL
    have hxl : xs.length = L.length := by have := dpaLen x2; simpa using this
    have hxs := SqL.of (K := K) x1
    walk_at "sts"
    refine ⟨a, ns, 1, rfl, hS2, ?_⟩
    generalize ns.getD 1 0 = z
    walk_at "sts"
    rw [hxl]
    obtain ⟨c, hc, hc2⟩ : ∃ c : Nat, z / 7 % (if 1 < (L.length : Int) then (L.length : Int) else 1) = (c : Int) ∧ c ≤ L.length := by
      split
      · obtain ⟨c, e1, e2⟩ := modN (z / 7) (show 0 < L.length by omega)
        exact ⟨c, e1, by omega⟩
      · exact ⟨0, by omega, by omega⟩
    rw [hc]
    refine w_new fun q1 nq1 => ?_
    have q1p := ne_new x1 nq1
    have hxs1 := SqL.of (K := K) (((same_upd (o := .lst (cutV xs (some ((c : Nat) : Int)) none)) nq1)) _ _ x1)
    walk_at "sts"
    refine w_new fun q2 nq2 => ?_
    have q12 : q1 ≠ q2 := ne_new upd_same nq2
    refine ⟨q1, q2, _, _, rfl, rfl, by walk_at "hp", upd_same, ?_, w_new fun pr nr => ?_⟩
    · have a1 := cutV_length xs (some ((c : Nat) : Int)) none
      have a2 := cutV_length xs none (some ((c : Nat) : Int))
      exact Nat.le_trans (show _ ≤ 1000 by omega) (by decide)
    rw [cut_rotV _ _ (by omega)]
    have s7 : Same H' (upd (upd H' q1 (.lst (cutV xs (some (c : Int)) none))) q2 (.lst (cutV xs none (some (c : Int))))) := ((Same.refl H').new nq1).new nq2
    generalize upd (upd H' q1 (.lst (cutV xs (some (c : Int)) none))) q2 (.lst (cutV xs none (some (c : Int)))) = H7 at nr s7 ⊢
    have hP : (L.drop c ++ L.take c).Perm L := rotP c L
    refine q pr _ (L.drop c ++ L.take c) ((s2.trans s7).new nr) (nr.of (s2.trans s7)) ⟨_, upd_same, ?_⟩ (fun k hk => ?_) (by rw [hP.length_eq]; omega) (fun k => ?_) (hWh.perm hP)
    · rw [wo_eq, List.map_append, List.map_drop, List.map_take]
      have z : DpAll K (wo H7 pr) xs (L.map dLk) := ((x2.same wo_same).same s7).same fun a o h => wo_get h (ne_new h nr)
      exact dpaApp (dpaDrop c z) (dpaTake c z)
    · obtain ⟨i, hi, a1, a2, a3⟩ := lk_perm hP hk
      rw [a1, a2]
      exact hLb i hi
    · by_cases hk : k < (L.drop c ++ L.take c).length
      · obtain ⟨i, hi, a1, a2, a3⟩ := lk_perm hP hk
        rw [a3]
        exact hLw i
      · unfold lkw
        rw [List.getD_eq_getElem?_getD, List.getElem?_eq_none (by omega)]
        exact Nat.zero_le _
end

section
theorem sum_bits (x n : Nat) : (((List.range n).map fun r => (((x.testBit r).toNat : Nat) : Int)).sum) = ((cnt x n : Nat) : Int) := by
  induction n with
  | zero => rfl
  | succ n ih =>
    rw [List.range_succ, List.map_append, List.sum_append, ih, show cnt x (n + 1) = cnt x n + (x.testBit n).toNat from rfl]
    simp
theorem cnt_high {x n : Nat} (hx : x < 2 ^ n) : ∀ m, n ≤ m → cnt x m = cnt x n
  | 0, h => by rw [show n = 0 by omega]
  | m + 1, h => by
    by_cases e : n = m + 1
    · rw [e]
    · rw [show cnt x (m + 1) = cnt x m + (x.testBit m).toNat from rfl, cnt_high hx m (by omega), Nat.testBit_lt_two_pow (Nat.lt_of_lt_of_le hx (Nat.pow_le_pow_right (by decide) (by omega)))]
      rfl
theorem cnt_le (x : Nat) : ∀ n, cnt x n ≤ n
  | 0 => Nat.le_refl _
  | n + 1 => by
    have := cnt_le x n
    have := Bool.toNat_le (x.testBit n)
    show cnt x n + (x.testBit n).toNat ≤ n + 1
    omega
end

/-! ### list.count of flat things -/
theorem cnt_vals {y : V} : ∀ {ys : List V} {its : List Value}, Vals ys its → ys.all flatV = true → its.countP (eqU y) = ys.countP (fun z => eqV z y)
  | _, _, .nil, _ => rfl
  | _, _, .cons r t, h => by
    rw [List.all_cons, Bool.and_eq_true] at h
    rw [List.countP_cons, List.countP_cons, cnt_vals t h.2, eqU_of r h.1]
def rCntF (K : PySem.W.Frag) : V → List V → Hp → VK → Prop := fun x xs H Q => ∃ (p : Addr) (ys : List V) (y : V), x = .ref p ∧ xs = [y] ∧ SqL K H p ys ∧ flatV y = true ∧ ys.all flatV = true ∧ Q (.int (ys.countP (fun z => eqV z y) : Nat)) H
theorem mt_countF {X : Cx} (K : PySem.W.Frag) (hK : X.K = K := by rfl) : MtR X "list.count" (rCntF K) := by
  subst hK
  intro pins s σ H x xs v us Q I rx rxs h
  obtain ⟨p, ys, y, rfl, rfl, hs, fy, fys, q⟩ := h
  cases rx
  cases rxs with
  | cons ry rt =>
    rename_i uy ut
    cases rt
    obtain ⟨its, rv, ⟨⟨cls, dd, data, sl⟩, n, ho, hc, hdn, hd⟩, hlen⟩ := I.list hs
    simp only at hc hd
    subst hc hd
    refine call_meets PySem.F.slot_list_count ⟨_, ho, rfl⟩ PySem.F.entry_list_count (PySem.F.args_list_count_2 _ _)
      (SeqAt.list_countAt p its.toArray n dd sl uy (eqU y)) ⟨ho, fun u' hu' => mem_eqAt ry fy rv fys u' (by simpa using hu'), ?_⟩
    refine ⟨.int (ys.countP (fun z => eqV z y) : Nat), H, I.tok _, ⟨s.toks, ?_⟩, q⟩
    show Value.int ((its.toArray.toList.countP (eqU y) : Nat) : Int) s.toks = Value.int ((ys.countP (fun z => eqV z y) : Nat) : Int) s.toks
    rw [show its.toArray.toList = its from rfl, cnt_vals rv fys]
theorem w_cntF {K : PySem.W.Frag} {H : Hp} {Q : VK} {p : Addr} {ys : List V} {y : V} (hs : SqL K H p ys) (h1 : flatV y = true) (h2 : ys.all flatV = true) (h : Q (.int (ys.countP (fun z => eqV z y) : Nat)) H) : rCntF K (.ref p) [y] H Q := ⟨p, ys, y, rfl, rfl, hs, h1, h2, h⟩
theorem range_snoc2 {α : Type} (f : Nat → α) (i : Nat) : (List.range (i + 1)).map f = (List.range i).map f ++ [f i] := by rw [List.range_succ, List.map_append]; rfl
/-! ### rooms that hang together, by names -/
section
/-- the names behind the first i links -/
structure NmOk (L : Lk) (n i : Nat) (f : Nat → Nat) : Prop where
  same : ∀ k, k < i → f (lka L k) = f (lkb L k)
  cls : ∀ C : Nat → Bool, (∀ k, k < i → C (lka L k) = C (lkb L k)) → ∀ r s, r < n → s < n → f r = f s → C r = C s
theorem NmOk.zero (L : Lk) (n : Nat) : NmOk L n 0 (fun r => r) := ⟨fun k hk => absurd hk (by omega), fun C _ r s _ _ e => by rw [show r = s from e]⟩
theorem NmOk.step {L : Lk} {n i : Nat} {f : Nat → Nat} (h : NmOk L n i f) (ha : lka L i < n) (hb : lkb L i < n) : NmOk L n (i + 1) (fun r => if f r = f (lka L i) then f (lkb L i) else f r) := by
  refine ⟨fun k hk => ?_, fun C hC r s hr hs e => ?_⟩
  · by_cases e : k = i
    · subst e
      rw [if_pos rfl]
      split
      · rfl
      · rfl
    · have := h.same k (by omega)
      rw [this]
  · have hC' : ∀ k, k < i → C (lka L k) = C (lkb L k) := fun k hk => hC k (by omega)
    have hi := hC i (by omega)
    by_cases e1 : f r = f (lka L i)
    · have c1 := h.cls C hC' r _ hr ha e1
      rw [if_pos e1] at e
      by_cases e2 : f s = f (lka L i)
      · rw [c1, h.cls C hC' s _ hs ha e2]
      · rw [if_neg e2] at e
        rw [c1, hi, h.cls C hC' _ s hb hs e]
    · rw [if_neg e1] at e
      by_cases e2 : f s = f (lka L i)
      · rw [if_pos e2] at e
        rw [h.cls C hC' s _ hs ha e2, hi, h.cls C hC' r _ hr hb e]
      · rw [if_neg e2] at e
        exact h.cls C hC' r s hr hs e
theorem NmOk.whole {L : Lk} {n : Nat} {f : Nat → Nat} (h : NmOk L n L.length f) (hb : ∀ k, k < L.length → lka L k < n ∧ lkb L k < n) (hn : 0 < n) : (∀ r, r < n → f r = f 0) ↔ WholeL L n := by
  refine ⟨fun ha C h0 hC r hr => ?_, fun hw r hr => ?_⟩
  · rw [h.cls C hC r 0 hr hn (ha r hr)]; exact h0
  · have := hw (fun r => decide (f r = f 0)) (decide_eq_true rfl) (fun k hk => by rw [h.same k hk]) r hr
    exact of_decide_eq_true this
theorem count_all (f : Nat → Nat) (n : Nat) (y : Nat) : decide (((((List.range n).map fun r => V.int ((f r : Nat) : Int)).countP fun z => eqV z (.int (y : Nat)) : Nat) : Int) = (n : Int)) = decide (∀ r, r < n → f r = y) := by
  refine decide_eq_decide.mpr ?_
  have hc : (((List.range n).map fun r => V.int ((f r : Nat) : Int)).countP fun z => eqV z (.int (y : Nat))) = (List.range n).countP fun r => f r == y := by
    rw [List.countP_map]
    refine List.countP_congr fun r _ => ?_
    show (((f r : Nat) : Int) == ((y : Nat) : Int)) = true ↔ _
    rw [beq_iff_eq, beq_iff_eq]
    omega
  rw [hc]
  have hl : (List.range n).length = n := List.length_range
  constructor
  · intro h r hr
    have h1 : (List.range n).countP (fun r => f r == y) = (List.range n).length := by omega
    have := List.countP_eq_length.mp h1 r (List.mem_range.mpr hr)
    exact beq_iff_eq.mp this
  · intro h
    have h1 : (List.range n).countP (fun r => f r == y) = (List.range n).length := List.countP_eq_length.mpr fun r hr => beq_iff_eq.mpr (h r (List.mem_range.mp hr))
    omega
end
theorem w_lrg {te : L2.St → Hp → (Int → Int → Hp → Prop) → Prop} {σ : L2.St} {H : Hp} {Q : VK} (h : te σ H fun a b H1 => RgOk a b ∧ ∀ p, H1 p = none → Q (.ref p) (upd H1 p (.lst (rgV a b)))) : tLstRg te σ H Q := h
theorem w_rg1 {ta : TE} {σ : L2.St} {H : Hp} {Q : Int → Int → Hp → Prop} (h : ta σ H fun x H1 => ∃ n, x = .int n ∧ Q 0 n H1) : tRg1 ta σ H Q := h
section
variable {P : Program} {w : World} {K : PySem.W.Frag} {mg : Str → Option Value} {base : Heap} {C_OddMarks C_Parted C_TooRough C_FloorError : Addr}
def spTog (K : PySem.W.Frag) : Sp := fun vs H Q _ => ∃ (p : Addr) (n : Nat) (L : Lk), vs = [.int n, .ref p] ∧ Dp K H (.ref p) (dLks L) ∧ (∀ k, k < L.length → lka L k < n ∧ lkb L k < n) ∧ n ≤ 80 ∧ 0 < n ∧ L.length ≤ 1000 ∧ ∀ b H', (b = true ↔ WholeL L n) → Same H H' → Q (.bl b) H'
theorem ok_law_together {f : Addr} {fd : FuncData} (F : Fun K "_law_together" "_law_together" s_law_together f fd) (gf : mg "_law_together" = some (.ref f)) (B : Bl mg) {C_OddMarks C_Parted C_TooRough C_FloorError : Addr} (T : Txt K mg C_OddMarks C_Parted C_TooRough C_FloorError) : Has P w K mg base CX0 1 "_law_together" ["many", "links"] (spTog K) := by
  refine Has.mk' F gf (F.binds (ps := ["many", "links"]) fun _ _ _ _ _ _ us hl => match us, hl with | [_, _], _ => rfl) sc_law_together (by walk_at "len") (fun cdv A outer s H vs Q E hr h => ?_)
  obtain ⟨p, n, L, rfl, hL, hb, hn, hpos, hlen, q⟩ := h
  obtain ⟨ls, hl, hls⟩ := dpLstA hL
  have hll : ls.length = L.length := by have := dpaLen hls; simpa using this
  refine ⟨_, (pss_cons (ps_set (i := 2) sc_law_together.nd rfl (.inl rfl) (pe_listRg rfl (by rfl) B.list (prg_1 (by rfl) B.range (pv 0))))
 (pss_cons (ps_for PassesOwn.never rfl (pi_listK K (pv 1)) (pg_name (i := 3) sc_law_together.nd rfl (.inl rfl)) (pss_cons (ps_set (i := 4) sc_law_together.nd rfl (.inr rfl) (pe_ix (ix_listK K) (pv 2) (pe_ix (ix_tupK K) (pv 3) pe_int (fun _ _ => rfl)) (fun _ _ => rfl)))
 (pss_cons (ps_set (i := 5) sc_law_together.nd rfl (.inr rfl) (pe_ix (ix_listK K) (pv 2) (pe_ix (ix_tupK K) (pv 3) pe_int (fun _ _ => rfl)) (fun _ _ => rfl)))
 (pss_one (ps_setLc (i := 2) (own := [("name", 6)]) rfl sc_law_together.nd rfl rfl (sw_true rfl rfl rfl (by decide +kernel)) (pi_listK K (pv 2)) (blkOk_by (own := [("name", 6)]) (N := ["many", "links", "names", "link", "one", "two", "name"]) (sc := defScope s_law_together) (by decide +kernel)) (fun _ _ _ _ _ => pg_name (i := 6) sc_law_together.nd rfl (Or.inl rfl)) (fun _ _ _ _ _ => pts_nil) (fun _ _ _ _ _ => (pe_ifExp (pt_cmpR op_eq (pv 6) (pv 4) (nomark _)) (pv 5) (pv 6))))))))
 (pss_one (ps_ret (pe_cmpR op_eq (pe_bmK K (pe_bm PySem.F.plainAttrs_list PySem.F.slot_list_count PySem.F.type_list_count (mt_countF K) (pv 2) (pa_cons (pe_ix (ix_listK K) (pv 2) pe_int (fun _ _ => rfl)) pa_nil))) (pv 0) (nomark _)))))), ?_⟩
  walk_at "sts"
  refine w_lrg ?_
  refine w_rg1 ?_
  walk_at "sts"
  refine ⟨RgOk.of_le (by omega) (by omega) (by omega) (by omega), fun pn nn => ?_⟩
  have erg : rgV 0 ((n : Nat) : Int) = (List.range n).map fun r => V.int ((r : Nat) : Int) := by
    unfold rgV
    rw [show (((n : Nat) : Int) - 0).toNat = n by omega]
    refine List.map_congr_left fun d _ => ?_
    show V.int (0 + (d : Int)) = V.int (d : Int)
    rw [Int.zero_add]
  rw [erg]
  walk_at "sts"
  have nmAt : ∀ (f : Nat → Nat) {r : Nat}, r < n → atI ((List.range n).map fun r => V.int ((f r : Nat) : Int)) ((r : Nat) : Int) = some (.int ((f r : Nat) : Int)) := fun f r hr => atI_nat (by rw [List.getElem?_map, List.getElem?_range hr]; rfl)
  refine for_list (xs := ls) (fun i σ H' => ∃ (y3 y4 y5 y6 : Option V) (pn : Addr) (f : Nat → Nat), σ = [some (.int (n : Nat)), some (.ref p), some (.ref pn), y3, y4, y5, y6] ∧ Same H H' ∧ H' pn = some (.lst ((List.range n).map fun r => V.int ((f r : Nat) : Int))) ∧ NmOk L n i f) ?_ ?_ ?_ ?_
  · exact ⟨_, _, _, _, pn, fun r => r, rfl, same_upd nn, upd_same, NmOk.zero L n⟩
  · rintro i σ H' _ ⟨_, _, _, _, _, _, _, s1, _⟩
    exact s1.seq hl
  · rintro i v σ H' hv ⟨y3, y4, y5, y6, pn, f, rfl, s1, l1, ok⟩
    have hi : i < L.length := by rw [← hll]; exact (List.getElem?_eq_some_iff.mp hv).1
    obtain ⟨pk, e1, e2⟩ := dpLkAt hls hi
    rw [hv] at e1
    cases e1
    obtain ⟨hba, hbb⟩ := hb i hi
    have e3 := same_read s1 e2
    have fa := nmAt f hba
    have fb := nmAt f hbb
    walk_at "sts"
    intro D nD
    refine lc_list (xs := (List.range n).map fun r => V.int ((f r : Nat) : Int)) (fun j H2 => H2 D = some (.lst ((List.range j).map fun r => V.int (((if f r = f (lka L i) then f (lkb L i) else f r) : Nat) : Int))) ∧ Same H' H2) ?_ ?_ ?_ ?_
    · exact ⟨upd_same, same_upd nD⟩
    · rintro j H2 _ ⟨_, s2⟩
      exact SqL.of (s2 _ _ l1)
    · rintro j v H2 hj ⟨l2, s2⟩
      have hjn : j < n := by have := (List.getElem?_eq_some_iff.mp hj).1; simpa using this
      rw [List.getElem?_map, List.getElem?_range hjn] at hj
      cases hj
      walk_at "sts"
      refine ifd (fun hc => ?_) (fun hc => ?_)
      · have hc' : f j = f (lka L i) := by omega
        walk_at "sts"
        refine ⟨_, l2, szlt (by rw [List.length_map, List.length_range]; omega), ?_, s2.mut nD⟩
        rw [upd_same, range_snoc2, if_pos hc']
      · have hc' : ¬ f j = f (lka L i) := by omega
        walk_at "sts"
        refine ⟨_, l2, szlt (by rw [List.length_map, List.length_range]; omega), ?_, s2.mut nD⟩
        rw [upd_same, range_snoc2, if_neg hc']
    rintro H2 ⟨l2, s2⟩
    rw [List.length_map, List.length_range] at l2
    walk_at "sts"
    exact ⟨_, _, _, _, D, _, rfl, s1.trans s2, l2, ok.step hba hbb⟩
  · rintro σ H1 ⟨_, _, _, _, pn, f, rfl, s1, l1, ok⟩
    have hq := SqL.of (K := K) l1
    have f0 := nmAt f hpos
    have hfl : ((List.range n).map fun r => V.int ((f r : Nat) : Int)).all flatV = true := by
      rw [List.all_eq_true]
      intro v hv
      obtain ⟨r, _, rfl⟩ := List.mem_map.mp hv
      rfl
    rw [show ((0 : Nat) : Int) = 0 from rfl] at f0
    walk_at "sts"
    refine w_cntF hq rfl hfl ?_
    walk_at "sts"
    rw [count_all]
    refine q _ _ ?_ s1
    rw [decide_eq_true_iff, hll] at *
    exact ok.whole hb hpos
end

section
variable {P : Program} {w : World} {K : PySem.W.Frag} {mg : Str → Option Value} {base : Heap} {C_OddMarks C_Parted C_TooRough C_FloorError : Addr}
def DueIs (x n : Nat) (L : Lk) (d : Str) : Prop := (cnt x 80 % 2 = 1 → d = "odd") ∧ (cnt x 80 % 2 = 0 → ¬ WholeL L n → d = "parted") ∧ (cnt x 80 % 2 = 0 → WholeL L n → 14 < cnt x 80 → d = "rough") ∧ (cnt x 80 % 2 = 0 → WholeL L n → cnt x 80 ≤ 14 → d = "taken")
def spTold24 (K : PySem.W.Frag) : Sp := fun vs H Q _ => ∃ (nm : Str) (p : Addr) (n x : Nat) (L : Lk), vs = [.str nm, .int n, .ref p, .int x] ∧ Dp K H (.ref p) (dLks L) ∧ (∀ k, k < L.length → lka L k < n ∧ lkb L k < n) ∧ n ≤ 80 ∧ L.length ≤ 1000 ∧ (∀ k, lkw L k ≤ 10 ^ 40) ∧ 0 < n ∧ x < 2 ^ n ∧
  ∀ d H', DueIs x n L d → Same H H' → Q (.str d) H'
theorem ok_law_told {f : Addr} {fd : FuncData} (F : Fun K "_law_told" "_law_told" s_law_told f fd) (gf : mg "_law_told" = some (.ref f)) (B : Bl mg) {C_OddMarks C_Parted C_TooRough C_FloorError : Addr} (T : Txt K mg C_OddMarks C_Parted C_TooRough C_FloorError) (h_paired : Has P w K mg base (L2.CX P w) 11 "paired" ["many", "links", "marks"] (spPairedX K C_OddMarks C_Parted C_TooRough)) (h_heights : Has P w K mg base (L2.CX P w) 12 "heights" ["many", "links", "marks"] (spHeightsX K C_OddMarks C_Parted C_TooRough)) (h_hills : Has P w K mg base (L2.CX P w) 13 "hills" ["many", "links", "marks"] (spHillsX K C_OddMarks C_Parted C_TooRough)) : Has P w K mg base CX0 14 "_law_told" ["name", "many", "links", "marks"] (spTold24 K) := by
  refine Has.mk' F gf (F.binds (ps := ["name", "many", "links", "marks"]) fun _ _ _ _ _ _ us hl => match us, hl with | [_, _, _, _], _ => rfl) sc_law_told (by walk_at "len") (fun cdv A outer s H vs Q E hr h => ?_)
  obtain ⟨nm, p, n, x, L, rfl, hL, hb, hn, hn2, hw40, hpos, hx, q⟩ := h
  refine ⟨_, (pss_cons (ps_set (i := 4) sc_law_told.nd rfl (.inl rfl) pe_non)
 (pss_cutX (ps_try_keep (i := 5) rfl rfl sc_law_told.nd rfl rfl ⟨rfl, by decide, .inl T.g_FloorError⟩ takes0 (fun W pn xe tk pw => (pss_one (ps_if (pt_cmpR op_eq (pv 0) pe_str (nomark _)) (pss_one (ps_expr (pe_fnS tk h_paired (hr.mono (by decide)) (by rfl) (pa_cons (pv 1) (pa_cons (pv 2) (pa_cons (pv 3) pa_nil)))))) (pss_one (ps_if (pt_cmpR op_eq (pv 0) pe_str (nomark _)) (pss_one (ps_expr (pe_fnS tk h_heights (hr.mono (by decide)) (by rfl) (pa_cons (pv 1) (pa_cons (pv 2) (pa_cons (pv 3) pa_nil)))))) (pss_one (ps_expr (pe_fnS tk h_hills (hr.mono (by decide)) (by rfl) (pa_cons (pv 1) (pa_cons (pv 2) (pa_cons (pv 3) pa_nil))))))))))) (fun a oe cls d pn hz hf => (pss_one (ps_set (i := 4) sc_law_told.nd rfl (.inl rfl) (pv 5)))))
 (pss_cons (ps_if (pt_cmpR op_isN (pv 4) pe_non (nomark _)) (pss_one (ps_ret pe_str)) pss_nil)
 (pss_cons (ps_set (i := 6) sc_law_told.nd rfl (.inl rfl) (pe_lst (pa_cons (pe_callB (call_isKp K) (by rfl) B.isinstance (by decide +kernel) (pa_cons (pv 4) (pa_cons (pe_glob (v := .ref C_OddMarks) (by rfl) T.g_OddMarks rfl) pa_nil))) (pa_cons (pe_callB (call_isKp K) (by rfl) B.isinstance (by decide +kernel) (pa_cons (pv 4) (pa_cons (pe_glob (v := .ref C_Parted) (by rfl) T.g_Parted rfl) pa_nil))) (pa_cons (pe_callB (call_isKp K) (by rfl) B.isinstance (by decide +kernel) (pa_cons (pv 4) (pa_cons (pe_glob (v := .ref C_TooRough) (by rfl) T.g_TooRough rfl) pa_nil))) pa_nil)))))
 (pss_cons (ps_if (PW.pt (pw_or (pt_not (pt_val (pe_callB (call_isKp K) (by rfl) B.isinstance (by decide +kernel) (pa_cons (pv 4) (pa_cons (pe_bltn (v := .ty "ValueError") (by rfl) B.ValueError (by decide +kernel) rfl) pa_nil))))) (pw_or1 (pt_cmpR op_ne (pe_bmK K (pe_bm PySem.F.plainAttrs_list PySem.F.slot_list_count PySem.F.type_list_count (mt_countF K) (pv 6) (pa_cons pe_bl pa_nil))) pe_int (nomark _))))) (pss_one (ps_ret pe_str)) pss_nil)
 (pss_one (ps_ret (pe_ix (ix_listK K) (pe_lst (pa_cons pe_str (pa_cons pe_str (pa_cons pe_str pa_nil)))) (pe_bmK K (pe_bm PySem.F.plainAttrs_list PySem.F.slot_list_index PySem.F.type_list_index (mt_indexK K) (pv 6) (pa_cons pe_bl pa_nil))) (fun _ _ => rfl))))))))), ?_⟩
  walk_at "sts"
  dsimp only
  refine w_cut (fun σ' H' => ∃ (fv : V) (y5 y6 : Option V), σ' = [some (.str nm), some (.int (n : Nat)), some (.ref p), some (.int (x : Nat)), some fv, y5, y6] ∧ Same H H' ∧
    ((fv = .non ∧ cnt x 80 % 2 = 0 ∧ WholeL L n ∧ cnt x 80 ≤ 14) ∨ ∃ (e D : Addr), fv = .ref e ∧ Kept K H' e D none ∧ ((D = C_OddMarks ∧ cnt x 80 % 2 = 1) ∨ (D = C_Parted ∧ cnt x 80 % 2 = 0 ∧ ¬ WholeL L n) ∨ (D = C_TooRough ∧ cnt x 80 % 2 = 0 ∧ WholeL L n ∧ 14 < cnt x 80)))) ?_ ?_
  · walk_at "sts"
    refine ifd (fun h1 => ?_) (fun h1 => ?_)
    · walk_at "sts"
      refine ⟨p, n, x, L, rfl, hL, hb, by omega, by omega, hpos, hx, ⟨fun ho H' s' => ⟨true, T.xf_FloorError.exm T.sb_OddMarks_FloorError, fun _ e ne => ?_, fun z => by cases z⟩, fun he hw H' s' => ⟨true, T.xf_FloorError.exm T.sb_Parted_FloorError, fun _ e ne => ?_, fun z => by cases z⟩, fun he hw hc H' s' => ⟨true, T.xf_FloorError.exm T.sb_TooRough_FloorError, fun _ e ne => ?_, fun z => by cases z⟩⟩, fun he hc hw pt H' c u s' n1 hpt h2 h3 h4 h5 => ?_⟩
      · walk_at "sts"
        refine fun ne' => ?_
        walk_at "sts"
        exact ⟨_, _, _, rfl, s'.new ne', .inr ⟨e, _, rfl, ⟨upd_same, .inl rfl⟩, .inl ⟨rfl, ho⟩⟩⟩
      · walk_at "sts"
        refine fun ne' => ?_
        walk_at "sts"
        exact ⟨_, _, _, rfl, s'.new ne', .inr ⟨e, _, rfl, ⟨upd_same, .inl rfl⟩, .inr (.inl ⟨rfl, he, hw⟩)⟩⟩
      · walk_at "sts"
        refine fun ne' => ?_
        walk_at "sts"
        exact ⟨_, _, _, rfl, s'.new ne', .inr ⟨e, _, rfl, ⟨upd_same, .inl rfl⟩, .inr (.inr ⟨rfl, he, hw, hc⟩)⟩⟩
      · walk_at "sts"
        exact ⟨_, _, _, rfl, s', .inl ⟨rfl, he, hw, hc⟩⟩
    · walk_at "sts"
      refine ifd (fun h2 => ?_) (fun h2 => ?_)
      · walk_at "sts"
        refine ⟨p, n, x, L, rfl, hL, hb, by omega, by omega, hpos, hx, ⟨fun ho H' s' => ⟨true, T.xf_FloorError.exm T.sb_OddMarks_FloorError, fun _ e ne => ?_, fun z => by cases z⟩, fun he hw H' s' => ⟨true, T.xf_FloorError.exm T.sb_Parted_FloorError, fun _ e ne => ?_, fun z => by cases z⟩, fun he hw hc H' s' => ⟨true, T.xf_FloorError.exm T.sb_TooRough_FloorError, fun _ e ne => ?_, fun z => by cases z⟩⟩, fun he hc hw pt H' hts root c0 s' n1 hpt hok => ?_⟩
        · walk_at "sts"
          refine fun ne' => ?_
          walk_at "sts"
          exact ⟨_, _, _, rfl, s'.new ne', .inr ⟨e, _, rfl, ⟨upd_same, .inl rfl⟩, .inl ⟨rfl, ho⟩⟩⟩
        · walk_at "sts"
          refine fun ne' => ?_
          walk_at "sts"
          exact ⟨_, _, _, rfl, s'.new ne', .inr ⟨e, _, rfl, ⟨upd_same, .inl rfl⟩, .inr (.inl ⟨rfl, he, hw⟩)⟩⟩
        · walk_at "sts"
          refine fun ne' => ?_
          walk_at "sts"
          exact ⟨_, _, _, rfl, s'.new ne', .inr ⟨e, _, rfl, ⟨upd_same, .inl rfl⟩, .inr (.inr ⟨rfl, he, hw, hc⟩)⟩⟩
        · walk_at "sts"
          exact ⟨_, _, _, rfl, s', .inl ⟨rfl, he, hw, hc⟩⟩
      · walk_at "sts"
        refine ⟨p, n, x, L, rfl, hL, hb, by omega, by omega, hw40, hpos, hx, ⟨fun ho H' s' => ⟨true, T.xf_FloorError.exm T.sb_OddMarks_FloorError, fun _ e ne => ?_, fun z => by cases z⟩, fun he hw H' s' => ⟨true, T.xf_FloorError.exm T.sb_Parted_FloorError, fun _ e ne => ?_, fun z => by cases z⟩, fun he hw hc H' s' => ⟨true, T.xf_FloorError.exm T.sb_TooRough_FloorError, fun _ e ne => ?_, fun z => by cases z⟩⟩, fun he hc hw qq H' ts root c0 s' nq hq hts hl0 hlc hr1 hr2 hr3 hok => ?_⟩
        · walk_at "sts"
          refine fun ne' => ?_
          walk_at "sts"
          exact ⟨_, _, _, rfl, s'.new ne', .inr ⟨e, _, rfl, ⟨upd_same, .inl rfl⟩, .inl ⟨rfl, ho⟩⟩⟩
        · walk_at "sts"
          refine fun ne' => ?_
          walk_at "sts"
          exact ⟨_, _, _, rfl, s'.new ne', .inr ⟨e, _, rfl, ⟨upd_same, .inl rfl⟩, .inr (.inl ⟨rfl, he, hw⟩)⟩⟩
        · walk_at "sts"
          refine fun ne' => ?_
          walk_at "sts"
          exact ⟨_, _, _, rfl, s'.new ne', .inr ⟨e, _, rfl, ⟨upd_same, .inl rfl⟩, .inr (.inr ⟨rfl, he, hw, hc⟩)⟩⟩
        · walk_at "sts"
          exact ⟨_, _, _, rfl, s', .inl ⟨rfl, he, hw, hc⟩⟩
  rintro σ' H' ⟨fv, y5, y6, rfl, s1, ⟨rfl, he, hw, hc⟩ | ⟨e, D, rfl, hK, hD⟩⟩
  · walk_at "sts"
    exact q _ _ ⟨fun h => absurd h (by omega), fun _ h => absurd hw h, fun _ _ h => absurd h (by omega), fun _ _ _ => rfl⟩ s1
  · rcases hD with ⟨rfl, ho⟩ | ⟨rfl, he, hw⟩ | ⟨rfl, he, hw, hc⟩
    · have hd : DueIs x n L "odd" := ⟨fun _ => rfl, fun h => absurd h (by omega), fun h => absurd h (by omega), fun h => absurd h (by omega)⟩
      walk_at "sts"
      refine ifd (fun h => by cases h) (fun _ => ?_)
      walk_at "sts"
      refine w_isKp T.xf_OddMarks T.xf_OddMarks T.sb_OddMarks_OddMarks hK ?_
      walk_at "sts"
      refine w_isKp T.xf_OddMarks T.xf_Parted T.sb_OddMarks_Parted hK ?_
      walk_at "sts"
      refine w_isKp T.xf_OddMarks T.xf_TooRough T.sb_OddMarks_TooRough hK ?_
      walk_at "sts"
      refine w_new fun kp nk => ?_
      have sk := same_upd (o := .lst [V.bl true, .bl false, .bl false]) nk
      have lk : upd H' kp (.lst [V.bl true, .bl false, .bl false]) kp = some (.lst [V.bl true, .bl false, .bl false]) := upd_same
      have hK2 := hK.same sk
      generalize upd H' kp (.lst [V.bl true, .bl false, .bl false]) = H2 at sk lk hK2 ⊢
      walk_at "sts"
      refine w_isKpV T.xf_OddMarks hK2 ?_
      walk_at "sts"
      refine w_cntF (SqL.of lk) rfl rfl ?_
      walk_at "sts"
      refine ifnd (fun h => absurd rfl h) (fun _ => ?_)
      walk_at "sts"
      refine w_new fun np nn => ?_
      have sn := same_upd (o := .lst [V.str "odd", .str "parted", .str "rough"]) nn
      have hlk := SqL.of (K := K) (sn _ _ lk)
      walk_at "sts"
      refine ⟨kp, _, .bl true, 0, .bl true, rfl, rfl, hlk, rfl, rfl, rfl, rfl, fun m z' hm hz => ?_, ?_⟩
      · exact absurd hm (by omega)
      walk_at "sts"
      exact q _ _ hd (s1.trans (sk.trans sn))
    · have hd : DueIs x n L "parted" := ⟨fun h => absurd h (by omega), fun _ _ => rfl, fun _ h => absurd h hw, fun _ h => absurd h hw⟩
      walk_at "sts"
      refine ifd (fun h => by cases h) (fun _ => ?_)
      walk_at "sts"
      refine w_isKp T.xf_Parted T.xf_OddMarks T.sb_Parted_OddMarks hK ?_
      walk_at "sts"
      refine w_isKp T.xf_Parted T.xf_Parted T.sb_Parted_Parted hK ?_
      walk_at "sts"
      refine w_isKp T.xf_Parted T.xf_TooRough T.sb_Parted_TooRough hK ?_
      walk_at "sts"
      refine w_new fun kp nk => ?_
      have sk := same_upd (o := .lst [V.bl false, .bl true, .bl false]) nk
      have lk : upd H' kp (.lst [V.bl false, .bl true, .bl false]) kp = some (.lst [V.bl false, .bl true, .bl false]) := upd_same
      have hK2 := hK.same sk
      generalize upd H' kp (.lst [V.bl false, .bl true, .bl false]) = H2 at sk lk hK2 ⊢
      walk_at "sts"
      refine w_isKpV T.xf_Parted hK2 ?_
      walk_at "sts"
      refine w_cntF (SqL.of lk) rfl rfl ?_
      walk_at "sts"
      refine ifnd (fun h => absurd rfl h) (fun _ => ?_)
      walk_at "sts"
      refine w_new fun np nn => ?_
      have sn := same_upd (o := .lst [V.str "odd", .str "parted", .str "rough"]) nn
      have hlk := SqL.of (K := K) (sn _ _ lk)
      walk_at "sts"
      refine ⟨kp, _, .bl true, 1, .bl true, rfl, rfl, hlk, rfl, rfl, rfl, rfl, fun m z' hm hz => ?_, ?_⟩
      · (have : m = 0 := by omega); subst this; cases hz; rfl
      walk_at "sts"
      exact q _ _ hd (s1.trans (sk.trans sn))
    · have hd : DueIs x n L "rough" := ⟨fun h => absurd h (by omega), fun _ h => absurd hw h, fun _ _ _ => rfl, fun _ _ h => absurd h (by omega)⟩
      walk_at "sts"
      refine ifd (fun h => by cases h) (fun _ => ?_)
      walk_at "sts"
      refine w_isKp T.xf_TooRough T.xf_OddMarks T.sb_TooRough_OddMarks hK ?_
      walk_at "sts"
      refine w_isKp T.xf_TooRough T.xf_Parted T.sb_TooRough_Parted hK ?_
      walk_at "sts"
      refine w_isKp T.xf_TooRough T.xf_TooRough T.sb_TooRough_TooRough hK ?_
      walk_at "sts"
      refine w_new fun kp nk => ?_
      have sk := same_upd (o := .lst [V.bl false, .bl false, .bl true]) nk
      have lk : upd H' kp (.lst [V.bl false, .bl false, .bl true]) kp = some (.lst [V.bl false, .bl false, .bl true]) := upd_same
      have hK2 := hK.same sk
      generalize upd H' kp (.lst [V.bl false, .bl false, .bl true]) = H2 at sk lk hK2 ⊢
      walk_at "sts"
      refine w_isKpV T.xf_TooRough hK2 ?_
      walk_at "sts"
      refine w_cntF (SqL.of lk) rfl rfl ?_
      walk_at "sts"
      refine ifnd (fun h => absurd rfl h) (fun _ => ?_)
      walk_at "sts"
      refine w_new fun np nn => ?_
      have sn := same_upd (o := .lst [V.str "odd", .str "parted", .str "rough"]) nn
      have hlk := SqL.of (K := K) (sn _ _ lk)
      walk_at "sts"
      refine ⟨kp, _, .bl true, 2, .bl true, rfl, rfl, hlk, rfl, rfl, rfl, rfl, fun m z' hm hz => ?_, ?_⟩
      · rcases (by omega : m = 0 ∨ m = 1) with rfl | rfl <;> (cases hz; rfl)
      walk_at "sts"
      exact q _ _ hd (s1.trans (sk.trans sn))
end
section
variable {P : Program} {w : World} {K : PySem.W.Frag} {mg : Str → Option Value} {base : Heap} {C_OddMarks C_Parted C_TooRough C_FloorError : Addr}
theorem lk_mem {L L' : Lk} (h : ∀ l ∈ L', l ∈ L) {k : Nat} (hk : k < L'.length) : ∃ i, i < L.length ∧ lka L' k = lka L i ∧ lkb L' k = lkb L i ∧ lkw L' k = lkw L i := by
  obtain ⟨i, hi, e⟩ := List.mem_iff_getElem.mp (h _ (List.getElem_mem hk))
  refine ⟨i, hi, ?_⟩
  unfold lka lkb lkw
  rw [List.getD_eq_getElem?_getD, List.getElem?_eq_getElem hk, List.getD_eq_getElem?_getD, List.getElem?_eq_getElem hi, e]
  exact ⟨rfl, rfl, rfl⟩
theorem lkw_off {L : Lk} {k : Nat} (h : L.length ≤ k) : lkw L k = 0 := by
  unfold lkw
  rw [List.getD_eq_getElem?_getD, List.getElem?_eq_none h]
  rfl
theorem ok_law {f : Addr} {fd : FuncData} (F : Fun K "law" "law" s_law f fd) (B : Bl mg) {C_OddMarks C_Parted C_TooRough C_FloorError : Addr} (T : Txt K mg C_OddMarks C_Parted C_TooRough C_FloorError) (h_law_links_by : Has P w K mg base CX0 2 "_law_links_by" ["script", "first", "many", "most"] (spLinksBy K)) (h_law_together : Has P w K mg base CX0 1 "_law_together" ["many", "links"] (spTog K)) (h_law_cell_at : Has P w K mg base CX0 1 "_law_cell_at" ["script", "k"] (spCell K)) (h_law_told : Has P w K mg base CX0 14 "_law_told" ["name", "many", "links", "marks"] (spTold24 K)) : FnOk P w K mg base CX0 15 f fd ["script"] (spLaw K) := by
  refine F.ok sc_law (by walk_at "len") (fun cdv A outer s H vs Q E hr h => ?_)
  obtain ⟨a, ns, rfl, hS, hlen, _, q⟩ := h
  have hS0 := hS.sq
  refine ⟨_, (pss_cons (ps_set (i := 1) sc_law.nd rfl (.inl rfl) (pe_op op_add pe_int (pe_op op_mod (pe_fn h_law_cell_at (hr.mono (by decide)) (by rfl) (pa_cons (pv 0) (pa_cons pe_int pa_nil))) pe_int)))
 (pss_cons (ps_set (i := 2) sc_law.nd rfl (.inl rfl) (pe_fn h_law_links_by (hr.mono (by decide)) (by rfl) (pa_cons (pv 0) (pa_cons pe_int (pa_cons (pv 1) (pa_cons pe_int pa_nil))))))
 (pss_cons (ps_set (i := 3) sc_law.nd rfl (.inr rfl) (pe_op op_mod (pe_op op_fdivW (pe_fn h_law_cell_at (hr.mono (by decide)) (by rfl) (pa_cons (pv 0) (pa_cons pe_int pa_nil))) pe_int) (pe_op op_shlW pe_int (pv 1))))
 (pss_cutX (ps_if (pt_cmpR op_eq (pe_op op_mod (pe_fn h_law_cell_at (hr.mono (by decide)) (by rfl) (pa_cons (pv 0) (pa_cons pe_int pa_nil))) pe_int) pe_int (nomark _)) (pss_one (ps_setLc (i := 2) (own := [("link", 9)]) rfl sc_law.nd rfl rfl (sw_true rfl rfl rfl (by decide +kernel)) (pi_listK K (pv 2)) (blkOk_by (own := [("link", 9)]) (N := ["script", "many", "links", "side", "marks", "count", "due", "name", "handed", "link", "room"]) (sc := defScope s_law) (by decide +kernel)) (fun _ _ _ _ _ => pg_name (i := 9) sc_law.nd rfl (Or.inl rfl)) (fun _ _ _ _ _ => (pts_one (pt_cmpR op_eq (pe_op op_and (pe_op op_xor (pe_op op_shr (pv 3) (pe_ix (ix_tupK K) (pv 9) pe_int (fun _ _ => rfl))) (pe_op op_shr (pv 3) (pe_ix (ix_tupK K) (pv 9) pe_int (fun _ _ => rfl)))) pe_int) pe_int (nomark _)))) (fun _ _ _ _ _ => (pv 9)))) pss_nil)
 (pss_cons (ps_set (i := 4) sc_law.nd rfl (.inr rfl) (pe_op op_mod (pe_op op_fdivW (pe_fn h_law_cell_at (hr.mono (by decide)) (by rfl) (pa_cons (pv 0) (pa_cons pe_int pa_nil))) pe_int) (pe_op op_shlW pe_int (pv 1))))
 (pss_cutX (ps_if (pt_cmpR op_eq (pe_op op_mod (pe_fn h_law_cell_at (hr.mono (by decide)) (by rfl) (pa_cons (pv 0) (pa_cons pe_int pa_nil))) pe_int) pe_int (nomark _)) (pss_one (ps_set (i := 4) sc_law.nd rfl (.inr rfl) (pe_op op_sub (pe_op op_shlW pe_int (pv 1)) pe_int))) pss_nil)
 (pss_cons (ps_set (i := 5) sc_law.nd rfl (.inl rfl) (pe_callB (cr_sumK K rfl) (by rfl) B.sum (by decide +kernel) (pa_cons (pe_lc (own := [("room", 10)]) rfl sc_law.nd (pi_range1 (by rfl) B.range (pa_cons (pv 1) pa_nil)) (blkOk_by (own := [("room", 10)]) (N := ["script", "many", "links", "side", "marks", "count", "due", "name", "handed", "link", "room"]) (sc := defScope s_law) (by decide +kernel)) (fun _ _ _ _ _ => pg_name (i := 10) sc_law.nd rfl (Or.inl rfl)) (fun _ _ _ _ _ => pts_nil) (fun _ _ _ _ _ => (pe_op op_and (pe_op op_shr (pv 4) (pv 10)) pe_int))) pa_nil)))
 (pss_cons (ps_set (i := 6) sc_law.nd rfl (.inl rfl) pe_str)
 (pss_cutX (ps_if (pt_cmpR op_gt (pv 5) pe_int (nomark _)) (pss_one (ps_set (i := 6) sc_law.nd rfl (.inl rfl) pe_str)) pss_nil)
 (pss_cutX (ps_if (pt_not (pt_val (pe_fn h_law_together (hr.mono (by decide)) (by rfl) (pa_cons (pv 1) (pa_cons (pv 2) pa_nil))))) (pss_one (ps_set (i := 6) sc_law.nd rfl (.inl rfl) pe_str)) pss_nil)
 (pss_cutX (ps_if (pt_cmpR op_eq (pe_op op_mod (pv 5) pe_int) pe_int (nomark _)) (pss_one (ps_set (i := 6) sc_law.nd rfl (.inl rfl) pe_str)) pss_nil)
 (pss_cons (ps_for PassesOwn.never rfl (pi_listK K (pe_lst (pa_cons pe_str (pa_cons pe_str (pa_cons pe_str pa_nil))))) (pg_name (i := 7) sc_law.nd rfl (.inl rfl)) (pss_cons (ps_set (i := 8) sc_law.nd rfl (.inl rfl) (pe_callTy (call_listK K) (by rfl) B.list (by decide +kernel) (pa_cons (pv 2) pa_nil)))
 (pss_one (ps_if (PW.pt (pw_or (pt_cmpR op_ne (pe_fn h_law_told (hr.mono (by decide)) (by rfl) (pa_cons (pv 7) (pa_cons (pv 1) (pa_cons (pv 8) (pa_cons (pv 4) pa_nil))))) (pv 6) (nomark _)) (pw_or1 (pt_cmpR (op_neDK K hr.units) (pv 8) (pv 2) (nomark _))))) (pss_one (ps_ret pe_bl)) pss_nil))))
 (pss_one (ps_ret pe_bl)))))))))))))), ?_⟩
  walk_at "sts"
  refine ⟨a, ns, 0, rfl, hS0, ?_⟩
  walk_at "sts"
  obtain ⟨n, hn, hn1, hn2⟩ : ∃ n : Nat, 1 + ns.getD 0 0 % 20 = (n : Int) ∧ 1 ≤ n ∧ n ≤ 20 := ⟨(1 + ns.getD 0 0 % 20).toNat, by omega, by omega, by omega⟩
  rw [hn]
  refine ⟨a, ns, 4, n, 30, rfl, hS0, hlen, by omega, by omega, by omega, by omega, fun pl H1 L s1 n1 hL hLb hLn hLw hW => ?_⟩
  obtain ⟨ls, hl, hls⟩ := id hL
  have hL1 := hL.dp
  have hls1 : DpAll K H1 ls (L.map dLk) := hls.same wo_same
  have hll : ls.length = L.length := by have := dpaLen hls; simpa using this
  have hS1 := s1.seq hS0
  walk_at "sts"
  refine ⟨a, ns, 2, rfl, hS1, ?_⟩
  walk_at "sts"
  rw [shl_one]
  have hpw : (0 : Int) < ((2 ^ n : Nat) : Int) := by have := Nat.two_pow_pos n; omega
  refine w_mod hpw ?_
  obtain ⟨sd, hsd, hsdb⟩ := modN (ns.getD 2 0 / 3) (show 0 < 2 ^ n from Nat.two_pow_pos n)
  rw [hsd]
  walk_at "sts"
  refine w_cut (fun σ' H2 => ∃ (pl' : Addr) (L' : Lk), σ' = [some (.ref a), some (.int (n : Nat)), some (.ref pl'), some (.int (sd : Nat)), none, none, none, none, none, none, none] ∧ Same H1 H2 ∧ Dp K H2 (.ref pl') (dLks L') ∧ (∀ l ∈ L', l ∈ L) ∧ L'.length ≤ L.length) ?_ ?_
  · walk_at "sts"
    refine ⟨a, ns, 2, rfl, hS1, ?_⟩
    walk_at "sts"
    refine ifd (fun hc => ?_) (fun hc => ?_)
    · walk_at "sts"
      intro D nD
      refine lc_list (xs := ls) (fun j H' => ∃ (ys : List V) (L' : Lk), H' D = some (.lst ys) ∧ DpAll K H1 ys (L'.map dLk) ∧ (∀ l ∈ L', l ∈ L) ∧ L'.length ≤ j ∧ Same H1 H') ?_ ?_ ?_ ?_
      · exact ⟨[], [], upd_same, .nil, fun l h => by (cases h), Nat.le_refl _, same_upd nD⟩
      · rintro j H' _ ⟨_, _, _, _, _, _, s2⟩
        exact SqL.of (s2 _ _ hl)
      · rintro j v H' hj ⟨ys, L', l1, hy, hm, hjl, s2⟩
        have hi : j < L.length := by rw [← hll]; exact (List.getElem?_eq_some_iff.mp hj).1
        obtain ⟨pk, e1, e2⟩ := dpLkAt hls1 hi
        obtain ⟨v2, e4, e5⟩ := dpaGet (i := j) (d := dLk (lka L j, lkb L j, lkw L j)) hls1 (by rw [List.getElem?_map, lk_at hi]; rfl)
        rw [hj] at e1 e4
        cases e1
        cases e4
        have hml : (lka L j, lkb L j, lkw L j) ∈ L := List.mem_of_getElem? (lk_at hi)
        have e3 := same_read s2 e2
        have hyl : ys.length = L'.length := by have := dpaLen hy; simpa using this
        obtain ⟨hba, hbb⟩ := hLb j hi
        walk_at "sts"
        refine ifd (fun hq => ?_) (fun hq => ?_)
        · walk_at "sts"
          refine ⟨ys, l1, szlt (by omega), ys ++ [.ref pk], L' ++ [(lka L j, lkb L j, lkw L j)], upd_same, ?_, ?_, by rw [List.length_append]; show L'.length + 1 ≤ j + 1; omega, s2.mut nD⟩
          · rw [List.map_append]
            exact dpaApp hy (.cons e5 .nil)
          · intro l h
            rcases List.mem_append.mp h with h | h
            · exact hm l h
            · rw [List.mem_singleton.mp h]; exact hml
        · exact ⟨ys, L', l1, hy, hm, by omega, s2⟩
      rintro H2 ⟨ys, L', l1, hy, hm, hjl, s2⟩
      walk_at "sts"
      exact ⟨D, L', rfl, s2, .lst (SqL.of l1) (hy.same s2), hm, by omega⟩
    · walk_at "sts"
      exact ⟨pl, L, rfl, Same.refl _, hL1, fun l h => h, Nat.le_refl _⟩
  rintro σ' H2 ⟨pl', L', rfl, s2, hL', hm, hlL⟩
  have hb' : ∀ k, k < L'.length → lka L' k < n ∧ lkb L' k < n := fun k hk => by
    obtain ⟨i, hi, e1, e2, _⟩ := lk_mem hm hk
    rw [e1, e2]
    exact hLb i hi
  have hw' : ∀ k, lkw L' k ≤ 10 ^ 40 := fun k => by
    by_cases hk : k < L'.length
    · obtain ⟨i, hi, _, _, e3⟩ := lk_mem hm hk
      rw [e3]
      exact Nat.le_trans (hLw i) (Nat.pow_le_pow_right (by decide) (by decide))
    · rw [lkw_off (by omega)]
      exact Nat.zero_le _
  have hS2 := s2.seq hS1
  walk_at "sts"
  refine ⟨a, ns, 3, rfl, hS2, ?_⟩
  walk_at "sts"
  rw [shl_one]
  refine w_mod hpw ?_
  obtain ⟨x0, hx0, hx0b⟩ := modN (ns.getD 3 0 / 4) (show 0 < 2 ^ n from Nat.two_pow_pos n)
  rw [hx0]
  walk_at "sts"
  refine w_cut (fun σ' H' => ∃ (x : Nat), σ' = [some (.ref a), some (.int (n : Nat)), some (.ref pl'), some (.int (sd : Nat)), some (.int (x : Nat)), none, none, none, none, none, none] ∧ H' = H2 ∧ x < 2 ^ n) ?_ ?_
  · walk_at "sts"
    refine ⟨a, ns, 3, rfl, hS2, ?_⟩
    walk_at "sts"
    refine ifd (fun hc => ?_) (fun hc => ?_)
    · walk_at "sts"
      rw [shl_one]
      have := Nat.two_pow_pos n
      rw [show ((2 ^ n : Nat) : Int) - 1 = ((2 ^ n - 1 : Nat) : Int) by omega]
      exact ⟨_, rfl, rfl, by omega⟩
    · walk_at "sts"
      exact ⟨x0, rfl, rfl, hx0b⟩
  rintro σ' H3 ⟨x, rfl, rfl, hx⟩
  walk_at "sts"
  intro D nD
  refine lc_r0 (n := n) rfl (fun i H' => H' D = some (.lst (((List.range i).map fun r => (((x.testBit r).toNat : Nat) : Int)).map V.int)) ∧ Same H3 H') ?_ ?_ ?_
  · exact ⟨upd_same, by walk_at "same"⟩
  · rintro i H' hi ⟨h1, s3⟩
    walk_at "sts"
    rw [bit_nat]
    refine ⟨_, h1, szlt (by simp; omega), ?_, s3.mut nD⟩
    rw [upd_same, List.range_succ, List.map_append, List.map_append]
    rfl
  rintro H4 ⟨h1, s4⟩
  walk_at "sts"
  refine ⟨D, _, rfl, SqL.of h1, ?_⟩
  rw [sum_bits]
  have hc80 := cnt_high hx 80 (by omega)
  rw [← hc80]
  have hL4 := hL'.same s4
  walk_at "sts"
  dsimp only
  refine w_cut (fun σ' H' => ∃ (d : Str), σ' = [some (.ref a), some (.int (n : Nat)), some (.ref pl'), some (.int (sd : Nat)), some (.int (x : Nat)), some (.int (cnt x 80 : Nat)), some (.str d), none, none, none, none] ∧ H' = H4 ∧ (14 < cnt x 80 → d = "rough") ∧ (cnt x 80 ≤ 14 → d = "taken")) ?_ ?_
  · walk_at "sts"
    refine ifd (fun hc => ?_) (fun hc => ?_)
    · walk_at "sts"
      exact ⟨_, rfl, rfl, fun _ => rfl, fun h => absurd h (by omega)⟩
    · walk_at "sts"
      exact ⟨_, rfl, rfl, fun h => absurd h (by omega), fun _ => rfl⟩
  rintro σ' H5 ⟨d1, rfl, rfl, d2, d3⟩
  refine w_cut (fun σ' H' => ∃ (d : Str), σ' = [some (.ref a), some (.int (n : Nat)), some (.ref pl'), some (.int (sd : Nat)), some (.int (x : Nat)), some (.int (cnt x 80 : Nat)), some (.str d), none, none, none, none] ∧ Same H5 H' ∧ (¬ WholeL L' n → d = "parted") ∧ (WholeL L' n → d = d1)) ?_ ?_
  · walk_at "sts"
    refine ⟨pl', n, L', rfl, hL4, hb', by omega, by omega, by omega, fun b H' hbw s => ?_⟩
    walk_at "sts"
    cases b with
    | true =>
      walk_at "sts"
      exact ⟨_, rfl, s, fun h => absurd (hbw.mp rfl) h, fun _ => rfl⟩
    | false =>
      walk_at "sts"
      exact ⟨_, rfl, s, fun _ => rfl, fun h => by have := hbw.mpr h; cases this⟩
  rintro σ' H6 ⟨d4, rfl, s6, d5, d6⟩
  refine w_cut (fun σ' H' => ∃ (d : Str), σ' = [some (.ref a), some (.int (n : Nat)), some (.ref pl'), some (.int (sd : Nat)), some (.int (x : Nat)), some (.int (cnt x 80 : Nat)), some (.str d), none, none, none, none] ∧ H' = H6 ∧ DueIs x n L' d) ?_ ?_
  · walk_at "sts"
    refine ifd (fun hc => ?_) (fun hc => ?_)
    · walk_at "sts"
      exact ⟨_, rfl, rfl, fun _ => rfl, fun h => absurd h (by omega), fun h => absurd h (by omega), fun h => absurd h (by omega)⟩
    · walk_at "sts"
      exact ⟨_, rfl, rfl, fun h => absurd h (by omega), fun _ h => d5 h, fun _ h h2 => by rw [d6 h, d2 h2], fun _ h h2 => by rw [d6 h, d3 h2]⟩
  rintro σ' H7 ⟨d, rfl, rfl, hd⟩
  have hL6 := hL4.same s6
  walk_at "sts"
  refine w_new fun pn nn => ?_
  have tn := same_upd (o := .lst ([("paired" : Str), "heights", "hills"].map V.str)) nn
  have ln : upd H7 pn (.lst ([("paired" : Str), "heights", "hills"].map V.str)) pn = some (.lst ([("paired" : Str), "heights", "hills"].map V.str)) := upd_same
  have hL7 := hL6.same tn
  show _
  have e7 : upd H7 pn (.lst [V.str "paired", .str "heights", .str "hills"]) = upd H7 pn (.lst ([("paired" : Str), "heights", "hills"].map V.str)) := rfl
  rw [e7]
  clear e7
  generalize upd H7 pn (.lst ([("paired" : Str), "heights", "hills"].map V.str)) = H8 at tn ln hL7 ⊢
  walk_at "sts"
  refine for_list (xs := [("paired" : Str), "heights", "hills"].map V.str) (fun i σ H' => ∃ (y7 y8 y9 y10 : Option V), σ = [some (.ref a), some (.int (n : Nat)), some (.ref pl'), some (.int (sd : Nat)), some (.int (x : Nat)), some (.int (cnt x 80 : Nat)), some (.str d), y7, y8, y9, y10] ∧ Same H8 H') ?_ ?_ ?_ ?_
  · exact ⟨_, _, _, _, rfl, Same.refl _⟩
  · rintro i σ H' _ ⟨_, _, _, _, _, s8⟩
    exact SqL.of (s8 _ _ ln)
  · rintro i v σ H' hv ⟨y7, y8, y9, y10, rfl, s8⟩
    rw [List.getElem?_map] at hv
    obtain ⟨nm, _, rfl⟩ := Option.map_eq_some_iff.mp hv
    have hL8 := hL7.same s8
    obtain ⟨ls8, hl8, hls8⟩ := dpLstA hL8
    walk_at "sts"
    refine w_new fun ph nh => ?_
    have th := same_upd (o := .lst ls8) nh
    have hh : Dp K (upd H' ph (.lst ls8)) (.ref ph) (dLks L') := .lst (SqL.of upd_same) (hls8.same th)
    have hL9 := hL8.same th
    generalize upd H' ph (.lst ls8) = H9 at th hh hL9 ⊢
    walk_at "sts"
    refine ⟨nm, ph, n, x, L', rfl, hh, hb', by omega, by omega, hw', by omega, hx, fun d' H10 hd' s10 => ?_⟩
    have ed : d' = d := by
      rcases (by omega : cnt x 80 % 2 = 1 ∨ cnt x 80 % 2 = 0) with h | h
      · rw [hd.1 h, hd'.1 h]
      · by_cases hw : WholeL L' n
        · rcases (by omega : 14 < cnt x 80 ∨ cnt x 80 ≤ 14) with h2 | h2
          · rw [hd.2.2.1 h hw h2, hd'.2.2.1 h hw h2]
          · rw [hd.2.2.2 h hw h2, hd'.2.2.2 h hw h2]
        · rw [hd.2.1 h hw, hd'.2.1 h hw]
    subst ed
    walk_at "sts"
    refine ifnd (fun h => absurd rfl h) (fun _ => ?_)
    walk_at "sts"
    refine w_neD (hh.same s10) (hL9.same s10) (goodLks L') (by decide) ?_
    walk_at "sts"
    exact ⟨_, _, _, _, rfl, s8.trans (th.trans s10)⟩
  · rintro σ H9 ⟨_, _, _, _, rfl, _⟩
    walk_at "sts"
    exact q _
end

theorem all_mk {l : PySem.W.OpenLaw} {w : World} {K : PySem.W.Frag} {h : Heap} {mg : Str → Option Value} {fa f0 f1 f2 f3 f4 f5 f6 f7 f8 f9 f10 f11 f12 f13 f14 f15 f16 f17 f18 f19 f20 f21 f22 C_OddMarks C_Parted C_TooRough C_FloorError : Addr} (X : K.In h) (G : h.Ns mainGlobals mg) (hfa : mg "law" = some (.ref fa))
    {t_MOST_MARKS : Tok}
    {od0 an0 od1 an1 od2 an2 od3 an3 od4 an4 od5 an5 od6 an6 od7 an7 od8 an8 od9 an9 od10 an10 od11 an11 od12 an12 od13 an13 od14 an14 od15 an15 od16 an16 od17 an17 od18 an18 od19 an19 od20 an20 od21 an21 od22 an22 : Option Addr} {sl0 sl1 sl2 sl3 sl4 sl5 sl6 sl7 sl8 sl9 sl10 sl11 sl12 sl13 sl14 sl15 sl16 sl17 sl18 sl19 sl20 sl21 sl22 : Array (Option Value)} {oc0 kV0 dc0 pm0 cd0 ct0 oc1 kV1 dc1 pm1 cd1 ct1 oc2 kV2 dc2 pm2 cd2 ct2 oc3 kV3 dc3 pm3 cd3 ct3 oc4 kV4 dc4 pm4 cd4 ct4 oc5 kV5 dc5 pm5 cd5 ct5 oc6 kV6 dc6 pm6 cd6 ct6 oc7 kV7 dc7 pm7 cd7 ct7 oc8 kV8 dc8 pm8 cd8 ct8 oc9 kV9 dc9 pm9 cd9 ct9 oc10 kV10 dc10 pm10 cd10 ct10 oc11 kV11 dc11 pm11 cd11 ct11 oc12 kV12 dc12 pm12 cd12 ct12 oc13 kV13 dc13 pm13 cd13 ct13 oc14 kV14 dc14 pm14 cd14 ct14 oc15 kV15 dc15 pm15 cd15 ct15 oc16 kV16 dc16 pm16 cd16 ct16 oc17 kV17 dc17 pm17 cd17 ct17 oc18 kV18 dc18 pm18 cd18 ct18 oc19 kV19 dc19 pm19 cd19 ct19 oc20 kV20 dc20 pm20 cd20 ct20 oc21 kV21 dc21 pm21 cd21 ct21 oc22 kV22 dc22 pm22 cd22 ct22 : Value}
    (g_OddMarks : PySem.W.nsIn K mainGlobals "OddMarks" = some (some (.ref C_OddMarks)))
    (g_Parted : PySem.W.nsIn K mainGlobals "Parted" = some (some (.ref C_Parted)))
    (g_TooRough : PySem.W.nsIn K mainGlobals "TooRough" = some (some (.ref C_TooRough)))
    (g_FloorError : PySem.W.nsIn K mainGlobals "FloorError" = some (some (.ref C_FloorError)))
    (a0 : PySem.W.nsIn K mainGlobals "beyond" = some (some (.ref f0)))
    (l0 : K.lookup f0 = some ⟨oc0, od0, .func (PySem.W.fnOf "beyond" "beyond" (defArgs s_beyond) (defBody s_beyond) (defScope s_beyond) .none kV0 dc0 pm0 an0 cd0 ct0), sl0⟩)
    (c0 : PySem.W.codeIn K cd0 "beyond" = true)
    (k0 : PySem.W.keepIn K (.ref f0) = true)
    (a1 : PySem.W.nsIn K mainGlobals "nearest" = some (some (.ref f1)))
    (l1 : K.lookup f1 = some ⟨oc1, od1, .func (PySem.W.fnOf "nearest" "nearest" (defArgs s_nearest) (defBody s_nearest) (defScope s_nearest) .none kV1 dc1 pm1 an1 cd1 ct1), sl1⟩)
    (c1 : PySem.W.codeIn K cd1 "nearest" = true)
    (k1 : PySem.W.keepIn K (.ref f1) = true)
    (a2 : PySem.W.nsIn K mainGlobals "fares" = some (some (.ref f2)))
    (l2 : K.lookup f2 = some ⟨oc2, od2, .func (PySem.W.fnOf "fares" "fares" (defArgs s_fares) (defBody s_fares) (defScope s_fares) .none kV2 dc2 pm2 an2 cd2 ct2), sl2⟩)
    (c2 : PySem.W.codeIn K cd2 "fares" = true)
    (k2 : PySem.W.keepIn K (.ref f2) = true)
    (a3 : PySem.W.nsIn K mainGlobals "row_to" = some (some (.ref f3)))
    (l3 : K.lookup f3 = some ⟨oc3, od3, .func (PySem.W.fnOf "row_to" "row_to" (defArgs s_row_to) (defBody s_row_to) (defScope s_row_to) .none kV3 dc3 pm3 an3 cd3 ct3), sl3⟩)
    (c3 : PySem.W.codeIn K cd3 "row_to" = true)
    (k3 : PySem.W.keepIn K (.ref f3) = true)
    (a4 : PySem.W.nsIn K mainGlobals "whole" = some (some (.ref f4)))
    (l4 : K.lookup f4 = some ⟨oc4, od4, .func (PySem.W.fnOf "whole" "whole" (defArgs s_whole) (defBody s_whole) (defScope s_whole) .none kV4 dc4 pm4 an4 cd4 ct4), sl4⟩)
    (c4 : PySem.W.codeIn K cd4 "whole" = true)
    (k4 : PySem.W.keepIn K (.ref f4) = true)
    (a5 : PySem.W.nsIn K mainGlobals "ones" = some (some (.ref f5)))
    (l5 : K.lookup f5 = some ⟨oc5, od5, .func (PySem.W.fnOf "ones" "ones" (defArgs s_ones) (defBody s_ones) (defScope s_ones) .none kV5 dc5 pm5 an5 cd5 ct5), sl5⟩)
    (c5 : PySem.W.codeIn K cd5 "ones" = true)
    (k5 : PySem.W.keepIn K (.ref f5) = true)
    (a6 : PySem.W.nsIn K mainGlobals "odd" = some (some (.ref f6)))
    (l6 : K.lookup f6 = some ⟨oc6, od6, .func (PySem.W.fnOf "odd" "odd" (defArgs s_odd) (defBody s_odd) (defScope s_odd) .none kV6 dc6 pm6 an6 cd6 ct6), sl6⟩)
    (c6 : PySem.W.codeIn K cd6 "odd" = true)
    (k6 : PySem.W.keepIn K (.ref f6) = true)
    (a7 : PySem.W.nsIn K mainGlobals "bits" = some (some (.ref f7)))
    (l7 : K.lookup f7 = some ⟨oc7, od7, .func (PySem.W.fnOf "bits" "bits" (defArgs s_bits) (defBody s_bits) (defScope s_bits) .none kV7 dc7 pm7 an7 cd7 ct7), sl7⟩)
    (c7 : PySem.W.codeIn K cd7 "bits" = true)
    (k7 : PySem.W.keepIn K (.ref f7) = true)
    (a8 : PySem.W.nsIn K mainGlobals "check_marks" = some (some (.ref f8)))
    (l8 : K.lookup f8 = some ⟨oc8, od8, .func (PySem.W.fnOf "check_marks" "check_marks" (defArgs s_check_marks) (defBody s_check_marks) (defScope s_check_marks) .none kV8 dc8 pm8 an8 cd8 ct8), sl8⟩)
    (c8 : PySem.W.codeIn K cd8 "check_marks" = true)
    (k8 : PySem.W.keepIn K (.ref f8) = true)
    (a9 : PySem.W.nsIn K mainGlobals "priced" = some (some (.ref f9)))
    (l9 : K.lookup f9 = some ⟨oc9, od9, .func (PySem.W.fnOf "priced" "priced" (defArgs s_priced) (defBody s_priced) (defScope s_priced) .none kV9 dc9 pm9 an9 cd9 ct9), sl9⟩)
    (c9 : PySem.W.codeIn K cd9 "priced" = true)
    (k9 : PySem.W.keepIn K (.ref f9) = true)
    (a10 : PySem.W.nsIn K mainGlobals "settled" = some (some (.ref f10)))
    (l10 : K.lookup f10 = some ⟨oc10, od10, .func (PySem.W.fnOf "settled" "settled" (defArgs s_settled) (defBody s_settled) (defScope s_settled) .none kV10 dc10 pm10 an10 cd10 ct10), sl10⟩)
    (c10 : PySem.W.codeIn K cd10 "settled" = true)
    (k10 : PySem.W.keepIn K (.ref f10) = true)
    (a11 : PySem.W.nsIn K mainGlobals "paired" = some (some (.ref f11)))
    (l11 : K.lookup f11 = some ⟨oc11, od11, .func (PySem.W.fnOf "paired" "paired" (defArgs s_paired) (defBody s_paired) (defScope s_paired) .none kV11 dc11 pm11 an11 cd11 ct11), sl11⟩)
    (c11 : PySem.W.codeIn K cd11 "paired" = true)
    (k11 : PySem.W.keepIn K (.ref f11) = true)
    (a12 : PySem.W.nsIn K mainGlobals "least_turned" = some (some (.ref f12)))
    (l12 : K.lookup f12 = some ⟨oc12, od12, .func (PySem.W.fnOf "least_turned" "least_turned" (defArgs s_least_turned) (defBody s_least_turned) (defScope s_least_turned) .none kV12 dc12 pm12 an12 cd12 ct12), sl12⟩)
    (c12 : PySem.W.codeIn K cd12 "least_turned" = true)
    (k12 : PySem.W.keepIn K (.ref f12) = true)
    (a13 : PySem.W.nsIn K mainGlobals "heights" = some (some (.ref f13)))
    (l13 : K.lookup f13 = some ⟨oc13, od13, .func (PySem.W.fnOf "heights" "heights" (defArgs s_heights) (defBody s_heights) (defScope s_heights) .none kV13 dc13 pm13 an13 cd13 ct13), sl13⟩)
    (c13 : PySem.W.codeIn K cd13 "heights" = true)
    (k13 : PySem.W.keepIn K (.ref f13) = true)
    (a14 : PySem.W.nsIn K mainGlobals "events_of" = some (some (.ref f14)))
    (l14 : K.lookup f14 = some ⟨oc14, od14, .func (PySem.W.fnOf "events_of" "events_of" (defArgs s_events_of) (defBody s_events_of) (defScope s_events_of) .none kV14 dc14 pm14 an14 cd14 ct14), sl14⟩)
    (c14 : PySem.W.codeIn K cd14 "events_of" = true)
    (k14 : PySem.W.keepIn K (.ref f14) = true)
    (a15 : PySem.W.nsIn K mainGlobals "joined" = some (some (.ref f15)))
    (l15 : K.lookup f15 = some ⟨oc15, od15, .func (PySem.W.fnOf "joined" "joined" (defArgs s_joined) (defBody s_joined) (defScope s_joined) .none kV15 dc15 pm15 an15 cd15 ct15), sl15⟩)
    (c15 : PySem.W.codeIn K cd15 "joined" = true)
    (k15 : PySem.W.keepIn K (.ref f15) = true)
    (a16 : PySem.W.nsIn K mainGlobals "hills" = some (some (.ref f16)))
    (l16 : K.lookup f16 = some ⟨oc16, od16, .func (PySem.W.fnOf "hills" "hills" (defArgs s_hills) (defBody s_hills) (defScope s_hills) .none kV16 dc16 pm16 an16 cd16 ct16), sl16⟩)
    (c16 : PySem.W.codeIn K cd16 "hills" = true)
    (k16 : PySem.W.keepIn K (.ref f16) = true)
    (a17 : PySem.W.nsIn K mainGlobals "_law_cell_at" = some (some (.ref f17)))
    (l17 : K.lookup f17 = some ⟨oc17, od17, .func (PySem.W.fnOf "_law_cell_at" "_law_cell_at" (defArgs s_law_cell_at) (defBody s_law_cell_at) (defScope s_law_cell_at) .none kV17 dc17 pm17 an17 cd17 ct17), sl17⟩)
    (c17 : PySem.W.codeIn K cd17 "_law_cell_at" = true)
    (k17 : PySem.W.keepIn K (.ref f17) = true)
    (a18 : PySem.W.nsIn K mainGlobals "_law_names" = some (some (.ref f18)))
    (l18 : K.lookup f18 = some ⟨oc18, od18, .func (PySem.W.fnOf "_law_names" "_law_names" (defArgs s_law_names) (defBody s_law_names) (defScope s_law_names) .none kV18 dc18 pm18 an18 cd18 ct18), sl18⟩)
    (c18 : PySem.W.codeIn K cd18 "_law_names" = true)
    (k18 : PySem.W.keepIn K (.ref f18) = true)
    (a19 : PySem.W.nsIn K mainGlobals "_law_links_by" = some (some (.ref f19)))
    (l19 : K.lookup f19 = some ⟨oc19, od19, .func (PySem.W.fnOf "_law_links_by" "_law_links_by" (defArgs s_law_links_by) (defBody s_law_links_by) (defScope s_law_links_by) .none kV19 dc19 pm19 an19 cd19 ct19), sl19⟩)
    (c19 : PySem.W.codeIn K cd19 "_law_links_by" = true)
    (k19 : PySem.W.keepIn K (.ref f19) = true)
    (a20 : PySem.W.nsIn K mainGlobals "_law_together" = some (some (.ref f20)))
    (l20 : K.lookup f20 = some ⟨oc20, od20, .func (PySem.W.fnOf "_law_together" "_law_together" (defArgs s_law_together) (defBody s_law_together) (defScope s_law_together) .none kV20 dc20 pm20 an20 cd20 ct20), sl20⟩)
    (c20 : PySem.W.codeIn K cd20 "_law_together" = true)
    (k20 : PySem.W.keepIn K (.ref f20) = true)
    (a21 : PySem.W.nsIn K mainGlobals "_law_told" = some (some (.ref f21)))
    (l21 : K.lookup f21 = some ⟨oc21, od21, .func (PySem.W.fnOf "_law_told" "_law_told" (defArgs s_law_told) (defBody s_law_told) (defScope s_law_told) .none kV21 dc21 pm21 an21 cd21 ct21), sl21⟩)
    (c21 : PySem.W.codeIn K cd21 "_law_told" = true)
    (k21 : PySem.W.keepIn K (.ref f21) = true)
    (a22 : PySem.W.nsIn K mainGlobals "law" = some (some (.ref f22)))
    (l22 : K.lookup f22 = some ⟨oc22, od22, .func (PySem.W.fnOf "law" "law" (defArgs s_law) (defBody s_law) (defScope s_law) .none kV22 dc22 pm22 an22 cd22 ct22), sl22⟩)
    (c22 : PySem.W.codeIn K cd22 "law" = true)
    (k22 : PySem.W.keepIn K (.ref f22) = true)
    (z_range : PySem.W.nsIn K mainGlobals "range" = some none)
    (z_len : PySem.W.nsIn K mainGlobals "len" = some none)
    (z_sorted : PySem.W.nsIn K mainGlobals "sorted" = some none)
    (z_min : PySem.W.nsIn K mainGlobals "min" = some none)
    (z_max : PySem.W.nsIn K mainGlobals "max" = some none)
    (z_list : PySem.W.nsIn K mainGlobals "list" = some none)
    (z_isinstance : PySem.W.nsIn K mainGlobals "isinstance" = some none)
    (z_ValueError : PySem.W.nsIn K mainGlobals "ValueError" = some none)
    (z_sum : PySem.W.nsIn K mainGlobals "sum" = some none)
    (kk_MOST_MARKS : PySem.W.nsIn K mainGlobals "MOST_MARKS" = some (some (.int 14 t_MOST_MARKS)))
    (x_og : PySem.W.specialIn K (.builtin "object.__class__") "__get__" = some (some (.builtin "getset_descriptor.__get__")))
    (x_ot : PySem.W.takesIn K (.builtin "object.__class__") = some true)
    (x_kp_OddMarks : PySem.W.keepIn K (.ref C_OddMarks) = true)
    (x_be_OddMarks : PySem.W.subIn K (.ref C_OddMarks) (.type "BaseException") = some true)
    (x_ty_OddMarks : PySem.W.typeIn K (.ref C_OddMarks) = some (.type "type"))
    (x_cl_OddMarks : PySem.W.isClsIn K C_OddMarks = true)
    (x_hd_OddMarks : PySem.W.hasDictIn K C_OddMarks = true)
    (x_ga_OddMarks : PySem.W.findIn K (.ref C_OddMarks) "__getattribute__" = some (some (.builtin "BaseException.__getattribute__")))
    (x_gg_OddMarks : PySem.W.findIn K (.ref C_OddMarks) "__getattr__" = some none)
    (x_oc_OddMarks : PySem.W.findIn K (.ref C_OddMarks) "__class__" = some (some (.builtin "object.__class__")))
    (x_om_OddMarks : PySem.W.mroIn K C_OddMarks (.type "object") = some true)
    (x_sv_OddMarks : PySem.W.subIn K (.ref C_OddMarks) (.type "ValueError") = some true)
    (x_sb_OddMarks_OddMarks : PySem.W.subIn K (.ref C_OddMarks) (.ref C_OddMarks) = some true)
    (x_kp_Parted : PySem.W.keepIn K (.ref C_Parted) = true)
    (x_be_Parted : PySem.W.subIn K (.ref C_Parted) (.type "BaseException") = some true)
    (x_ty_Parted : PySem.W.typeIn K (.ref C_Parted) = some (.type "type"))
    (x_cl_Parted : PySem.W.isClsIn K C_Parted = true)
    (x_hd_Parted : PySem.W.hasDictIn K C_Parted = true)
    (x_ga_Parted : PySem.W.findIn K (.ref C_Parted) "__getattribute__" = some (some (.builtin "BaseException.__getattribute__")))
    (x_gg_Parted : PySem.W.findIn K (.ref C_Parted) "__getattr__" = some none)
    (x_oc_Parted : PySem.W.findIn K (.ref C_Parted) "__class__" = some (some (.builtin "object.__class__")))
    (x_om_Parted : PySem.W.mroIn K C_Parted (.type "object") = some true)
    (x_sv_Parted : PySem.W.subIn K (.ref C_Parted) (.type "ValueError") = some true)
    (x_sb_Parted_Parted : PySem.W.subIn K (.ref C_Parted) (.ref C_Parted) = some true)
    (x_kp_TooRough : PySem.W.keepIn K (.ref C_TooRough) = true)
    (x_be_TooRough : PySem.W.subIn K (.ref C_TooRough) (.type "BaseException") = some true)
    (x_ty_TooRough : PySem.W.typeIn K (.ref C_TooRough) = some (.type "type"))
    (x_cl_TooRough : PySem.W.isClsIn K C_TooRough = true)
    (x_hd_TooRough : PySem.W.hasDictIn K C_TooRough = true)
    (x_ga_TooRough : PySem.W.findIn K (.ref C_TooRough) "__getattribute__" = some (some (.builtin "BaseException.__getattribute__")))
    (x_gg_TooRough : PySem.W.findIn K (.ref C_TooRough) "__getattr__" = some none)
    (x_oc_TooRough : PySem.W.findIn K (.ref C_TooRough) "__class__" = some (some (.builtin "object.__class__")))
    (x_om_TooRough : PySem.W.mroIn K C_TooRough (.type "object") = some true)
    (x_sv_TooRough : PySem.W.subIn K (.ref C_TooRough) (.type "ValueError") = some true)
    (x_sb_TooRough_TooRough : PySem.W.subIn K (.ref C_TooRough) (.ref C_TooRough) = some true)
    (x_kp_FloorError : PySem.W.keepIn K (.ref C_FloorError) = true)
    (x_be_FloorError : PySem.W.subIn K (.ref C_FloorError) (.type "BaseException") = some true)
    (x_ty_FloorError : PySem.W.typeIn K (.ref C_FloorError) = some (.type "type"))
    (x_cl_FloorError : PySem.W.isClsIn K C_FloorError = true)
    (x_hd_FloorError : PySem.W.hasDictIn K C_FloorError = true)
    (x_ga_FloorError : PySem.W.findIn K (.ref C_FloorError) "__getattribute__" = some (some (.builtin "BaseException.__getattribute__")))
    (x_gg_FloorError : PySem.W.findIn K (.ref C_FloorError) "__getattr__" = some none)
    (x_oc_FloorError : PySem.W.findIn K (.ref C_FloorError) "__class__" = some (some (.builtin "object.__class__")))
    (x_om_FloorError : PySem.W.mroIn K C_FloorError (.type "object") = some true)
    (x_sv_FloorError : PySem.W.subIn K (.ref C_FloorError) (.type "ValueError") = some true)
    (x_sb_FloorError_FloorError : PySem.W.subIn K (.ref C_FloorError) (.ref C_FloorError) = some true)
    (x_xn_OddMarks : PySem.W.excIn K C_OddMarks [.type "ValueError", .type "Exception", .type "BaseException", .type "object"] "ValueError.__new__" = true)
    (x_sb_OddMarks_FloorError : PySem.W.subIn K (.ref C_OddMarks) (.ref C_FloorError) = some true)
    (x_sb_OddMarks_Parted : PySem.W.subIn K (.ref C_OddMarks) (.ref C_Parted) = some false)
    (x_sb_OddMarks_TooRough : PySem.W.subIn K (.ref C_OddMarks) (.ref C_TooRough) = some false)
    (x_xn_Parted : PySem.W.excIn K C_Parted [.type "ValueError", .type "Exception", .type "BaseException", .type "object"] "ValueError.__new__" = true)
    (x_sb_Parted_FloorError : PySem.W.subIn K (.ref C_Parted) (.ref C_FloorError) = some true)
    (x_sb_Parted_OddMarks : PySem.W.subIn K (.ref C_Parted) (.ref C_OddMarks) = some false)
    (x_sb_Parted_TooRough : PySem.W.subIn K (.ref C_Parted) (.ref C_TooRough) = some false)
    (x_xn_TooRough : PySem.W.excIn K C_TooRough [.type "ValueError", .type "Exception", .type "BaseException", .type "object"] "ValueError.__new__" = true)
    (x_sb_TooRough_FloorError : PySem.W.subIn K (.ref C_TooRough) (.ref C_FloorError) = some true)
    (x_sb_TooRough_OddMarks : PySem.W.subIn K (.ref C_TooRough) (.ref C_OddMarks) = some false)
    (x_sb_TooRough_Parted : PySem.W.subIn K (.ref C_TooRough) (.ref C_Parted) = some false)
    : ∃ fd : FuncData, (∀ (s : Shared) (v : Value), BindsTo s fd ⟨[v], []⟩ [("script", v)]) ∧ ∀ base : Heap, K.In base → base.Ns mainGlobals mg → FnOk l.prog w K mg base CX0 15 fa fd ["script"] (spLaw K) := by
  have e := hfa.symm.trans (PySem.W.mg_of X G a22)
  cases e
  have B : Bl mg := ⟨PySem.W.mg_none_of X G z_range, PySem.W.mg_none_of X G z_len, PySem.W.mg_none_of X G z_sorted, PySem.W.mg_none_of X G z_min, PySem.W.mg_none_of X G z_max, PySem.W.mg_none_of X G z_list, PySem.W.mg_none_of X G z_isinstance, PySem.W.mg_none_of X G z_ValueError, PySem.W.mg_none_of X G z_sum⟩
  have T : Txt K mg C_OddMarks C_Parted C_TooRough C_FloorError := ⟨PySem.W.mg_of X G g_OddMarks, PySem.W.mg_of X G g_Parted, PySem.W.mg_of X G g_TooRough, PySem.W.mg_of X G g_FloorError, ⟨_, PySem.W.mg_of X G kk_MOST_MARKS⟩, x_og, x_ot, x_kp_OddMarks, x_be_OddMarks, x_ty_OddMarks, x_cl_OddMarks, x_hd_OddMarks, x_ga_OddMarks, x_gg_OddMarks, x_oc_OddMarks, x_om_OddMarks, x_sv_OddMarks, x_sb_OddMarks_OddMarks, x_kp_Parted, x_be_Parted, x_ty_Parted, x_cl_Parted, x_hd_Parted, x_ga_Parted, x_gg_Parted, x_oc_Parted, x_om_Parted, x_sv_Parted, x_sb_Parted_Parted, x_kp_TooRough, x_be_TooRough, x_ty_TooRough, x_cl_TooRough, x_hd_TooRough, x_ga_TooRough, x_gg_TooRough, x_oc_TooRough, x_om_TooRough, x_sv_TooRough, x_sb_TooRough_TooRough, x_kp_FloorError, x_be_FloorError, x_ty_FloorError, x_cl_FloorError, x_hd_FloorError, x_ga_FloorError, x_gg_FloorError, x_oc_FloorError, x_om_FloorError, x_sv_FloorError, x_sb_FloorError_FloorError, x_xn_OddMarks, x_sb_OddMarks_FloorError, x_sb_OddMarks_Parted, x_sb_OddMarks_TooRough, x_xn_Parted, x_sb_Parted_FloorError, x_sb_Parted_OddMarks, x_sb_Parted_TooRough, x_xn_TooRough, x_sb_TooRough_FloorError, x_sb_TooRough_OddMarks, x_sb_TooRough_Parted⟩
  refine ⟨PySem.W.fnOf "law" "law" (defArgs s_law) (defBody s_law) (defScope s_law) .none kV22 dc22 pm22 an22 cd22 ct22, fun s v => .of_eq rfl, fun base _ _ => ?_⟩
  have h_beyond := ok_beyond (P := l.prog) (w := w) (base := base) (fun_mk (st := s_beyond) l0 c0 k0) (PySem.W.mg_of X G a0) B T 
  have h_nearest := ok_nearest (P := l.prog) (w := w) (base := base) (fun_mk (st := s_nearest) l1 c1 k1) (PySem.W.mg_of X G a1) B T 
  have h_fares := ok_fares (P := l.prog) (w := w) (base := base) (fun_mk (st := s_fares) l2 c2 k2) (PySem.W.mg_of X G a2) B T h_nearest h_beyond
  have h_row_to := ok_row_to (P := l.prog) (w := w) (base := base) (fun_mk (st := s_row_to) l3 c3 k3) (PySem.W.mg_of X G a3) B T h_beyond
  have h_whole := ok_whole (P := l.prog) (w := w) (base := base) (fun_mk (st := s_whole) l4 c4 k4) (PySem.W.mg_of X G a4) B T h_fares
  have h_ones := ok_ones (P := l.prog) (w := w) (base := base) (fun_mk (st := s_ones) l5 c5 k5) (PySem.W.mg_of X G a5) B T 
  have h_odd := ok_odd (P := l.prog) (w := w) (base := base) (fun_mk (st := s_odd) l6 c6 k6) (PySem.W.mg_of X G a6) B T h_ones
  have h_bits := ok_bits (P := l.prog) (w := w) (base := base) (fun_mk (st := s_bits) l7 c7 k7) (PySem.W.mg_of X G a7) B T 
  have h_check_marks := ok_check_marks (P := l.prog) (w := w) (base := base) (fun_mk (st := s_check_marks) l8 c8 k8) (PySem.W.mg_of X G a8) B T h_odd h_whole h_ones
  have h_priced := ok_priced (P := l.prog) (w := w) (base := base) (fun_mk (st := s_priced) l9 c9 k9) (PySem.W.mg_of X G a9) B T 
  have h_settled := ok_settled (P := l.prog) (w := w) (base := base) (fun_mk (st := s_settled) l10 c10 k10) (PySem.W.mg_of X G a10) B T h_bits
  have h_paired := ok_paired (P := l.prog) (w := w) (base := base) (fun_mk (st := s_paired) l11 c11 k11) (PySem.W.mg_of X G a11) B T h_check_marks h_bits h_priced h_fares h_settled h_row_to
  have h_least_turned := ok_least_turned (P := l.prog) (w := w) (base := base) (fun_mk (st := s_least_turned) l12 c12 k12) (PySem.W.mg_of X G a12) B T h_settled
  have h_heights := ok_heights (P := l.prog) (w := w) (base := base) (fun_mk (st := s_heights) l13 c13 k13) (PySem.W.mg_of X G a13) B T h_check_marks h_bits h_priced h_fares h_settled h_least_turned
  have h_events_of := ok_events_of (P := l.prog) (w := w) (base := base) (fun_mk (st := s_events_of) l14 c14 k14) (PySem.W.mg_of X G a14) B T 
  have h_joined := ok_joined (P := l.prog) (w := w) (base := base) (fun_mk (st := s_joined) l15 c15 k15) (PySem.W.mg_of X G a15) B T h_bits
  have h_hills := ok_hills (P := l.prog) (w := w) (base := base) (fun_mk (st := s_hills) l16 c16 k16) (PySem.W.mg_of X G a16) B T h_heights h_events_of h_bits h_joined
  have h_law_cell_at := ok_law_cell_at (P := l.prog) (w := w) (base := base) (fun_mk (st := s_law_cell_at) l17 c17 k17) (PySem.W.mg_of X G a17) B T 
  have h_law_names := ok_law_names (P := l.prog) (w := w) (base := base) (fun_mk (st := s_law_names) l18 c18 k18) (PySem.W.mg_of X G a18) B T 
  have h_law_links_by := ok_law_links_by (P := l.prog) (w := w) (base := base) (fun_mk (st := s_law_links_by) l19 c19 k19) (PySem.W.mg_of X G a19) B T h_law_names h_law_cell_at
  have h_law_together := ok_law_together (P := l.prog) (w := w) (base := base) (fun_mk (st := s_law_together) l20 c20 k20) (PySem.W.mg_of X G a20) B T 
  have h_law_told := ok_law_told (P := l.prog) (w := w) (base := base) (fun_mk (st := s_law_told) l21 c21 k21) (PySem.W.mg_of X G a21) B T h_paired h_heights h_hills
  exact ok_law (P := l.prog) (w := w) (base := base) (fun_mk (st := s_law) l22 c22 k22) B T h_law_links_by h_law_together h_law_cell_at h_law_told
end Sf
open PySem PySem.W PyProof.Rows
set_option maxRecDepth 100000 in
set_option maxHeartbeats 0 in
theorem PySem.Challenge.cw_spinfloor_k24_joinings_refused_holds : PySem.Challenge.rw_spinfloor_k24_joinings_refused.Holds := by
  w_on; o_law; k_head; (case hw => w_witness2)
  k_fill
  refine Sf.walk_ofE (l := PySem.Challenge.rw_spinfloor_k24_joinings_refused) (n := 63) (k := 15) (sp := Sf.spLaw) rfl (by decide) rfl ⟨rfl, by decide, by decide⟩ (fun w h Y => PySem.W.kIn_of Y) ?F (fun _ _ a ns hl hb hS => ⟨a, ns, rfl, hS, hl, hb, fun _ => rfl⟩)
  case F =>
    intro w mg fa h KX G hmg
    refine' Sf.all_mk KX G hmg ?g_OddMarks ?g_Parted ?g_TooRough ?g_FloorError ?a0 ?l0 ?c0 ?k0 ?a1 ?l1 ?c1 ?k1 ?a2 ?l2 ?c2 ?k2 ?a3 ?l3 ?c3 ?k3 ?a4 ?l4 ?c4 ?k4 ?a5 ?l5 ?c5 ?k5 ?a6 ?l6 ?c6 ?k6 ?a7 ?l7 ?c7 ?k7 ?a8 ?l8 ?c8 ?k8 ?a9 ?l9 ?c9 ?k9 ?a10 ?l10 ?c10 ?k10 ?a11 ?l11 ?c11 ?k11 ?a12 ?l12 ?c12 ?k12 ?a13 ?l13 ?c13 ?k13 ?a14 ?l14 ?c14 ?k14 ?a15 ?l15 ?c15 ?k15 ?a16 ?l16 ?c16 ?k16 ?a17 ?l17 ?c17 ?k17 ?a18 ?l18 ?c18 ?k18 ?a19 ?l19 ?c19 ?k19 ?a20 ?l20 ?c20 ?k20 ?a21 ?l21 ?c21 ?k21 ?a22 ?l22 ?c22 ?k22 ?z_range ?z_len ?z_sorted ?z_min ?z_max ?z_list ?z_isinstance ?z_ValueError ?z_sum ?kk_MOST_MARKS ?x_og ?x_ot ?x_kp_OddMarks ?x_be_OddMarks ?x_ty_OddMarks ?x_cl_OddMarks ?x_hd_OddMarks ?x_ga_OddMarks ?x_gg_OddMarks ?x_oc_OddMarks ?x_om_OddMarks ?x_sv_OddMarks ?x_sb_OddMarks_OddMarks ?x_kp_Parted ?x_be_Parted ?x_ty_Parted ?x_cl_Parted ?x_hd_Parted ?x_ga_Parted ?x_gg_Parted ?x_oc_Parted ?x_om_Parted ?x_sv_Parted ?x_sb_Parted_Parted ?x_kp_TooRough ?x_be_TooRough ?x_ty_TooRough ?x_cl_TooRough ?x_hd_TooRough ?x_ga_TooRough ?x_gg_TooRough ?x_oc_TooRough ?x_om_TooRough ?x_sv_TooRough ?x_sb_TooRough_TooRough ?x_kp_FloorError ?x_be_FloorError ?x_ty_FloorError ?x_cl_FloorError ?x_hd_FloorError ?x_ga_FloorError ?x_gg_FloorError ?x_oc_FloorError ?x_om_FloorError ?x_sv_FloorError ?x_sb_FloorError_FloorError ?x_xn_OddMarks ?x_sb_OddMarks_FloorError ?x_sb_OddMarks_Parted ?x_sb_OddMarks_TooRough ?x_xn_Parted ?x_sb_Parted_FloorError ?x_sb_Parted_OddMarks ?x_sb_Parted_TooRough ?x_xn_TooRough ?x_sb_TooRough_FloorError ?x_sb_TooRough_OddMarks ?x_sb_TooRough_Parted
    (case g_OddMarks => k_is); (case g_Parted => k_is); (case g_TooRough => k_is); (case g_FloorError => k_is); (case a0 => k_is); (case l0 => k_is); (case c0 => k_is); (case k0 => k_is); (case a1 => k_is); (case l1 => k_is); (case c1 => k_is); (case k1 => k_is); (case a2 => k_is); (case l2 => k_is); (case c2 => k_is); (case k2 => k_is); (case a3 => k_is); (case l3 => k_is); (case c3 => k_is); (case k3 => k_is); (case a4 => k_is); (case l4 => k_is); (case c4 => k_is); (case k4 => k_is); (case a5 => k_is); (case l5 => k_is); (case c5 => k_is); (case k5 => k_is); (case a6 => k_is); (case l6 => k_is); (case c6 => k_is); (case k6 => k_is); (case a7 => k_is); (case l7 => k_is); (case c7 => k_is); (case k7 => k_is); (case a8 => k_is); (case l8 => k_is); (case c8 => k_is); (case k8 => k_is); (case a9 => k_is); (case l9 => k_is); (case c9 => k_is); (case k9 => k_is); (case a10 => k_is); (case l10 => k_is); (case c10 => k_is); (case k10 => k_is); (case a11 => k_is); (case l11 => k_is); (case c11 => k_is); (case k11 => k_is); (case a12 => k_is); (case l12 => k_is); (case c12 => k_is); (case k12 => k_is); (case a13 => k_is); (case l13 => k_is); (case c13 => k_is); (case k13 => k_is); (case a14 => k_is); (case l14 => k_is); (case c14 => k_is); (case k14 => k_is); (case a15 => k_is); (case l15 => k_is); (case c15 => k_is); (case k15 => k_is); (case a16 => k_is); (case l16 => k_is); (case c16 => k_is); (case k16 => k_is); (case a17 => k_is); (case l17 => k_is); (case c17 => k_is); (case k17 => k_is); (case a18 => k_is); (case l18 => k_is); (case c18 => k_is); (case k18 => k_is); (case a19 => k_is); (case l19 => k_is); (case c19 => k_is); (case k19 => k_is); (case a20 => k_is); (case l20 => k_is); (case c20 => k_is); (case k20 => k_is); (case a21 => k_is); (case l21 => k_is); (case c21 => k_is); (case k21 => k_is); (case a22 => k_is); (case l22 => k_is); (case c22 => k_is); (case k22 => k_is); (case z_range => k_is); (case z_len => k_is); (case z_sorted => k_is); (case z_min => k_is); (case z_max => k_is); (case z_list => k_is); (case z_isinstance => k_is); (case z_ValueError => k_is); (case z_sum => k_is); (case kk_MOST_MARKS => k_is); (case x_og => k_is); (case x_ot => k_is); (case x_kp_OddMarks => k_is); (case x_be_OddMarks => k_is); (case x_ty_OddMarks => k_is); (case x_cl_OddMarks => k_is); (case x_hd_OddMarks => k_is); (case x_ga_OddMarks => k_is); (case x_gg_OddMarks => k_is); (case x_oc_OddMarks => k_is); (case x_om_OddMarks => k_is); (case x_sv_OddMarks => k_is); (case x_sb_OddMarks_OddMarks => first | rfl | k_is); (case x_kp_Parted => k_is); (case x_be_Parted => k_is); (case x_ty_Parted => k_is); (case x_cl_Parted => k_is); (case x_hd_Parted => k_is); (case x_ga_Parted => k_is); (case x_gg_Parted => k_is); (case x_oc_Parted => k_is); (case x_om_Parted => k_is); (case x_sv_Parted => k_is); (case x_sb_Parted_Parted => first | rfl | k_is); (case x_kp_TooRough => k_is); (case x_be_TooRough => k_is); (case x_ty_TooRough => k_is); (case x_cl_TooRough => k_is); (case x_hd_TooRough => k_is); (case x_ga_TooRough => k_is); (case x_gg_TooRough => k_is); (case x_oc_TooRough => k_is); (case x_om_TooRough => k_is); (case x_sv_TooRough => k_is); (case x_sb_TooRough_TooRough => first | rfl | k_is); (case x_kp_FloorError => k_is); (case x_be_FloorError => k_is); (case x_ty_FloorError => k_is); (case x_cl_FloorError => k_is); (case x_hd_FloorError => k_is); (case x_ga_FloorError => k_is); (case x_gg_FloorError => k_is); (case x_oc_FloorError => k_is); (case x_om_FloorError => k_is); (case x_sv_FloorError => k_is); (case x_sb_FloorError_FloorError => first | rfl | k_is); (case x_xn_OddMarks => k_exc); (case x_sb_OddMarks_FloorError => first | rfl | k_is); (case x_sb_OddMarks_Parted => first | rfl | k_is); (case x_sb_OddMarks_TooRough => first | rfl | k_is); (case x_xn_Parted => k_exc); (case x_sb_Parted_FloorError => first | rfl | k_is); (case x_sb_Parted_OddMarks => first | rfl | k_is); (case x_sb_Parted_TooRough => first | rfl | k_is); (case x_xn_TooRough => k_exc); (case x_sb_TooRough_FloorError => first | rfl | k_is); (case x_sb_TooRough_OddMarks => first | rfl | k_is); (case x_sb_TooRough_Parted => first | rfl | k_is)

