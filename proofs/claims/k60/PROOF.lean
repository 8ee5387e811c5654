
import PyProof.Rows.All
import Wide.All
import OpenK.AllK
import Wide.FinOn
import HandS.ForMost
import HandS.Wide
import HandS.WideBits
import HandS.IsInst
import HandS.More
import HandS.EndBits
import HandS.SortInts
import KE.SortData
import HandS.TupLe
import HandS.Exc
import HandS.ExcOwn
import HandS.WordsExc
import HandS.ExcInit
import HandS.ExcField
import HandS.ExcIs
import HandS.TryOnly
import HandS.Small
import KE.KExcIs
import HandS.SetFor
import HandS.Replace
import PyProof.StrBlock2
import KE.KStateDown
import HandS.Defaults
import HandS.Head0
import HandS.Head1
import HandS.Head2
import HandS.HeadHook1
import HandS.HeadHook2
import PySem.Challenge.RW_spinfloor_k60_answers_read
set_option Elab.async false
set_option linter.all false
set_option pp.deepTerms false
set_option pp.deepTerms.threshold 4
set_option maxRecDepth 100000
set_option maxHeartbeats 2000000
namespace Sf
open PySem PySem.Spec PyProof.Rows L2

/-! ### defs by name -/
structure Has (P : Program) (w : World) (K : PySem.W.Frag) (mg : Str → Option Value) (base : Heap) (CX : CXT) (k : Nat) (x : Str) (ps : List Str) (sp : Sp) : Prop where
  ex : ∃ f fd, FnOk P w K mg base CX k f fd ps sp ∧ mg x = some (.ref f) ∧ PySem.W.keepIn K (.ref f) = true ∧ Binds K fd ps []
section
variable {P : Program} {w : World} {K : PySem.W.Frag} {mg : Str → Option Value} {base : Heap} {x qual : Str} {ps N : List Str} {sp : Sp} {k : Nat}
theorem Has.mk' {st : Stmt} {f : Addr} {fd : FuncData} (F : Fun K x qual st f fd) (gf : mg x = some (.ref f)) (b : Binds K fd ps []) (S : FnScope N ps (defScope st)) (len : ∀ vs H Q E, sp vs H Q E → vs.length = ps.length)
    (hbody : ∀ (cdv : Value) (A : Around) (outer : List Env) (s : Shared) (H : Hp) (vs : List V) (Q : VK) (E : XK), Room k (A.deeper (envOfC qual (defScope st) s.heap.objs.size f cdv)) → sp vs H Q E →
      ∃ t, PSs (cxOf CX0 P w K mg base N qual (defScope st) f cdv A outer s H E).nox (defBody st) t ∧ t { nx := fun _ H' => Q .non H', rt := Q } (start N vs) H) : Has P w K mg base CX0 (k + 1) x ps sp :=
  ⟨f, fd, F.ok S len hbody, gf, F.kp, b⟩
end
section
variable {X : Cx} {k : Nat} {ps : List Str} {sp : Sp} {x : Str} {p pos : Pos} {e : Expr} {es : List Expr} {t : TA}
theorem pe_fn (h : Has X.prog X.w X.K X.mg X.base CX0 k x ps sp) (hr : Room k X.A) (hg : Gl X x) (ha : PA X (e :: es) t) (hdb : (x == ("__debug__" : Str)) = false := by decide) (he : starEach (e :: es) X.env = (false, eval e X.env) :: starEach es X.env := by rfl) (hpl : (backTo pos (starEach es X.env)).any (·.1) = false := by rfl) :
    PE X (.Call (.Name x p) (e :: es) [] pos) (tCall sp [] E0 t) := by
  obtain ⟨f, fd, F, gf, kp, b⟩ := h.ex
  exact pe_call F hr hg gf kp b .nil pass0 ha hdb he hpl
theorem pe_fn0 (h : Has X.prog X.w X.K X.mg X.base CX0 k x ps sp) (hr : Room k X.A) (hg : Gl X x) (hdb : (x == ("__debug__" : Str)) = false := by decide) :
    PE X (.Call (.Name x p) [] [] pos) (tCall sp [] E0 tNil) := by
  obtain ⟨f, fd, F, gf, kp, b⟩ := h.ex
  exact pe_call0 F hr hg gf kp b .nil pass0 hdb
end
/-! ### lists whose object is known to the sign; the sum of two -/
def LsE (K : PySem.W.Frag) (H : Hp) (a : Addr) (xs : List V) : Prop :=
  Rd H a (.lst xs) ∨ ∃ (its : List Value) (n : Nat), K.lookup a = some { cls := .type "list", data := .seq its.toArray n } ∧ Vals xs its ∧ xs.length ≤ sizeLine
theorem LsE.sq {K : PySem.W.Frag} {H : Hp} {a : Addr} {xs : List V} (h : LsE K H a xs) : SqL K H a xs := by
  rcases h with h | ⟨its, n, h1, h2, h3⟩
  · exact .inl h
  · exact .inr ⟨_, its.toArray, n, h1, rfl, rfl, rfl, by rw [List.size_toArray, ← h2.length]; exact h3, by simpa using h2⟩
theorem LsE.of {K : PySem.W.Frag} {H : Hp} {a : Addr} {xs : List V} (h : H a = some (.lst xs)) : LsE K H a xs := .inl (.inl h)
theorem LsE.same {K : PySem.W.Frag} {H H' : Hp} {a : Addr} {xs : List V} (e : Same H H') (h : LsE K H a xs) : LsE K H' a xs := by
  rcases h with (h | ⟨o, h⟩) | h
  · exact .inl (.inl (e _ _ h))
  · exact .inl (.inr ⟨o, e _ _ h⟩)
  · exact .inr h
section
variable {X : Cx}
theorem LsE.obj {pins : List (Addr × Obj)} {σ : L2.St} {H : Hp} {s : Shared} {a : Addr} {xs : List V} (I : Inv X pins σ H s) (h : LsE X.K H a xs) :
    ∃ (its : List Value) (n : Nat), Vals xs its ∧ s.heap.get? a = some { cls := .type "list", data := .seq its.toArray n } := by
  rcases h with h | ⟨its, n, h1, h2, _⟩
  · obtain ⟨_, its, n, r, e⟩ := h.ok I.hok
    exact ⟨its, n, r, e⟩
  · exact ⟨its, n, h2, I.kIn a _ h1⟩
def rCatE (K : PySem.W.Frag) : R2 := fun x y H Q => ∃ l b xs zs, x = .ref l ∧ y = .ref b ∧ LsE K H l xs ∧ LsE K H b zs ∧ xs.length + zs.length ≤ sizeLine ∧ ∀ p, H p = none → Q (.ref p) (upd H p (.lst (xs ++ zs)))
theorem op_catE : OpR X (binaryOp .Add) (rCatE X.K) := by
  intro pins s σ H x y v u Q I rx ry h
  obtain ⟨l, b, xs, zs, rfl, rfl, hl, hb, hz, q⟩ := h
  cases rx
  cases ry
  obtain ⟨ix, n, rl, el⟩ := hl.obj I
  obtain ⟨iz, m, rb, eb⟩ := hb.obj I
  refine PySem.P.add_list el eb ?_ (by simp only [List.size_toArray, ← rl.length, ← rb.length]; exact hz)
  have join : ix.toArray ++ iz.toArray = (ix ++ iz).toArray := by simp
  rw [join]
  exact ⟨.ref s.heap.objs.size, _, I.lnew (t' := s.toks) (rl.append rb) (by simpa using hz), rfl, q _ I.fresh⟩
end
/-! ### tests -/
theorem ifd {c A B : Prop} [Decidable c] (h1 : c → A) (h2 : ¬ c → B) : if decide c = true then A else B := by
  by_cases h : c
  · simp only [h, decide_true, if_true]; exact h1 h
  · simp only [h, decide_false, Bool.false_eq_true, if_false]; exact h2 h
theorem ifnd {c A B : Prop} [Decidable c] (h1 : ¬ c → A) (h2 : c → B) : if (!decide c) = true then A else B := by
  by_cases h : c
  · simp only [h, decide_true, Bool.not_true, Bool.false_eq_true, if_false]; exact h2 h
  · simp only [h, decide_false, Bool.not_false, if_true]; exact h1 h
theorem ifb {b : Bool} {A B : Prop} (h1 : b = true → A) (h2 : b = false → B) : if b = true then A else B := by
  cases b with
  | true => exact h1 rfl
  | false => exact h2 rfl
theorem ifT {b : Bool} {A B : Prop} (hb : b = true) (h : A) : if b = true then A else B := by rw [if_pos hb]; exact h
theorem ifF {b : Bool} {A B : Prop} (hb : b = false) (h : B) : if b = true then A else B := by rw [hb]; exact h
theorem int_eq {i j : Int} : (V.int i = V.int j) = (i = j) := by simp
theorem same_upd {H : Hp} {p : Addr} {o : HO} (h : H p = none) : Same H (upd H p o) := fun b x e => by
  rw [upd_ne (ne_of_none e h)]
  exact e
/-- a place that is free -/
def New (H : Hp) (p : Addr) : Prop := H p = none
theorem w_new {H : Hp} {R : Addr → Prop} (h : ∀ p, New H p → R p) : ∀ p, H p = none → R p := h
theorem ne_new {H : Hp} {a b : Addr} {o : HO} (h : H a = some o) (n : New H b) : a ≠ b := ne_of_none h n
/-- one more object over what was tracked at H -/
theorem _root_.L2.Same.new {H H' : Hp} {p : Addr} {o : HO} (e : Same H H') (h : New H' p) : Same H (upd H' p o) := e.trans (same_upd h)
theorem _root_.L2.Same.get {H H' : Hp} {p : Addr} {o : HO} (e : Same H H') (h : H p = some o) : H' p = some o := e p o h
theorem New.of {H H' : Hp} {p : Addr} (n : New H' p) (e : Same H H') : New H p := e.free n
/-- an object that H does not track is changed -/
theorem _root_.L2.Same.mut {H H' : Hp} {p : Addr} {o : HO} (e : Same H H') (h : New H p) : Same H (upd H' p o) := fun b x hb => by
  rw [upd_ne (ne_of_none hb h)]
  exact e b x hb
/-! ### isinstance of ints and bools -/
theorem kb_ii : kitB "int" "int" = some true := by decide +kernel
theorem kb_ib : kitB "int" "bool" = some false := by decide +kernel
theorem kb_bb : kitB "bool" "bool" = some true := by decide +kernel
theorem kb_bi : kitB "bool" "int" = some true := by decide +kernel
theorem kb_ll : kitB "list" "list" = some true := by decide +kernel
theorem kb_tt : kitB "tuple" "tuple" = some true := by decide +kernel
theorem kb_ni : kitB "NoneType" "int" = some false := by decide +kernel
theorem kb_nb : kitB "NoneType" "bool" = some false := by decide +kernel
theorem kb_tl : kitB "tuple" "list" = some false := by decide +kernel
theorem kb_lt : kitB "list" "tuple" = some false := by decide +kernel
/-! ### the law's end, the script's list known to the sign, its bits told -/
theorem walk_ofE {l : PySem.W.OpenLaw} {n k : Nat} {q : Program} {loose : List Str} {XP : (Str → Option Value) → Heap → Prop} {YP : World → Heap → Prop} {d : DefRec} {K : Params → PySem.W.Frag} {sp : PySem.W.Frag → Sp}
    (hn : l.most = some n) (hn2 : n ≤ sizeLine) (hdf : d.params.defaults = []) (hr : Room k callerA) (hY : ∀ (w : World) (h : Heap), YP w h → (K w.params).In h)
    (F : ∀ (w : World) (mg : Str → Option Value) (fa : Addr) (h : Heap), (K w.params).In h → h.Ns mainGlobals mg → mg d.name = some (.ref fa) →
      ∃ fd : FuncData, (∀ (s : Shared) (u : Value), BindsTo s fd ⟨[u], []⟩ [("script", u)]) ∧ ∀ base : Heap, (K w.params).In base → base.Ns mainGlobals mg → FnOk l.prog w (K w.params) mg base CX0 k fa fd ["script"] (sp (K w.params)))
    (hsp : ∀ (K : PySem.W.Frag) (H : Hp) (a : Addr) (ns : List Int), ns.length ≤ n → (∀ z ∈ ns, Builtin.Int.intBits z ≤ 1048576) → LsE K H a (ns.map V.int) → sp K [.ref a] H (fun v _ => v = .bl true) fun _ _ _ => False) :
    PySem.W.WalkO q loose XP YP l.row.toRowW d [] (fun f vs => PySem.call f vs) := by
  refine Att.attach_callB hn hdf fun w s₀ s₁ mg mb fa o pm cd doc a vs ns G Y ho hd hcd hmg hobj hints hlen hbits hg => ?_
  obtain ⟨fd, hb, hF⟩ := F w mg fa _ (hY w _ Y) G.T.g hmg
  refine law_call (hY w _ Y) G.T.g G.T.b G.T.builtins G.T.nolimit hg hobj hints (Nat.le_trans hlen hn2) hr hF hb (fun H _ hS => hsp _ H a ns hlen hbits ?_) fun _ _ _ h => h
  rcases hS with h | ⟨ob, its, m, hk, h1, h2, h3, h4, h5⟩
  · exact .inl h
  · have e := (hY w _ Y) a ob hk
    rw [hobj] at e
    cases e
    cases h3
    exact .inr ⟨vs, _, hk, by simpa using h5, by rw [List.length_map]; exact Nat.le_trans hlen hn2⟩
/-! ### bounds of operators -/
theorem cdivw_small {i j : Int} (h : 0 < j) (h2 : j < 2 ^ 200) : CDivW i j := wide_div (b := 200) h (by omega) (by decide) (by decide)
theorem nab_lt {i : Int} {a : Nat} (h1 : -(2 ^ a) < i) (h2 : i < 2 ^ a) : i.natAbs < 2 ^ a := by
  have e : ((2 ^ a : Nat) : Int) = (2 : Int) ^ a := by simp
  omega
theorem cmulx_small {i j : Int} (h1 : -(2 ^ 200) < i) (h2 : i < 2 ^ 200) (h3 : -(2 ^ 200) < j) (h4 : j < 2 ^ 200) : CMulX i j := mulx_ok (nab_lt h1 h2) (nab_lt h3 h4) (by decide)
theorem cshl_one {j : Int} (h : 0 ≤ j) (h2 : j ≤ 100000) : CShl 1 j := by
  have e : ((j.toNat : Nat) : Int) = j := Int.toNat_of_nonneg h
  rw [← e]
  exact shl_ok (n := 1) (by decide) (by omega)
theorem cshl_small {i j : Int} (h0 : -(2 ^ 200) < i) (h1 : i < 2 ^ 200) (h : 0 ≤ j) (h2 : j ≤ 100000) : CShl i j := by
  have e : ((j.toNat : Nat) : Int) = j := Int.toNat_of_nonneg h
  rw [← e]
  exact shl_ok (n := 200) (nab_lt h0 h1) (by omega)
theorem szle {α : Type} {xs : List α} (h : Nat.ble xs.length 1000 = true) : xs.length ≤ sizeLine := Nat.le_trans (Nat.le_of_ble_eq_true h) (by decide)
theorem szlt {α : Type} {xs : List α} (h : xs.length < 1000000) : xs.length < sizeLine := Nat.lt_of_lt_of_le h (by decide)
theorem atI_get {α : Type} {xs : List α} {i : Int} {j : Nat} (e : i = j) (h : j < xs.length) : atI xs i = some xs[j] := by
  subst e
  exact atI_nat (List.getElem?_eq_getElem h)
theorem atI_map {α β : Type} {f : α → β} {xs : List α} {i : Int} {j : Nat} (e : i = j) (h : j < xs.length) : atI (xs.map f) i = some (f xs[j]) := by
  subst e
  exact atI_nat (by rw [List.getElem?_map, List.getElem?_eq_getElem h]; rfl)
/-! ### the readings, one at a time -/
section
variable {σ : L2.St} {H : Hp} {Q : VK} {QT : Bool → Hp → Prop} {QA : List V → Hp → Prop} {D : Ends} {v x y z : V} {ta tb tc te tv : TE} {t u c : TT} {ts us : TS} {tl tr : TA} {r : R2} {g : TG} {gs : TGs} {i j : Nat} {m n : Int} {K : PySem.W.Frag} {a p q C dx : Addr} {f : Str} {xs ys : List V} {fs : List (Str × V)}
theorem w_seq (h : ts { D with nx := us D } σ H) : tSeq ts us D σ H := h
theorem w_next (h : D.nx σ H) : tNext D σ H := h
theorem w_var (h : ∃ v, σ[i]? = some (some v) ∧ Q v H) : tVar i σ H Q := h
theorem w_c (h : Q v H) : tC v σ H Q := h
theorem w_op (h : ta σ H fun x H1 => tb σ H1 fun y H2 => r x y H2 Q) : tOp r ta tb σ H Q := h
theorem w_un {r : V → Hp → VK → Prop} (h : ta σ H fun x H1 => r x H1 Q) : tUn r ta σ H Q := h
theorem w_rI0 {g : Int → Int → V} (h : Q (g m n) H) : rI0 g (.int m) (.int n) H Q := ⟨m, n, rfl, rfl, h⟩
theorem w_mod (h0 : 0 < n) (h : Q (.int (m % n)) H) : rI (fun _ j => 0 < j) (fun i j => .int (i % j)) (.int m) (.int n) H Q := ⟨m, n, rfl, rfl, h0, h⟩
theorem w_div (h0 : 0 < n) (h1 : n < 2 ^ 200) (h : Q (.int (m / n)) H) : rI CDivW (fun i j => .int (i / j)) (.int m) (.int n) H Q := ⟨m, n, rfl, rfl, cdivw_small h0 h1, h⟩
theorem w_shr (h0 : 0 ≤ n) (h : Q (.int (m / 2 ^ n.toNat)) H) : rI (fun _ j => 0 ≤ j) (fun i j => .int (i / 2 ^ j.toNat)) (.int m) (.int n) H Q := ⟨m, n, rfl, rfl, h0, h⟩
theorem w_mul (h1 : -(2 ^ 200) < m) (h2 : m < 2 ^ 200) (h3 : -(2 ^ 200) < n) (h4 : n < 2 ^ 200) (h : Q (.int (m * n)) H) : rI CMulX (fun i j => .int (i * j)) (.int m) (.int n) H Q := ⟨m, n, rfl, rfl, cmulx_small h1 h2 h3 h4, h⟩
theorem w_shl1 (h1 : 0 ≤ n) (h2 : n ≤ 100000) (h : Q (.int (1 * 2 ^ n.toNat)) H) : rI CShl (fun i j => .int (i * 2 ^ j.toNat)) (.int 1) (.int n) H Q := ⟨1, n, rfl, rfl, cshl_one h1 h2, h⟩
theorem w_shl (h1 : -(2 ^ 200) < m) (h2 : m < 2 ^ 200) (h3 : 0 ≤ n) (h4 : n ≤ 100000) (h : Q (.int (m * 2 ^ n.toNat)) H) : rI CShl (fun i j => .int (i * 2 ^ j.toNat)) (.int m) (.int n) H Q := ⟨m, n, rfl, rfl, cshl_small h1 h2 h3 h4, h⟩
theorem w_pow (h0 : CPow m n) (h : Q (.int (m ^ n.toNat)) H) : rI CPow (fun i j => .int (i ^ j.toNat)) (.int m) (.int n) H Q := ⟨m, n, rfl, rfl, h0, h⟩
theorem w_rU {g : Int → V} (h : Q (g m) H) : rU g (.int m) H Q := ⟨m, rfl, h⟩
theorem dec_ii : decide (V.int m = V.int n) = decide (m = n) := by
  by_cases h : m = n
  · rw [h]; simp
  · simp [h]
theorem dec_bb {a b : Bool} : decide (V.bl a = V.bl b) = decide (a = b) := by cases a <;> cases b <;> decide
theorem dec_ss {a b : Str} : decide (V.str a = V.str b) = decide (a = b) := by
  by_cases h : a = b
  · rw [h]; simp
  · simp [h]
theorem w_eqI (h : Q (.bl (decide (m = n))) H) : rEq (.int m) (.int n) H Q := ⟨rfl, by rw [dec_ii]; exact h⟩
theorem w_eqB {a b : Bool} (h : Q (.bl (decide (a = b))) H) : rEq (.bl a) (.bl b) H Q := ⟨rfl, by rw [dec_bb]; exact h⟩
theorem w_eqS {a b : Str} (h : Q (.bl (decide (a = b))) H) : rEq (.str a) (.str b) H Q := ⟨rfl, by rw [dec_ss]; exact h⟩
theorem w_eqNI (h : Q (.bl false) H) : rEq .non (.int n) H Q := ⟨rfl, by rw [decide_eq_false (by simp)]; exact h⟩
theorem w_eqIN (h : Q (.bl false) H) : rEq (.int n) .non H Q := ⟨rfl, by rw [decide_eq_false (by simp)]; exact h⟩
theorem w_neI (h : Q (.bl (!decide (m = n))) H) : rNe (.int m) (.int n) H Q := ⟨rfl, by rw [dec_ii]; exact h⟩
theorem w_neB {a b : Bool} (h : Q (.bl (!decide (a = b))) H) : rNe (.bl a) (.bl b) H Q := ⟨rfl, by rw [dec_bb]; exact h⟩
theorem w_neS {a b : Str} (h : Q (.bl (!decide (a = b))) H) : rNe (.str a) (.str b) H Q := ⟨rfl, by rw [dec_ss]; exact h⟩
theorem w_ixL (hs : SqL K H p xs) (ha : atI xs m = some v) (h : Q v H) : rIxL K (.ref p) (.int m) H Q := ⟨p, xs, m, v, rfl, rfl, hs, ha, h⟩
theorem w_ixT (hs : SqT K H p xs) (ha : atI xs m = some v) (h : Q v H) : rIxT K (.ref p) (.int m) H Q := ⟨p, xs, m, v, rfl, rfl, hs, ha, h⟩
theorem w_ixl (hs : SqL K H p xs) (ha : atI xs m = some v) (h : Q v H) : rIx K (.ref p) (.int m) H Q := .inl ⟨p, xs, m, v, rfl, rfl, hs, ha, h⟩
theorem w_ixt (hs : SqT K H p xs) (ha : atI xs m = some v) (h : Q v H) : rIx K (.ref p) (.int m) H Q := .inr (.inl ⟨p, xs, m, v, rfl, rfl, hs, ha, h⟩)
theorem w_catE (h1 : LsE K H p xs) (h2 : LsE K H q ys) (hz : xs.length + ys.length ≤ sizeLine) (h : ∀ p, H p = none → Q (.ref p) (upd H p (.lst (xs ++ ys)))) : rCatE K (.ref p) (.ref q) H Q := ⟨p, q, xs, ys, rfl, rfl, h1, h2, hz, h⟩
theorem w_rep (h1 : H p = some (.lst xs)) (h2 : -(2 ^ 63) ≤ n) (h3 : n < 2 ^ 63) (h4 : xs.length * n.toNat ≤ sizeLine) (h : ∀ p, H p = none → Q (.ref p) (upd H p (.lst (List.replicate n.toNat xs).flatten))) : rRep (.ref p) (.int n) H Q := ⟨p, n, xs, rfl, rfl, h1, h2, h3, h4, h⟩
theorem w_test (h : te σ H fun x H' => ∃ k, x = .bl k ∧ QT k H') : tTest te σ H QT := h
theorem w_tB (h : te σ H fun x H' => ∃ k, x = .bl k ∧ QT k H') : tB te σ H QT := h
theorem w_bl {b : Bool} {R : Bool → Prop} (h : R b) : ∃ k, V.bl b = .bl k ∧ R k := ⟨b, rfl, h⟩
theorem w_and (h : t σ H fun c H1 => if c = true then u σ H1 QT else QT false H1) : tAnd t u σ H QT := h
theorem w_or (h : t σ H fun c H1 => if c = true then QT true H1 else u σ H1 QT) : tOr t u σ H QT := h
theorem w_not (h : t σ H fun c H1 => QT (!c) H1) : tNot t σ H QT := h
theorem w_andV (h : ta σ H fun x H1 => ∃ c, x = .bl c ∧ if c = true then tb σ H1 Q else Q (.bl false) H1) : tAndV ta tb σ H Q := h
theorem w_orV (h : ta σ H fun x H1 => ∃ c, x = .bl c ∧ if c = true then Q (.bl true) H1 else tb σ H1 Q) : tOrV ta tb σ H Q := h
theorem w_notV (h : ta σ H fun x H1 => ∃ c, x = .bl c ∧ Q (.bl (!c)) H1) : tNotV ta σ H Q := h
theorem w_ifE (h : t σ H fun c H1 => if c = true then ta σ H1 Q else tb σ H1 Q) : tIf t ta tb σ H Q := h
theorem w_asg (h : te σ H fun x H1 => g x σ H1 D.nx) : tAsg te g D σ H := h
theorem w_gn {R : L2.St → Hp → Prop} (h : R (σ.set i (some v)) H) : gName i v σ H R := h
theorem w_gt {R : L2.St → Hp → Prop} {k : Nat} (hs : SqT K H p xs) (hl : xs.length = k) (h : gs xs σ H R) : gTup K k gs (.ref p) σ H R := ⟨p, xs, rfl, hs, hl, h⟩
theorem w_gc {R : L2.St → Hp → Prop} (h : g v σ H fun σ' H' => gs xs σ' H' R) : gCons g gs (v :: xs) σ H R := ⟨v, xs, rfl, h⟩
theorem w_g0 {R : L2.St → Hp → Prop} (h : R σ H) : gNil [] σ H R := ⟨rfl, h⟩
theorem w_gs {R : L2.St → Hp → Prop} {tt : TSet} (h : ta σ H fun o H1 => tb σ H1 fun i H2 => tt o i v H2 fun H3 => R σ H3) : gSub ta tb tt v σ H R := h
theorem w_setL {R : Hp → Prop} (hp : H p = some (.lst xs)) (hj : ixN xs.length m = some j) (h : R (upd H p (.lst (xs.set j v)))) : rSetL (.ref p) (.int m) v H R := ⟨p, xs, m, j, rfl, rfl, hp, hj, h⟩
theorem w_drop (h : te σ H fun _ H1 => D.nx σ H1) : tDrop te D σ H := h
theorem w_ret (h : te σ H D.rt) : tRet te D σ H := h
theorem w_retN (h : D.rt .non H) : tRetN D σ H := h
theorem w_if (h : t σ H fun b H1 => if b = true then ts D σ H1 else us D σ H1) : tIfS t ts us D σ H := h
theorem w_break (h : D.bk σ H) : tBreak D σ H := h
theorem w_cont (h : D.ct σ H) : tCont D σ H := h
theorem w_aug {ti : TIp} (h : ∃ x, σ[i]? = some (some x) ∧ te σ H fun y H1 => ti x y H1 fun z H2 => D.nx (σ.set i (some z)) H2) : tAug i te ti D σ H := h
theorem w_ip {f : Int → Int → Int} (h : Q (.int (f m n)) H) : ipI f (.int m) (.int n) H Q := ⟨m, n, rfl, rfl, h⟩
theorem w_par (h : tl σ H fun vs H1 => ∃ v w, vs = [v, w] ∧ D.nx ((σ.set i (some v)).set j (some w)) H1) : tPar i j tl D σ H := h
theorem w_par2 {R : V → V → Prop} (h : R v x) : ∃ a b, [v, x] = [a, b] ∧ R a b := ⟨v, x, rfl, h⟩
theorem w_nil (h : QA [] H) : tNil σ H QA := h
theorem w_cons (h : ta σ H fun x H1 => tl σ H1 fun xs H2 => QA (x :: xs) H2) : tCons ta tl σ H QA := h
theorem w_call {sp : Sp} {E : XK} (h : tl σ H fun vs H1 => sp vs H1 Q E) : tCall sp [] E tl σ H Q := by
  unfold tCall
  simp only [List.append_nil]
  exact h
theorem w_cb {r : List V → Hp → VK → Prop} (h : tl σ H fun vs H1 => r vs H1 Q) : tCB r tl σ H Q := h
theorem w_tup (h : tl σ H fun xs H1 => xs.length ≤ sizeLine ∧ ∀ p, H1 p = none → Q (.ref p) (upd H1 p (.tup xs))) : tTup tl σ H Q := h
theorem w_lst (h : tl σ H fun xs H1 => xs.length ≤ sizeLine ∧ ∀ p, H1 p = none → Q (.ref p) (upd H1 p (.lst xs))) : tLst tl σ H Q := h
theorem w_sl {r : V → Option Int → Option Int → Hp → VK → Prop} {to tu : TO} (h : te σ H fun x H1 => to σ H1 fun l H2 => tu σ H2 fun u H3 => r x l u H3 Q) : tSl r te to tu σ H Q := h
theorem w_np {R : Option Int → Hp → Prop} (h : R none H) : tNoPart σ H R := h
theorem w_part {R : Option Int → Hp → Prop} (h : te σ H fun x H1 => ∃ i, x = .int i ∧ R (some i) H1) : tPart te σ H R := h
theorem w_partI {R : Int → Prop} (h : R m) : ∃ i, V.int m = .int i ∧ R i := ⟨m, rfl, h⟩
theorem w_slL {lo hi : Option Int} (hs : SqL K H p xs) (h : ∀ q, H q = none → Q (.ref q) (upd H q (.lst (cutV xs lo hi)))) : rSlL K (.ref p) lo hi H Q := ⟨p, xs, rfl, hs, h⟩
theorem w_bm {T : String} {r : V → List V → Hp → VK → Prop} (h : ta σ H fun x H1 => tyV K T x H1 ∧ tl σ H1 fun xs H2 => r x xs H2 Q) : tBM K T r ta tl σ H Q := h
theorem w_bm0 {T : String} {r : V → List V → Hp → VK → Prop} (h : ta σ H fun x H1 => tyV K T x H1 ∧ r x [] H1 Q) : tBM0 K T r ta σ H Q := h
theorem w_tyl {R : Prop} (hs : SqL K H p xs) (h : R) : tyV K "list" (.ref p) H ∧ R := ⟨.inl ⟨rfl, xs, hs⟩, h⟩
theorem w_app (hp : H p = some (.lst xs)) (hl : xs.length < sizeLine) (h : Q .non (upd H p (.lst (xs ++ [v])))) : rAppend (.ref p) [v] H Q := ⟨p, xs, v, rfl, rfl, hp, hl, h⟩
theorem w_rev (hp : H p = some (.lst xs)) (h : Q .non (upd H p (.lst xs.reverse))) : rReverse (.ref p) [] H Q := ⟨p, xs, rfl, rfl, hp, h⟩
theorem w_len {R : List V → Prop} (hs : SqL K H p xs) (h : R xs) : ∃ p' ys, [V.ref p] = [.ref p'] ∧ (SqL K H p' ys ∨ SqT K H p' ys) ∧ R ys := ⟨p, xs, rfl, .inl hs, h⟩
theorem w_lenT {R : List V → Prop} (hs : SqT K H p xs) (h : R xs) : ∃ p' ys, [V.ref p] = [.ref p'] ∧ (SqL K H p' ys ∨ SqT K H p' ys) ∧ R ys := ⟨p, xs, rfl, .inr hs, h⟩
theorem w_isi {s : String} {b : Bool} (hk : kitB "int" s = some b) (h : Q (.bl b) H) : rIsi K [.int m, .ty s] H Q := ⟨_, _, _, _, b, rfl, .ty _, .base (.int _), kit_ty hk, h⟩
theorem w_isb {k : Bool} {s : String} {b : Bool} (hk : kitB "bool" s = some b) (h : Q (.bl b) H) : rIsi K [.bl k, .ty s] H Q := ⟨_, _, _, _, b, rfl, .ty _, .base (.bl _), kit_ty hk, h⟩
theorem w_isn {s : String} {b : Bool} (hk : kitB "NoneType" s = some b) (h : Q (.bl b) H) : rIsi K [.non, .ty s] H Q := ⟨_, _, _, _, b, rfl, .ty _, .base .non, kit_ty hk, h⟩
theorem w_isl {s : String} {b : Bool} (hp : H p = some (.lst xs)) (hk : kitB "list" s = some b) (h : Q (.bl b) H) : rIsi K [.ref p, .ty s] H Q := ⟨_, _, _, _, b, rfl, .ty _, .base (.lst hp), kit_ty hk, h⟩
theorem w_ist {s : String} {b : Bool} (hp : H p = some (.tup xs)) (hk : kitB "tuple" s = some b) (h : Q (.bl b) H) : rIsi K [.ref p, .ty s] H Q := ⟨_, _, _, _, b, rfl, .ty _, .base (.tup hp), kit_ty hk, h⟩
theorem w_2i {R : Int → Int → Prop} (h : R m n) : ∃ i j, [V.int m, V.int n] = [.int i, .int j] ∧ R i j := ⟨m, n, rfl, h⟩
theorem w_1i {R : Int → Prop} (h : R m) : ∃ i, [V.int m] = [.int i] ∧ R i := ⟨m, rfl, h⟩
theorem w_int1 {R : Int → Prop} {S : Prop} (h : R m) : (∃ i, [V.int m] = [.int i] ∧ R i) ∨ S := .inl ⟨m, rfl, h⟩
theorem w_intb {b : Bool} {R : Bool → Prop} {S : Prop} (h : R b) : S ∨ ∃ k, [V.bl b] = [.bl k] ∧ R k := .inr ⟨b, rfl, h⟩
theorem w_isN {R : Prop} (h : R) : V.non = .non ∧ R := ⟨rfl, h⟩
theorem w_fld {v : V} {R : V → Prop} (hp : H p = some (.ins C dx fs)) (hc : Cls K C) (hn : NoAttr K C f) (hl : fs.lookup f = some v) (h : R v) : ∃ a C' dx' fs' v', V.ref p = .ref a ∧ H a = some (.ins C' dx' fs') ∧ Cls K C' ∧ NoAttr K C' f ∧ fs'.lookup f = some v' ∧ R v' := ⟨p, C, dx, fs, v, rfl, hp, hc, hn, hl, h⟩
theorem w_fl (h : ta σ H fun x H1 => ∃ a C dx fs v, x = .ref a ∧ H1 a = some (.ins C dx fs) ∧ Cls K C ∧ NoAttr K C f ∧ fs.lookup f = some v ∧ Q v H1) : tFld K ta f σ H Q := h
theorem w_for {wi : TI} {tu : TS} (h : wi σ H fun J H1 => ∃ W : Nat → Nat → L2.St → Hp → Prop, (∃ m, W 0 m σ H1) ∧ ∀ i m σ H, W i m σ H →
  (J.stop i H ∧ D.nx σ H) ∨ (J.go i H ∧ ∃ N : L2.St → Hp → Prop, (∀ σ' H', N σ' H' → ∃ m', m' < m ∧ W (i + 1) m' σ' H') ∧ ∀ x H', J.yld i H x H' → g x σ H' fun σ2 H2 => tu { D with nx := N, ct := N, bk := D.nx } σ2 H2)) : tFor wi g tu D σ H := h
theorem w_iL {R : It → Hp → Prop} (h : te σ H fun x H1 => ∃ a, x = .ref a ∧ (∃ xs, SqL K H1 a xs) ∧ R (Itl K a) H1) : iList K te σ H R := h
theorem w_iLq {R : Addr → Prop} (hs : SqL K H p xs) (h : R p) : ∃ a, V.ref p = .ref a ∧ (∃ xs, SqL K H a xs) ∧ R a := ⟨p, rfl, ⟨xs, hs⟩, h⟩
theorem w_iTu {R : It → Hp → Prop} (h : te σ H fun x H1 => ∃ a, x = .ref a ∧ (∃ xs, SqT K H1 a xs) ∧ R (Itt K a) H1) : iTup K te σ H R := h
theorem w_iTq {R : Addr → Prop} (hs : SqT K H p xs) (h : R p) : ∃ a, V.ref p = .ref a ∧ (∃ xs, SqT K H a xs) ∧ R a := ⟨p, rfl, ⟨xs, hs⟩, h⟩
theorem w_r1 {R : It → Hp → Prop} (h : tl σ H fun vs H1 => ∃ j : Int, vs = [.int j] ∧ -(2 ^ 62) ≤ j ∧ j < 2 ^ 62 ∧ R (Itr 0 j.toNat) H1) : iRng1 tl σ H R := h
theorem w_r1q {R : Int → Prop} (h1 : -(2 ^ 62) ≤ m) (h2 : m < 2 ^ 62) (h : R m) : ∃ j : Int, [V.int m] = [.int j] ∧ -(2 ^ 62) ≤ j ∧ j < 2 ^ 62 ∧ R j := ⟨m, rfl, h1, h2, h⟩
theorem w_r2 {R : It → Hp → Prop} (h : tl σ H fun vs H1 => ∃ i j : Int, vs = [.int i, .int j] ∧ (-(2 ^ 62) ≤ i ∧ i < 2 ^ 62 ∧ -(2 ^ 62) ≤ j ∧ j < 2 ^ 62) ∧ R (Itr i (j - i).toNat) H1) : iRng2 tl σ H R := h
theorem w_r2q {R : Int → Int → Prop} (h1 : -(2 ^ 62) ≤ m) (h2 : m < 2 ^ 62) (h3 : -(2 ^ 62) ≤ n) (h4 : n < 2 ^ 62) (h : R m n) : ∃ i j : Int, [V.int m, V.int n] = [.int i, .int j] ∧ (-(2 ^ 62) ≤ i ∧ i < 2 ^ 62 ∧ -(2 ^ 62) ≤ j ∧ j < 2 ^ 62) ∧ R i j := ⟨m, n, rfl, ⟨h1, h2, h3, h4⟩, h⟩
theorem w_len1 {R : Prop} (hl : Nat.ble xs.length 1000 = true) (h : R) : xs.length ≤ sizeLine ∧ R := ⟨szle hl, h⟩
end
theorem same_read {K : PySem.W.Frag} {H H' : Hp} {a : Addr} {xs : List V} (e : Same H H') (h : SqT K H a xs) : SqT K H' a xs := by
  rcases h with (h | ⟨o, h⟩) | h
  · exact .inl (.inl (e _ _ h))
  · exact .inl (.inr ⟨o, e _ _ h⟩)
  · exact .inr h
theorem w_iT {A B : Prop} (h : A) : if true = true then A else B := by rw [if_pos rfl]; exact h
theorem w_iF {A B : Prop} (h : B) : if false = true then A else B := by rw [if_neg Bool.false_ne_true]; exact h
theorem w_iNT {A B : Prop} (h : B) : if (!true) = true then A else B := by rw [Bool.not_true, if_neg Bool.false_ne_true]; exact h
theorem w_iNF {A B : Prop} (h : A) : if (!false) = true then A else B := by rw [Bool.not_false, if_pos rfl]; exact h
theorem w_iNN {A B : Prop} {b : Bool} (h : if b = true then A else B) : if (!!b) = true then A else B := by rw [Bool.not_not]; exact h

/-! ### data -/
mutual
theorem dpSame {K : PySem.W.Frag} {H H' : Hp} (e : Same H H') : ∀ (d : PyData) (v : V), Dp K H v d → Dp K H' v d
  | .none, _, h => by cases h; exact .non
  | .bool _, _, h => by cases h; exact .bl _
  | .int _, _, h => by cases h; exact .int _
  | .str _, _, h => by cases h; exact .str _
  | .list ds, _, h => by
    cases h with
    | lst hs ha => exact .lst (e.seq hs) (dpSameAll e ds _ ha)
  | .tuple ds, _, h => by
    cases h with
    | tup hs ha => exact .tup (same_read e hs) (dpSameAll e ds _ ha)
  | .dict _, _, h => by cases h
theorem dpSameAll {K : PySem.W.Frag} {H H' : Hp} (e : Same H H') : ∀ (ds : List PyData) (xs : List V), DpAll K H xs ds → DpAll K H' xs ds
  | [], _, h => by cases h; exact .nil
  | d :: ds, _, h => by
    cases h with
    | cons h1 h2 => exact .cons (dpSame e d _ h1) (dpSameAll e ds _ h2)
end
section
variable {K : PySem.W.Frag} {H H' : Hp} {xs ys : List V} {ds es : List PyData} {v : V} {d : PyData} {a : Addr}
theorem _root_.L2.Dp.same (e : Same H H') (h : Dp K H v d) : Dp K H' v d := dpSame e d v h
theorem _root_.L2.DpAll.same (e : Same H H') (h : DpAll K H xs ds) : DpAll K H' xs ds := dpSameAll e ds xs h
theorem dpaLen : ∀ {xs : List V} {ds : List PyData}, DpAll K H xs ds → xs.length = ds.length
  | _, _, .nil => rfl
  | _, _, .cons _ t => by rw [List.length_cons, List.length_cons, dpaLen t]
theorem dpaGet : ∀ {xs : List V} {ds : List PyData} {i : Nat} {d : PyData}, DpAll K H xs ds → ds[i]? = some d → ∃ v, xs[i]? = some v ∧ Dp K H v d
  | _, _, _, _, .nil, e => by simp at e
  | _, _, 0, _, .cons h _, e => by simp at e; subst e; exact ⟨_, rfl, h⟩
  | _, _, i + 1, _, .cons _ t, e => by
    obtain ⟨v, h1, h2⟩ := dpaGet (i := i) t (by simpa using e)
    exact ⟨v, by simpa using h1, h2⟩
theorem dpaApp : ∀ {xs ys : List V} {ds es : List PyData}, DpAll K H xs ds → DpAll K H ys es → DpAll K H (xs ++ ys) (ds ++ es)
  | _, _, _, _, .nil, h => h
  | _, _, _, _, .cons h t, s => .cons h (dpaApp t s)
theorem dpInts : ∀ ns : List Int, DpAll K H (ns.map V.int) (ns.map PyData.int)
  | [] => .nil
  | n :: r => .cons (.int n) (dpInts r)
theorem dpAll_ints : ∀ {ns : List Int} {xs : List V}, DpAll K H xs (ns.map PyData.int) → xs = ns.map V.int
  | [], _, h => by cases h; rfl
  | n :: r, _, h => by
    cases h with
    | cons h t => cases h; rw [dpAll_ints t]; rfl
theorem dpInt {i : Int} (h : Dp K H v (.int i)) : v = .int i := by cases h; rfl
theorem dpTup (h : Dp K H v (.tuple ds)) : ∃ a xs, v = .ref a ∧ SqT K H a xs ∧ DpAll K H xs ds := by cases h with | tup h1 h2 => exact ⟨_, _, rfl, h1, h2⟩
theorem dpLst (h : Dp K H v (.list ds)) : ∃ a xs, v = .ref a ∧ SqL K H a xs ∧ DpAll K H xs ds := by cases h with | lst h1 h2 => exact ⟨_, _, rfl, h1, h2⟩
theorem dpLstA (h : Dp K H (.ref a) (.list ds)) : ∃ xs, SqL K H a xs ∧ DpAll K H xs ds := by cases h with | lst h1 h2 => exact ⟨_, h1, h2⟩
theorem dpTupA (h : Dp K H (.ref a) (.tuple ds)) : ∃ xs, SqT K H a xs ∧ DpAll K H xs ds := by cases h with | tup h1 h2 => exact ⟨_, h1, h2⟩
end
/-- data that == serves: no dicts, no deeper than n -/
def Good (n : Nat) (d : PyData) : Prop := d.canLay0 = true ∧ d.depth ≤ n
theorem goodInt {n : Nat} {i : Int} : Good n (.int i) := ⟨rfl, Nat.zero_le _⟩
theorem goodBool {n : Nat} {b : Bool} : Good n (.bool b) := ⟨rfl, Nat.zero_le _⟩
theorem goodNone {n : Nat} : Good n .none := ⟨rfl, Nat.zero_le _⟩
theorem goodAll {n : Nat} : ∀ {ds : List PyData}, (∀ d ∈ ds, Good n d) → PyData.canLayAll0 ds = true ∧ PyData.depthAll ds ≤ n
  | [], _ => ⟨rfl, Nat.zero_le _⟩
  | d :: ds, h => by
    obtain ⟨h1, h2⟩ := h d List.mem_cons_self
    obtain ⟨h3, h4⟩ := goodAll fun e he => h e (List.mem_cons_of_mem _ he)
    exact ⟨by simp [PyData.canLayAll0, h1, h3], by simp only [PyData.depthAll]; omega⟩
theorem goodLst {n : Nat} {ds : List PyData} (h : ∀ d ∈ ds, Good n d) : Good (n + 1) (.list ds) := ⟨(goodAll h).1, Nat.succ_le_succ (goodAll h).2⟩
theorem goodTup {n : Nat} {ds : List PyData} (h : ∀ d ∈ ds, Good n d) : Good (n + 1) (.tuple ds) := ⟨(goodAll h).1, Nat.succ_le_succ (goodAll h).2⟩
theorem goodMap {α : Type} {n : Nat} {f : α → PyData} {xs : List α} (h : ∀ x, Good n (f x)) : ∀ d ∈ xs.map f, Good n d := by
  intro d hd
  obtain ⟨x, _, rfl⟩ := List.mem_map.mp hd
  exact h x
theorem Good.mono {n m : Nat} {d : PyData} (h : Good n d) (e : n ≤ m) : Good m d := ⟨h.1, Nat.le_trans h.2 e⟩
theorem Good.shaped {n : Nat} {d : PyData} (h : Good n d) (e : n ≤ 64) : SeqAt.shaped d = true := by
  unfold SeqAt.shaped
  rw [h.1, decide_eq_true (Nat.le_trans h.2 e)]
  rfl
theorem Good.eqv {n : Nat} {d : PyData} (h : Good n d) : PyData.eqv d d = true := SeqAt.eqv_refl d h.1
section
variable {K : PySem.W.Frag} {H : Hp} {x y : V} {d : PyData} {Q : VK} {n : Nat}
/-- two things of the same data are equal -/
theorem w_eqD (h1 : Dp K H x d) (h2 : Dp K H y d) (g : Good n d) (hn : n ≤ 64) (h : Q (.bl true) H) : rEqD K x y H Q := ⟨d, d, h1, h2, g.shaped hn, g.shaped hn, by rw [g.eqv]; exact h⟩
theorem w_neD (h1 : Dp K H x d) (h2 : Dp K H y d) (g : Good n d) (hn : n ≤ 64) (h : Q (.bl false) H) : rNeD K x y H Q := ⟨d, d, h1, h2, g.shaped hn, g.shaped hn, by rw [g.eqv]; exact h⟩
end
/-! ### xs[i] op= e -/
def rGetL (K : PySem.W.Frag) : V → V → Hp → VK → Prop := fun x y H Q => ∃ (p : Addr) (xs : List V) (j : Nat) (v : V), x = .ref p ∧ y = .int j ∧ SqL K H p xs ∧ xs[j]? = some v ∧ Q v H
theorem get_list {X : Cx} : PGet X (rGetL X.K) := by
  intro pins s σ H o i ov iv Q I ro ri h
  obtain ⟨p, xs, j, v, rfl, rfl, hq, he, q⟩ := h
  cases ro
  obtain ⟨t, rfl⟩ := ri
  obtain ⟨its, r, pl, hz⟩ := I.list hq
  obtain ⟨u, eu, ru⟩ := r.get he
  have hj : j < xs.length := (List.getElem?_eq_some_iff.mp he).1
  have hn := line63
  exact wpAny_getItem_list pl.isList (Int.natCast_nonneg j) (by omega) (by simpa using eu) ⟨v, H, I, ru, q⟩
theorem ps_augL {X : Cx} {o i e : Expr} {to ti te : TE} {tip : TIp} {op : Operator} {tpos pos : Pos} (ho : PE X o to) (hi : PE X i ti) (he : PE X e te) (hp : PIp X op tip)
    (ha : ∀ ov iv new, augStore i ov iv new = (do holding [new, ov, iv] (setItem ov iv new); release [new, ov, iv] []; pure .next) := by intros; rfl) : PS X (.AugAssign (.Subscript o i tpos) op e pos) (tAugS to ti te (rGetL X.K) tip rSetL) :=
  ps_augS ho hi get_list he hp set_list ha
section
variable {σ : L2.St} {H : Hp} {Q : VK} {D : Ends} {K : PySem.W.Frag} {p : Addr} {xs : List V} {v : V} {j : Nat}
theorem w_augS {to ti te : TE} {tget : V → V → Hp → VK → Prop} {tip : TIp} {tset : TSet} (h : to σ H fun o H1 => ti σ H1 fun i H2 => tget o i H2 fun x H3 => te σ H3 fun y H4 => tip x y H4 fun z H5 => tset o i z H5 fun H6 => D.nx σ H6) : tAugS to ti te tget tip tset D σ H := h
theorem w_getL (hs : SqL K H p xs) (he : xs[j]? = some v) (h : Q v H) : rGetL K (.ref p) (.int (j : Int)) H Q := ⟨p, xs, j, v, rfl, rfl, hs, he, h⟩
theorem ixN_nat {n j : Nat} (h : j < n) : ixN n (j : Int) = some j := by
  unfold ixN
  rw [if_pos (Int.natCast_nonneg j), if_pos (by omega)]
  simp
end
/-! ### range from nought -/
theorem for_r0 {m : Int} {n : Nat} {g : TG} {tb : TS} {D : Ends} {σ : L2.St} {H : Hp} (hm : m = n) (Pv : Nat → L2.St → Hp → Prop) (h0 : Pv 0 σ H)
    (hs : ∀ i σ H, i < n → Pv i σ H → g (.int (i : Nat)) σ H fun σ2 H2 => tb { D with nx := Pv (i + 1), ct := Pv (i + 1), bk := D.nx } σ2 H2) (hd : ∀ σ H, Pv n σ H → D.nx σ H) :
    ∃ W : Nat → Nat → L2.St → Hp → Prop, (∃ m, W 0 m σ H) ∧ ∀ i k σ H, W i k σ H →
      ((Itr 0 m.toNat).stop i H ∧ D.nx σ H) ∨ ((Itr 0 m.toNat).go i H ∧ ∃ N : L2.St → Hp → Prop, (∀ σ' H', N σ' H' → ∃ m', m' < k ∧ W (i + 1) m' σ' H') ∧ ∀ x H', (Itr 0 m.toNat).yld i H x H' → g x σ H' fun σ2 H2 => tb { D with nx := N, ct := N, bk := D.nx } σ2 H2) := by
  subst hm
  rw [Int.toNat_natCast]
  exact for_range (lo := 0) Pv h0 (fun i σ H hi hp => by rw [Int.zero_add]; exact hs i σ H hi hp) hd
/-! ### bits of numbers from nought on -/
theorem shr_nat (m k : Nat) : (m : Int) / 2 ^ (Int.toNat (k : Int)) = ((m >>> k : Nat) : Int) := by
  rw [Int.toNat_natCast, Nat.shiftRight_eq_div_pow]
  simp
theorem shl_nat (m k : Nat) : (m : Int) * 2 ^ (Int.toNat (k : Int)) = ((m <<< k : Nat) : Int) := by
  rw [Int.toNat_natCast, Nat.shiftLeft_eq]
  simp
theorem shl_one (k : Nat) : (1 : Int) * 2 ^ (Int.toNat (k : Int)) = ((2 ^ k : Nat) : Int) := by
  rw [Int.toNat_natCast, Int.one_mul]
  simp
theorem xor_nat (m n : Nat) : Builtin.bitXor (m : Int) (n : Int) = ((m ^^^ n : Nat) : Int) := by
  have h := Bits.bitXor_pp (x := (m : Int)) (y := (n : Int)) (Int.natCast_nonneg m) (Int.natCast_nonneg n)
  rw [Int.toNat_natCast, Int.toNat_natCast] at h
  exact h
theorem or_nat (m n : Nat) : Builtin.bitOr (m : Int) (n : Int) = ((m ||| n : Nat) : Int) := by
  have h := Bits.bitOr_pp (x := (m : Int)) (y := (n : Int)) (Int.natCast_nonneg m) (Int.natCast_nonneg n)
  rw [Int.toNat_natCast, Int.toNat_natCast] at h
  exact h
theorem and_one (m : Int) (h : 0 ≤ m) : Builtin.bitAnd m 1 = m % 2 := by
  have e := Bits.bitAnd_mask (x := m) 1 h
  simpa using e
theorem bit_nat (m k : Nat) : Builtin.bitAnd ((m : Int) / 2 ^ (Int.toNat (k : Int))) 1 = (((m.testBit k).toNat : Nat) : Int) := by
  rw [shr_nat, and_one _ (Int.natCast_nonneg _), Nat.testBit_eq_decide_div_mod_eq, Nat.shiftRight_eq_div_pow]
  have h : m / 2 ^ k % 2 < 2 := Nat.mod_lt _ (by decide)
  generalize m / 2 ^ k = z at h
  have e : z % 2 = 0 ∨ z % 2 = 1 := by omega
  rcases e with e | e
  · rw [e]; simp; omega
  · rw [e]; simp; omega
theorem bit_dec (m k : Nat) : decide (Builtin.bitAnd ((m : Int) / 2 ^ (Int.toNat (k : Int))) 1 = 1) = m.testBit k := by
  rw [bit_nat]
  cases m.testBit k <;> simp
/-! ### tables by number -/
theorem map_set {α : Type} {f : Nat → α} {m j : Nat} {y : α} : ((List.range m).map f).set j y = (List.range m).map fun r => if r = j then y else f r := by
  apply List.ext_getElem
  · simp
  · intro i h1 h2
    simp only [List.length_set, List.length_map, List.length_range] at h1
    simp only [List.getElem_set, List.getElem_map, List.getElem_range]
    by_cases e : j = i
    · subst e; simp
    · rw [if_neg e, if_neg (Ne.symm e)]
theorem map_at {α : Type} {f : Nat → α} {m j : Nat} (h : j < m) : ((List.range m).map f)[j]? = some (f j) := by
  rw [List.getElem?_map, List.getElem?_range h]
  rfl
theorem map_len {α : Type} {f : Nat → α} {m : Nat} : ((List.range m).map f).length = m := by simp
theorem map_setI {f : Nat → Int} {m j : Nat} {y : Int} : ((List.range m).map fun r => V.int (f r)).set j (V.int y) = (List.range m).map fun r => V.int (if r = j then y else f r) := by
  rw [map_set]
  congr 1
  funext r
  split <;> rfl
/-! ### comprehensions, slices -/
section
variable {σ σ' : L2.St} {H : Hp} {Q : VK} {QT : Bool → Hp → Prop}
theorem w_lc {wi : TI} {g : TG} {tt : TT} {te : TE} {vs : List Nat} (h : wi σ H fun J H1 => ∀ D, New H1 D → ∃ W : Nat → Nat → Hp → Prop, (∃ m, W 0 m (upd H1 D (.lst []))) ∧ ∀ i m H, W i m H →
  (J.stop i H ∧ Q (.ref D) H) ∨ (J.go i H ∧ ∃ Nx : Hp → Prop, (∀ H', Nx H' → ∃ m', m' < m ∧ W (i + 1) m' H') ∧ ∀ x H', J.yld i H x H' → g x (wipe σ vs) H' fun σ2 H2 => wipe σ2 vs = wipe σ vs ∧ tt σ2 H2 fun b H3 =>
    if b = true then te σ2 H3 fun y H4 => ∃ acc, H4 D = some (.lst acc) ∧ acc.length < sizeLine ∧ Nx (upd H4 D (.lst (acc ++ [y]))) else Nx H3)) : tLc wi g tt te vs σ H Q := h
theorem w_wipe {vs : List Nat} {R : Prop} (e : wipe σ vs = wipe σ' vs) (h : R) : wipe σ vs = wipe σ' vs ∧ R := ⟨e, h⟩
theorem w_yes (h : QT true H) : tYes σ H QT := h
theorem cutV_nat (xs : List V) (a b : Nat) : cutV xs (some (a : Int)) (some (b : Int)) = (xs.drop a).take (b - a) := by
  unfold cutV
  rw [HT.sIx_nat, HT.sIx_nat]
  apply List.ext_getElem?
  intro i
  simp only [List.getElem?_take, List.getElem?_drop]
  by_cases ha : a ≤ xs.length
  · rw [Nat.min_eq_left ha]
    by_cases h : i < b - a
    · by_cases h2 : i < min b xs.length - a
      · rw [if_pos h, if_pos h2]
      · rw [if_pos h, if_neg h2, List.getElem?_eq_none (by omega)]
    · rw [if_neg h, if_neg (by omega)]
  · rw [if_neg (by omega)]
    split
    · rw [List.getElem?_eq_none (by omega)]
    · rfl
theorem cutV_from (xs : List V) (a : Nat) : cutV xs (some (a : Int)) none = xs.drop a := by
  unfold cutV
  rw [HT.sIx_nat, HT.sIx_none]
  by_cases h : a ≤ xs.length
  · rw [Nat.min_eq_left h]
    exact List.take_of_length_le (by simp)
  · rw [Nat.min_eq_right (by omega), List.drop_of_length_le (Nat.le_refl _), List.drop_of_length_le (by omega), List.take_nil]
theorem cutV_to (xs : List V) (b : Nat) : cutV xs none (some (b : Int)) = xs.take b := by
  unfold cutV
  rw [HT.sIx_nat, HT.sIx_none, List.drop_zero, Nat.sub_zero]
  by_cases h : b ≤ xs.length
  · rw [Nat.min_eq_left h]
  · rw [Nat.min_eq_right (by omega), List.take_of_length_le (Nat.le_refl _), List.take_of_length_le (by omega)]
end
theorem w_list {K : PySem.W.Frag} {H : Hp} {p : Addr} {xs : List V} {R : List V → Prop} (hs : SqL K H p xs) (h : R xs) : ∃ p' ys, [V.ref p] = [.ref p'] ∧ (SqL K H p' ys ∨ SqT K H p' ys) ∧ R ys := ⟨p, xs, rfl, .inl hs, h⟩
/-! ### a heap without one place -/
def wo (H : Hp) (D : Addr) : Hp := fun b => if b = D then none else H b
section
variable {K : PySem.W.Frag} {H H' H2 : Hp} {D p : Addr} {o : HO} {xs : List V} {ds : List PyData} {v : V} {d : PyData}
theorem wo_same : Same (wo H D) H := fun b o h => by
  unfold wo at h
  split at h
  · cases h
  · exact h
theorem wo_new : New (wo H D) D := if_pos rfl
theorem wo_get (h : H p = some o) (n : p ≠ D) : wo H D p = some o := (if_neg n).trans h
theorem wo_eq : wo (upd H D o) D = wo H D := by
  funext b
  unfold wo
  split
  · rfl
  · rw [upd_ne (by assumption)]
theorem wo_mono (e : Same H H') : Same (wo H D) (wo H' D) := fun b o h => by
  unfold wo at h ⊢
  split at h
  · cases h
  · rw [if_neg (by assumption)]; exact e b o h
theorem same_wo (e : Same H H') (n : New H D) : Same H (wo H' D) := fun b o h => wo_get (e b o h) (ne_new h n)
theorem dpaPush (h : DpAll K (wo H D) xs ds) (e : Same H H2) (hv : Dp K (wo H2 D) v d) : DpAll K (wo (upd H2 D o) D) (xs ++ [v]) (ds ++ [d]) := by
  rw [wo_eq]
  exact dpaApp (h.same (wo_mono e)) (.cons hv .nil)
theorem dpaPushI (h : DpAll K (wo H D) xs ds) {i : Int} : DpAll K (wo (upd H D o) D) (xs ++ [.int i]) (ds ++ [.int i]) := dpaPush h (Same.refl _) (.int i)
end
/-! ### while -/
theorem w_wt {W : Nat → L2.St → Hp → Prop} {tb : TS} {D : Ends} {σ : L2.St} {H : Hp} {m : Nat} (h : tb { D with nx := fun σ' H' => ∃ m', m' < m ∧ W m' σ' H', ct := fun σ' H' => ∃ m', m' < m ∧ W m' σ' H', bk := D.nx } σ H) :
    ∃ N : L2.St → Hp → Prop, (∀ σ' H', N σ' H' → ∃ m', m' < m ∧ W m' σ' H') ∧ tb { D with nx := N, ct := N, bk := D.nx } σ H := ⟨_, fun _ _ h => h, h⟩
theorem and_nat (m n : Nat) : Builtin.bitAnd (m : Int) (n : Int) = ((m &&& n : Nat) : Int) := rfl
/-! ### two ways to read -/
theorem _root_.L2.PE.or {X : Cx} {e : Expr} {t t' : TE} (h : PE X e t) (h' : PE X e t') : PE X e (fun σ H Q => t σ H Q ∨ t' σ H Q) := ⟨fun pins s σ H Q I q => by
  rcases q with q | q
  · exact h.run pins s σ H Q I q
  · exact h'.run pins s σ H Q I q⟩
/-- the same, for an item of a comprehension -/
def tOrE (t t' : TE) : TE := fun σ H Q => t σ H Q ∨ t' σ H Q
theorem _root_.L2.PE.orD {X : Cx} {e : Expr} {t t' : TE} (h : PE X e t) (h' : PE X e t') : PE X e (tOrE t t') := PE.or h h'
theorem w_orE {t t' : TE} {σ : L2.St} {H : Hp} {Q : VK} (h : t σ H Q ∨ t' σ H Q) : tOrE t t' σ H Q := h
/-! ### classes by name -/
structure HasMk (P : Program) (w : World) (K : PySem.W.Frag) (mg : Str → Option Value) (base : Heap) (CX : CXT) (k : Nat) (x : Str) (C : Addr) (ps : List Str) (sp : Sp) : Prop where
  ex : ∃ f fd, FnOk P w K mg base CX k f fd ps sp ∧ Mk K C f ∧ mg x = some (.ref C) ∧ Binds K fd ps []
structure HasMeth (P : Program) (w : World) (K : PySem.W.Frag) (mg : Str → Option Value) (base : Heap) (CX : CXT) (k : Nat) (C : Addr) (m : Str) (ps : List Str) (sp : Sp) : Prop where
  ex : ∃ f fd, FnOk P w K mg base CX k f fd ps sp ∧ Cls K C ∧ Meth K C m f ∧ Binds K fd ps []
/-- a method's body, proved once for whatever class holds it -/
structure HasFn (P : Program) (w : World) (K : PySem.W.Frag) (mg : Str → Option Value) (base : Heap) (CX : CXT) (k : Nat) (f : Addr) (ps : List Str) (sp : Sp) : Prop where
  ex : ∃ fd, FnOk P w K mg base CX k f fd ps sp ∧ Binds K fd ps []
section
variable {P : Program} {w : World} {K : PySem.W.Frag} {mg : Str → Option Value} {base : Heap} {x qual : Str} {ps N : List Str} {sp : Sp} {k : Nat}
theorem HasFn.mk' {st : Stmt} {f : Addr} {fd : FuncData} (F : Fun K x qual st f fd) (b : Binds K fd ps []) (S : FnScope N ps (defScope st)) (len : ∀ vs H Q E, sp vs H Q E → vs.length = ps.length)
    (hbody : ∀ (cdv : Value) (A : Around) (outer : List Env) (s : Shared) (H : Hp) (vs : List V) (Q : VK) (E : XK), Room k (A.deeper (envOfC qual (defScope st) s.heap.objs.size f cdv)) → sp vs H Q E →
      ∃ t, PSs (cxOf CX0 P w K mg base N qual (defScope st) f cdv A outer s H E).nox (defBody st) t ∧ t { nx := fun _ H' => Q .non H', rt := Q } (start N vs) H) : HasFn P w K mg base CX0 (k + 1) f ps sp :=
  ⟨fd, F.ok S len hbody, b⟩
theorem HasFn.mkOf {CX : CXT} {f C : Addr} (h : HasFn P w K mg base CX k f ps sp) (M : Mk K C f) (g : mg x = some (.ref C)) : HasMk P w K mg base CX k x C ps sp := by
  obtain ⟨fd, F, b⟩ := h.ex
  exact ⟨f, fd, F, M, g, b⟩
theorem HasFn.meth {CX : CXT} {f C : Addr} {m : Str} (h : HasFn P w K mg base CX k f ps sp) (c : Cls K C) (M : Meth K C m f) : HasMeth P w K mg base CX k C m ps sp := by
  obtain ⟨fd, F, b⟩ := h.ex
  exact ⟨f, fd, F, c, M, b⟩
end
section
variable {X : Cx} {k : Nat} {ps : List Str} {sp : Sp} {x m : Str} {p pos apos : Pos} {e o : Expr} {es : List Expr} {t : TA} {ta : TE} {C : Addr}
theorem pe_mk (h : HasMk X.prog X.w X.K X.mg X.base CX0 k x C ps sp) (hr : Room (k + 1) X.A) (hg : Gl X x) (ha : PA X (e :: es) t) (hdb : (x == ("__debug__" : Str)) = false := by decide) (he : starEach (e :: es) X.env = (false, eval e X.env) :: starEach es X.env := by rfl) (hpl : (backTo pos (starEach es X.env)).any (·.1) = false := by rfl) :
    PE X (.Call (.Name x p) (e :: es) [] pos) (tMake C sp [] E0 t) := by
  obtain ⟨f, fd, F, M, g, b⟩ := h.ex
  exact pe_make M F hr hg g b .nil pass0 ha hdb he hpl
theorem pe_mt {pl : Sem Bool} (h : HasMeth X.prog X.w X.K X.mg X.base CX0 k C m ps sp) (he : PE X o ta) (hr : Room k X.A) (ha : PA X (e :: es) t)
    (hst : starEach (e :: es) X.env = (false, eval e X.env) :: starEach es X.env := by rfl) (hpl : (backTo pos (starEach es X.env)).any (·.1) = false := by rfl)
    (ht : eval (.Call (.Attribute o m apos) (e :: es) [] pos) X.env = (do
      let v ← eval o X.env
      standAt apos.atName
      let (f, first) ← holding [v] (getMethod v m pl)
      callWith pos f first (backTo pos (starEach (e :: es) X.env)) (backToKw pos (keywordEach [] X.env))) := by rfl) :
    PE X (.Call (.Attribute o m apos) (e :: es) [] pos) (tMeth C m sp [] E0 ta t) := by
  obtain ⟨f, fd, F, c, M, b⟩ := h.ex
  exact pe_meth he c M F hr b .nil pass0 ha hst hpl ht
theorem pe_mt0 {pl : Sem Bool} (h : HasMeth X.prog X.w X.K X.mg X.base CX0 k C m ps sp) (he : PE X o ta) (hr : Room k X.A)
    (ht : eval (.Call (.Attribute o m apos) [] [] pos) X.env = (do
      let v ← eval o X.env
      standAt apos.atName
      let (f, first) ← holding [v] (getMethod v m pl)
      callWith pos f first (backTo pos (starEach [] X.env)) (backToKw pos (keywordEach [] X.env))) := by rfl) :
    PE X (.Call (.Attribute o m apos) [] [] pos) (tMeth C m sp [] E0 ta tNil) := by
  obtain ⟨f, fd, F, c, M, b⟩ := h.ex
  exact pe_meth0 he c M F hr b .nil pass0 ht
end
section
variable {σ : L2.St} {H : Hp} {Q : VK} {D : Ends} {K : PySem.W.Frag} {ta tv : TE} {tl : TA} {sp : Sp} {E : XK} {C p dx : Addr} {fs : List (Str × V)} {f m : Str} {v : V}
theorem w_make (h : tl σ H fun vs H1 => ∀ x dx, New H1 x → New H1 dx → dx ≠ x → sp (.ref x :: vs) (upd (upd H1 dx (.own x)) x (.ins C dx [])) (fun v H2 => v = .non ∧ Q (.ref x) H2) E) : tMake C sp [] E tl σ H Q := by
  unfold tMake
  simp only [List.append_nil]
  exact h
theorem w_meth (h : ta σ H fun x H1 => ∃ a dx fs, x = .ref a ∧ H1 a = some (.ins C dx fs) ∧ fs.lookup m = none ∧ tl σ H1 fun vs H2 => sp (x :: vs) H2 Q E) : tMeth C m sp [] E ta tl σ H Q := by
  unfold tMeth
  simp only [List.append_nil]
  exact h
theorem w_methq {R : Prop} (hp : H p = some (.ins C dx fs)) (hl : fs.lookup m = none) (h : R) : ∃ a dx fs, V.ref p = .ref a ∧ H a = some (.ins C dx fs) ∧ fs.lookup m = none ∧ R := ⟨p, dx, fs, rfl, hp, hl, h⟩
theorem w_sf (h : tv σ H fun y H1 => ta σ H1 fun x H2 => ∃ a C dx fs, x = .ref a ∧ H2 a = some (.ins C dx fs) ∧ Cls K C ∧ NoAttr K C f ∧ fs.length < 1000 ∧ D.nx σ (upd H2 a (.ins C dx (putF f y fs)))) : sFld K ta tv f D σ H := h
theorem w_sfq {R : Addr → Addr → Addr → List (Str × V) → Prop} (hp : H p = some (.ins C dx fs)) (hc : Cls K C) (hn : NoAttr K C f) (hl : fs.length < 1000) (h : R p C dx fs) : ∃ a C' dx' fs', V.ref p = .ref a ∧ H a = some (.ins C' dx' fs') ∧ Cls K C' ∧ NoAttr K C' f ∧ fs'.length < 1000 ∧ R a C' dx' fs' := ⟨p, C, dx, fs, rfl, hp, hc, hn, hl, h⟩
end
/-! ### isinstance of an object -/
structure IsoK (K : PySem.W.Frag) (C : Addr) : Prop where
  cl : Cls K C
  oc : PySem.W.findIn K (.ref C) "__class__" = some (some (.builtin "object.__class__"))
  og : PySem.W.specialIn K (.builtin "object.__class__") "__get__" = some (some (.builtin "getset_descriptor.__get__"))
  ot : PySem.W.takesIn K (.builtin "object.__class__") = some true
  om : PySem.W.mroIn K C (.type "object") = some true
theorem w_iso {K : PySem.W.Frag} {H : Hp} {Q : VK} {p C D dx : Addr} {fs : List (Str × V)} {b : Bool} (hp : H p = some (.ins C dx fs)) (I : IsoK K C) (hk : PySem.W.kitOne K (.ref C) (.ref D) = some b) (h : Q (.bl b) H) : rIsi K [.ref p, .ref D] H Q :=
  ⟨_, _, _, _, b, rfl, .own D, .base (.ins hp I.cl I.oc I.og I.ot I.om), hk, h⟩
theorem w_isoN {K : PySem.W.Frag} {H : Hp} {Q : VK} {D : Addr} {b : Bool} (hk : PySem.W.kitOne K (.type "NoneType") (.ref D) = some b) (h : Q (.bl b) H) : rIsi K [.non, .ref D] H Q :=
  ⟨_, _, _, _, b, rfl, .own D, .base .non, hk, h⟩
theorem kit_own {K : PySem.W.Frag} {C D : Addr} {b : Bool} (h1 : PySem.W.isClsIn K D = true) (h2 : PySem.W.typeIn K (.ref D) = some (.type "type")) (h3 : PySem.W.subIn K (.ref C) (.ref D) = some b) (h4 : PySem.W.subIn K (.ref C) (.ref C) = some true) : PySem.W.kitOne K (.ref C) (.ref D) = some b := by
  unfold PySem.W.kitOne
  by_cases e : C = D
  · subst e
    rw [h4] at h3
    cases h3
    rw [if_pos (by simp)]
  · have hn : ¬ ((Value.ref C == Value.ref D) = true) := by
      intro z
      rw [beq_iff_eq] at z
      cases z
      exact e rfl
    rw [if_neg hn]
    unfold PySem.W.kitCls
    have h5 : (PySem.W.clsIn K D).isSome = true := h1
    show (if ((PySem.W.clsIn K D).isSome && PySem.W.typeIn K (.ref D) == some (.type "type")) = true then PySem.W.subIn K (.ref C) (.ref D) else none) = some b
    rw [h5, h2, if_pos (by simp)]
    exact h3
/-! ### range by steps -/
theorem w_r3 {σ : L2.St} {H : Hp} {ta : TA} {R : It → Hp → Prop} (h : ta σ H fun vs H1 => ∃ (i j c : Int) (n : Nat), vs = [.int i, .int j, .int c] ∧ RgC i j c n ∧ R (Itc i c n) H1) : iRng3 ta σ H R := h
theorem w_r3q {i j c : Int} {n : Nat} {R : Int → Int → Nat → Prop} (hc : RgC i j c n) (h : R i c n) : ∃ (i' j' c' : Int) (n' : Nat), [V.int i, V.int j, V.int c] = [.int i', .int j', .int c'] ∧ RgC i' j' c' n' ∧ R i' c' n' := ⟨i, j, c, n, rfl, hc, h⟩
/-! ### ways joined behind a statement -/
def tCutX (t u : TS) : TS := fun D σ H => ∃ M : L2.St → Hp → Prop, t { D with nx := M } σ H ∧ ∀ σ' H', M σ' H' → u D σ' H'
theorem pss_cutX {X : Cx} {st : Stmt} {more : List Stmt} {t u : TS} (h1 : PS X st t) (h2 : PSs X more u) : PSs X (st :: more) (tCutX t u) := ⟨fun pins s σ H D I h => by
  obtain ⟨M, hm, hu⟩ := h
  refine wpAny_execs_cons (thn (h1.run pins s σ H { D with nx := M } I hm) fun f s1 q => ?_)
  cases f with
  | next => obtain ⟨σ1, H1, I1, q1⟩ := q; exact h2.run pins s1 σ1 H1 D I1 (hu σ1 H1 q1)
  | ret v => exact q
  | brk => exact q
  | cont => exact q⟩
theorem w_cut {t u : TS} {D : Ends} {σ : L2.St} {H : Hp} (M : L2.St → Hp → Prop) (h : t { D with nx := M } σ H) (k : ∀ σ' H', M σ' H' → u D σ' H') : tCutX t u D σ H := ⟨M, h, k⟩
/-! ### dicts with number keys; heaps that grow -/
theorem _root_.L2.Same.add {G H : Hp} {q : Addr} {o : HO} (e : Same G H) (h : H q = some o) : Same (upd G q o) H := fun b u hb => by
  by_cases e2 : b = q
  · subst e2
    rw [upd_same] at hb
    rw [h]
    exact hb
  · rw [upd_ne e2] at hb
    exact e b u hb
theorem New.upd {G : Hp} {p q : Addr} {o : HO} (n : New G p) (h : p ≠ q) : New (upd G q o) p := (upd_ne h).trans n
theorem putK_len {kvs : List (Key × V)} {k : Key} {v : V} : (putK kvs k v).length ≤ kvs.length + 1 := by
  unfold putK
  split <;> simp
theorem w_put {σ : L2.St} {H : Hp} {D : Ends} {td ty tv : TE} (h : tv σ H fun v H1 => td σ H1 fun x H2 => ty σ H2 fun y H3 => ∃ a H4, x = .ref a ∧ DPut H3 a y v H4 ∧ D.nx σ H4) : sDPut td ty tv D σ H := h
theorem w_putI {H : Hp} {a : Addr} {kvs : List (Key × V)} {i : Int} {v : V} {R : Hp → Prop} (e : H a = some (.dK kvs)) (hl : kvs.length < sizeLine) (h : R (upd H a (.dK (putK kvs (.inl i) v)))) : ∃ a' H4, V.ref a = .ref a' ∧ DPut H a' (.int i) v H4 ∧ R H4 := ⟨a, _, rfl, DPut.k (k := .inl i) e hl, h⟩
theorem w_getI {H : Hp} {a : Addr} {kvs : List (Key × V)} {i : Int} {v : V} {R : V → Prop} (e : H a = some (.dK kvs)) (hv : valV kvs (.inl i) = some v) (h : R v) : ∃ a' v', V.ref a = .ref a' ∧ DGet H a' (.int i) (some v') ∧ R v' := ⟨a, v, rfl, by rw [← hv]; exact DGet.k (k := .inl i) e, h⟩
theorem w_inI {H : Hp} {a : Addr} {kvs : List (Key × V)} {i : Int} {R : Option V → Prop} (e : H a = some (.dK kvs)) (h : R (valV kvs (.inl i))) : ∃ a' o, V.ref a = .ref a' ∧ DGet H a' (.int i) o ∧ R o := ⟨a, _, rfl, DGet.k (k := .inl i) e, h⟩
theorem w_din {σ : L2.St} {H : Hp} {Q : VK} {td ty : TE} (h : ty σ H fun y H1 => td σ H1 fun x H2 => ∃ a o, x = .ref a ∧ DGet H2 a y o ∧ Q (.bl o.isSome) H2) : tDIn ty td σ H Q := h
theorem w_dni {σ : L2.St} {H : Hp} {Q : VK} {td ty : TE} (h : ty σ H fun y H1 => td σ H1 fun x H2 => ∃ a o, x = .ref a ∧ DGet H2 a y o ∧ Q (.bl (!o.isSome)) H2) : tDNotIn ty td σ H Q := h
theorem w_dg {σ : L2.St} {H : Hp} {Q : VK} {td ty : TE} (h : td σ H fun x H1 => ty σ H1 fun y H2 => ∃ a v, x = .ref a ∧ DGet H2 a y (some v) ∧ Q v H2) : tDGet td ty σ H Q := h
theorem w_dn {σ : L2.St} {H : Hp} {Q : VK} (h : ∀ p, New H p → Q (.ref p) (upd H p (.dK []))) : tDNewK σ H Q := h
/-- a dict with number keys: what it holds -/
def Holds (kvs : List (Key × V)) (S : List Nat) (g : Nat → V) : Prop := kvs.length ≤ S.length ∧ ∀ d : Nat, valV kvs (.inl (d : Int)) = if d ∈ S then some (g d) else none
theorem Holds.nil {g : Nat → V} : Holds [] [] g := ⟨Nat.le_refl _, fun d => by simp [valV]⟩
theorem Holds.put {kvs : List (Key × V)} {S : List Nat} {g : Nat → V} (h : Holds kvs S g) (x : Nat) : Holds (putK kvs (.inl (x : Int)) (g x)) (S ++ [x]) g := by
  refine ⟨by have := putK_len (kvs := kvs) (k := .inl (x : Int)) (v := g x); have := h.1; simp; omega, fun d => ?_⟩
  rw [valV_put, h.2]
  by_cases e : d = x
  · subst e; simp
  · have : ¬ ((.inl (d : Int) : Key) = .inl (x : Int)) := fun z => e (by have := Sum.inl.inj z; omega)
    rw [if_neg this]
    simp [e]
theorem lc_r0 {m : Int} {n : Nat} {g : TG} {tt : TT} {te : TE} {vs : List Nat} {σ : L2.St} {H1 : Hp} {D : Addr} {Qd : Hp → Prop} (hm : m = n) (Pv : Nat → Hp → Prop) (h0 : Pv 0 (upd H1 D (.lst [])))
    (hs : ∀ i H, i < n → Pv i H → g (.int (i : Nat)) (wipe σ vs) H fun σ2 H2 => wipe σ2 vs = wipe σ vs ∧ tt σ2 H2 fun b H3 =>
      if b = true then te σ2 H3 fun y H4 => ∃ acc, H4 D = some (.lst acc) ∧ acc.length < sizeLine ∧ Pv (i + 1) (upd H4 D (.lst (acc ++ [y]))) else Pv (i + 1) H3) (hd : ∀ H, Pv n H → Qd H) :
    ∃ W : Nat → Nat → Hp → Prop, (∃ m, W 0 m (upd H1 D (.lst []))) ∧ ∀ i k H, W i k H →
      ((Itr 0 m.toNat).stop i H ∧ Qd H) ∨ ((Itr 0 m.toNat).go i H ∧ ∃ Nx : Hp → Prop, (∀ H', Nx H' → ∃ m', m' < k ∧ W (i + 1) m' H') ∧ ∀ x H', (Itr 0 m.toNat).yld i H x H' → g x (wipe σ vs) H' fun σ2 H2 => wipe σ2 vs = wipe σ vs ∧ tt σ2 H2 fun b H3 =>
        if b = true then te σ2 H3 fun y H4 => ∃ acc, H4 D = some (.lst acc) ∧ acc.length < sizeLine ∧ Nx (upd H4 D (.lst (acc ++ [y]))) else Nx H3) := by
  subst hm
  rw [Int.toNat_natCast]
  exact lc_range (lo := 0) Pv h0 (fun i H hi hp => by rw [Int.zero_add]; exact hs i H hi hp) hd
theorem w_acc {H : Hp} {D : Addr} {acc : List V} {R : List V → Prop} (h1 : H D = some (.lst acc)) (h2 : acc.length < sizeLine) (h : R acc) : ∃ acc', H D = some (.lst acc') ∧ acc'.length < sizeLine ∧ R acc' := ⟨acc, h1, h2, h⟩
/-! ### enumerate -/
theorem for_enumX {K : PySem.W.Frag} {a : Addr} {xs : List V} {g : TG} {tb : TS} {D : Ends} {σ : L2.St} {H : Hp} (Pv : Nat → L2.St → Hp → Prop) (h0 : Pv 0 σ H) (hl : ∀ i σ H, i ≤ xs.length → Pv i σ H → SqL K H a xs)
    (hs : ∀ i x σ H p, xs[i]? = some x → Pv i σ H → New H p → g (.ref p) σ (upd H p (.tup [.int (i : Nat), x])) fun σ2 H2 => tb { D with nx := Pv (i + 1), ct := Pv (i + 1), bk := D.nx } σ2 H2) (hd : ∀ σ H, Pv xs.length σ H → D.nx σ H) :
    ∃ W : Nat → Nat → L2.St → Hp → Prop, (∃ m, W 0 m σ H) ∧ ∀ i m σ H, W i m σ H →
      ((Ite K a).stop i H ∧ D.nx σ H) ∨ ((Ite K a).go i H ∧ ∃ N : L2.St → Hp → Prop, (∀ σ' H', N σ' H' → ∃ m', m' < m ∧ W (i + 1) m' σ' H') ∧ ∀ x H', (Ite K a).yld i H x H' → g x σ H' fun σ2 H2 => tb { D with nx := N, ct := N, bk := D.nx } σ2 H2) := by
  refine ⟨fun i m σ H => i + m = xs.length ∧ Pv i σ H, ⟨xs.length, by omega, h0⟩, fun i m σ H hW => ?_⟩
  obtain ⟨e, p⟩ := hW
  have q := hl i σ H (by omega) p
  cases m with
  | zero =>
    have e2 : i = xs.length := by omega
    subst e2
    exact .inl ⟨⟨xs, q, Nat.le_refl _⟩, hd σ H p⟩
  | succ m =>
    have hi : i < xs.length := by omega
    refine .inr ⟨⟨xs, xs[i], q, List.getElem?_eq_getElem hi⟩, Pv (i + 1), fun σ' H' h => ⟨m, by omega, by omega, h⟩, fun x H' hy => ?_⟩
    obtain ⟨T, y, rfl, nT, rfl, hx⟩ := hy
    exact hs i y σ H T (hx xs q) p nT
theorem w_enum {σ : L2.St} {H : Hp} {K : PySem.W.Frag} {ta : TA} {R : It → Hp → Prop} (h : ta σ H fun vs H1 => ∃ a xs, vs = [.ref a] ∧ SqL K H1 a xs ∧ R (Ite K a) H1) : iEnum K ta σ H R := h
theorem w_enq {H : Hp} {K : PySem.W.Frag} {p : Addr} {xs : List V} {R : Addr → Prop} (hs : SqL K H p xs) (h : R p) : ∃ a xs, [V.ref p] = [.ref a] ∧ SqL K H a xs ∧ R a := ⟨p, xs, rfl, hs, h⟩

/-! ### rules that name the written part -/
section
variable {X : Cx}
theorem ix_listK (K : PySem.W.Frag) (hK : X.K = K := by rfl) : IxR X (rIxL K) := by subst hK; exact ix_list
theorem ix_tupK (K : PySem.W.Frag) (hK : X.K = K := by rfl) : IxR X (rIxT K) := by subst hK; exact ix_tup
theorem ix_seqK (K : PySem.W.Frag) (hK : X.K = K := by rfl) : IxR X (rIx K) := by subst hK; exact ix_seq
theorem sl_listK (K : PySem.W.Frag) (hK : X.K = K := by rfl) : SlR X (rSlL K) := by subst hK; exact sl_list
def rLenK (K : PySem.W.Frag) : List V → Hp → VK → Prop := fun xs H Q => ∃ p ys, xs = [.ref p] ∧ (SqL K H p ys ∨ SqT K H p ys) ∧ Q (.int ys.length) H
theorem call_lenK (K : PySem.W.Frag) (hK : X.K = K := by rfl) : CallR X (.builtin "len") (rLenK K) := by subst hK; exact call_len_seq
def rListK (K : PySem.W.Frag) : List V → Hp → VK → Prop := fun xs H Q => ∃ p ys, xs = [.ref p] ∧ (SqL K H p ys ∨ SqT K H p ys) ∧ ∀ l, H l = none → Q (.ref l) (upd H l (.lst ys))
theorem call_listK (K : PySem.W.Frag) (hK : X.K = K := by rfl) : CallR X (.type "list") (rListK K) := by subst hK; exact call_list_of
theorem call_isiK' (K : PySem.W.Frag) (hK : X.K = K := by rfl) : CallR X (.builtin "isinstance") (rIsi K) := by subst hK; exact call_isi
theorem cr_sumK (K : PySem.W.Frag) (hc : X.calm = true) (hK : X.K = K := by rfl) : CallR X (.builtin "sum") (rSum K) := by subst hK; exact cr_sum hc
theorem cr_maxK (K : PySem.W.Frag) (hc : X.calm = true) (hK : X.K = K := by rfl) : CallR X (.builtin "max") (rMax K) := by subst hK; exact cr_max hc
theorem cr_minK (K : PySem.W.Frag) (hc : X.calm = true) (hK : X.K = K := by rfl) : CallR X (.builtin "min") (rMin K) := by subst hK; exact cr_min hc
theorem cr_allK (K : PySem.W.Frag) (hc : X.calm = true) (hK : X.K = K := by rfl) : CallR X (.builtin "all") (rAll K) := by subst hK; exact cr_all hc
theorem cr_anyK (K : PySem.W.Frag) (hc : X.calm = true) (hK : X.K = K := by rfl) : CallR X (.builtin "any") (rAny K) := by subst hK; exact cr_any hc
theorem cr_sortedIK (K : PySem.W.Frag) (hK : X.K = K := by rfl) : CallR X (.builtin "sorted") (rSortedI K) := by subst hK; exact cr_sortedI
theorem op_eqDK (K : PySem.W.Frag) (hu : X.A.units + 64 < cLine) (hK : X.K = K := by rfl) : OpR X (compareOp .Eq) (rEqD K) := by subst hK; exact op_eqD hu
theorem op_neDK (K : PySem.W.Frag) (hu : X.A.units + 64 < cLine) (hK : X.K = K := by rfl) : OpR X (compareOp .NotEq) (rNeD K) := by subst hK; exact op_neD hu
theorem op_inK (K : PySem.W.Frag) (hK : X.K = K := by rfl) : OpR X (compareOp .In) (rIn K false) := by subst hK; exact op_in_seq
theorem op_notInK (K : PySem.W.Frag) (hK : X.K = K := by rfl) : OpR X (compareOp .NotIn) (rIn K true) := by subst hK; exact op_notIn_seq
theorem mt_indexK (K : PySem.W.Frag) (hK : X.K = K := by rfl) : MtR X "list.index" (rIndex K) := by subst hK; exact mt_index
theorem w_lenK {K : PySem.W.Frag} {H : Hp} {Q : VK} {p : Addr} {xs : List V} (hs : SqL K H p xs) (h : Q (.int xs.length) H) : rLenK K [.ref p] H Q := ⟨p, xs, rfl, .inl hs, h⟩
theorem w_lenTK {K : PySem.W.Frag} {H : Hp} {Q : VK} {p : Addr} {xs : List V} (hs : SqT K H p xs) (h : Q (.int xs.length) H) : rLenK K [.ref p] H Q := ⟨p, xs, rfl, .inr hs, h⟩
theorem w_listK {K : PySem.W.Frag} {H : Hp} {Q : VK} {p : Addr} {xs : List V} (hs : SqL K H p xs) (h : ∀ l, New H l → Q (.ref l) (upd H l (.lst xs))) : rListK K [.ref p] H Q := ⟨p, xs, rfl, .inl hs, h⟩
end
section
variable {X : Cx} {e o : Expr} {f name : Str} {pos apos cpos : Pos} {ta to : TE} {t : TA} {es : List Expr}
theorem pe_fldK (K : PySem.W.Frag) (he : PE X e ta) (hb : attributeBase e f X.env (eval e X.env) = eval e X.env) (hK : X.K = K := by rfl) : PE X (.Attribute e f pos) (tFld K ta f) := by subst hK; exact pe_fld he hb
theorem pe_bmK (K : PySem.W.Frag) {T : String} {r : V → List V → Hp → VK → Prop} (h : PE X (.Call (.Attribute o name apos) es [] cpos) (tBM X.K T r to t)) (hK : X.K = K := by rfl) : PE X (.Call (.Attribute o name apos) es [] cpos) (tBM K T r to t) := by subst hK; exact h
theorem pe_bm0K (K : PySem.W.Frag) {T : String} {r : V → List V → Hp → VK → Prop} (h : PE X (.Call (.Attribute o name apos) es [] cpos) (tBM0 X.K T r to)) (hK : X.K = K := by rfl) : PE X (.Call (.Attribute o name apos) es [] cpos) (tBM0 K T r to) := by subst hK; exact h
theorem pi_listK (K : PySem.W.Frag) {tg l : Expr} {tl : TE} (hl : PE X l tl) (hK : X.K = K := by rfl) : PI X tg l (iList K tl) := by subst hK; exact pi_list hl
theorem pi_tupK (K : PySem.W.Frag) {tg l : Expr} {tl : TE} (hl : PE X l tl) (hK : X.K = K := by rfl) : PI X tg l (iTup K tl) := by subst hK; exact pi_tup hl
theorem pg_tupK (K : PySem.W.Frag) {es : List Expr} {k n : Nat} {t : TGs} (hc : X.calm = true) (h : PGs X es t) (hn : (assignEach es X.env).length = n := by rfl) (hst : (assignEach es X.env).findIdx? (·.1) = none := by rfl) (hK : X.K = K := by rfl) : PG X (.Tuple es k pos) (gTup K n t) := by subst hK; exact pg_tup hc h hn hst
end
/-! ### list.insert -/
theorem w_ins {H : Hp} {p : Addr} {xs : List V} {m : Int} {v : V} {R : Addr → List V → Int → V → Prop} (hp : H p = some (.lst xs)) (hl : xs.length < sizeLine) (h0 : 0 ≤ m) (h1 : m < 2 ^ 63) (h : R p xs m v) :
    ∃ (l : Addr) (ys : List V) (i : Int) (y : V), V.ref p = .ref l ∧ [V.int m, v] = [.int i, y] ∧ H l = some (.lst ys) ∧ ys.length < sizeLine ∧ 0 ≤ i ∧ i < 2 ^ 63 ∧ R l ys i y := ⟨p, xs, m, v, rfl, rfl, hp, hl, h0, h1, h⟩

/-! ### the head by facts: what is asked of the heap behind the top -/
section
open PySem PySem.Spec PyProof.Rows L2
def stQ (g : Addr → Option Obj) (f : Obj → List Addr) (as : List Addr) : List Addr := as.flatMap fun a => match g a with
  | some o => f o
  | none => []
def rfF (o : Obj) : List Addr := match o.data with
  | .func fd => He.refV fd.code ++ He.refV fd.defaults
  | .cls cd => [cd.ns]
  | _ => []
def rfD (o : Obj) : List Addr := match o.data with
  | .dict es _ => es.toList.flatMap fun e => He.refV e.val
  | _ => []
def asQ (g : Addr → Option Obj) : List Addr := mainGlobals :: (stQ g rfD [mainGlobals] ++ (stQ g rfF (stQ g rfD [mainGlobals]) ++ (stQ g rfD (stQ g rfF (stQ g rfD [mainGlobals])) ++ stQ g rfF (stQ g rfD (stQ g rfF (stQ g rfD [mainGlobals]))))))
def obsK (fs : PySem.W.Frag → List Bool) (fn : List He.DefD) (K : PySem.W.Frag) : He.AlD := ((fs K).all (fun b => b) && fn.all fun d => d.ok K, fn.map fun d => He.fnW K d.at_)
def valK (fn : List He.DefD) : He.AlD := (true, fn.map He.DefD.val)
def SaysK (fs : PySem.W.Frag → List Bool) (fn : List He.DefD) (K : PySem.W.Frag) : Prop := obsK fs fn K = valK fn
def obsKG (fs : PySem.W.Frag → List Bool) (fn : List He.DefD) (g : Addr → Option Obj) : He.AlD := obsK fs fn (He.frG g (asQ g))
def hookK (fs : PySem.W.Frag → List Bool) (fn : List He.DefD) : PySem.W.Hook where
  α := He.AlD
  obs := fun s => obsKG fs fn s.heap.get?
  val := fun _ => valK fn
  says := fun _ h => ∃ K : PySem.W.Frag, K.In h ∧ SaysK fs fn K
  of := fun _ _ e => ⟨_, He.frG_in, e⟩
  keeps := fun _ _ _ ⟨K, hK, c⟩ k => ⟨K, PySem.W.Frag.In.keeps hK k, c⟩
theorem obsKG_eq {fs : PySem.W.Frag → List Bool} {fn : List He.DefD} {g : Addr → Option Obj} {s : Shared} (h : ∀ a, g a = s.heap.get? a) : obsKG fs fn g = (hookK fs fn).obs s := by
  have e : g = s.heap.get? := funext h
  rw [e] <;> rfl
theorem SaysK.fact {fs : PySem.W.Frag → List Bool} {fn : List He.DefD} {K : PySem.W.Frag} (c : SaysK fs fn K) {b : Bool} (i : Nat) (h : (fs K)[i]? = some b) : b = true := by
  have c1 := (He.ba (show ((fs K).all (fun b => b) && fn.all fun d => d.ok K) = true from congrArg (fun z : He.AlD => z.1) c)).1
  exact List.all_eq_true.mp c1 b (List.mem_of_getElem? h)
theorem SaysK.is {fs : PySem.W.Frag → List Bool} {fn : List He.DefD} {K : PySem.W.Frag} (c : SaysK fs fn K) {p : Prop} [Decidable p] (i : Nat) (h : (fs K)[i]? = some (decide p)) : p := of_decide_eq_true (c.fact i h)
theorem SaysK.def_ {fs : PySem.W.Frag → List Bool} {fn : List He.DefD} {K : PySem.W.Frag} (c : SaysK fs fn K) (i : Nat) {d : He.DefD} (h : fn[i]? = some d) : ∃ fd, FunD K d.name d.qual d.params d.body d.scope (d.dvs K) (d.kws K) (He.fAd K d.at_) fd := by
  have c2 := (He.ba (show ((fs K).all (fun b => b) && fn.all fun d => d.ok K) = true from congrArg (fun z : He.AlD => z.1) c)).2
  have e : fn.map (fun d => He.fnW K d.at_) = fn.map He.DefD.val := congrArg (fun z : He.AlD => z.2) c
  have e2 : (fn.map fun d => He.fnW K d.at_)[i]? = (fn.map He.DefD.val)[i]? := by rw [e]
  rw [List.getElem?_map, List.getElem?_map, h] at e2
  exact He.DefD.funD (Option.some.inj e2) (List.all_eq_true.mp c2 d (List.mem_of_getElem? h))
theorem fnl_of {K : PySem.W.Frag} {x q : Str} {ps : Arguments} {b : List Stmt} {sc : Scope} {f : Addr} {fd : FuncData} (D : FunD K x q ps b sc [] [] f fd) :
    ∃ oc od kV doc pm an cdv ct osl, K.lookup f = some ⟨oc, od, .func (PySem.W.fnOf x q ps b sc .none kV doc pm an cdv ct), osl⟩ ∧ PySem.W.codeIn K cdv q = true ∧ PySem.W.keepIn K (.ref f) = true := by
  obtain ⟨oc, od, dV, kV, doc, pm, an, cdv, ct, osl, rfl, lk, hc, hd, _⟩ := D.ex
  rcases hd with ⟨_, rfl⟩ | ⟨z, _⟩
  · exact ⟨oc, od, kV, doc, pm, an, cdv, ct, osl, lk, hc, D.kp⟩
  · exact absurd rfl z
theorem fnd0_of {K : PySem.W.Frag} {x q : Str} {ps : Arguments} {b : List Stmt} {sc : Scope} {f : Addr} {fd : FuncData} (D : FunD K x q ps b sc [.non] [] f fd) :
    ∃ oc od T kV doc pm an cdv ct osl oc2 od2 n2 sl2, K.lookup f = some ⟨oc, od, .func (PySem.W.fnOf x q ps b sc (.ref T) kV doc pm an cdv ct), osl⟩ ∧ K.lookup T = some ⟨oc2, od2, .seq #[Value.none] n2, sl2⟩ ∧ PySem.W.codeIn K cdv q = true ∧ PySem.W.keepIn K (.ref f) = true := by
  obtain ⟨oc, od, dV, kV, doc, pm, an, cdv, ct, osl, rfl, lk, hc, hd, _⟩ := D.ex
  rcases hd with ⟨z, _⟩ | ⟨_, T, o, its, n, rfl, hT, ho, hv⟩
  · cases z
  · obtain ⟨oc2, od2, dt2, sl2⟩ := o
    cases hv with
    | cons r hv =>
      cases hv
      cases r
      simp only at ho
      subst ho
      exact ⟨oc, od, T, kV, doc, pm, an, cdv, ct, osl, oc2, od2, n, sl2, lk, hT, hc, D.kp⟩
theorem fndi_of {K : PySem.W.Frag} {x q : Str} {ps : Arguments} {b : List Stmt} {sc : Scope} {f : Addr} {fd : FuncData} {i : Int} (D : FunD K x q ps b sc [.int i] [] f fd) :
    ∃ oc od T kV doc pm an cdv ct osl oc2 od2 n2 sl2 tk, K.lookup f = some ⟨oc, od, .func (PySem.W.fnOf x q ps b sc (.ref T) kV doc pm an cdv ct), osl⟩ ∧ K.lookup T = some ⟨oc2, od2, .seq #[Value.int i tk] n2, sl2⟩ ∧ PySem.W.codeIn K cdv q = true ∧ PySem.W.keepIn K (.ref f) = true := by
  obtain ⟨oc, od, dV, kV, doc, pm, an, cdv, ct, osl, rfl, lk, hc, hd, _⟩ := D.ex
  rcases hd with ⟨z, _⟩ | ⟨_, T, o, its, n, rfl, hT, ho, hv⟩
  · cases z
  · obtain ⟨oc2, od2, dt2, sl2⟩ := o
    cases hv with
    | cons r hv =>
      cases hv
      obtain ⟨tk, rfl⟩ := r
      simp only at ho
      subst ho
      exact ⟨oc, od, T, kV, doc, pm, an, cdv, ct, osl, oc2, od2, n, sl2, tk, lk, hT, hc, D.kp⟩
theorem intK_ok {K : PySem.W.Frag} {x : Str} {i : Int} (c : (He.Fa.int x i).ok K = true) : ∃ t, PySem.W.nsIn K mainGlobals x = some (some (.int i t)) := by
  have c2 : (match PySem.W.nsIn K mainGlobals x with
    | some (some (.int j _)) => decide (j = i)
    | _ => false) = true := c
  cases e : PySem.W.nsIn K mainGlobals x with
  | none => rw [e] at c2; cases c2
  | some o =>
    rw [e] at c2
    cases o with
    | none => cases c2
    | some v =>
      cases v with
      | int j t =>
        have ej : j = i := of_decide_eq_true c2
        rw [ej]
        exact ⟨t, rfl⟩
      | _ => cases c2
theorem strK_ok {K : PySem.W.Frag} {x z : Str} (c : (He.Fa.str x z).ok K = true) : ∃ t, PySem.W.nsIn K mainGlobals x = some (some (.str z t)) := by
  have c2 : (match PySem.W.nsIn K mainGlobals x with
    | some (some (.str y _)) => decide (y = z)
    | _ => false) = true := c
  cases e : PySem.W.nsIn K mainGlobals x with
  | none => rw [e] at c2; cases c2
  | some o =>
    rw [e] at c2
    cases o with
    | none => cases c2
    | some v =>
      cases v with
      | str y t =>
        have ej : y = z := of_decide_eq_true c2
        rw [ej]
        exact ⟨t, rfl⟩
      | _ => cases c2
def slB : List (Option Value) → Bool
  | [_, _, _, _, some (.builtin n), _] => decide (n = "ValueError.__new__")
  | _ => false
theorem slB_ok {sl : List (Option Value)} (h : slB sl = true) : ∃ m0 m1 m2 m3 m5, sl = [m0, m1, m2, m3, some (.builtin "ValueError.__new__"), m5] := by
  unfold slB at h
  split at h
  · have h := of_decide_eq_true h
    subst h
    exact ⟨_, _, _, _, _, rfl⟩
  · cases h
/-- a class object of an exception -/
def excB (K : PySem.W.Frag) (C : Addr) (bm : List Value) : Bool := match K.lookup C with
  | some ⟨cl, _, .cls cd, sl⟩ => decide (cl = .type "type") && (decide (cd.mro = .ref C :: bm) && (cd.hasDict && (!cd.hasDel && slB sl.toList)))
  | _ => false
theorem excB_ok {K : PySem.W.Frag} {C : Addr} {bm : List Value} (h : excB K C bm = true) : ∃ nm q N bs sn su ab col dd m0 m1 m2 m3 m5, K.lookup C = some (excClassObj nm q C N bs bm true sn su ab col dd m0 m1 m2 m3 m5 "ValueError.__new__") := by
  unfold excB at h
  cases e : K.lookup C with
  | none => rw [e] at h; cases h
  | some o =>
    rw [e] at h
    obtain ⟨cl, dd, dt, sl⟩ := o
    cases dt with
    | cls cd =>
      obtain ⟨g1, r1⟩ := He.ba h
      obtain ⟨g2, r2⟩ := He.ba r1
      obtain ⟨g3, r3⟩ := He.ba r2
      obtain ⟨g4, g5⟩ := He.ba r3
      obtain ⟨sl⟩ := sl
      obtain ⟨m0, m1, m2, m3, m5, rfl⟩ := slB_ok g5
      obtain ⟨c1, c2, c3, c4, c5, c6, c7, c8, c9, c10, c11⟩ := cd
      have e1 : cl = .type "type" := of_decide_eq_true g1
      have e2 : c3 = .ref C :: bm := of_decide_eq_true g2
      have e3 : c6 = true := g3
      have e4 : (!c11) = true := g4
      have e4 : c11 = false := by simpa using e4
      subst e1 e2 e3 e4
      exact ⟨_, _, _, _, _, _, _, _, _, _, _, _, _, _, rfl⟩
    | _ => cases h
/-- the end, the written part told by a Hook -/
theorem walk_ofK {l : PySem.W.OpenLaw} {n k : Nat} {q : Program} {loose : List Str} {XP : (Str → Option Value) → Heap → Prop} {YP : World → Heap → Prop} {d : DefRec} {sp : PySem.W.Frag → Sp}
    (hn : l.most = some n) (hn2 : n ≤ sizeLine) (hdf : d.params.defaults = []) (hr : Room k callerA)
    (F : ∀ (w : World) (mg : Str → Option Value) (fa : Addr) (h : Heap), YP w h → h.Ns mainGlobals mg → mg d.name = some (.ref fa) → ∃ K : PySem.W.Frag, K.In h ∧
      ∃ fd : FuncData, (∀ (s : Shared) (u : Value), BindsTo s fd ⟨[u], []⟩ [("script", u)]) ∧ ∀ base : Heap, K.In base → base.Ns mainGlobals mg → FnOk l.prog w K mg base CX0 k fa fd ["script"] (sp K))
    (hsp : ∀ (K : PySem.W.Frag) (H : Hp) (a : Addr) (ns : List Int), ns.length ≤ n → (∀ z ∈ ns, Builtin.Int.intBits z ≤ 1048576) → LsE K H a (ns.map V.int) → sp K [.ref a] H (fun v _ => v = .bl true) fun _ _ _ => False) :
    PySem.W.WalkO q loose XP YP l.row.toRowW d [] (fun f vs => PySem.call f vs) := by
  refine Att.attach_callB hn hdf fun w s₀ s₁ mg mb fa o pm cd doc a vs ns G Y ho hd hcd hmg hobj hints hlen hbits hg => ?_
  obtain ⟨K, KX, fd, hb, hF⟩ := F w mg fa _ Y G.T.g hmg
  refine law_call KX G.T.g G.T.b G.T.builtins G.T.nolimit hg hobj hints (Nat.le_trans hlen hn2) hr hF hb (fun H hO hS => hsp _ H a ns hlen hbits ?_) fun _ _ _ h => h
  rcases hS with h | ⟨ob, its, m, hk, h1, h2, h3, h4, h5⟩
  · exact .inl h
  · have e := KX a ob hk
    rw [hobj] at e
    cases e
    cases h3
    exact .inr ⟨vs, _, hk, by simpa using h5, by rw [List.length_map]; exact Nat.le_trans hlen hn2⟩
end

/-! ### exceptions -/
theorem Has.mkX {P : Program} {w : World} {K : PySem.W.Frag} {mg : Str → Option Value} {base : Heap} {x qual : Str} {ps N : List Str} {sp : Sp} {k : Nat} {f : Addr} {fd : FuncData} {st : Stmt} (F : Fun K x qual st f fd) (gf : mg x = some (.ref f)) (b : Binds K fd ps []) (S : FnScope N ps (defScope st)) (len : ∀ vs H Q E, sp vs H Q E → vs.length = ps.length)
    (hbody : ∀ (cdv : Value) (A : Around) (outer : List Env) (s : Shared) (H : Hp) (vs : List V) (Q : VK) (E : XK), Room k (A.deeper (envOfC qual (defScope st) s.heap.objs.size f cdv)) → sp vs H Q E →
      ∃ t, PSs (cxOf (L2.CX P w) P w K mg base N qual (defScope st) f cdv A outer s H E) (defBody st) t ∧ t { nx := fun _ H' => Q .non H', rt := Q } (start N vs) H) : Has P w K mg base (L2.CX P w) (k + 1) x ps sp :=
  ⟨f, fd, F.okX S len hbody, gf, F.kp, b⟩
theorem pe_fnS {X : Cx} {W : WX} {k : Nat} {ps : List Str} {sp : Sp} {x : Str} {p pos : Pos} {e : Expr} {es : List Expr} {t : TA} (tk : Takes X W) (h : Has X.prog X.w X.K X.mg X.base (L2.CX X.prog X.w) k x ps sp) (hr : Room k X.A) (hg : Gl X x) (ha : PA X (e :: es) t) (hdb : (x == ("__debug__" : Str)) = false := by decide)
    (he : starEach (e :: es) X.env = (false, eval e X.env) :: starEach es X.env := by rfl) (hpl : (backTo pos (starEach es X.env)).any (·.1) = false := by rfl) :
    PE X (.Call (.Name x p) (e :: es) [] pos) (tCallS sp (WE W) t) := by
  obtain ⟨f, fd, F, gf, kp, b⟩ := h.ex
  exact pe_callS F hr hg gf kp b (fun σ => passAt tk σ) ha hdb he hpl
theorem pe_fnL {X : Cx} {k : Nat} {ps : List Str} {sp : Sp} {x : Str} {p pos : Pos} {e : Expr} {es : List Expr} {t : TA} (h : Has X.prog X.w X.K X.mg X.base (L2.CX X.prog X.w) k x ps sp) (hr : Room k X.A) (hg : Gl X x) (ha : PA X (e :: es) t) (hdb : (x == ("__debug__" : Str)) = false := by decide)
    (he : starEach (e :: es) X.env = (false, eval e X.env) :: starEach es X.env := by rfl) (hpl : (backTo pos (starEach es X.env)).any (·.1) = false := by rfl) :
    PE X (.Call (.Name x p) (e :: es) [] pos) (tCall sp [] E0 t) := by
  obtain ⟨f, fd, F, gf, kp, b⟩ := h.ex
  exact pe_call F hr hg gf kp b .nil passL ha hdb he hpl
theorem w_callS {σ : L2.St} {H : Hp} {Q : VK} {tl : TA} {sp : Sp} {E : L2.St → XK} (h : tl σ H fun vs H1 => sp vs H1 Q (E σ)) : tCallS sp E tl σ H Q := h
/-- facts of an exception class of the program's own -/
structure ExF (K : PySem.W.Frag) (C : Addr) : Prop where
  kp : PySem.W.keepIn K (.ref C) = true
  be : PySem.W.subIn K (.ref C) (.type "BaseException") = some true
  ty : PySem.W.typeIn K (.ref C) = some (.type "type")
  cl : PySem.W.isClsIn K C = true
  hd : PySem.W.hasDictIn K C = true
  ga : PySem.W.findIn K (.ref C) "__getattribute__" = some (some (.builtin "BaseException.__getattribute__"))
  gg : PySem.W.findIn K (.ref C) "__getattr__" = some none
  oc : PySem.W.findIn K (.ref C) "__class__" = some (some (.builtin "object.__class__"))
  om : PySem.W.mroIn K C (.type "object") = some true
  sv : PySem.W.subIn K (.ref C) (.type "ValueError") = some true
  ss : PySem.W.subIn K (.ref C) (.ref C) = some true
  og : PySem.W.specialIn K (.builtin "object.__class__") "__get__" = some (some (.builtin "getset_descriptor.__get__"))
  ot : PySem.W.takesIn K (.builtin "object.__class__") = some true
theorem ExF.exm {K : PySem.W.Frag} {C D : Addr} {b : Bool} (F : ExF K D) (h : PySem.W.subIn K (.ref C) (.ref D) = some b) : PySem.W.exmOne K (.ref C) (.ref D) = some b := PySem.W.exm_ref F.be F.hd F.ty h
theorem ExF.kit {K : PySem.W.Frag} {C D : Addr} {b : Bool} (F : ExF K C) (G : ExF K D) (h : PySem.W.subIn K (.ref C) (.ref D) = some b) : PySem.W.kitOne K (.ref C) (.ref D) = some b := kit_own G.cl G.ty h F.ss
theorem ExF.kitV {K : PySem.W.Frag} {C : Addr} (F : ExF K C) : PySem.W.kitOne K (.ref C) (.type "ValueError") = some true := by
  unfold PySem.W.kitOne
  rw [if_neg (by intro z; rw [beq_iff_eq] at z; cases z)]
  show (if PySem.W.kitMeta "ValueError" = true then PySem.W.subIn K (.ref C) (.type "ValueError") else none) = some true
  rw [if_pos (by decide +kernel), F.sv]
theorem ExF.xf {K : PySem.W.Frag} {C : Addr} (F : ExF K C) : XfC K C := ⟨F.ga, F.gg, F.be, F.hd⟩
/-- isinstance(e, c), e the exception that the suite holds, with its dict or without -/
def rIsX (K : PySem.W.Frag) (a : Addr) (cls : Value) (d : Option Addr) : List V → Hp → VK → Prop := fun xs H Q => ∃ (D : Addr) (c : V) (cv : Value) (b : Bool), cls = .ref D ∧ ExF K D ∧ (d = none ∨ ∃ dd fs, d = some dd ∧ H dd = some (.xd fs)) ∧ xs = [.ref a, c] ∧ (∀ u, RelV c u → u = cv) ∧ PySem.W.kitOne K (.ref D) cv = some b ∧ Q (.bl b) H
theorem call_isX {X : Cx} {a : Addr} {cls : Value} {d : Option Addr} {oe : Obj} {pn : List (Addr × Obj)} (K : PySem.W.Frag) (hz : Zc cls d oe) (hf : ∃ vs, oe.data = .fields vs) (hK : X.K = K := by rfl) : CallR (X.suite a ((a, oe) :: pn)) (.builtin "isinstance") (rIsX K a cls d) := by
  subst hK
  intro pins s σ H xs us Q I r h
  obtain ⟨D, c, cv, b, rfl, F, hd, rfl, hcv, e, q⟩ := h
  obtain _ | ⟨rx, rr⟩ := r
  obtain _ | ⟨rt, rr⟩ := rr
  cases rr
  cases rx
  have ec := hcv _ rt
  subst ec
  have hget := (I.pin (a, oe) (List.mem_append.mpr (.inl List.mem_cons_self))).1
  obtain ⟨vs, hv⟩ := hf
  have hcl : (PySem.W.clsIn X.K D).isSome = true := F.cl
  have J : ∃ od, PySem.W.InstAt s.heap a oe D od := by
    rcases hd with rfl | ⟨dd, fs, rfl, hdd⟩
    · exact ⟨none, hget, hz.1, by unfold PySem.W.notCls; rw [hv] <;> rfl, by rw [hz.2]; trivial⟩
    · obtain ⟨mA, hns, _⟩ : ObjOk X.prog X.w H s.heap dd (.xd fs) := I.hok dd _ hdd
      obtain ⟨od, ho, _⟩ := lookIn_ns hns
      exact ⟨some od, hget, hz.1, by unfold PySem.W.notCls; rw [hv] <;> rfl, by rw [hz.2]; exact ho⟩
  obtain ⟨od, J⟩ := J
  exact PySem.W.kia_one (PySem.W.kitx_exc hcl F.ga F.gg F.be F.oc F.og F.ot F.om) I.kIn J e (fun z => nomatch z) fun tk => ⟨.bl b, H, I.kept (t' := tk) fun _ _ z => z, rfl, q⟩
theorem w_isX {K : PySem.W.Frag} {H : Hp} {Q : VK} {a D E : Addr} {d : Option Addr} {b : Bool} (F : ExF K D) (G : ExF K E) (hs : PySem.W.subIn K (.ref D) (.ref E) = some b) (hd : d = none ∨ ∃ dd fs, d = some dd ∧ H dd = some (.xd fs)) (h : Q (.bl b) H) : rIsX K a (.ref D) d [.ref a, .ref E] H Q :=
  ⟨D, .ref E, .ref E, b, rfl, F, hd, rfl, fun _ r => r, F.kit G hs, h⟩
theorem w_isXV {K : PySem.W.Frag} {H : Hp} {Q : VK} {a D : Addr} {d : Option Addr} (F : ExF K D) (hd : d = none ∨ ∃ dd fs, d = some dd ∧ H dd = some (.xd fs)) (h : Q (.bl true) H) : rIsX K a (.ref D) d [.ref a, .ty "ValueError"] H Q :=
  ⟨D, .ty "ValueError", .type "ValueError", true, rfl, F, hd, rfl, fun _ r => r, F.kitV, h⟩
/-- an exception class whose __init__ is a def -/
structure HasXM (P : Program) (w : World) (K : PySem.W.Frag) (mg : Str → Option Value) (base : Heap) (k : Nat) (x : Str) (C : Addr) (ps : List Str) (sp : Sp) : Prop where
  oex : OexC K C
  ex : ∃ f fd, FnOk P w K mg base CX0 k f fd ps sp ∧ PySem.W.findIn K (.ref C) "__init__" = some (some (.ref f)) ∧ PySem.W.typeIn K (.ref f) = some (.type "function") ∧ mg x = some (.ref C) ∧ Binds K fd ps []
theorem pmk_xm {X : Cx} {x : Str} {C : Addr} {k : Nat} {ps : List Str} {sp : Sp} {e : Expr} {es : List Expr} {ta : TA} {p pos : Pos} (h : HasXM X.prog X.w X.K X.mg X.base k x C ps sp) (hr : Room (k + 1) X.A) (hg : Gl X x) (ha : PA X (e :: es) ta)
    (hdb : (x == ("__debug__" : Str)) = false := by decide) (he : starEach (e :: es) X.env = (false, eval e X.env) :: starEach es X.env := by rfl) (hpl : (backTo pos (starEach es X.env)).any (·.1) = false := by rfl) :
    PMk X (.Call (.Name x p) (e :: es) [] pos) (tMkO C sp [] ta) := by
  obtain ⟨f, fd, F, iC, tI, hm, b⟩ := h.ex
  exact pmk_oex h.oex iC tI F hr b .nil pass0 hg hm ha hdb he hpl
/-- the promise of an __init__ that keeps its argument as the field f -/
def spKeep (K : PySem.W.Frag) (C : Addr) : Sp := fun vs H Q _ => ∃ (a : Addr) (v : V), vs = [.ref a, v] ∧ OexC K C ∧ PySem.W.findIn K (.ref C) "at" = some none ∧ H a = some (exo a C none) ∧ ∀ d, H d = none → d ≠ a → Q .non (upd (upd H d (exd d [("at", v)])) a (exo a C (some d)))
/-- the raise of such an exception: its dict is new -/
theorem w_raiseK {K : PySem.W.Frag} {H : Hp} {C : Addr} {v : V} {Q : XK} (T : OexC K C) (n : PySem.W.findIn K (.ref C) "at" = some none) (h : ∀ d, New H d → Q (.ref C) (some d) (upd H d (.xd [("at", v)]))) :
    [v].length ≤ 1000 ∧ ∀ a, H a = none → spKeep K C (.ref a :: ([v] ++ [])) (upd H a (exo a C none)) (fun u H2 => u = .non ∧ ∃ (d : Addr) (fs : List (Str × V)), H2 a = some (exo a C (some d)) ∧ H2 d = some (exd d fs) ∧ H d = none ∧ Q (.ref C) (some d) (upd (del H2 a) d (.xd fs))) (fun _ _ _ => False) := by
  refine ⟨by show 1 ≤ 1000; decide, fun a na => ⟨a, v, rfl, T, n, upd_same, fun d nd hda => ⟨rfl, d, _, upd_same, by rw [upd_ne hda, upd_same], ?_, ?_⟩⟩⟩
  · rw [upd_ne hda] at nd
    exact nd
  · have nd' : H d = none := by rw [upd_ne hda] at nd; exact nd
    have e : upd (del (upd (upd (upd H a (exo a C none)) d (exd d [("at", v)])) a (exo a C (some d))) a) d (.xd [("at", v)]) = upd H d (.xd [("at", v)]) := by
      funext b
      by_cases hb : b = d
      · subst hb; rw [upd_same, upd_same]
      · rw [upd_ne hb, upd_ne hb]
        by_cases ha : b = a
        · subst ha; rw [del_same, na]
        · rw [del_ne ha, upd_ne ha, upd_ne hb, upd_ne ha]
    rw [e]
    exact h d nd'
theorem w_ost {K : PySem.W.Frag} {σ : L2.St} {H : Hp} {D : Ends} {to te : TE} {f : Str} (h : te σ H fun y H1 => to σ H1 fun x H2 => ∃ a C : Addr, x = .ref a ∧ OexC K C ∧ PySem.W.findIn K (.ref C) f = some none ∧
  ((H2 a = some (exo a C none) ∧ ∀ dx, H2 dx = none → dx ≠ a → D.nx σ (upd (upd H2 dx (exd dx [(f, y)])) a (exo a C (some dx)))) ∨
    ∃ (dx : Addr) (fs : List (Str × V)), H2 a = some (exo a C (some dx)) ∧ H2 dx = some (exd dx fs) ∧ fs.length ≤ 900 ∧ D.nx σ (upd H2 dx (exd dx ((f, y) :: fs))))) : tOst K f to te D σ H := h
theorem w_xf {σ : L2.St} {H : Hp} {Q : VK} {a C : Addr} {cls : Value} {d : Option Addr} {f : Str} {te : TE} (h : te σ H fun x H1 => x = .ref a ∧ cls = .ref C ∧ ∃ (dd : Addr) (fs : List (Str × V)) (v : V), d = some dd ∧ H1 dd = some (.xd fs) ∧ fs.lookup f = some v ∧ Q v H1) : tXf a cls d C f te σ H Q := h
theorem w_mko {σ : L2.St} {H : Hp} {C : Addr} {sp : Sp} {ta : TA} {Q : XK} (h : ta σ H fun vs H1 => vs.length ≤ 1000 ∧ ∀ a, H1 a = none → sp (.ref a :: (vs ++ [])) (upd H1 a (exo a C none))
  (fun v H2 => v = .non ∧ ∃ (d : Addr) (fs : List (Str × V)), H2 a = some (exo a C (some d)) ∧ H2 d = some (exd d fs) ∧ H1 d = none ∧ Q (.ref C) (some d) (upd (del H2 a) d (.xd fs))) (fun _ _ _ => False)) : tMkO C sp [] ta σ H Q := h

/-! ### steps of the reading -/
local macro_rules | `(tactic| walk_at "len") => `(tactic| (intro vs H Q E h; first | (obtain ⟨e, _⟩ := h; subst e; rfl) | (obtain ⟨_, e, _⟩ := h; subst e; rfl) | (obtain ⟨_, _, e, _⟩ := h; subst e; rfl) | (obtain ⟨_, _, _, e, _⟩ := h; subst e; rfl) | (obtain ⟨_, _, _, _, e, _⟩ := h; subst e; rfl) | (obtain ⟨_, _, _, _, _, e, _⟩ := h; subst e; rfl) | (obtain ⟨_, _, _, _, _, _, e, _⟩ := h; subst e; rfl) | (obtain ⟨_, _, _, _, _, _, _, e, _⟩ := h; subst e; rfl) | (obtain ⟨_, _, _, _, _, _, _, _, e, _⟩ := h; subst e; rfl) | (obtain ⟨_, _, _, _, _, _, _, _, _, e, _⟩ := h; subst e; rfl) | (obtain ⟨_, _, _, _, _, _, _, _, _, _, e, _⟩ := h; subst e; rfl) | (obtain ⟨_, _, _, _, _, _, _, _, _, _, _, e, _⟩ := h; subst e; rfl) | (obtain ⟨_, _, _, _, _, _, _, _, _, _, _, _, e, _⟩ := h; subst e; rfl) | (obtain ⟨_, _, _, _, _, _, _, _, _, _, _, _, _, e, _⟩ := h; subst e; rfl)))
/-- p ≠ q -/
local macro_rules | `(tactic| walk_at "ne1") => `(tactic| (refine ne_new (H := ?H) (o := ?o) ?a ?b; (case b => assumption); (case a => walk_at "hp")))
local macro_rules | `(tactic| walk_at "ne") => `(tactic| first
  | assumption | (apply Ne.symm; assumption) | walk_at "ne1" | (apply Ne.symm; walk_at "ne1") | fail)
/-- H p = some o -/
local macro_rules | `(tactic| walk_at "hp") => `(tactic| first
  | assumption
  | exact upd_same
  | (refine (upd_ne ?n).trans ?h; (case n => walk_at "ne"); (case h => walk_at "hp"))
  | (refine Same.get (H := ?H) ?s ?h; (case s => assumption); (case h => assumption)) | fail)
local macro_rules | `(tactic| walk_at "sq") => `(tactic| first
  | assumption
  | exact SqL.of (by walk_at "hp") | exact SqT.of (by walk_at "hp")
  | (refine Same.seq (H := ?H) ?s ?h; (case h => assumption); (case s => walk_at "same"))
  | (refine same_read (H := ?H) ?s ?h; (case h => assumption); (case s => walk_at "same")) | fail)
/-- a later new object was free ahead -/
local macro_rules | `(tactic| walk_at "fr") => `(tactic| first | assumption | (refine New.of (H' := ?H) ?n ?s; (case n => assumption); (case s => walk_at "same")) | fail)
/-- what was tracked stays -/
local macro_rules | `(tactic| walk_at "same") => `(tactic| first | assumption | exact Same.refl _ | (refine Same.new ?_ (by assumption); walk_at "same") | (refine Same.mut ?s ?n; (case n => walk_at "fr"); (case s => walk_at "same")) | (refine Same.trans (H1 := ?H1) ?a ?b; (case b => assumption); (case a => walk_at "same")) | fail)
local macro_rules | `(tactic| walk_at "side") => `(tactic| first | decide | omega | (with_reducible assumption) | fail)
local macro_rules | `(tactic| walk_at "at") => `(tactic| first | rfl | assumption | exact atI_nat (by assumption) | fail)
local macro_rules | `(tactic| walk_at "ll") => `(tactic| first | omega | (simp only [List.length_append, List.length_cons, List.length_nil, List.length_map, List.length_range, List.length_set, List.length_replicate]; omega) | (simp only [List.length_append, List.length_cons, List.length_nil, List.length_map, List.length_range, List.length_set, List.length_replicate] at *; omega) | (simp; done) | (simp; omega) | fail)
local macro_rules | `(tactic| walk_at "ix") => `(tactic| first | assumption | (refine ixN_nat ?_; walk_at "ll") | rfl | fail)
local macro_rules | `(tactic| walk_at "szlt") => `(tactic| first | assumption | (refine szlt ?_; walk_at "ll") | fail)
local macro_rules | `(tactic| walk_at "szk") => `(tactic| first | assumption | (refine szlt ?_; omega) | fail)
/-- one step -/
local macro_rules | `(tactic| walk_at "st") => `(tactic| first
  | with_reducible refine w_iT ?_
  | with_reducible refine w_iF ?_
  | with_reducible refine w_iNT ?_
  | with_reducible refine w_iNF ?_
  | with_reducible refine w_iNN ?_
  | with_reducible refine w_seq ?_
  | with_reducible refine w_asg ?_
  | with_reducible refine w_gn ?_
  | with_reducible refine w_c ?_
  | with_reducible refine w_op ?_
  | with_reducible refine w_ret ?_
  | with_reducible refine w_if ?_
  | with_reducible refine w_test ?_
  | with_reducible refine w_rI0 ?_
  | with_reducible refine w_cons ?_
  | with_reducible refine w_nil ?_
  | with_reducible refine w_call ?_
  | with_reducible refine w_cb ?_
  | with_reducible refine w_drop ?_
  | with_reducible refine w_next ?_
  | with_reducible refine w_eqI ?_
  | with_reducible refine w_neI ?_
  | ((with_reducible refine w_var ?_); refine ⟨_, rfl, ?_⟩)
  | ((with_reducible refine w_aug ?_); refine ⟨_, rfl, ?_⟩)
  | with_reducible refine w_eqB ?_
  | with_reducible refine w_neB ?_
  | with_reducible refine w_tB ?_
  | with_reducible refine w_bl ?_
  | with_reducible refine w_and ?_
  | with_reducible refine w_or ?_
  | with_reducible refine w_not ?_
  | with_reducible refine w_andV ?_
  | with_reducible refine w_orV ?_
  | with_reducible refine w_notV ?_
  | with_reducible refine w_ifE ?_
  | with_reducible refine w_un ?_
  | with_reducible refine w_rU ?_
  | with_reducible refine w_ip ?_
  | with_reducible refine w_gc ?_
  | with_reducible refine w_g0 ?_
  | with_reducible refine w_gs ?_
  | with_reducible refine w_tup ?_
  | with_reducible refine w_lst ?_
  | with_reducible refine w_sl ?_
  | with_reducible refine w_np ?_
  | with_reducible refine w_part ?_
  | with_reducible refine w_partI ?_
  | with_reducible refine w_bm ?_
  | with_reducible refine w_bm0 ?_
  | with_reducible refine w_for ?_
  | with_reducible refine w_lc ?_
  | with_reducible refine w_yes ?_
  | with_reducible refine w_make ?_
  | with_reducible refine w_meth ?_
  | with_reducible refine w_sf ?_
  | with_reducible refine w_r3 ?_
  | with_reducible refine w_din ?_
  | with_reducible refine w_dni ?_
  | with_reducible refine w_dg ?_
  | with_reducible refine w_put ?_
  | with_reducible refine w_dn ?_
  | with_reducible refine w_enum ?_
  | with_reducible refine w_iL ?_
  | with_reducible refine w_iTu ?_
  | with_reducible refine w_r1 ?_
  | with_reducible refine w_r2 ?_
  | with_reducible refine w_int1 ?_
  | with_reducible refine w_intb ?_
  | with_reducible refine w_fl ?_
  | with_reducible refine w_retN ?_
  | with_reducible refine w_break ?_
  | with_reducible refine w_cont ?_
  | with_reducible refine w_par ?_
  | with_reducible refine w_par2 ?_
  | with_reducible refine w_eqS ?_
  | with_reducible refine w_neS ?_
  | with_reducible refine w_eqNI ?_
  | with_reducible refine w_eqIN ?_
  | with_reducible refine w_callS ?_
  | with_reducible refine w_ost ?_
  | with_reducible refine w_xf ?_
  | with_reducible refine w_mko ?_
  | ((with_reducible refine w_mod ?s0 ?_); (case s0 => walk_at "side"))
  | ((with_reducible refine w_div ?s0 ?s1 ?_); (case s0 => walk_at "side"); (case s1 => walk_at "side"))
  | ((with_reducible refine w_shr ?s0 ?_); (case s0 => walk_at "side"))
  | ((with_reducible refine w_shl1 ?s0 ?s1 ?_); (case s0 => walk_at "side"); (case s1 => walk_at "side"))
  | ((with_reducible refine w_mul ?s0 ?s1 ?s2 ?s3 ?_); (case s0 => walk_at "side"); (case s1 => walk_at "side"); (case s2 => walk_at "side"); (case s3 => walk_at "side"))
  | ((with_reducible refine w_shl ?s0 ?s1 ?s2 ?s3 ?_); (case s0 => walk_at "side"); (case s1 => walk_at "side"); (case s2 => walk_at "side"); (case s3 => walk_at "side"))
  | ((with_reducible refine w_r1q ?s0 ?s1 ?_); (case s0 => walk_at "side"); (case s1 => walk_at "side"))
  | ((with_reducible refine w_r2q ?s0 ?s1 ?s2 ?s3 ?_); (case s0 => walk_at "side"); (case s1 => walk_at "side"); (case s2 => walk_at "side"); (case s3 => walk_at "side"))
  | ((with_reducible refine w_ixL (xs := ?xs) (v := ?v) ?s0 ?s1 ?_); (case s0 => walk_at "sq"); (case s1 => walk_at "at"))
  | ((with_reducible refine w_ixT (xs := ?xs) (v := ?v) ?s0 ?s1 ?_); (case s0 => walk_at "sq"); (case s1 => walk_at "at"))
  | ((with_reducible refine w_ixl (xs := ?xs) (v := ?v) ?s0 ?s1 ?_); (case s0 => walk_at "sq"); (case s1 => walk_at "at"))
  | ((with_reducible refine w_ixt (xs := ?xs) (v := ?v) ?s0 ?s1 ?_); (case s0 => walk_at "sq"); (case s1 => walk_at "at"))
  | ((with_reducible refine w_lenK (xs := ?xs) ?s0 ?_); (case s0 => walk_at "sq"))
  | ((with_reducible refine w_lenTK (xs := ?xs) ?s0 ?_); (case s0 => walk_at "sq"))
  | ((with_reducible refine w_listK (xs := ?xs) ?s0 ?_); (case s0 => walk_at "sq"))
  | ((with_reducible refine w_len (xs := ?xs) ?s0 ?_); (case s0 => walk_at "sq"))
  | ((with_reducible refine w_lenT (xs := ?xs) ?s0 ?_); (case s0 => walk_at "sq"))
  | ((with_reducible refine w_iLq (xs := ?xs) ?s0 ?_); (case s0 => walk_at "sq"))
  | ((with_reducible refine w_iTq (xs := ?xs) ?s0 ?_); (case s0 => walk_at "sq"))
  | ((with_reducible refine w_tyl (xs := ?xs) ?s0 ?_); (case s0 => walk_at "sq"))
  | ((with_reducible refine w_slL (xs := ?xs) ?s0 ?_); (case s0 => walk_at "sq"))
  | ((with_reducible refine w_gt (xs := ?xs) ?s0 ?s1 ?_); (case s0 => walk_at "sq"); (case s1 => rfl))
  | ((with_reducible refine w_setL (xs := ?xs) (j := ?j) ?s0 ?s1 ?_); (case s0 => walk_at "hp"); (case s1 => walk_at "ix"))
  | ((with_reducible refine w_app (xs := ?xs) ?s0 ?s1 ?_); (case s0 => walk_at "hp"); (case s1 => walk_at "szlt"))
  | ((with_reducible refine w_rev (xs := ?xs) ?s0 ?_); (case s0 => walk_at "hp"))
  | with_reducible refine w_isi kb_ii ?_
  | with_reducible refine w_isi kb_ib ?_
  | with_reducible refine w_isb kb_bb ?_
  | with_reducible refine w_isb kb_bi ?_
  | with_reducible refine w_isn kb_ni ?_
  | with_reducible refine w_isn kb_nb ?_
  | ((with_reducible refine w_isl (xs := ?xs) ?s0 kb_ll ?_); (case s0 => walk_at "hp"))
  | ((with_reducible refine w_isl (xs := ?xs) ?s0 kb_lt ?_); (case s0 => walk_at "hp"))
  | ((with_reducible refine w_ist (xs := ?xs) ?s0 kb_tt ?_); (case s0 => walk_at "hp"))
  | ((with_reducible refine w_ist (xs := ?xs) ?s0 kb_tl ?_); (case s0 => walk_at "hp"))
  | with_reducible refine w_len1 rfl ?_
  | with_reducible refine w_isN ?_
  | with_reducible refine w_2i ?_
  | with_reducible refine w_1i ?_
  | with_reducible refine w_augS ?_
  | ((with_reducible refine w_getL (xs := ?xs) (v := ?v) ?s0 ?s1 ?_); (case s0 => walk_at "sq"); (case s1 => assumption))
  | ((with_reducible refine w_wipe ?s0 ?_); (case s0 => rfl))
  | ((with_reducible refine w_inI (kvs := ?kvs) ?s0 ?_); (case s0 => walk_at "hp"))
  | ((with_reducible refine w_putI (kvs := ?kvs) ?s0 ?s1 ?_); (case s0 => walk_at "hp"); (case s1 => walk_at "szk"))
  | ((with_reducible refine w_ins (xs := ?xs) ?s0 ?s1 ?s2 ?s3 ?_); (case s0 => walk_at "hp"); (case s1 => walk_at "szlt"); (case s2 => walk_at "side"); (case s3 => walk_at "side"))
  | ((with_reducible refine w_pow ?s0 ?_); (case s0 => exact ⟨by decide, by decide, by decide⟩))
  | ((with_reducible refine ifd (fun h => ?c) (fun _ => ?_)); (case c => exfalso; omega))
  | ((with_reducible refine ifd (fun _ => ?_) (fun h => ?c)); (case c => exfalso; omega))
  | ((with_reducible refine ifnd (fun h => ?c) (fun _ => ?_)); (case c => exfalso; omega))
  | ((with_reducible refine ifnd (fun _ => ?_) (fun h => ?c)); (case c => exfalso; omega))
  | fail)
local macro_rules | `(tactic| walk_at "sts") => `(tactic| repeat (walk_at "st"))

/-! ### an exception out of a list comprehension -/
section
open PySem PySem.Spec PyProof.Rows L2
/-- the end of a comprehension's block, its environment told -/
def compPostC (M : Model) (A : Around) (E : Value → Shared → Prop) (use : Option (Value → Sem Unit)) (Q : Value → Shared → Prop) (acc : Value) (ce : Env) (r : Result) (s' : Shared) : Prop :=
  match r, use with
  | .ok _, none => ∃ m, s'.heap.Ns ce.locals m ∧ ∀ h', Heap.SameBut ce.locals s'.heap h' → Q acc { s' with heap := h' }
  | .ok _, some u => wpAny M A (u acc) (fun _ s'' => ∃ m, s''.heap.Ns ce.locals m ∧ ∀ h', Heap.SameBut ce.locals s''.heap h' → Q .none { s'' with heap := h' }) E s'
  | .error x, _ => ∃ m, s'.heap.Ns ce.locals m ∧ ∀ h', Heap.SameBut ce.locals s'.heap h' → wpAny M A (passOn "comprehension.variables-let-go" x ce : Sem Value) (fun _ _ => False) E { s' with heap := h' }
theorem comprehension_freeC {M : Model} {A : Around} {E : Value → Shared → Prop} {s : Shared} {env : Env} {e : Expr} {scope : Scope} {pos : Pos} {newAcc first : Sem Value} {g : Comprehension} {gs : List Comprehension} {cl : List (Str × Addr)} {use : Option (Value → Sem Unit)}
    {Q : Value → Shared → Prop}
    (hcl : clausesOf e = g :: gs) (hs : ∀ x, foldedSetIterable g.iter env x = pure x) (hclos : closureFor scope env = pure cl)
    (hkind : scope.kind = .function) (hnames : ∀ x ∈ scope.names, x.2 = .local → scope.names.lookup x.1 = some .local)
    (h : wpAny M A first (fun x s₁ => wpAny M A (pyIter x) (fun it s₂ => wpAny M A newAcc (fun acc s₃ =>
      wpAny M A (newFunctionEnv scope env.globals cl [] env.qual none .none (some env)) (fun cenv s₄ =>
        codeAny M A (.compStart e 0 it acc { cenv with scope := relabel scope env }) (compPostC M A E use Q acc { cenv with scope := relabel scope env }) s₄) E s₃) E s₂) E s₁) E s) :
    wpAny M A (comprehension e scope env pos newAcc false first use) Q E s := by
  unfold comprehension
  rw [hclos, hcl]
  refine wpAny_bind (wpAny_mono h (fun x s₁ h₁ => wpAny_bind (wpAny_standAt (wpAny_bind (wpAny_of_eq (hs x) (wpAny_bind (wpAny_holding (wpAny_mono h₁ (fun it s₂ h₂ =>
    wpAny_standIf (wpAny_bind (wpAny_mono h₂ (fun acc s₃ h₃ => wpAny_bind (wpAny_pure (wpAny_bind (wpAny_mono h₃ (fun cenv s₄ h₄ => ?_) fun _ _ h' => h')))) fun _ _ h' => h')))
      fun _ _ h' => h'))))))) fun _ _ h' => h')
  dsimp only
  have hv : ∀ x ∈ (scope.names.filter fun x => (x.2 == .local || x.2 == .cell) && x.1 != (".0" : Str)).reverse, x.2 = .local →
      Env.kindOf { cenv with scope := relabel scope env } x.1 = some .local := fun x hx hl => lookup_relabel_local (hnames x (List.mem_filter.mp (List.mem_reverse.mp hx)).1 hl)
  have hv' : ∀ x ∈ (scope.names.filter fun x => (x.2 == .local || x.2 == .cell) && x.1 != (".0" : Str)).reverse.drop 1 ++ (scope.names.filter fun x => (x.2 == .local || x.2 == .cell) && x.1 != (".0" : Str)).reverse.take 1,
      x.2 = .local → Env.kindOf { cenv with scope := relabel scope env } x.1 = some .local := fun x hx hl => by
    rcases List.mem_append.mp hx with h1 | h1
    · exact hv x (List.mem_of_mem_drop h1) hl
    · exact hv x (List.mem_of_mem_take h1) hl
  refine wpAny_holding (wpAny_bind (wpAny_attempt (wpAny_holding (wpAny_run (codeAny_mono h₄ fun r s' hr => ?_)))))
  cases r with
  | ok f =>
    cases use with
    | none =>
      obtain ⟨m, hn, hr⟩ := hr
      exact wpAny_bind (wpAny_holding (wpAny_comp_letGo (cenv := { cenv with scope := relabel scope env }) hkind _ s' m hv hn fun h' m' _ hs' => wpAny_pure (hr h' hs')))
    | some u =>
      refine wpAny_bind (wpAny_rule (wpAny_bind (wpAny_holding (wpAny_mono hr (fun _ s'' hr' => ?_) fun _ _ h' => h'))))
      obtain ⟨m, hn, hr'⟩ := hr'
      exact wpAny_bind (wpAny_comp_letGo (cenv := { cenv with scope := relabel scope env }) hkind _ s'' m hv' hn fun h' m' _ hs' => wpAny_pure (hr' h' hs'))
  | error x =>
    have hr' : ∃ m, s'.heap.Ns cenv.locals m ∧ ∀ h', Heap.SameBut cenv.locals s'.heap h' → wpAny M A (passOn "comprehension.variables-let-go" x { cenv with scope := relabel scope env } : Sem Value) (fun _ _ => False) E { s' with heap := h' } := by cases use <;> exact hr
    obtain ⟨m, hn, hr⟩ := hr'
    exact wpAny_bind (wpAny_holding (wpAny_comp_letGo (cenv := { cenv with scope := relabel scope env }) hkind _ s' m hv hn fun h' m' _ hs' => wpAny_mono (hr h' hs') (fun _ _ f => f.elim) fun _ _ y => y))
theorem noteFrame_ce (e : Value) {cenv env : Env} (h : cenv.frame = env.frame) : noteFrame e cenv = noteFrame e env := by
  unfold noteFrame PySem.frameOf
  rw [h]
/-- held by the frame, another object changed that the ground lacks -/
theorem held_but {B : Heap} {l : List Env} {a L C : Addr} {Z : Obj → Prop} {h h' : Heap} {m : Str → Option Value} (hn : h.Ns C m) (hC : B.get? C = none) (hl : C ∉ frs l) (x : HandSPX.HeldZ B l a Z L h) (sb : Heap.SameBut C h h') : HandSPX.HeldZ B l a Z L h' := by
  obtain ⟨x1, x2, x3, oe, vs, T, oT, ts, he, hz, hd, h1, hnT, hTe, hT, hdT, h3⟩ := x
  have hne : ∀ b o vs, h.get? b = some o → o.data = .fields vs → b ≠ C := fun b o vs e d z => by
    subst z
    obtain ⟨oL, es, ep, hoL, hdL, _⟩ := hn
    rw [hoL] at e
    cases e
    rw [hdL] at d
    cases d
  refine ⟨fun b o e => (sb.2 b fun z => by rw [z, hC] at e; cases e).trans (x1 b o e), x2, ?_, oe, vs, T, oT, ts, (sb.2 a (hne a oe vs he hd)).trans he, hz, hd, h1, hnT, hTe, (sb.2 T (hne T oT ts hT hdT)).trans hT, hdT, h3⟩
  clear he hT
  induction l with
  | nil => trivial
  | cons env l ih =>
    obtain ⟨hk, ⟨L', o, hf, hb, ho, hd⟩, hr⟩ := x3
    refine ⟨hk, ⟨L', o, hf, hb, (sb.2 L' fun z => hl (by rw [← z]; exact List.mem_filterMap.mpr ⟨env, List.mem_cons_self, hf⟩)).trans ho, hd⟩, ih (fun z => hl ?_) hr⟩
    obtain ⟨e, he, q⟩ := List.mem_filterMap.mp z
    exact List.mem_filterMap.mpr ⟨e, List.mem_cons_of_mem _ he, q⟩
section
variable {X : Cx} {pins : List (Addr × Obj)} {σ : L2.St} {H H' : Hp} {s s' : Shared} {B : Heap} {W : WX} {E : XK}
/-- XE of an exception that the frame holds -/
theorem xe_held {a : Addr} {cls : Value} {d : Option Addr} (I : Inv X pins σ H s) (hh : HandSPX.HeldZ B X.stack a (Zc cls d) X.env.locals s'.heap) (hok : HOk X.prog X.w H' B) (ub : UB (frs X.stack) H H' s.heap B s'.heap) (na : H' a = none) (os : s'.os = s.os) (ag : AllBare s'.gens) (hW : W cls d σ H') : XE X W (.ref a) s' := by
  obtain ⟨G, g1, g2⟩ := restrict s'.heap fun b => (B.get? b).isSome || decide (b ∈ frs X.stack)
  have st : B.StaysIn s'.heap := hh.1
  have gB : ∀ b o, B.get? b = some o → G.get? b = some o := fun b o e => by
    rw [g1 b (by simp [e])]
    exact st b o e
  have gF : ∀ b, b ∈ frs X.stack → G.get? b = s'.heap.get? b := fun b hb => g1 b (by simp [hb])
  have og : ∀ b o, G.get? b = some o → s'.heap.get? b = some o ∧ ((B.get? b).isSome = true ∨ b ∈ frs X.stack) := fun b o e => by
    cases q : ((B.get? b).isSome || decide (b ∈ frs X.stack)) with
    | false => rw [g2 b q] at e; cases e
    | true =>
      rw [g1 b q] at e
      exact ⟨e, by simpa [Bool.or_eq_true] using q⟩
  refine ⟨a, B, { s with heap := G, gens := s'.gens, drawn := s'.drawn, toks := s'.toks }, pins, σ, H', cls, d, rfl, ?_, fun b o e hb => ?_, Heap.UpToSlots.of_keeps fun b o e => (og b o e).1, .inr (.inr hh), na, os, ag, hW⟩
  · refine I.call (ch := []) ⟨fun b o e n hb _ => gB b o (ub.keep b o e n hb), fun b o e n hb _ => ?_, fun b o e n _ => ub.free b o e n, fun b o e _ => ?_, ub.tups, ub.frzs, ub.tbls⟩ (hok.kept gB) ag (fun _ z => nomatch z)
    · obtain ⟨sl, q⟩ := ub.slot b o e hb
      exact ⟨sl, by rw [gF b hb]; exact q⟩
    · by_cases hb : b ∈ frs X.stack
      · obtain ⟨sl, q⟩ := ub.slot b o e hb
        exact ⟨_, by rw [gF b hb]; exact q⟩
      · obtain ⟨o', q⟩ := ub.there b o e hb
        exact ⟨o', gB b o' q⟩
  · obtain ⟨e', h⟩ := og b o e
    rcases h with h | h
    · obtain ⟨o', q⟩ := Option.isSome_iff_exists.mp h
      have z := st b o' q
      rw [e'] at z; cases z
      exact q
    · exact absurd h hb
end
/-- the block's context with its wish about exceptions -/
abbrev blkX (X : Cx) (s : Shared) (H : Hp) (scope : Scope) (cenv : Env) (fp : List Addr) (xe : Value → Shared → Prop) : Cx := { X.blk s H scope cenv fp with xe := xe }
section
variable {X : Cx}
theorem inv_xe {pins : List (Addr × Obj)} {σ : L2.St} {H : Hp} {s : Shared} {xe : Value → Shared → Prop} (I : Inv X pins σ H s) : Inv { X with xe := xe } pins σ H s :=
  ⟨⟨I.ok.mod, I.ok.kind, I.ok.glob, I.ok.blt, I.ok.above, I.ok.inj, I.ok.has, I.ok.cab, I.ok.hd, I.ok.frames, I.ok.stk, I.ok.exf, I.ok.bs, I.ok.bsz, I.ok.noex, I.ok.exfs, I.ok.funs, I.ok.frf⟩, I.os, I.bare, I.base, I.loc, I.cell, I.free, I.freeC, I.pin, I.hok, I.len⟩
/-- what a callee lets out in the block comes to the def's frame -/
theorem pass_blk {pins : List (Addr × Obj)} {σ : L2.St} {H3 : Hp} {s3 : Shared} {scope : Scope} {ce : Env} {fp : List Addr} {use : Option (Value → Sem Unit)} {Qf : Value → Shared → Prop} {acc : Value} {W : WX}
    (hs : X.stack = X.env :: X.outer) (hf : X.env.frame = some X.env.locals) (tk : Takes X W) (hce : ce.frame = X.env.frame) (hL : ce.locals = s3.heap.objs.size) (I3 : Inv X pins σ H3 s3) (hfp : ∀ b ∈ fp, FpOk X pins H3 b ∧ b < s3.heap.objs.size) :
    ∀ σ', PassesAt (L2.CX X.prog X.w) (blkX X s3 H3 scope ce fp (notedBy (model X.prog X.w) X.A ce fun e s' => compPostC (model X.prog X.w) X.A X.xe use Qf acc ce (.error e) s')) σ' (fun cls d H => W cls d σ H) := by
  intro σ' pinsB HB sB u s' IB c
  obtain ⟨a, B, H', cls, d, rfl, fl, hok, ub, na, os, ag, hE⟩ := c
  have IB0 : Inv (X.blk s3 H3 scope ce fp) pinsB σ' HB sB := inv_xe (xe := fun _ _ => False) IB
  have fl : HandSPX.FlyingZ B X.stack a (Zc cls d) s'.heap := fl
  have ub : UB (frs X.stack) HB H' sB.heap B s'.heap := ub
  obtain ⟨m, hns, _⟩ := IB0.loc
  have hns : sB.heap.Ns ce.locals m := hns
  have hCf : ce.locals ∉ frs X.stack := fun z => by
    obtain ⟨_, o, ho, _⟩ := I3.stack.mem z
    rw [hL] at ho
    exact absurd (Heap.lt_size ho) (Nat.lt_irrefl _)
  have hHC : HB ce.locals = none := IB0.free
  obtain ⟨oL, es, ep, hoL, hdL, hnr⟩ := id hns
  have hBC := ub.keep _ _ hoL hHC hCf
  have hsC : s'.heap.get? ce.locals = some oL := fl.1 _ _ hBC
  have hns' : s'.heap.Ns ce.locals m := ⟨oL, es, ep, hsC, hdL, hnr⟩
  -- the ground without the block's names
  have hB' : ∀ b o, B.get? b = some o → b ≠ ce.locals → (PySem.W.hideAll B [ce.locals]).get? b = some o := fun b o e n => PySem.W.hideAll_get _ e (by simpa using n)
  have hBn : (PySem.W.hideAll B [ce.locals]).get? ce.locals = none := PySem.W.hideAll_none _ (by simp)
  have sub : ∀ b, B.get? b = none → (PySem.W.hideAll B [ce.locals]).get? b = none := fun b e => by
    cases q : (PySem.W.hideAll B [ce.locals]).get? b with
    | none => rfl
    | some o => rw [PySem.W.of_hideAll _ q] at e; cases e
  have fl' : HandSPX.FlyingZ (PySem.W.hideAll B [ce.locals]) (X.env :: X.outer) a (Zc cls d) s'.heap := by
    rw [← hs]
    obtain ⟨x1, x2, x3, oe, vs, T, oT, ts, he, hz, hd, h1, hnT, r⟩ := fl
    exact ⟨fun b o e => x1 b o (PySem.W.of_hideAll _ e), sub _ x2, funFrames_none x3 fun L hLm => sub _ (x3.mem hLm).1, oe, vs, T, oT, ts, he, hz, hd, h1, sub _ hnT, r⟩
  have hfr : X.A.frames = some (X.env :: X.outer) := by rw [← hs]; exact I3.ok.frames
  show wpAny (model X.prog X.w) X.A (noteFrame (.ref a) ce) _ _ s'
  rw [noteFrame_ce _ hce]
  refine HandSPX.looks_onZ Zc.steady hfr hf fl' fun h1 hh up1 => ?_
  have hns1 : h1.Ns ce.locals m := by
    obtain ⟨sl, e⟩ := up1 _ _ hsC fun vs q => by rw [hdL] at q; cases q
    exact ⟨_, es, ep, e, hdL, hnr⟩
  refine ⟨m, hns1, fun h2 sb => ?_⟩
  rw [← hs] at hh
  have hh2 := held_but hns1 hBn hCf hh sb
  obtain ⟨b1, b2, b3, oe, vs, T, oT, ts, he, hz, hd, e1, hnT, r⟩ := id hh2
  unfold PySem.passOn
  refine wpAny_bind (wpAny_field he hd e1 ?_)
  rw [if_neg (show ¬ ((Value.ref T == Value.none) = true) from by simp), hce, hf]
  refine wpAny_bind (HandSPX.setFlight_onZ hh2 fun h3 hh3 up3 => wpAny_throw ?_)
  -- the state without the block's names
  have hsz : ∀ b o, s3.heap.get? b = some o → b ≠ ce.locals := fun b o e => by rw [hL]; exact Nat.ne_of_lt (Heap.lt_size e)
  have hid : ∀ b o, sB.heap.get? b = some o → b ≠ ce.locals → (PySem.W.hideAll sB.heap [ce.locals]).get? b = some o := fun b o e n => PySem.W.hideAll_get _ e (by simpa using n)
  have un : Un (frs X.stack) fp H3 HB s3.heap sB.heap := IB0.base
  have hokB : HOk X.prog X.w HB (PySem.W.hideAll sB.heap [ce.locals]) := fun b u q => (IB0.hok b u q).stay (fun c v hc e => hid c v e fun z => by
    rcases hc with hc | hc
    · rw [hc] at z; rw [z, hHC] at q; cases q
    · rw [z, hHC] at hc; cases hc) (fun _ y => y) fun _ _ y => y
  have J : Inv X pins σ HB { sB with heap := PySem.W.hideAll sB.heap [ce.locals] } := I3.call' (ch := fp) IB0.os
    ⟨fun b o e n h1 h2 => hid b o (un.keep b o e n h1 h2) (hsz b o e), fun b o e n h1 h2 => by
      obtain ⟨sl, q⟩ := un.slot b o e n h1 h2
      exact ⟨sl, hid b _ q (hsz b o e)⟩, un.free, fun b o e h1 => by
      obtain ⟨o', q⟩ := un.there b o e h1
      exact ⟨o', hid b _ q (hsz b o e)⟩, un.tups, un.frzs, un.tbls⟩ hokB IB0.bare fun b hb => ⟨(hfp b hb).1.2.2.2.1, (hfp b hb).1.2.1, (hfp b hb).1.2.2.2.2.1, (hfp b hb).1.2.2.2.2.2⟩
  refine tk _ _ (xe_held (B := PySem.W.hideAll B [ce.locals]) (cls := cls) (d := d) (H' := H') J hh3 (fun b u q => (hok b u q).stay (fun c v hc e => hB' c v e fun z => ?_) (fun _ y => y) fun _ _ y => y) ⟨fun b o e n hb => ?_, fun b o e hb => ?_, fun b o e n => ub.free b o (PySem.W.of_hideAll _ e) n, fun b o e hb => ?_, ub.tups, ub.frzs, ub.tbls⟩ na os ag hE)
  · have hn := ub.free _ _ hoL hHC
    rcases hc with hc | hc
    · rw [hc] at z; rw [z, hn] at q; cases q
    · rw [z, hn] at hc; cases hc
  · have z : b ≠ ce.locals := fun z => by rw [z, PySem.W.hideAll_none _ (by simp)] at e; cases e
    exact hB' b o (ub.keep b o (PySem.W.of_hideAll _ e) n hb) z
  · obtain ⟨sl, q⟩ := ub.slot b o (PySem.W.of_hideAll _ e) hb
    obtain ⟨_, o', q', hd'⟩ := fl'.2.2.1.mem (by rw [← hs]; exact hb)
    rw [q] at q'
    cases q'
    obtain ⟨s1, q1⟩ := up1 b _ q hd'
    have q2 : h2.get? b = _ := (sb.2 b fun z => hCf (z ▸ hb)).trans q1
    obtain ⟨s2, q3⟩ := up3 b _ q2 hd'
    exact ⟨s2, q3⟩
  · have z : b ≠ ce.locals := fun z => by rw [z, PySem.W.hideAll_none _ (by simp)] at e; cases e
    obtain ⟨o', q⟩ := ub.there b o (PySem.W.of_hideAll _ e) hb
    exact ⟨o', hB' b o' q z⟩
end
end

section
open PySem PySem.Spec PyProof.Rows L2
section
variable {X : Cx}
/-- [elt for target in iter if ..], the element may raise: te by the def's wish -/
def tLcX (W : WX) (wi : TI) (g : TG) (tt : TT) (te : XK → TE) (vs : List Nat) : TE := fun σ H Q => wi σ H fun J H1 => ∀ D, H1 D = none → ∃ W' : Nat → Nat → Hp → Prop, (∃ m, W' 0 m (upd H1 D (.lst []))) ∧ ∀ i m H, W' i m H →
  (J.stop i H ∧ Q (.ref D) H) ∨ (J.go i H ∧ ∃ Nx : Hp → Prop, (∀ H', Nx H' → ∃ m', m' < m ∧ W' (i + 1) m' H') ∧ ∀ x H', J.yld i H x H' → g x (wipe σ vs) H' fun σ2 H2 => wipe σ2 vs = wipe σ vs ∧ tt σ2 H2 fun b H3 =>
    if b = true then te (fun cls d H => W cls d σ H) σ2 H3 fun y H4 => ∃ acc, H4 D = some (.lst acc) ∧ acc.length < sizeLine ∧ Nx (upd H4 D (.lst (acc ++ [y]))) else Nx H3)
theorem lc_coreX {pins : List (Addr × Obj)} {s : Shared} {σ : L2.St} {H : Hp} {Q : VK} {W : WX} {elt tg iter : Expr} {ifs : List Expr} {scope : Scope} {own : List (Str × Nat)} {pos pos' : Pos} {wi : TI} {g : TG} {tt : TT} {te : XK → TE} {use : Option (Value → Sem Unit)} {Qf : Value → Shared → Prop}
    (hs0 : X.stack = X.env :: X.outer) (hf0 : X.env.frame = some X.env.locals) (tk : Takes X W)
    (hc : X.calm = true) (hN : X.N.Nodup) (I : Inv X pins σ H s) (hi : PI X tg iter wi) (ok : BlkOk X.N X.env.scope scope own)
    (hg : ∀ (s : Shared) (H : Hp) (C : Addr) (cl : List (Str × Addr)) (fp : List Addr) (xe : Value → Shared → Prop), PG (blkX X s H scope (compEnvC scope cl C X.env) fp xe) tg g)
    (ht : ∀ (s : Shared) (H : Hp) (C : Addr) (cl : List (Str × Addr)) (fp : List Addr) (xe : Value → Shared → Prop), PTs (blkX X s H scope (compEnvC scope cl C X.env) fp xe) ifs tt)
    (he : ∀ (s : Shared) (H : Hp) (C : Addr) (cl : List (Str × Addr)) (fp : List Addr) (xe : Value → Shared → Prop) (E : XK), (∀ σ', PassesAt (L2.CX X.prog X.w) (blkX X s H scope (compEnvC scope cl C X.env) fp xe) σ' E) → PE (blkX X s H scope (compEnvC scope cl C X.env) fp xe) elt (te E)) (hs : ∀ x, foldedSetIterable iter X.env x = pure x)
    (h : tLcX W wi g tt te (own.map (·.2)) σ H Q)
    (hRR : ∀ D ce s' m H', Inv X pins σ H' s' → Q (.ref D) H' → s'.heap.Ns ce.locals m → FpOk X pins H' ce.locals → compPostC (model X.prog X.w) X.A X.xe use Qf (.ref D) ce (.ok .next) s') :
    wpAny (model X.prog X.w) X.A (comprehension (.ListComp elt [⟨tg, iter, ifs, 0⟩] scope pos) scope X.env pos' (newList []) false (eval iter X.env) use) Qf X.xe s := by
  have hfree : ∀ y ∈ scope.names, y.2 = .free → ∃ c, X.env.cells.lookup y.1 = some c := fun y hy e => by
    rcases ok.free y hy e with k | k
    · exact I.ok.has _ (.inl k)
    · exact I.ok.has _ (.inr k)
  refine comprehension_freeC (use := use) rfl hs (closure_ok hfree) ok.kind (fun y hy e => by rw [ok.uniq y hy, e])
    (thn (hi.run pins s σ H _ I h) fun xv s1 hx => thn hx fun itv s2 h2 => ?_)
  obtain ⟨it, fp, tn, J, H2, e, I2, T, st2, f2, q⟩ := h2
  subst e
  refine wpAny_newObj_type (newEnv_comp ?_) (by show 0 ≤ sizeLine; decide)
  generalize hD : s2.heap.objs.size = D
  have hDn : H2 D = none := I2.hok.fresh (Nat.le_of_eq hD)
  obtain ⟨W', ⟨m0, w0⟩, turn⟩ := q D hDn
  generalize hs3 : ({ s2 with heap := s2.heap.push { cls := .type "list", data := .seq ([] : List Value).toArray } } : Shared) = s3
  have I3 : Inv X pins σ (upd H2 D (.lst [])) s3 := by
    rw [← hs3]
    refine I2.laid (t' := s2.toks) (fun b o e => Heap.get?_push_of_some _ e) (Nat.le_of_eq hD) ⟨Nat.zero_le _, [], 0, .nil, ?_⟩
    rw [← hD]
    exact Heap.get?_push_size _ rfl
  have h3 : s3.heap = s2.heap.push { cls := .type "list", data := .seq ([] : List Value).toArray } := by rw [← hs3]
  have sz : ∀ b ∈ fp, b < s2.heap.objs.size := fun b hb => by
    obtain ⟨o, e, _⟩ := T.obj _ _ st2 b hb
    exact Heap.lt_size e
  have f3 : ∀ b ∈ fp, FpOk X pins (upd H2 D (.lst [])) b ∧ b < s3.heap.objs.size := fun b hb => by
    have hlt := sz b hb
    refine ⟨⟨?_, (f2 b hb).2⟩, by rw [h3, Heap.size_push]; exact Nat.lt_succ_of_lt hlt⟩
    rw [upd_ne (by rw [← hD]; exact Nat.ne_of_lt hlt)]
    exact (f2 b hb).1
  have st3 : tn 0 s3.heap := T.keep _ _ _ st2 fun b _ o e => by rw [h3]; exact Heap.get?_push_of_some _ e
  have I4 := block_start I3 ok hN f3
  show codeAny _ _ (.compStart (.ListComp elt [⟨tg, iter, ifs, 0⟩] scope pos) 0 (.ref it) (.ref D) (compEnvC scope (cellsFrom (s3.heap.objs.size + 1) scope.names (cloFrom X.env.cells scope.names [])) s3.heap.objs.size X.env))
    (compPostC (model X.prog X.w) X.A X.xe use Qf (.ref D) (compEnvC scope (cellsFrom (s3.heap.objs.size + 1) scope.names (cloFrom X.env.cells scope.names [])) s3.heap.objs.size X.env)) { s3 with heap := pushCells (s3.heap.push { cls := .type "dict", data := .dict #[] }) scope.names }
  have pg := hg s3 (upd H2 D (.lst [])) s3.heap.objs.size (cellsFrom (s3.heap.objs.size + 1) scope.names (cloFrom X.env.cells scope.names [])) fp
  have pt := ht s3 (upd H2 D (.lst [])) s3.heap.objs.size (cellsFrom (s3.heap.objs.size + 1) scope.names (cloFrom X.env.cells scope.names [])) fp
  have pe := he s3 (upd H2 D (.lst [])) s3.heap.objs.size (cellsFrom (s3.heap.objs.size + 1) scope.names (cloFrom X.env.cells scope.names [])) fp
  have nfp : ∀ b ∈ fp, (upd H2 D (.lst [])) b = none := fun b hb => (f3 b hb).1.1
  have hcf : (compEnvC scope (cellsFrom (s3.heap.objs.size + 1) scope.names (cloFrom X.env.cells scope.names [])) s3.heap.objs.size X.env).frame = X.env.frame := rfl
  have cL : (compEnvC scope (cellsFrom (s3.heap.objs.size + 1) scope.names (cloFrom X.env.cells scope.names [])) s3.heap.objs.size X.env).locals = s3.heap.objs.size := rfl
  generalize compEnvC scope (cellsFrom (s3.heap.objs.size + 1) scope.names (cloFrom X.env.cells scope.names [])) s3.heap.objs.size X.env = ce at I4 pg pt pe hcf cL ⊢
  generalize hH3 : upd H2 D (.lst []) = H3 at I3 I4 pg pt pe w0 nfp f3
  have hpass := pass_blk (scope := scope) (use := use) (Qf := Qf) (acc := .ref D) hs0 hf0 tk hcf cL I3 f3
  generalize hxe : (notedBy (model X.prog X.w) X.A ce fun e s' => compPostC (model X.prog X.w) X.A X.xe use Qf (.ref D) ce (.error e) s') = xe at hpass
  have I4 := inv_xe (xe := xe) I4
  have pg := pg xe
  have pt := pt xe
  have pe := pe xe _ hpass
  generalize hs4 : ({ s3 with heap := pushCells (s3.heap.push { cls := .type "dict", data := .dict #[] }) scope.names } : Shared) = s4 at I4 ⊢
  have st4 : tn 0 s4.heap := T.keep _ _ _ st3 fun b _ o e => by rw [← hs4]; exact pushCells_keeps _ _ _ _ (Heap.get?_push_of_some _ e)
  have stat : ∀ {σ' : L2.St} {H' : Hp} {s' : Shared}, Inv (blkX X s3 H3 scope ce fp xe) [] σ' H' s' → (∀ b ∈ fp, H' b = none) → ∀ b ∈ fp, FpOk (blkX X s3 H3 scope ce fp xe) [] H' b := fun {σ' H' s'} I' hn b hb =>
    ⟨hn b hb, (I'.ok.exf b hb).1, I'.ok.exfs b hb, .inl hb, fun x c e => (I'.ok.exf b hb).2 x c e, fun p hp => absurd (show p ∈ ([] : List (Addr × Obj)) ++ [] from hp) (by simp)⟩
  have loop : codeAny (model X.prog X.w) X.A (.compLoop (.ListComp elt [⟨tg, iter, ifs, 0⟩] scope pos) 0 (.ref it) (.ref D) ce) (compPostC (model X.prog X.w) X.A X.xe use Qf (.ref D) ce) s4 := by
    refine compLoop_any (fun n s' => ∃ i H', Inv (blkX X s3 H3 scope ce fp xe) [] (wipe σ (own.map (·.2))) H' s' ∧ tn i s'.heap ∧ (∀ b ∈ fp, H' b = none) ∧ W' i n H') ?_ m0 ⟨0, H3, I4, st4, nfp, w0⟩
    rintro n s5 ⟨i, H5, I5, st5, n5, w5⟩
    rw [hxe]
    rcases turn i n H5 w5 with ⟨stop, qq⟩ | ⟨go, Nx, hNx, step⟩
    · have td := T.done (blkX X s3 H3 scope ce fp xe) rfl rfl rfl hc i [] s5 _ H5 (fun _ _ => False) I5 (stat I5 n5) st5 stop
      refine thnF td fun r s6 ⟨hr, I6⟩ => ?_
      subst hr
      have I7 : Inv X pins σ H5 s6 := I3.call' (ch := fp) I6.os I6.base I6.hok I6.bare fun b hb => ⟨(f3 b hb).1.2.2.2.1, (f3 b hb).1.2.1, (f3 b hb).1.2.2.2.2.1, (f3 b hb).1.2.2.2.2.2⟩
      have nC : H5 ce.locals = none := I6.free
      obtain ⟨m, hn, _⟩ := I6.loc
      have hn : s6.heap.Ns ce.locals m := hn
      exact hRR D ce s6 m H5 I7 qq hn (by rw [cL] at nC ⊢; exact I3.fpOk (Nat.le_refl _) nC)
    · have ti := T.item (blkX X s3 H3 scope ce fp xe) rfl rfl rfl hc i [] s5 _ H5 (fun _ _ => False) I5 (stat I5 n5) st5 go
      refine thnF ti fun r s6 ⟨u, hr, h6⟩ => ?_
      subst hr
      refine thnF h6 fun _ s7 ⟨x, H7, I7, r7, y7, st7, n7⟩ => ?_
      have I7' := I7.pinned (stat I7 n7) (T.obj _ _ st7)
      refine thn (pg.run _ s7 _ H7 x u _ I7' r7 (step x H7 y7)) fun _ s8 ⟨σ8, H8, I8, hw8, q8⟩ => ?_
      refine thn (pt.run _ s8 σ8 H8 _ I8 q8) fun b s9 ⟨H9, I9, q9⟩ => ?_
      have fin : ∀ {s' : Shared} {H' : Hp}, Inv (blkX X s3 H3 scope ce fp xe) ([] ++ pinsAt fp s7.heap) σ8 H' s' → Nx H' → ∃ m, m < n ∧ ∃ i H', Inv (blkX X s3 H3 scope ce fp xe) [] (wipe σ (own.map (·.2))) H' s' ∧ tn i s'.heap ∧ (∀ b ∈ fp, H' b = none) ∧ W' i m H' := fun {s' H'} I' nx => by
        obtain ⟨m', hm, w'⟩ := hNx H' nx
        have pin' : ∀ b ∈ fp, ∀ o, s7.heap.get? b = some o → s'.heap.get? b = some o ∧ H' b = none := fun b hb o e =>
          let z := I'.pin (b, o) (List.mem_append_right _ (List.mem_append_right _ (mem_pinsAt hb e)))
          ⟨z.1, z.2.1⟩
        have hl : (wipe σ (own.map (·.2))).length = σ8.length := by rw [← hw8, wipe_length]
        refine ⟨m', hm, i + 1, H', (I'.unpinned (pins := [])).weak hl (fun j v e => ?_), T.keep _ _ _ st7 fun b hb o e => (pin' b hb o e).1, fun b hb => ?_, w'⟩
        · rw [← hw8] at e
          exact (wipe_some e).1
        · obtain ⟨o, e, _⟩ := T.obj _ _ st7 b hb
          exact (pin' b hb o e).2
      cases b with
      | false =>
        simp only [Bool.false_eq_true, if_false] at q9 ⊢
        exact fin I9 q9
      | true =>
        simp only [if_true] at q9 ⊢
        refine thn (pe.run _ s9 σ8 H9 _ I9 q9) fun z s10 ⟨yv, H10, I10, r10, acc, hD10, hz10, nx⟩ => ?_
        exact app_ok (X := blkX X s3 H3 scope ce fp xe) I10 hD10 hz10 r10 fun s11 I11 => fin I11 nx
  exact codeAny_compStart_list loop (T.self X.A 0 _ _ _ st4 loop)
/-- as a value -/
theorem pe_lcX {W : WX} {elt tg iter : Expr} {ifs : List Expr} {scope : Scope} {own : List (Str × Nat)} {pos : Pos} {wi : TI} {g : TG} {tt : TT} {te : XK → TE} (hs0 : X.stack = X.env :: X.outer) (hf0 : X.env.frame = some X.env.locals) (tk : Takes X W) (hc : X.calm = true) (hN : X.N.Nodup) (hi : PI X tg iter wi) (ok : BlkOk X.N X.env.scope scope own)
    (hg : ∀ (s : Shared) (H : Hp) (C : Addr) (cl : List (Str × Addr)) (fp : List Addr) (xe : Value → Shared → Prop), PG (blkX X s H scope (compEnvC scope cl C X.env) fp xe) tg g)
    (ht : ∀ (s : Shared) (H : Hp) (C : Addr) (cl : List (Str × Addr)) (fp : List Addr) (xe : Value → Shared → Prop), PTs (blkX X s H scope (compEnvC scope cl C X.env) fp xe) ifs tt)
    (he : ∀ (s : Shared) (H : Hp) (C : Addr) (cl : List (Str × Addr)) (fp : List Addr) (xe : Value → Shared → Prop) (E : XK), (∀ σ', PassesAt (L2.CX X.prog X.w) (blkX X s H scope (compEnvC scope cl C X.env) fp xe) σ' E) → PE (blkX X s H scope (compEnvC scope cl C X.env) fp xe) elt (te E)) (hs : ∀ x, foldedSetIterable iter X.env x = pure x := by intro _; rfl) :
    PE X (.ListComp elt [⟨tg, iter, ifs, 0⟩] scope pos) (tLcX W wi g tt te (own.map (·.2))) := by
  refine ⟨fun pins s σ H Q I h => ?_⟩
  rw [eval_ListComp]
  refine lc_coreX hs0 hf0 tk hc hN I hi ok hg ht he hs h fun D ce s' m H' I' q hn f => ⟨m, hn, fun h'' sb => ?_⟩
  obtain ⟨f0, f1, f2, f3, f4, f5⟩ := f
  exact ⟨.ref D, H', I'.turned (t' := s'.toks) (fun b o hb e => (sb.2 b hb).trans e) f0 f1 f3 f4 f5, rfl, q⟩
end
/-- a raising def called in such a block -/
theorem pe_fnB {X : Cx} {E : XK} {k : Nat} {ps : List Str} {sp : Sp} {x : Str} {p pos : Pos} {e : Expr} {es : List Expr} {t : TA} (pa : ∀ σ', PassesAt (L2.CX X.prog X.w) X σ' E) (h : Has X.prog X.w X.K X.mg X.base (L2.CX X.prog X.w) k x ps sp) (hr : Room k X.A) (hg : Gl X x) (ha : PA X (e :: es) t) (hdb : (x == ("__debug__" : Str)) = false := by decide)
    (he : starEach (e :: es) X.env = (false, eval e X.env) :: starEach es X.env := by rfl) (hpl : (backTo pos (starEach es X.env)).any (·.1) = false := by rfl) :
    PE X (.Call (.Name x p) (e :: es) [] pos) (tCallS sp (fun _ => E) t) := by
  obtain ⟨f, fd, F, gf, kp, b⟩ := h.ex
  exact pe_callS F hr hg gf kp b pa ha hdb he hpl
theorem w_lcX {W : WX} {wi : TI} {g : TG} {tt : TT} {te : XK → TE} {vs : List Nat} {σ : L2.St} {H : Hp} {Q : VK} (h : wi σ H fun J H1 => ∀ D, H1 D = none → ∃ W' : Nat → Nat → Hp → Prop, (∃ m, W' 0 m (upd H1 D (.lst []))) ∧ ∀ i m H, W' i m H →
  (J.stop i H ∧ Q (.ref D) H) ∨ (J.go i H ∧ ∃ Nx : Hp → Prop, (∀ H', Nx H' → ∃ m', m' < m ∧ W' (i + 1) m' H') ∧ ∀ x H', J.yld i H x H' → g x (wipe σ vs) H' fun σ2 H2 => wipe σ2 vs = wipe σ vs ∧ tt σ2 H2 fun b H3 =>
    if b = true then te (fun cls d H => W cls d σ H) σ2 H3 fun y H4 => ∃ acc, H4 D = some (.lst acc) ∧ acc.length < sizeLine ∧ Nx (upd H4 D (.lst (acc ++ [y]))) else Nx H3)) : tLcX W wi g tt te vs σ H Q := h
end

def topS (i : Nat) : Stmt := PySem.Challenge.pw_spinfloor_k60_answers_read.main.body.getD i (.Pass ⟨0, 0, 0, 0⟩)
abbrev s_BadText___init__ : Stmt := inClass (topS 2) 0
theorem sc_BadText___init__ : FnScope ["self", "at"] ["self", "at"] (defScope s_BadText___init__) := ⟨rfl, rfl, rfl, by decide +kernel, rfl, by decide +kernel, by decide +kernel⟩
abbrev s_mask_of : Stmt := topS 4
theorem sc_mask_of : FnScope ["places", "mask", "place"] ["places"] (defScope s_mask_of) := ⟨rfl, rfl, rfl, by decide +kernel, rfl, by decide +kernel, by decide +kernel⟩
abbrev s_figure_number : Stmt := topS 9
theorem sc_figure_number : FnScope ["word", "at", "sign"] ["word", "at"] (defScope s_figure_number) := ⟨rfl, rfl, rfl, by decide +kernel, rfl, by decide +kernel, by decide +kernel⟩
abbrev s_row_numbers : Stmt := topS 10
theorem sc_row_numbers : FnScope ["row", "head", "at", "words", "word"] ["row", "head", "at"] (defScope s_row_numbers) := ⟨rfl, rfl, rfl, by decide +kernel, rfl, by decide +kernel, by decide +kernel⟩
abbrev s_rising_mask : Stmt := topS 11
theorem sc_rising_mask : FnScope ["numbers", "at", "last", "number"] ["numbers", "at"] (defScope s_rising_mask) := ⟨rfl, rfl, rfl, by decide +kernel, rfl, by decide +kernel, by decide +kernel⟩
abbrev s_hill_of : Stmt := topS 12
theorem sc_hill_of : FnScope ["row", "at", "numbers"] ["row", "at"] (defScope s_hill_of) := ⟨rfl, rfl, rfl, by decide +kernel, rfl, by decide +kernel, by decide +kernel⟩
abbrev s_ended_rows : Stmt := topS 13
theorem sc_ended_rows : FnScope ["text", "rows"] ["text"] (defScope s_ended_rows) := ⟨rfl, rfl, rfl, by decide +kernel, rfl, by decide +kernel, by decide +kernel⟩
abbrev s_taken : Stmt := topS 14
theorem sc_taken : FnScope ["text", "rows", "ended", "whole_rows", "cost", "laying", "paper", "k", "numbers"] ["text"] (defScope s_taken) := ⟨rfl, rfl, rfl, by decide +kernel, rfl, by decide +kernel, by decide +kernel⟩
abbrev s_law_cell : Stmt := topS 16
theorem sc_law_cell : FnScope ["script", "k"] ["script", "k"] (defScope s_law_cell) := ⟨rfl, rfl, rfl, by decide +kernel, rfl, by decide +kernel, by decide +kernel⟩
abbrev s_law_whole : Stmt := topS 17
theorem sc_law_whole : FnScope ["found"] ["found"] (defScope s_law_whole) := ⟨rfl, rfl, rfl, by decide +kernel, rfl, by decide +kernel, by decide +kernel⟩
abbrev s_law_shown : Stmt := topS 18
theorem sc_law_shown : FnScope ["cost", "laying", "paper", "text", "place", "pair", "number"] ["cost", "laying", "paper"] (defScope s_law_shown) := ⟨rfl, rfl, rfl, by decide +kernel, rfl, by decide +kernel, by decide +kernel⟩
abbrev s_law_triple : Stmt := topS 19
theorem sc_law_triple : FnScope ["found", "due", "pair"] ["found", "due"] (defScope s_law_triple) := ⟨rfl, rfl, rfl, by decide +kernel, rfl, by decide +kernel, by decide +kernel⟩
abbrev s_law_number : Stmt := topS 20
theorem sc_law_number : FnScope ["word", "sign"] ["word"] (defScope s_law_number) := ⟨rfl, rfl, rfl, by decide +kernel, rfl, by decide +kernel, by decide +kernel⟩
abbrev s_law_row : Stmt := topS 21
theorem sc_law_row : FnScope ["row", "first", "words", "numbers", "word"] ["row", "first"] (defScope s_law_row) := ⟨rfl, rfl, rfl, by decide +kernel, rfl, by decide +kernel, by decide +kernel⟩
abbrev s_law_set : Stmt := topS 22
theorem sc_law_set : FnScope ["numbers", "found", "last", "number"] ["numbers"] (defScope s_law_set) := ⟨rfl, rfl, rfl, by decide +kernel, rfl, by decide +kernel, by decide +kernel⟩
abbrev s_law_read : Stmt := topS 23
theorem sc_law_read : FnScope ["text", "rows", "cost", "laying", "paper", "k", "numbers"] ["text"] (defScope s_law_read) := ⟨rfl, rfl, rfl, by decide +kernel, rfl, by decide +kernel, by decide +kernel⟩
abbrev s_law_paper : Stmt := topS 24
theorem sc_law_paper : FnScope ["script", "paper", "k", "mask"] ["script"] (defScope s_law_paper) := ⟨rfl, rfl, rfl, by decide +kernel, rfl, by decide +kernel, by decide +kernel⟩
abbrev s_law_sign_spoiled : Stmt := topS 25
theorem sc_law_sign_spoiled : FnScope ["text", "way", "at", "cell", "menu", "sign", "place"] ["text", "way", "at", "cell"] (defScope s_law_sign_spoiled) := ⟨rfl, rfl, rfl, by decide +kernel, rfl, by decide +kernel, by decide +kernel⟩
abbrev s_law_row_spoiled : Stmt := topS 26
theorem sc_law_row_spoiled : FnScope ["text", "way", "at", "rows", "place"] ["text", "way", "at"] (defScope s_law_row_spoiled) := ⟨rfl, rfl, rfl, by decide +kernel, rfl, by decide +kernel, by decide +kernel⟩
abbrev s_law_told : Stmt := topS 27
theorem sc_law_told : FnScope ["text", "told", "at", "by_value", "e"] ["text"] (defScope s_law_told) := ⟨rfl, rfl, rfl, by decide +kernel, rfl, by decide +kernel, by decide +kernel⟩
abbrev s_law : Stmt := topS 28
theorem sc_law : FnScope ["script", "mixed", "laying", "text", "way", "at", "more", "due", "told"] ["script"] (defScope s_law) := ⟨rfl, rfl, rfl, by decide +kernel, rfl, by decide +kernel, by decide +kernel⟩
structure Bl (mg : Str → Option Value) : Prop where
  int : mg "int" = none
  len : mg "len" = none
  range : mg "range" = none
  max : mg "max" = none
  isinstance : mg "isinstance" = none
  bool : mg "bool" = none
  str : mg "str" = none
  tuple : mg "tuple" = none
  list : mg "list" = none
  min : mg "min" = none
  ValueError : mg "ValueError" = none
structure Txt (K : PySem.W.Frag) (mg : Str → Option Value) (C_BadText C_FloorError : Addr) : Prop where
  g_BadText : mg "BadText" = some (.ref C_BadText)
  g_FloorError : mg "FloorError" = some (.ref C_FloorError)
  k_MOST_FIGURES : ∃ t, mg "MOST_FIGURES" = some (.int 40 t)
  k_FIGURES : ∃ t, mg "FIGURES" = some (.str "0123456789" t)
  k_MOST_NUMBER : ∃ t, mg "MOST_NUMBER" = some (.int 79 t)
  og : PySem.W.specialIn K (.builtin "object.__class__") "__get__" = some (some (.builtin "getset_descriptor.__get__"))
  ot : PySem.W.takesIn K (.builtin "object.__class__") = some true
  kp_BadText : PySem.W.keepIn K (.ref C_BadText) = true
  be_BadText : PySem.W.subIn K (.ref C_BadText) (.type "BaseException") = some true
  ty_BadText : PySem.W.typeIn K (.ref C_BadText) = some (.type "type")
  cl_BadText : PySem.W.isClsIn K C_BadText = true
  hd_BadText : PySem.W.hasDictIn K C_BadText = true
  ga_BadText : PySem.W.findIn K (.ref C_BadText) "__getattribute__" = some (some (.builtin "BaseException.__getattribute__"))
  gg_BadText : PySem.W.findIn K (.ref C_BadText) "__getattr__" = some none
  oc_BadText : PySem.W.findIn K (.ref C_BadText) "__class__" = some (some (.builtin "object.__class__"))
  om_BadText : PySem.W.mroIn K C_BadText (.type "object") = some true
  sv_BadText : PySem.W.subIn K (.ref C_BadText) (.type "ValueError") = some true
  sb_BadText_BadText : PySem.W.subIn K (.ref C_BadText) (.ref C_BadText) = some true
  kp_FloorError : PySem.W.keepIn K (.ref C_FloorError) = true
  be_FloorError : PySem.W.subIn K (.ref C_FloorError) (.type "BaseException") = some true
  ty_FloorError : PySem.W.typeIn K (.ref C_FloorError) = some (.type "type")
  cl_FloorError : PySem.W.isClsIn K C_FloorError = true
  hd_FloorError : PySem.W.hasDictIn K C_FloorError = true
  ga_FloorError : PySem.W.findIn K (.ref C_FloorError) "__getattribute__" = some (some (.builtin "BaseException.__getattribute__"))
  gg_FloorError : PySem.W.findIn K (.ref C_FloorError) "__getattr__" = some none
  oc_FloorError : PySem.W.findIn K (.ref C_FloorError) "__class__" = some (some (.builtin "object.__class__"))
  om_FloorError : PySem.W.mroIn K C_FloorError (.type "object") = some true
  sv_FloorError : PySem.W.subIn K (.ref C_FloorError) (.type "ValueError") = some true
  sb_FloorError_FloorError : PySem.W.subIn K (.ref C_FloorError) (.ref C_FloorError) = some true
  sb_BadText_FloorError : PySem.W.subIn K (.ref C_BadText) (.ref C_FloorError) = some true
  ox_BadText : OexC K C_BadText
  na_BadText : PySem.W.findIn K (.ref C_BadText) "at" = some none
theorem Txt.xf_BadText {K : PySem.W.Frag} {mg : Str → Option Value} {C_BadText C_FloorError : Addr} (T : Txt K mg C_BadText C_FloorError) : ExF K C_BadText := ⟨T.kp_BadText, T.be_BadText, T.ty_BadText, T.cl_BadText, T.hd_BadText, T.ga_BadText, T.gg_BadText, T.oc_BadText, T.om_BadText, T.sv_BadText, T.sb_BadText_BadText, T.og, T.ot⟩
theorem Txt.xf_FloorError {K : PySem.W.Frag} {mg : Str → Option Value} {C_BadText C_FloorError : Addr} (T : Txt K mg C_BadText C_FloorError) : ExF K C_FloorError := ⟨T.kp_FloorError, T.be_FloorError, T.ty_FloorError, T.cl_FloorError, T.hd_FloorError, T.ga_FloorError, T.gg_FloorError, T.oc_FloorError, T.om_FloorError, T.sv_FloorError, T.sb_FloorError_FloorError, T.og, T.ot⟩
def fsQ (K : PySem.W.Frag) : List Bool := [
  decide (PySem.W.nsIn K mainGlobals "BadText" = some (some (.ref (He.ga K "BadText")))),
  decide (PySem.W.nsIn K mainGlobals "FloorError" = some (some (.ref (He.ga K "FloorError")))),
  decide (PySem.W.findIn K (.ref (He.ga K "BadText")) "__init__" = some (some (.ref (He.fAd K ("BadText", some "__init__"))))),
  decide (PySem.W.typeIn K (.ref (He.fAd K ("BadText", some "__init__"))) = some (.type "function")),
  excB K (He.ga K "BadText") [.ref (He.ga K "FloorError"), .type "ValueError", .type "Exception", .type "BaseException", .type "object"],
  decide (PySem.W.findIn K (.ref (He.ga K "BadText")) "__setattr__" = some (some (.builtin "object.__setattr__"))),
  decide (PySem.W.findIn K (.ref (He.ga K "BadText")) "at" = some none),
  decide (PySem.W.isFn K (.ref (He.fAd K ("BadText", some "__init__"))) = true),
  decide (PySem.W.nsIn K mainGlobals "mask_of" = some (some (.ref (He.fAd K ("mask_of", none))))),
  decide (PySem.W.nsIn K mainGlobals "figure_number" = some (some (.ref (He.fAd K ("figure_number", none))))),
  decide (PySem.W.nsIn K mainGlobals "row_numbers" = some (some (.ref (He.fAd K ("row_numbers", none))))),
  decide (PySem.W.nsIn K mainGlobals "rising_mask" = some (some (.ref (He.fAd K ("rising_mask", none))))),
  decide (PySem.W.nsIn K mainGlobals "hill_of" = some (some (.ref (He.fAd K ("hill_of", none))))),
  decide (PySem.W.nsIn K mainGlobals "ended_rows" = some (some (.ref (He.fAd K ("ended_rows", none))))),
  decide (PySem.W.nsIn K mainGlobals "taken" = some (some (.ref (He.fAd K ("taken", none))))),
  decide (PySem.W.nsIn K mainGlobals "_law_cell" = some (some (.ref (He.fAd K ("_law_cell", none))))),
  decide (PySem.W.nsIn K mainGlobals "_law_whole" = some (some (.ref (He.fAd K ("_law_whole", none))))),
  decide (PySem.W.nsIn K mainGlobals "_law_shown" = some (some (.ref (He.fAd K ("_law_shown", none))))),
  decide (PySem.W.nsIn K mainGlobals "_law_triple" = some (some (.ref (He.fAd K ("_law_triple", none))))),
  decide (PySem.W.nsIn K mainGlobals "_law_number" = some (some (.ref (He.fAd K ("_law_number", none))))),
  decide (PySem.W.nsIn K mainGlobals "_law_row" = some (some (.ref (He.fAd K ("_law_row", none))))),
  decide (PySem.W.nsIn K mainGlobals "_law_set" = some (some (.ref (He.fAd K ("_law_set", none))))),
  decide (PySem.W.nsIn K mainGlobals "_law_read" = some (some (.ref (He.fAd K ("_law_read", none))))),
  decide (PySem.W.nsIn K mainGlobals "_law_paper" = some (some (.ref (He.fAd K ("_law_paper", none))))),
  decide (PySem.W.nsIn K mainGlobals "_law_sign_spoiled" = some (some (.ref (He.fAd K ("_law_sign_spoiled", none))))),
  decide (PySem.W.nsIn K mainGlobals "_law_row_spoiled" = some (some (.ref (He.fAd K ("_law_row_spoiled", none))))),
  decide (PySem.W.nsIn K mainGlobals "_law_told" = some (some (.ref (He.fAd K ("_law_told", none))))),
  decide (PySem.W.nsIn K mainGlobals "law" = some (some (.ref (He.fAd K ("law", none))))),
  decide (PySem.W.nsIn K mainGlobals "int" = some none),
  decide (PySem.W.nsIn K mainGlobals "len" = some none),
  decide (PySem.W.nsIn K mainGlobals "range" = some none),
  decide (PySem.W.nsIn K mainGlobals "max" = some none),
  decide (PySem.W.nsIn K mainGlobals "isinstance" = some none),
  decide (PySem.W.nsIn K mainGlobals "bool" = some none),
  decide (PySem.W.nsIn K mainGlobals "str" = some none),
  decide (PySem.W.nsIn K mainGlobals "tuple" = some none),
  decide (PySem.W.nsIn K mainGlobals "list" = some none),
  decide (PySem.W.nsIn K mainGlobals "min" = some none),
  decide (PySem.W.nsIn K mainGlobals "ValueError" = some none),
  (He.Fa.int "MOST_FIGURES" 40).ok K,
  (He.Fa.str "FIGURES" "0123456789").ok K,
  (He.Fa.int "MOST_NUMBER" 79).ok K,
  decide (PySem.W.specialIn K (.builtin "object.__class__") "__get__" = some (some (.builtin "getset_descriptor.__get__"))),
  decide (PySem.W.takesIn K (.builtin "object.__class__") = some true),
  decide (PySem.W.keepIn K (.ref (He.ga K "BadText")) = true),
  decide (PySem.W.subIn K (.ref (He.ga K "BadText")) (.type "BaseException") = some true),
  decide (PySem.W.typeIn K (.ref (He.ga K "BadText")) = some (.type "type")),
  decide (PySem.W.isClsIn K (He.ga K "BadText") = true),
  decide (PySem.W.hasDictIn K (He.ga K "BadText") = true),
  decide (PySem.W.findIn K (.ref (He.ga K "BadText")) "__getattribute__" = some (some (.builtin "BaseException.__getattribute__"))),
  decide (PySem.W.findIn K (.ref (He.ga K "BadText")) "__getattr__" = some none),
  decide (PySem.W.findIn K (.ref (He.ga K "BadText")) "__class__" = some (some (.builtin "object.__class__"))),
  decide (PySem.W.mroIn K (He.ga K "BadText") (.type "object") = some true),
  decide (PySem.W.subIn K (.ref (He.ga K "BadText")) (.type "ValueError") = some true),
  decide (PySem.W.subIn K (.ref (He.ga K "BadText")) (.ref (He.ga K "BadText")) = some true),
  decide (PySem.W.keepIn K (.ref (He.ga K "FloorError")) = true),
  decide (PySem.W.subIn K (.ref (He.ga K "FloorError")) (.type "BaseException") = some true),
  decide (PySem.W.typeIn K (.ref (He.ga K "FloorError")) = some (.type "type")),
  decide (PySem.W.isClsIn K (He.ga K "FloorError") = true),
  decide (PySem.W.hasDictIn K (He.ga K "FloorError") = true),
  decide (PySem.W.findIn K (.ref (He.ga K "FloorError")) "__getattribute__" = some (some (.builtin "BaseException.__getattribute__"))),
  decide (PySem.W.findIn K (.ref (He.ga K "FloorError")) "__getattr__" = some none),
  decide (PySem.W.findIn K (.ref (He.ga K "FloorError")) "__class__" = some (some (.builtin "object.__class__"))),
  decide (PySem.W.mroIn K (He.ga K "FloorError") (.type "object") = some true),
  decide (PySem.W.subIn K (.ref (He.ga K "FloorError")) (.type "ValueError") = some true),
  decide (PySem.W.subIn K (.ref (He.ga K "FloorError")) (.ref (He.ga K "FloorError")) = some true),
  decide (PySem.W.subIn K (.ref (He.ga K "BadText")) (.ref (He.ga K "FloorError")) = some true)]
def fnQ : List He.DefD := [
  ⟨("BadText", some "__init__"), "__init__", "BadText.__init__", defArgs s_BadText___init__, defBody s_BadText___init__, defScope s_BadText___init__, [], []⟩,
  ⟨("mask_of", none), "mask_of", "mask_of", defArgs s_mask_of, defBody s_mask_of, defScope s_mask_of, [], []⟩,
  ⟨("figure_number", none), "figure_number", "figure_number", defArgs s_figure_number, defBody s_figure_number, defScope s_figure_number, [], []⟩,
  ⟨("row_numbers", none), "row_numbers", "row_numbers", defArgs s_row_numbers, defBody s_row_numbers, defScope s_row_numbers, [], []⟩,
  ⟨("rising_mask", none), "rising_mask", "rising_mask", defArgs s_rising_mask, defBody s_rising_mask, defScope s_rising_mask, [], []⟩,
  ⟨("hill_of", none), "hill_of", "hill_of", defArgs s_hill_of, defBody s_hill_of, defScope s_hill_of, [], []⟩,
  ⟨("ended_rows", none), "ended_rows", "ended_rows", defArgs s_ended_rows, defBody s_ended_rows, defScope s_ended_rows, [], []⟩,
  ⟨("taken", none), "taken", "taken", defArgs s_taken, defBody s_taken, defScope s_taken, [], []⟩,
  ⟨("_law_cell", none), "_law_cell", "_law_cell", defArgs s_law_cell, defBody s_law_cell, defScope s_law_cell, [], []⟩,
  ⟨("_law_whole", none), "_law_whole", "_law_whole", defArgs s_law_whole, defBody s_law_whole, defScope s_law_whole, [], []⟩,
  ⟨("_law_shown", none), "_law_shown", "_law_shown", defArgs s_law_shown, defBody s_law_shown, defScope s_law_shown, [], []⟩,
  ⟨("_law_triple", none), "_law_triple", "_law_triple", defArgs s_law_triple, defBody s_law_triple, defScope s_law_triple, [], []⟩,
  ⟨("_law_number", none), "_law_number", "_law_number", defArgs s_law_number, defBody s_law_number, defScope s_law_number, [], []⟩,
  ⟨("_law_row", none), "_law_row", "_law_row", defArgs s_law_row, defBody s_law_row, defScope s_law_row, [], []⟩,
  ⟨("_law_set", none), "_law_set", "_law_set", defArgs s_law_set, defBody s_law_set, defScope s_law_set, [], []⟩,
  ⟨("_law_read", none), "_law_read", "_law_read", defArgs s_law_read, defBody s_law_read, defScope s_law_read, [], []⟩,
  ⟨("_law_paper", none), "_law_paper", "_law_paper", defArgs s_law_paper, defBody s_law_paper, defScope s_law_paper, [], []⟩,
  ⟨("_law_sign_spoiled", none), "_law_sign_spoiled", "_law_sign_spoiled", defArgs s_law_sign_spoiled, defBody s_law_sign_spoiled, defScope s_law_sign_spoiled, [], []⟩,
  ⟨("_law_row_spoiled", none), "_law_row_spoiled", "_law_row_spoiled", defArgs s_law_row_spoiled, defBody s_law_row_spoiled, defScope s_law_row_spoiled, [], []⟩,
  ⟨("_law_told", none), "_law_told", "_law_told", defArgs s_law_told, defBody s_law_told, defScope s_law_told, [], []⟩,
  ⟨("law", none), "law", "law", defArgs s_law, defBody s_law, defScope s_law, [], []⟩]
def loQ0 : List PySem.Str := ["FloorError", "BadText", "mask_of", "FIGURES", "MOST_FIGURES", "MOST_NUMBER", "figure_number", "row_numbers", "rising_mask", "hill_of", "ended_rows", "taken", "_law_cell", "_law_whole", "_law_shown", "_law_triple", "_law_number", "_law_row", "_law_set", "_law_read", "_law_paper", "_law_sign_spoiled", "_law_row_spoiled", "_law_told"]
def loQ : List PySem.Str := loQ0
abbrev hkQ : PySem.W.Hook := hookK fsQ fnQ
def obQ (s : PySem.W.SharedT) : He.AlD := obsKG fsQ fnQ (HandSHeadRun.getT s)
theorem obQ_eq (s : PySem.W.SharedT) : obQ s = hkQ.obs s.abs := obsKG_eq (HandSHeadRun.getT_eq s)
theorem runQ (w : World) : HandSHeadRun.RunEq (PySem.W.OpenLaw.row PySem.Challenge.rw_spinfloor_k60_answers_read) (PySem.W.view (PySem.W.OpenLaw.row PySem.Challenge.rw_spinfloor_k60_answers_read).prog [28]) hkQ obQ 3000 loQ w := by
  intro os
  kernel_rfl
abbrev qQ : Program := PySem.W.view (PySem.W.OpenLaw.row PySem.Challenge.rw_spinfloor_k60_answers_read).prog [28]
set_option maxRecDepth 100000 in
set_option maxHeartbeats 0 in
theorem headQ (hcall : PySem.W.WalkO qQ loQ (PySem.W.XL qQ []) hkQ.says (PySem.W.OpenLaw.row PySem.Challenge.rw_spinfloor_k60_answers_read).toRowW (HandSHeadRun.topDef (PySem.W.OpenLaw.row PySem.Challenge.rw_spinfloor_k60_answers_read).prog 28) [] fun f vs => PySem.call f vs) : PySem.Challenge.rw_spinfloor_k60_answers_read.Holds := by
  w_on; o_law
  refine HandSHeadRun.head_any (r := (PySem.W.OpenLaw.row PySem.Challenge.rw_spinfloor_k60_answers_read)) (q := qQ) (H := hkQ) (ob := obQ) (M := 3000) (loose := loQ) (d := (HandSHeadRun.topDef (PySem.W.OpenLaw.row PySem.Challenge.rw_spinfloor_k60_answers_read).prog 28)) (kwd := []) obQ_eq (by kernel_rfl) (fun s => by kernel_rfl) runQ (by kernel_rfl) (by kernel_rfl) (by kernel_rfl) (by rfl) (by first | assumption | decide +kernel) (by decide +kernel) ⟨rfl, rfl, rfl, rfl, rfl, by decide +kernel⟩ ?hw hcall
  case hw => w_witness2
/-! ### lists as sets -/
theorem perm_of_nodup {α : Type} [DecidableEq α] {xs ys : List α} (hx : xs.Nodup) (hy : ys.Nodup) (h : ∀ a, a ∈ xs ↔ a ∈ ys) : xs.Perm ys := by
  rw [List.perm_iff_count]
  intro a
  rw [List.Nodup.count hx, List.Nodup.count hy]
  by_cases e : a ∈ xs
  · rw [if_pos e, if_pos ((h a).mp e)]
  · rw [if_neg e, if_neg (fun z => e ((h a).mpr z))]
theorem len_of_nodup {α : Type} [DecidableEq α] {xs ys : List α} (hx : xs.Nodup) (hy : ys.Nodup) (h : ∀ a, a ∈ xs ↔ a ∈ ys) : xs.length = ys.length := (perm_of_nodup hx hy h).length_eq
theorem nodup_sub_len {α : Type} [DecidableEq α] : ∀ {xs ys : List α}, xs.Nodup → (∀ a ∈ xs, a ∈ ys) → xs.length ≤ ys.length
  | [], _, _, _ => Nat.zero_le _
  | x :: xs, ys, hx, h => by
    have hx' := List.nodup_cons.mp hx
    have ih := nodup_sub_len (ys := ys.erase x) hx'.2 fun a ha => by
      have : a ≠ x := fun e => hx'.1 (e ▸ ha)
      exact (List.mem_erase_of_ne this).mpr (h a (List.mem_cons_of_mem _ ha))
    have hm := h x List.mem_cons_self
    have := List.length_erase_of_mem hm
    have hp : 0 < ys.length := List.length_pos_of_mem hm
    rw [List.length_cons]
    omega
/-- as many as there are: all -/
theorem nodup_full {α : Type} [DecidableEq α] {xs ys : List α} (hx : xs.Nodup) (hs : ∀ a ∈ xs, a ∈ ys) (hl : ys.length ≤ xs.length) : ∀ a ∈ ys, a ∈ xs := fun a ha => by
  by_cases e : a ∈ xs
  · exact e
  · have : (a :: xs).Nodup := List.nodup_cons.mpr ⟨e, hx⟩
    have h2 := nodup_sub_len this (fun b hb => by rcases List.mem_cons.mp hb with r | r; exact r ▸ ha; exact hs b r)
    rw [List.length_cons] at h2
    omega
/-! ### the next one in a list that goes round -/

theorem sorted_eq : ∀ {xs ys : List Nat}, xs.Pairwise (· < ·) → ys.Pairwise (· < ·) → (∀ a, a ∈ xs ↔ a ∈ ys) → xs = ys
  | [], [], _, _, _ => rfl
  | [], y :: ys, _, _, h => absurd ((h y).mpr List.mem_cons_self) (by simp)
  | x :: xs, [], _, _, h => absurd ((h x).mp List.mem_cons_self) (by simp)
  | x :: xs, y :: ys, h1, h2, h => by
    obtain ⟨a1, a2⟩ := List.pairwise_cons.mp h1
    obtain ⟨b1, b2⟩ := List.pairwise_cons.mp h2
    have e : x = y := by
      rcases List.mem_cons.mp ((h x).mp List.mem_cons_self) with e | e
      · exact e
      · rcases List.mem_cons.mp ((h y).mpr List.mem_cons_self) with e2 | e2
        · exact e2.symm
        · have := a1 _ e2; have := b1 _ e; omega
    subst e
    rw [sorted_eq a2 b2 fun a => ?_]
    constructor
    · intro ha
      rcases List.mem_cons.mp ((h a).mp (List.mem_cons_of_mem _ ha)) with e | e
      · have := a1 _ ha; omega
      · exact e
    · intro ha
      rcases List.mem_cons.mp ((h a).mpr (List.mem_cons_of_mem _ ha)) with e | e
      · have := b1 _ ha; omega
      · exact e

/-! ### data of webs -/
def dRow (r : List Nat) : PyData := .list (r.map fun x : Nat => .int (x : Int))
def dRows (T : List (List Nat)) : PyData := .list (T.map dRow)
def iv (r : List Nat) : List V := r.map fun x : Nat => V.int (x : Int)
theorem iv_len (r : List Nat) : (iv r).length = r.length := by unfold iv; simp
theorem iv_at {r : List Nat} {i : Nat} (h : i < r.length) : (iv r)[i]? = some (.int ((r.getD i 0 : Nat) : Int)) := by
  unfold iv
  rw [List.getElem?_map, List.getD_eq_getElem?_getD, List.getElem?_eq_getElem h]
  rfl
theorem iv_app (r s : List Nat) : iv (r ++ s) = iv r ++ iv s := by unfold iv; simp
theorem take_snoc {l : List Nat} {i : Nat} (h : i < l.length) : l.take (i + 1) = l.take i ++ [l.getD i 0] := by
  rw [List.take_add_one, List.getElem?_eq_getElem h, List.getD_eq_getElem?_getD, List.getElem?_eq_getElem h]
  rfl
theorem iv_flat (r : List Nat) : (iv r).all flatV = true := by
  rw [List.all_eq_true]
  intro v hv
  obtain ⟨x, _, rfl⟩ := List.mem_map.mp hv
  rfl
theorem dpRowA {K : PySem.W.Frag} {H : Hp} {a : Addr} {r : List Nat} (h : Dp K H (.ref a) (dRow r)) : SqL K H a (iv r) := by
  obtain ⟨xs, h1, h2⟩ := dpLstA h
  have e := dpAll_ints (ns := r.map fun x : Nat => (x : Int)) (by rw [List.map_map]; exact h2)
  rw [List.map_map] at e
  have e2 : xs = iv r := e
  rw [← e2]
  exact h1
theorem dpRow {K : PySem.W.Frag} {H : Hp} {a : Addr} {r : List Nat} (h : SqL K H a (iv r)) : Dp K H (.ref a) (dRow r) := by
  have := dpInts (K := K) (H := H) (r.map fun x : Nat => (x : Int))
  rw [List.map_map, List.map_map] at this
  exact .lst h this
theorem goodRow (r : List Nat) : Good 1 (dRow r) := goodLst (goodMap fun _ => goodInt)
theorem goodRows (T : List (List Nat)) : Good 2 (dRows T) := goodLst (goodMap fun r => goodRow r)
theorem w_idx {K : PySem.W.Frag} {H : Hp} {Q : VK} {p : Addr} {r : List Nat} {x : Nat} (hs : SqL K H p (iv r)) (hx : x ∈ r) (h : Q (.int ((r.idxOf x : Nat) : Int)) H) : rIndex K (.ref p) [.int (x : Int)] H Q := by
  have hl : r.idxOf x < r.length := List.idxOf_lt_length_of_mem hx
  refine ⟨p, iv r, .int (x : Int), r.idxOf x, .int ((r.getD (r.idxOf x) 0 : Nat) : Int), rfl, rfl, hs, rfl, iv_flat r, iv_at hl, ?_, ?_, h⟩
  · have : r.getD (r.idxOf x) 0 = x := by
      rw [List.getD_eq_getElem?_getD, List.getElem?_eq_getElem hl]
      exact List.getElem_idxOf hl
    rw [this]
    simp [eqV]
  · intro m z' hm hz
    have hml : m < r.length := by omega
    rw [iv_at hml] at hz
    cases hz
    have hne : r.getD m 0 ≠ x := by
      rw [List.getD_eq_getElem?_getD, List.getElem?_eq_getElem hml]
      have := List.not_of_lt_findIdx (xs := r) (p := (· == x)) hm
      simpa using this
    show (((r.getD m 0 : Nat) : Int) == (x : Int)) = false
    rw [beq_eq_false_iff_ne]
    omega
theorem iv_map (r : List Nat) : iv r = (r.map fun x : Nat => (x : Int)).map V.int := by unfold iv; rw [List.map_map]; rfl

/-! ### rooms and links -/
abbrev Lk := List (Nat × Nat × Nat)
def lka (L : Lk) (k : Nat) : Nat := (L.getD k (0, 0, 0)).1
def lkb (L : Lk) (k : Nat) : Nat := (L.getD k (0, 0, 0)).2.1
def lkw (L : Lk) (k : Nat) : Nat := (L.getD k (0, 0, 0)).2.2
theorem lk_at {L : Lk} {k : Nat} (h : k < L.length) : L[k]? = some (lka L k, lkb L k, lkw L k) := by
  unfold lka lkb lkw
  rw [List.getD_eq_getElem?_getD, List.getElem?_eq_getElem h]
  rfl
def JL (L : Lk) (k a b : Nat) : Prop := (lka L k = a ∧ lkb L k = b) ∨ (lka L k = b ∧ lkb L k = a)
theorem JL.symm {L : Lk} {k a b : Nat} (h : JL L k a b) : JL L k b a := by
  rcases h with h | h
  · exact .inr h
  · exact .inl h
/-- where a link leads from a room -/
def byd (a b r : Nat) : Option Nat := if a = r then some b else if b = r then some a else none
theorem byd_some {L : Lk} {k r o : Nat} (h : byd (lka L k) (lkb L k) r = some o) : JL L k r o ∧ ∀ b, JL L k r b → b = o := by
  unfold byd at h
  split at h
  · rename_i e
    cases h
    refine ⟨.inl ⟨e, rfl⟩, fun b hb => ?_⟩
    rcases hb with ⟨_, h2⟩ | ⟨h1, h2⟩
    · exact h2.symm
    · omega
  · split at h
    · rename_i e1 e2
      cases h
      refine ⟨.inr ⟨rfl, e2⟩, fun b hb => ?_⟩
      rcases hb with ⟨h1, h2⟩ | ⟨h1, h2⟩
      · exact absurd h1 e1
      · exact h1.symm
    · cases h
theorem byd_none {L : Lk} {k r : Nat} (h : byd (lka L k) (lkb L k) r = none) (b : Nat) : ¬ JL L k r b := by
  unfold byd at h
  split at h
  · cases h
  · split at h
    · cases h
    · rintro (⟨h1, h2⟩ | ⟨h1, h2⟩)
      · exact absurd h1 (by assumption)
      · exact absurd h2 (by assumption)
def upF {α : Type} (f : Nat → α) (o : Nat) (v : α) : Nat → α := fun q => if q = o then v else f q
theorem upF_same {α : Type} {f : Nat → α} {o : Nat} {v : α} : upF f o v o = v := if_pos rfl
theorem upF_ne {α : Type} {f : Nat → α} {o q : Nat} {v : α} (h : q ≠ o) : upF f o v q = f q := if_neg h
/-- fares from s, with the last links and an order of the rooms -/
structure FareOk (n : Nat) (L : Lk) (s : Nat) (far via : Nat → Option Nat) (rk : Nat → Nat) : Prop where
  s0 : far s = some 0
  sv : via s = none
  lt : ∀ r, far r ≠ none → r < n
  un : ∀ r, far r = none → via r = none
  edge : ∀ k a b, k < L.length → JL L k a b → ∀ x, far a = some x → ∃ y, far b = some y ∧ y ≤ x + lkw L k
  back : ∀ r, r ≠ s → ∀ y, far r = some y → ∃ k q x, via r = some k ∧ k < L.length ∧ JL L k q r ∧ far q = some x ∧ y = x + lkw L k ∧ rk q < rk r
  rkl : ∀ r, far r ≠ none → rk r < n
/-- the search under way: P tells which links have been looked along -/
structure DI (n : Nat) (L : Lk) (s : Nat) (P : Nat → Nat → Prop) (far via : Nat → Option Nat) (dn : Nat → Bool) (rk : Nat → Nat) (c : Nat) : Prop where
  s0 : far s = some 0
  sv : via s = none
  lt : ∀ r, far r ≠ none → r < n
  un : ∀ r, far r = none → via r = none
  dr : ∀ r, dn r = true → far r ≠ none
  mono : ∀ q r x y, dn q = true → far q = some x → dn r = false → far r = some y → x ≤ y
  rel : ∀ k a b, k < L.length → P k a → JL L k a b → dn a = true → ∀ x, far a = some x → ∃ y, far b = some y ∧ y ≤ x + lkw L k
  back : ∀ r, r ≠ s → ∀ y, far r = some y → ∃ k q x, via r = some k ∧ k < L.length ∧ JL L k q r ∧ dn q = true ∧ far q = some x ∧ y = x + lkw L k ∧ (dn r = true → rk q < rk r)
  rkl : ∀ r, dn r = true → rk r < c
section
variable {n s c : Nat} {L : Lk} {P : Nat → Nat → Prop} {far via : Nat → Option Nat} {dn : Nat → Bool} {rk : Nat → Nat}
theorem DI.zero (hs : s < n) : DI n L s (fun _ _ => True) (upF (fun _ => none) s (some 0)) (fun _ => none) (fun _ => false) (fun _ => 0) 0 := by
  refine ⟨upF_same, rfl, fun r h => ?_, fun _ _ => rfl, fun _ h => (by cases h), fun _ _ _ _ h => (by cases h), fun _ _ _ _ _ _ h => (by cases h), fun r hr y h => ?_, fun _ h => (by cases h)⟩
  · by_cases e : r = s
    · subst e; exact hs
    · rw [upF_ne e] at h; exact absurd rfl h
  · rw [upF_ne hr] at h; cases h
theorem DI.open (h : DI n L s (fun _ _ => True) far via dn rk c) {r x : Nat} (hr : dn r = false) (hx : far r = some x) (hmin : ∀ q y, dn q = false → far q = some y → x ≤ y) :
    DI n L s (fun k a => a ≠ r ∨ k < 0) far via (upF dn r true) (upF rk r c) (c + 1) ∧ ∀ q y, upF dn r true q = true → far q = some y → y ≤ x := by
  refine ⟨⟨h.s0, h.sv, h.lt, h.un, fun q hq => ?_, fun q t y z hq hy ht hz => ?_, fun k a b hk hP hj ha y hy => ?_, fun t ht y hy => ?_, fun q hq => ?_⟩, fun q y hq hy => ?_⟩
  · by_cases e : q = r
    · subst e; rw [hx]; simp
    · rw [upF_ne e] at hq; exact h.dr q hq
  · have et : t ≠ r := fun e => by subst e; rw [upF_same] at ht; cases ht
    rw [upF_ne et] at ht
    by_cases e : q = r
    · subst e
      rw [hx] at hy; cases hy
      exact hmin t z ht hz
    · rw [upF_ne e] at hq; exact h.mono q t y z hq hy ht hz
  · rcases hP with hP | hP
    · rw [upF_ne hP] at ha; exact h.rel k a b hk trivial hj ha y hy
    · omega
  · obtain ⟨k, q, z, h1, h2, h3, h4, h5, h6, h7⟩ := h.back t ht y hy
    have eq : q ≠ r := fun e => by subst e; rw [hr] at h4; cases h4
    refine ⟨k, q, z, h1, h2, h3, by rw [upF_ne eq]; exact h4, h5, h6, fun ht2 => ?_⟩
    rw [upF_ne eq]
    by_cases e : t = r
    · subst e; rw [upF_same]; exact h.rkl q h4
    · rw [upF_ne e] at ht2 ⊢; exact h7 ht2
  · by_cases e : q = r
    · subst e; rw [upF_same]; omega
    · rw [upF_ne e] at hq ⊢; have := h.rkl q hq; omega
  · by_cases e : q = r
    · subst e; rw [hx] at hy; cases hy; exact Nat.le_refl _
    · rw [upF_ne e] at hq; exact h.mono q r y x hq hy hr hx
theorem DI.close (h : DI n L s P far via dn rk c) (hP : ∀ k a, k < L.length → P k a) : DI n L s (fun _ _ => True) far via dn rk c :=
  ⟨h.s0, h.sv, h.lt, h.un, h.dr, h.mono, fun k a b hk _ => h.rel k a b hk (hP k a hk), h.back, h.rkl⟩
theorem DI.skip {r j : Nat} (h : DI n L s (fun k a => a ≠ r ∨ k < j) far via dn rk c) (hj : ∀ b, JL L j r b → ∀ x, far r = some x → ∃ y, far b = some y ∧ y ≤ x + lkw L j) : DI n L s (fun k a => a ≠ r ∨ k < j + 1) far via dn rk c := by
  refine ⟨h.s0, h.sv, h.lt, h.un, h.dr, h.mono, fun k a b hk hP hjl ha x hx => ?_, h.back, h.rkl⟩
  by_cases e : a ≠ r
  · exact h.rel k a b hk (.inl e) hjl ha x hx
  · have ea : a = r := Classical.not_not.mp e
    subst ea
    by_cases ek : k = j
    · subst ek; exact hj b hjl x hx
    · refine h.rel k a b hk (.inr ?_) hjl ha x hx
      rcases hP with h | h
      · exact absurd rfl h
      · omega
theorem DI.relax {r j o x : Nat} (h : DI n L s (fun k a => a ≠ r ∨ k < j) far via dn rk c) (htop : ∀ q y, dn q = true → far q = some y → y ≤ x) (hr : dn r = true) (hx : far r = some x) (hj : j < L.length) (hjl : JL L j r o) (huq : ∀ b, JL L j r b → b = o) (hon : o < n) (ho : dn o = false)
    (hlt : ∀ y, far o = some y → x + lkw L j < y) : DI n L s (fun k a => a ≠ r ∨ k < j + 1) (upF far o (some (x + lkw L j))) (upF via o (some j)) dn rk c ∧ ∀ q y, dn q = true → upF far o (some (x + lkw L j)) q = some y → y ≤ x := by
  have hor : o ≠ r := fun e => by subst e; rw [hr] at ho; cases ho
  have hos : s ≠ o := fun e => by
    subst e
    have := hlt 0 h.s0
    omega
  have hdo : ∀ q, dn q = true → q ≠ o := fun q hq e => by subst e; rw [hq] at ho; cases ho
  refine ⟨⟨by rw [upF_ne hos]; exact h.s0, by rw [upF_ne hos]; exact h.sv, fun q hq => ?_, fun q hq => ?_, fun q hq => ?_, fun q t y z hq hy ht hz => ?_, fun k a b hk hP hjk ha y hy => ?_, fun t ht y hy => ?_, h.rkl⟩, fun q y hq hy => ?_⟩
  · by_cases e : q = o
    · subst e; exact hon
    · rw [upF_ne e] at hq; exact h.lt q hq
  · by_cases e : q = o
    · subst e; rw [upF_same] at hq; cases hq
    · rw [upF_ne e] at hq ⊢; exact h.un q hq
  · rw [upF_ne (hdo q hq)]; exact h.dr q hq
  · rw [upF_ne (hdo q hq)] at hy
    have := htop q y hq hy
    by_cases e : t = o
    · subst e; rw [upF_same] at hz; cases hz; omega
    · rw [upF_ne e] at hz; exact h.mono q t y z hq hy ht hz
  · rw [upF_ne (hdo a ha)] at hy
    by_cases ea : a = r ∧ k = j
    · obtain ⟨ea, ek⟩ := ea
      subst ea ek
      rw [hx] at hy; cases hy
      have := huq b hjk
      subst this
      exact ⟨_, upF_same, Nat.le_refl _⟩
    · obtain ⟨z, hz, hz2⟩ := h.rel k a b hk (by
        rcases hP with h | h
        · exact .inl h
        · by_cases e : a = r
          · exact .inr (by have : k ≠ j := fun z => ea ⟨e, z⟩; omega)
          · exact .inl e) hjk ha y hy
      by_cases eb : b = o
      · subst eb
        have := hlt z hz
        exact ⟨_, upF_same, by omega⟩
      · exact ⟨z, by rw [upF_ne eb]; exact hz, hz2⟩
  · by_cases e : t = o
    · subst e
      rw [upF_same] at hy; cases hy
      exact ⟨j, r, x, upF_same, hj, hjl, hr, by rw [upF_ne (Ne.symm hor)]; exact hx, rfl, fun z => by rw [ho] at z; cases z⟩
    · rw [upF_ne e] at hy
      obtain ⟨k, q, z, h1, h2, h3, h4, h5, h6, h7⟩ := h.back t ht y hy
      exact ⟨k, q, z, by rw [upF_ne e]; exact h1, h2, h3, h4, by rw [upF_ne (hdo q h4)]; exact h5, h6, h7⟩
  · rw [upF_ne (hdo q hq)] at hy
    exact htop q y hq hy
theorem DI.done (h : DI n L s (fun _ _ => True) far via dn rk c) (hc : c ≤ n) (hd : ∀ r, far r ≠ none → dn r = true) : FareOk n L s far via rk := by
  refine ⟨h.s0, h.sv, h.lt, h.un, fun k a b hk hj x hx => h.rel k a b hk trivial hj (hd a (by rw [hx]; simp)) x hx, fun r hr y hy => ?_, fun r hr => ?_⟩
  · obtain ⟨k, q, z, h1, h2, h3, h4, h5, h6, h7⟩ := h.back r hr y hy
    exact ⟨k, q, z, h1, h2, h3, h5, h6, h7 (hd r (by rw [hy]; simp))⟩
  · have := h.rkl r (hd r hr); omega
end
def cnf (f : Nat → Bool) : Nat → Nat
  | 0 => 0
  | m + 1 => cnf f m + (if f m = true then 0 else 1)
theorem cnf_congr {f g : Nat → Bool} : ∀ {m : Nat}, (∀ i, i < m → f i = g i) → cnf f m = cnf g m
  | 0, _ => rfl
  | m + 1, h => by
    show cnf f m + (if f m = true then 0 else 1) = cnf g m + (if g m = true then 0 else 1)
    rw [cnf_congr fun i hi => h i (by omega), h m (by omega)]
theorem cnf_set {f : Nat → Bool} {r : Nat} (hf : f r = false) : ∀ {m : Nat}, r < m → cnf (upF f r true) m + 1 = cnf f m
  | 0, h => absurd h (by omega)
  | m + 1, h => by
    show cnf (upF f r true) m + (if upF f r true m = true then 0 else 1) + 1 = cnf f m + (if f m = true then 0 else 1)
    by_cases e : r = m
    · subst e
      rw [upF_same, hf, cnf_congr fun i hi => upF_ne (f := f) (v := true) (show i ≠ r by omega)]
      simp
    · rw [upF_ne (fun z => e z.symm), ← cnf_set hf (show r < m by omega)]
      omega
theorem cnf_none : ∀ m, cnf (fun _ => false) m = m
  | 0 => rfl
  | m + 1 => by
    show cnf (fun _ => false) m + 1 = m + 1
    rw [cnf_none m]
/-! ### lists by room -/
abbrev ov : Option Nat → V
  | none => .non
  | some x => .int (x : Nat)
def ovs (f : Nat → Option Nat) (n : Nat) : List V := (List.range n).map fun r => ov (f r)
def bls (f : Nat → Bool) (n : Nat) : List V := (List.range n).map fun r => V.bl (f r)
theorem ovs_len (f : Nat → Option Nat) (n : Nat) : (ovs f n).length = n := by unfold ovs; simp
theorem bls_len (f : Nat → Bool) (n : Nat) : (bls f n).length = n := by unfold bls; simp
theorem ovs_at {f : Nat → Option Nat} {n r : Nat} (h : r < n) : (ovs f n)[r]? = some (ov (f r)) := map_at h
theorem bls_at {f : Nat → Bool} {n r : Nat} (h : r < n) : (bls f n)[r]? = some (.bl (f r)) := map_at h
theorem ovs_set (f : Nat → Option Nat) (n j : Nat) (v : Option Nat) : (ovs f n).set j (ov v) = ovs (upF f j v) n := by
  unfold ovs
  rw [map_set]
  refine List.map_congr_left fun r _ => ?_
  by_cases e : r = j
  · subst e; rw [if_pos rfl, upF_same]
  · rw [if_neg e, upF_ne e]
theorem bls_set (f : Nat → Bool) (n j : Nat) (v : Bool) : (bls f n).set j (.bl v) = bls (upF f j v) n := by
  unfold bls
  rw [map_set]
  refine List.map_congr_left fun r _ => ?_
  by_cases e : r = j
  · subst e; rw [if_pos rfl, upF_same]
  · rw [if_neg e, upF_ne e]
theorem rep_one (n : Nat) (v : V) : (List.replicate n [v]).flatten = (List.range n).map fun _ => v := by
  have : (List.replicate n [v]).flatten = List.replicate n v := by
    induction n with
    | zero => rfl
    | succ n ih => rw [List.replicate_succ, List.flatten_cons, ih, List.replicate_succ]; rfl
  refine List.ext_getElem (by simp) fun i h1 h2 => ?_
  simp [this]
theorem rep_ov (n : Nat) : (List.replicate n [V.non]).flatten = ovs (fun _ => none) n := rep_one n .non
theorem rep_bl (n : Nat) (b : Bool) : (List.replicate n [V.bl b]).flatten = bls (fun _ => b) n := rep_one n (.bl b)
theorem dec_int_non (i : Int) : decide (V.int i = V.non) = false := decide_eq_false (by simp)
theorem dec_ov (o : Option Nat) : decide (ov o = V.non) = o.isNone := by cases o <;> simp [ov]
def dLk (l : Nat × Nat × Nat) : PyData := .tuple ([((l.1 : Nat) : Int), ((l.2.1 : Nat) : Int), ((l.2.2 : Nat) : Int)].map PyData.int)
def dLks (L : Lk) : PyData := .list (L.map dLk)
theorem dpLkAt {K : PySem.W.Frag} {H : Hp} {xs : List V} {L : Lk} (h : DpAll K H xs (L.map dLk)) {i : Nat} (hi : i < L.length) : ∃ p, xs[i]? = some (.ref p) ∧ SqT K H p [.int (lka L i : Nat), .int (lkb L i : Nat), .int (lkw L i : Nat)] := by
  obtain ⟨v, h1, h2⟩ := dpaGet (i := i) (d := dLk (lka L i, lkb L i, lkw L i)) h (by rw [List.getElem?_map, lk_at hi]; rfl)
  obtain ⟨p, ys, rfl, h3, h4⟩ := dpTup h2
  have := dpAll_ints h4
  rw [this] at h3
  exact ⟨p, h1, h3⟩
theorem goodLk (l : Nat × Nat × Nat) : Good 1 (dLk l) := goodTup (goodMap fun _ => goodInt)
theorem goodLks (L : Lk) : Good 2 (dLks L) := goodLst (goodMap goodLk)
/-! ### walks -/
inductive Wk (L : Lk) : Nat → Nat → Nat → Prop
  | refl (a : Nat) : Wk L a a 0
  | step {a b c l k : Nat} : Wk L a b l → k < L.length → JL L k b c → Wk L a c (l + lkw L k)
theorem Wk.trans {L : Lk} {a b c l m : Nat} (h : Wk L a b l) (h' : Wk L b c m) : Wk L a c (l + m) := by
  induction h' with
  | refl => exact h
  | step _ hk hj ih => rw [← Nat.add_assoc]; exact .step ih hk hj
theorem Wk.symm {L : Lk} {a b l : Nat} (h : Wk L a b l) : Wk L b a l := by
  induction h with
  | refl => exact .refl _
  | step _ hk hj ih =>
    have := (Wk.step (.refl _) hk hj.symm).trans ih
    rw [Nat.zero_add, Nat.add_comm] at this
    exact this
section
variable {n s : Nat} {L : Lk} {far via : Nat → Option Nat} {rk : Nat → Nat}
theorem FareOk.walk (h : FareOk n L s far via rk) : ∀ (m r y : Nat), rk r ≤ m → far r = some y → Wk L s r y
  | m, r, y, hm, hy => by
    by_cases e : r = s
    · subst e
      rw [h.s0] at hy
      cases hy
      exact .refl _
    · obtain ⟨k, q, x, h1, h2, h3, h4, h5, h6⟩ := h.back r e y hy
      match m, hm with
      | 0, hm => omega
      | m + 1, hm =>
        have := FareOk.walk h m q x (by omega) h4
        rw [h5]
        exact .step this h2 h3
theorem FareOk.wk (h : FareOk n L s far via rk) {r y : Nat} (hy : far r = some y) : Wk L s r y := h.walk _ r y (Nat.le_refl _) hy
theorem FareOk.le (h : FareOk n L s far via rk) {a b l : Nat} (hw : Wk L a b l) : ∀ {x : Nat}, far a = some x → ∃ y, far b = some y ∧ y ≤ x + l := by
  induction hw with
  | refl => exact fun hx => ⟨_, hx, by omega⟩
  | step _ hk hj ih =>
    intro x hx
    obtain ⟨y, hy, hle⟩ := ih hx
    obtain ⟨z, hz, hle2⟩ := h.edge _ _ _ hk hj y hy
    exact ⟨z, hz, by omega⟩
theorem FareOk.flip (h : FareOk n L s far via rk) {t : Nat} {far' via' : Nat → Option Nat} {rk' : Nat → Nat} (h' : FareOk n L t far' via' rk') : far t = far' s := by
  cases e : far t with
  | some y =>
    obtain ⟨z, hz, hle⟩ := h'.le (h.wk e).symm h'.s0
    obtain ⟨y', hy', hle'⟩ := h.le (h'.wk hz).symm h.s0
    rw [e] at hy'
    cases hy'
    rw [hz]
    congr 1
    omega
  | none =>
    cases e' : far' s with
    | none => rfl
    | some z =>
      obtain ⟨y, hy, _⟩ := h.le (h'.wk e').symm h.s0
      rw [e] at hy
      cases hy
/-- what is reached -/
def WholeL (L : Lk) (n : Nat) : Prop := ∀ C : Nat → Bool, C 0 = true → (∀ k, k < L.length → C (lka L k) = C (lkb L k)) → ∀ r, r < n → C r = true
theorem Wk.closed {a b l : Nat} (h : Wk L a b l) (C : Nat → Bool) (hC : ∀ k, k < L.length → C (lka L k) = C (lkb L k)) : C b = C a := by
  induction h with
  | refl => rfl
  | step _ hk hj ih =>
    rw [← ih]
    have := hC _ hk
    rcases hj with ⟨h1, h2⟩ | ⟨h1, h2⟩
    · rw [h1, h2] at this; exact this.symm
    · rw [h1, h2] at this; exact this
theorem FareOk.whole (h : FareOk n L 0 far via rk) : (∀ r, r < n → far r ≠ none) ↔ WholeL L n := by
  refine ⟨fun hr C h0 hC r hrn => ?_, fun hw r hrn hfr => ?_⟩
  · obtain ⟨y, hy⟩ := Option.ne_none_iff_exists'.mp (hr r hrn)
    rw [(h.wk hy).closed C hC, h0]
  · have := hw (fun r => (far r).isSome) (by show (far 0).isSome = true; rw [h.s0]; rfl) (fun k hk => by
      show (far (lka L k)).isSome = (far (lkb L k)).isSome
      cases e1 : far (lka L k) with
      | some x =>
        obtain ⟨y, hy, _⟩ := h.edge k _ _ hk (.inl ⟨rfl, rfl⟩) x e1
        rw [hy]; rfl
      | none =>
        cases e2 : far (lkb L k) with
        | none => rfl
        | some y =>
          obtain ⟨x, hx, _⟩ := h.edge k _ _ hk (.inr ⟨rfl, rfl⟩) y e2
          rw [e1] at hx; cases hx) r hrn
    simp [hfr] at this
/-- the rooms along a row -/
structure WayOk (n : Nat) (L : Lk) (s : Nat) (far : Nat → Option Nat) (rk : Nat → Nat) (ks rs : List Nat) (r : Nat) : Prop where
  len : rs.length = ks.length + 1
  fst : rs.getD 0 0 = s
  lst : rs.getD ks.length 0 = r
  f0 : far s = some 0
  step : ∀ j, j < ks.length → ks.getD j 0 < L.length ∧ JL L (ks.getD j 0) (rs.getD j 0) (rs.getD (j + 1) 0) ∧ rk (rs.getD j 0) < rk (rs.getD (j + 1) 0) ∧ rs.getD (j + 1) 0 < n ∧ ∃ x, far (rs.getD j 0) = some x ∧ far (rs.getD (j + 1) 0) = some (x + lkw L (ks.getD j 0))
theorem getD_app {l : List Nat} {a i : Nat} : (l ++ [a]).getD i 0 = if i = l.length then a else l.getD i 0 := by
  rw [List.getD_eq_getElem?_getD, List.getD_eq_getElem?_getD, List.getElem?_append]
  by_cases e : i = l.length
  · subst e; simp
  · by_cases e2 : i < l.length
    · rw [if_pos e2, if_neg e]
    · rw [if_neg e2, if_neg e, List.getElem?_eq_none (by simp; omega), List.getElem?_eq_none (by omega)]
theorem WayOk.mono {ks rs : List Nat} {r : Nat} (h : WayOk n L s far rk ks rs r) : ∀ j, j ≤ ks.length → ∀ i, i < j → rk (rs.getD i 0) < rk (rs.getD j 0)
  | 0, _, i, hi => absurd hi (by omega)
  | j + 1, hj, i, hi => by
    have h1 := (h.step j (by omega)).2.2.1
    by_cases e : i = j
    · subst e; exact h1
    · have := WayOk.mono h j (by omega) i (by omega)
      omega
end

/-! ### pairings of a list -/
inductive PL (d : Nat → Nat → Nat) : List Nat → Nat → Prop
  | nil : PL d [] 0
  | cons {l l' : List Nat} {a b c : Nat} : l.Perm (a :: b :: l') → PL d l' c → PL d l (c + d a b)
section
variable {d : Nat → Nat → Nat} {l l' m : List Nat} {a b c x : Nat}
theorem PL.perm (h : PL d l c) (p : l.Perm m) : PL d m c := by
  cases h with
  | nil => rw [← List.Perm.nil_eq p]; exact .nil
  | cons q h' => exact .cons (p.symm.trans q) h'
theorem PL.nil_eq (h : PL d [] c) : c = 0 := by
  generalize e : ([] : List Nat) = l0 at h
  cases h with
  | nil => rfl
  | cons q _ => subst e; have := q.length_eq; simp at this
/-- the mate of a -/
theorem PL.mate (hs : ∀ x y, d x y = d y x) (h : PL d l c) : a ∈ l → ∃ x l' c', l.Perm (a :: x :: l') ∧ PL d l' c' ∧ c = c' + d a x := by
  induction h with
  | nil => intro h; simp at h
  | @cons l0 l1 u v c0 p h' ih =>
    intro ha
    rcases List.mem_cons.mp (p.mem_iff.mp ha) with e | ha2
    · subst e; exact ⟨v, l1, c0, p, h', rfl⟩
    · rcases List.mem_cons.mp ha2 with e | ha3
      · subst e; exact ⟨u, l1, c0, p.trans (.swap _ _ _), h', by rw [hs]⟩
      · obtain ⟨x, l2, c2, q, h2, e2⟩ := ih ha3
        refine ⟨x, u :: v :: l2, c2 + d u v, ?_, .cons (.refl _) h2, by omega⟩
        refine p.trans ?_
        have q2 : (u :: v :: l1).Perm (u :: v :: a :: x :: l2) := (q.cons v).cons u
        refine q2.trans ?_
        have : (u :: v :: a :: x :: l2).Perm (a :: u :: v :: x :: l2) := ((List.Perm.swap a v _).cons u).trans (.swap _ _ _)
        refine this.trans (.cons _ ?_)
        exact ((List.Perm.swap x v _).cons u).trans (.swap _ _ _)
theorem PL.map {d' : Nat → Nat → Nat} {f : Nat → Nat} (h : PL d l c) (e : ∀ x ∈ l, ∀ y ∈ l, d' (f x) (f y) = d x y) : PL d' (l.map f) c := by
  induction h with
  | nil => exact .nil
  | @cons l0 l1 u v c0 p h' ih =>
    have hm : ∀ z ∈ l1, z ∈ l0 := fun z hz => p.mem_iff.mpr (by simp [hz])
    have := PL.cons (d := d') (p.map f) (ih fun x hx y hy => e x (hm x hx) y (hm y hy))
    rw [e u (p.mem_iff.mpr (by simp)) v (p.mem_iff.mpr (by simp))] at this
    exact this
/-- one end moved, put in or taken out at a, and at b -/
def flip (l : List Nat) (a : Nat) : List Nat := if a ∈ l then l.erase a else a :: l
theorem flip_nodup (h : l.Nodup) : (flip l a).Nodup := by
  unfold flip
  split
  · exact h.erase _
  · exact List.nodup_cons.mpr ⟨by assumption, h⟩
theorem flip_mem (h : l.Nodup) : x ∈ flip l a ↔ (x ∈ l ∧ x ≠ a) ∨ (x = a ∧ a ∉ l) := by
  unfold flip
  split
  · rename_i ha
    rw [h.mem_erase_iff]
    constructor
    · rintro ⟨h1, h2⟩; exact .inl ⟨h2, h1⟩
    · rintro (⟨h1, h2⟩ | ⟨h1, h2⟩)
      · exact ⟨h2, h1⟩
      · exact absurd ha h2
  · rename_i ha
    rw [List.mem_cons]
    constructor
    · rintro (h1 | h1)
      · exact .inr ⟨h1, ha⟩
      · exact .inl ⟨h1, fun e => ha (e ▸ h1)⟩
    · rintro (⟨h1, _⟩ | ⟨h1, _⟩)
      · exact .inr h1
      · exact .inl h1
/-- a metric -/
structure Met (d : Nat → Nat → Nat) (n : Nat) : Prop where
  symm : ∀ x y, d x y = d y x
  tri : ∀ x y z, x < n → y < n → z < n → d x z ≤ d x y + d y z
theorem PL.flip2 {n : Nat} (M : Met d n) (h : PL d l c) (hl : ∀ x ∈ l, x < n) (hn : l.Nodup) (ha : a < n) (hb : b < n) (hab : a ≠ b) : ∃ c', PL d (flip (flip l a) b) c' ∧ c' ≤ c + d a b := by
  by_cases h1 : a ∈ l
  · obtain ⟨x, l1, c1, p1, q1, e1⟩ := h.mate M.symm h1
    have hx : x < n := hl x (p1.mem_iff.mpr (by simp))
    have pe : (flip l a).Perm (x :: l1) := by
      unfold flip
      rw [if_pos h1]
      have := p1.erase a
      rw [List.erase_cons_head] at this
      exact this
    have hn1 : (x :: l1).Nodup := pe.nodup_iff.mp (flip_nodup hn)
    by_cases h2 : b ∈ l
    · have hb1 : b ∈ x :: l1 := pe.mem_iff.mp ((flip_mem hn).mpr (.inl ⟨h2, Ne.symm hab⟩))
      have pe2 : (flip (flip l a) b).Perm ((x :: l1).erase b) := by
        have : b ∈ flip l a := pe.mem_iff.mpr hb1
        rw [show flip (flip l a) b = (flip l a).erase b from if_pos this]
        exact pe.erase b
      rcases List.mem_cons.mp hb1 with e | hb2
      · subst e
        rw [List.erase_cons_head] at pe2
        exact ⟨c1, q1.perm pe2.symm, by omega⟩
      · obtain ⟨y, l2, c2, p2, q2, e2⟩ := q1.mate M.symm hb2
        have hy : y < n := hl y (p1.mem_iff.mpr (by simp [p2.mem_iff.mpr (show y ∈ b :: y :: l2 by simp)]))
        have hbx : b ≠ x := fun e => (List.nodup_cons.mp hn1).1 (e ▸ hb2)
        refine ⟨c2 + d x y, .cons ?_ q2, ?_⟩
        · refine pe2.trans ?_
          rw [List.erase_cons_tail (by simpa using fun e => hbx e.symm)]
          have := p2.erase b
          rw [List.erase_cons_head] at this
          exact this.cons x
        · have t1 := M.tri x a y hx ha hy
          have t2 := M.tri a b y ha hb hy
          have s1 := M.symm x a
          omega
    · have hb1 : b ∉ flip l a := fun z => by
        rcases (flip_mem hn).mp z with ⟨z, _⟩ | ⟨z, _⟩
        · exact h2 z
        · exact hab z.symm
      refine ⟨c1 + d b x, .cons (a := b) (b := x) (l' := l1) ?_ q1, ?_⟩
      · rw [show flip (flip l a) b = b :: flip l a from if_neg hb1]
        exact pe.cons b
      · have t1 := M.tri b a x hb ha hx
        have s1 := M.symm b a
        omega
  · have hn2 : (a :: l).Nodup := List.nodup_cons.mpr ⟨h1, hn⟩
    have pe : flip l a = a :: l := if_neg h1
    by_cases h2 : b ∈ l
    · obtain ⟨x, l1, c1, p1, q1, e1⟩ := h.mate M.symm h2
      have hx : x < n := hl x (p1.mem_iff.mpr (by simp))
      refine ⟨c1 + d a x, .cons (a := a) (b := x) (l' := l1) ?_ q1, ?_⟩
      · rw [pe, show flip (a :: l) b = (a :: l).erase b from if_pos (by simp [h2]), List.erase_cons_tail (by simpa using hab)]
        have := p1.erase b
        rw [List.erase_cons_head] at this
        exact this.cons a
      · have t1 := M.tri a b x ha hb hx
        omega
    · refine ⟨c + d a b, .cons (a := a) (b := b) (l' := l) ?_ h, Nat.le_refl _⟩
      rw [pe, show flip (a :: l) b = b :: a :: l from if_neg (by simp [h2, Ne.symm hab])]
      exact .swap _ _ _
end
/-! ### least lengths -/
theorem least_nat {P : Nat → Prop} : ∀ m, P m → ∃ k, P k ∧ ∀ j, P j → k ≤ j
  | m, h => by
    by_cases hx : ∃ j, P j ∧ j < m
    · obtain ⟨j, hj, hlt⟩ := hx
      exact least_nat j hj
    · exact ⟨m, h, fun j hj => by
        rcases Nat.lt_or_ge j m with h2 | h2
        · exact absurd ⟨j, hj, h2⟩ hx
        · exact h2⟩
  termination_by m => m
def IsDist (L : Lk) (a b y : Nat) : Prop := Wk L a b y ∧ ∀ l, Wk L a b l → y ≤ l
noncomputable def dist (L : Lk) (a b : Nat) : Nat := @Classical.epsilon Nat ⟨0⟩ fun y => IsDist L a b y
theorem dist_ok {L : Lk} {a b l : Nat} (h : Wk L a b l) : IsDist L a b (dist L a b) := by
  obtain ⟨y, h1, h2⟩ := least_nat (P := fun y => Wk L a b y) l h
  exact @Classical.epsilon_spec_aux Nat ⟨0⟩ (fun y => IsDist L a b y) ⟨y, h1, h2⟩
theorem IsDist.eq {L : Lk} {a b y z : Nat} (h : IsDist L a b y) (k : IsDist L a b z) : y = z := Nat.le_antisymm (h.2 _ k.1) (k.2 _ h.1)
theorem IsDist.symm {L : Lk} {a b y : Nat} (h : IsDist L a b y) : IsDist L b a y := ⟨h.1.symm, fun l hl => h.2 l hl.symm⟩
theorem dist_symm (L : Lk) (a b : Nat) : dist L a b = dist L b a := by
  unfold dist
  congr 1
  funext y
  exact propext ⟨fun h => h.symm, fun h => h.symm⟩
theorem FareOk.isd {n s : Nat} {L : Lk} {far via : Nat → Option Nat} {rk : Nat → Nat} (h : FareOk n L s far via rk) {r y : Nat} (hy : far r = some y) : dist L s r = y := by
  have hw := h.wk hy
  have k : IsDist L s r y := ⟨hw, fun l hl => by
    obtain ⟨z, hz, hle⟩ := h.le hl h.s0
    rw [hy] at hz
    cases hz
    omega⟩
  exact (dist_ok hw).eq k
theorem WholeL.wk {L : Lk} {n : Nat} (h : WholeL L n) {r : Nat} (hr : r < n) : ∃ l, Wk L 0 r l := by
  haveI : ∀ r, Decidable (∃ l, Wk L 0 r l) := fun _ => Classical.propDecidable _
  have := h (fun r => decide (∃ l, Wk L 0 r l)) (decide_eq_true ⟨0, .refl 0⟩) (fun k hk => by
    have e : (∃ l, Wk L 0 (lka L k) l) ↔ (∃ l, Wk L 0 (lkb L k) l) := ⟨fun ⟨l, hl⟩ => ⟨_, .step hl hk (.inl ⟨rfl, rfl⟩)⟩, fun ⟨l, hl⟩ => ⟨_, .step hl hk (.inr ⟨rfl, rfl⟩)⟩⟩
    show decide _ = decide _
    by_cases h1 : ∃ l, Wk L 0 (lka L k) l
    · rw [decide_eq_true h1, decide_eq_true (e.mp h1)]
    · rw [decide_eq_false h1, decide_eq_false (fun z => h1 (e.mpr z))]) r hr
  exact of_decide_eq_true this
theorem WholeL.wk2 {L : Lk} {n : Nat} (h : WholeL L n) {a b : Nat} (ha : a < n) (hb : b < n) : ∃ l, Wk L a b l := by
  obtain ⟨l, hl⟩ := h.wk ha
  obtain ⟨m, hm⟩ := h.wk hb
  exact ⟨_, hl.symm.trans hm⟩
theorem WholeL.met {L : Lk} {n : Nat} (h : WholeL L n) : Met (dist L) n := ⟨fun x y => dist_symm L x y, fun x y z hx hy hz => by
  obtain ⟨l, hl⟩ := h.wk2 hx hy
  obtain ⟨m, hm⟩ := h.wk2 hy hz
  have a := dist_ok hl
  have b := dist_ok hm
  have := a.1.trans b.1
  exact (dist_ok this).2 _ this⟩
/-! ### sets of links -/
def oddL (L : Lk) (u : Nat) : Nat → Nat
  | 0 => 0
  | k + 1 => if u.testBit k = true then oddL L u k ^^^ 2 ^ lka L k ^^^ 2 ^ lkb L k else oddL L u k
def lcost (L : Lk) (u : Nat) : Nat → Nat
  | 0 => 0
  | k + 1 => if u.testBit k = true then lcost L u k + lkw L k else lcost L u k
/-- the rooms of a mask, as a list -/
def ML (l : List Nat) (m : Nat) : Prop := l.Nodup ∧ ∀ q, q ∈ l ↔ m.testBit q = true
theorem ML.perm {l l' : List Nat} {m : Nat} (h : ML l m) (h' : ML l' m) : l.Perm l' := perm_of_nodup h.1 h'.1 fun a => (h.2 a).trans (h'.2 a).symm
theorem ML.zero : ML [] 0 := ⟨List.nodup_nil, fun q => by simp⟩
theorem ML.flip {l : List Nat} {m a : Nat} (h : ML l m) : ML (Sf.flip l a) (m ^^^ 2 ^ a) := by
  refine ⟨flip_nodup h.1, fun q => ?_⟩
  rw [flip_mem h.1, Nat.testBit_xor, Nat.testBit_two_pow, h.2, h.2]
  by_cases e : a = q
  · subst e
    rw [decide_eq_true rfl]
    cases m.testBit a <;> simp
  · rw [decide_eq_false e]
    cases m.testBit q <;> simp [Ne.symm e]
/-- each set of links costs no less than some pairing of its odd ends -/
theorem join_ge {L : Lk} {n : Nat} (hw : WholeL L n) (hb : ∀ k, k < L.length → lka L k < n ∧ lkb L k < n) (u : Nat) : ∀ k, k ≤ L.length → ∃ l c, ML l (oddL L u k) ∧ (∀ x ∈ l, x < n) ∧ PL (dist L) l c ∧ c ≤ lcost L u k
  | 0, _ => ⟨[], 0, ML.zero, fun x hx => by simp at hx, .nil, Nat.le_refl _⟩
  | k + 1, hk => by
    obtain ⟨l, c, h1, h2, h3, h4⟩ := join_ge hw hb u k (by omega)
    have hbk := hb k (by omega)
    by_cases hu : u.testBit k = true
    · have e1 : oddL L u (k + 1) = oddL L u k ^^^ 2 ^ lka L k ^^^ 2 ^ lkb L k := if_pos hu
      have e2 : lcost L u (k + 1) = lcost L u k + lkw L k := if_pos hu
      rw [e1, e2]
      by_cases hab : lka L k = lkb L k
      · refine ⟨l, c, ?_, h2, h3, by omega⟩
        rw [hab, Nat.xor_assoc, Nat.xor_self, Nat.xor_zero]
        exact h1
      · obtain ⟨c', h5, h6⟩ := h3.flip2 hw.met h2 h1.1 hbk.1 hbk.2 hab
        refine ⟨_, c', (h1.flip).flip, fun x hx => ?_, h5, ?_⟩
        · rcases (flip_mem (flip_nodup h1.1)).mp hx with ⟨hx, _⟩ | ⟨hx, _⟩
          · rcases (flip_mem h1.1).mp hx with ⟨hx, _⟩ | ⟨hx, _⟩
            · exact h2 x hx
            · rw [hx]; exact hbk.1
          · rw [hx]; exact hbk.2
        · have w : Wk L (lka L k) (lkb L k) (0 + lkw L k) := .step (.refl _) (by omega) (.inl ⟨rfl, rfl⟩)
          have := (dist_ok w).2 _ w
          omega
    · have e1 : oddL L u (k + 1) = oddL L u k := if_neg hu
      have e2 : lcost L u (k + 1) = lcost L u k := if_neg hu
      rw [e1, e2]
      exact ⟨l, c, h1, h2, h3, h4⟩
/-- one link put in or taken out -/
theorem xor5 (t p q r s : Nat) : t ^^^ r ^^^ s ^^^ p ^^^ q = t ^^^ p ^^^ q ^^^ r ^^^ s := Nat.eq_of_testBit_eq fun i => by
  simp only [Nat.testBit_xor]
  cases t.testBit i <;> cases p.testBit i <;> cases q.testBit i <;> cases r.testBit i <;> cases s.testBit i <;> rfl
theorem xor2 (t r s : Nat) : t ^^^ r ^^^ s ^^^ r ^^^ s = t := Nat.eq_of_testBit_eq fun i => by
  simp only [Nat.testBit_xor]
  cases t.testBit i <;> cases r.testBit i <;> cases s.testBit i <;> rfl
theorem oddL_flip (L : Lk) (u j : Nat) : ∀ k, oddL L (u ^^^ 2 ^ j) k = if j < k then oddL L u k ^^^ 2 ^ lka L j ^^^ 2 ^ lkb L j else oddL L u k
  | 0 => by rw [if_neg (by omega)]; rfl
  | k + 1 => by
    have hb : (u ^^^ 2 ^ j).testBit k = xor (u.testBit k) (decide (j = k)) := by rw [Nat.testBit_xor, Nat.testBit_two_pow]
    have e1 : oddL L (u ^^^ 2 ^ j) (k + 1) = if (u ^^^ 2 ^ j).testBit k = true then oddL L (u ^^^ 2 ^ j) k ^^^ 2 ^ lka L k ^^^ 2 ^ lkb L k else oddL L (u ^^^ 2 ^ j) k := rfl
    have e2 : oddL L u (k + 1) = if u.testBit k = true then oddL L u k ^^^ 2 ^ lka L k ^^^ 2 ^ lkb L k else oddL L u k := rfl
    rw [e1, e2, hb, oddL_flip L u j k]
    by_cases e : j = k
    · subst e
      rw [if_neg (Nat.lt_irrefl j), if_pos (Nat.lt_succ_self j), decide_eq_true rfl]
      cases u.testBit j with
      | false => rfl
      | true => exact (xor2 _ _ _).symm
    · rw [decide_eq_false e, Bool.xor_false]
      by_cases hk : j < k
      · rw [if_pos hk, if_pos (show j < k + 1 by omega)]
        split
        · exact xor5 _ _ _ _ _
        · rfl
      · rw [if_neg hk, if_neg (show ¬ j < k + 1 by omega)]
theorem lcost_flip (L : Lk) (u j : Nat) : ∀ k, lcost L (u ^^^ 2 ^ j) k ≤ lcost L u k + (if j < k then lkw L j else 0)
  | 0 => Nat.zero_le _
  | k + 1 => by
    have hb : (u ^^^ 2 ^ j).testBit k = xor (u.testBit k) (decide (j = k)) := by rw [Nat.testBit_xor, Nat.testBit_two_pow]
    have ih := lcost_flip L u j k
    have e1 : lcost L (u ^^^ 2 ^ j) (k + 1) = if (u ^^^ 2 ^ j).testBit k = true then lcost L (u ^^^ 2 ^ j) k + lkw L k else lcost L (u ^^^ 2 ^ j) k := rfl
    have e2 : lcost L u (k + 1) = if u.testBit k = true then lcost L u k + lkw L k else lcost L u k := rfl
    rw [e1, e2, hb]
    by_cases e : j = k
    · subst e
      rw [if_neg (Nat.lt_irrefl j)] at ih
      rw [decide_eq_true rfl, if_pos (Nat.lt_succ_self j)]
      cases u.testBit j with
      | false => show lcost L (u ^^^ 2 ^ j) j + lkw L j ≤ lcost L u j + lkw L j; omega
      | true => show lcost L (u ^^^ 2 ^ j) j ≤ lcost L u j + lkw L j + lkw L j; omega
    · rw [decide_eq_false e, Bool.xor_false]
      by_cases hk : j < k
      · rw [if_pos hk] at ih
        rw [if_pos (show j < k + 1 by omega)]
        split <;> omega
      · rw [if_neg hk] at ih
        rw [if_neg (show ¬ j < k + 1 by omega)]
        split <;> omega

/-! ### bits of a set, ascending -/
def bl (x k : Nat) : List Nat := (List.range k).filter fun q => x.testBit q
theorem bl_succ (x k : Nat) : bl x (k + 1) = if x.testBit k = true then bl x k ++ [k] else bl x k := by
  unfold bl
  rw [List.range_succ, List.filter_append]
  split
  · rename_i h; rw [List.filter_cons_of_pos h, List.filter_nil]
  · rename_i h; rw [List.filter_cons_of_neg h, List.filter_nil, List.append_nil]
theorem bl_len (x k : Nat) : (bl x k).length ≤ k := by
  unfold bl
  have := List.length_filter_le (fun q => x.testBit q) (List.range k)
  rw [List.length_range] at this
  exact this
theorem bl_sorted (x k : Nat) : (bl x k).Pairwise (· < ·) := (List.pairwise_lt_range (n := k)).filter _
theorem bl_mem {x n q : Nat} (h : x < 2 ^ n) : q ∈ bl x n ↔ x.testBit q = true := by
  unfold bl
  rw [List.mem_filter, List.mem_range]
  refine ⟨fun h => h.2, fun hb => ⟨?_, hb⟩⟩
  rcases Nat.lt_or_ge q n with h1 | h1
  · exact h1
  · have := Nat.testBit_lt_two_pow (Nat.lt_of_lt_of_le h (Nat.pow_le_pow_right (by decide) h1))
    rw [this] at hb
    cases hb
theorem bl_ml {x n : Nat} (h : x < 2 ^ n) : ML (bl x n) x := ⟨(List.nodup_range).filter _, fun _ => bl_mem h⟩
theorem shr_zero {x n k : Nat} (h : x < 2 ^ n) (hk : n ≤ k) : x >>> k = 0 := by
  rw [Nat.shiftRight_eq_div_pow]
  exact Nat.div_eq_of_lt (Nat.lt_of_lt_of_le h (Nat.pow_le_pow_right (by decide) hk))
theorem bl_done {x k : Nat} (h : x >>> k = 0) : x < 2 ^ k := by
  rw [Nat.shiftRight_eq_div_pow] at h
  exact (Nat.div_eq_zero_iff_lt (Nat.two_pow_pos k)).mp h
theorem bl_eq {x n m : Nat} (h : x < 2 ^ n) (h2 : x < 2 ^ m) : bl x n = bl x m := by
  exact sorted_eq (bl_sorted x n) (bl_sorted x m) fun a => (bl_mem h).trans (bl_mem h2).symm
theorem nat_zero : ∀ z : Nat, ¬ (0 < (z : Int)) → z = 0 := fun z h => by omega
section
variable {P : Program} {w : World} {K : PySem.W.Frag} {mg : Str → Option Value} {base : Heap} {C_BadText C_FloorError : Addr}
end

section
variable {P : Program} {w : World} {K : PySem.W.Frag} {mg : Str → Option Value} {base : Heap} {C_BadText C_FloorError : Addr}
def spIsInt : Sp := fun vs H Q _ => ∃ i : Int, vs = [.int i] ∧ Q (.bl true) H
theorem ok_law_whole {f : Addr} {fd : FuncData} (F : Fun K "_law_whole" "_law_whole" s_law_whole f fd) (gf : mg "_law_whole" = some (.ref f)) (B : Bl mg) {C_BadText C_FloorError : Addr} (T : Txt K mg C_BadText C_FloorError) : Has P w K mg base CX0 1 "_law_whole" ["found"] spIsInt := by
  refine Has.mk' F gf (F.binds (ps := ["found"]) fun _ _ _ _ _ _ us hl => match us, hl with | [_], _ => rfl) sc_law_whole (by walk_at "len") (fun cdv A outer s H vs Q E hr h => ?_)
  obtain ⟨i, rfl, q⟩ := h
  refine ⟨_, (pss_one (ps_ret (pe_and (pe_callB (call_isiK' K) (by rfl) B.isinstance (by decide +kernel) (pa_cons (pv 0) (pa_cons (pe_bltn (v := .ty "int") (by rfl) B.int (by decide +kernel) rfl) pa_nil))) (pe_one (pe_not (pe_callB (call_isiK' K) (by rfl) B.isinstance (by decide +kernel) (pa_cons (pv 0) (pa_cons (pe_bltn (v := .ty "bool") (by rfl) B.bool (by decide +kernel) rfl) pa_nil)))))))), ?_⟩
  walk_at "sts"
  exact q
end

section
variable {P : Program} {w : World} {K : PySem.W.Frag} {mg : Str → Option Value} {base : Heap} {C_BadText C_FloorError : Addr}
def spCell (K : PySem.W.Frag) : Sp := fun vs H Q _ => ∃ (p : Addr) (ns : List Int) (k : Nat), vs = [.ref p, .int k] ∧ SqL K H p (ns.map V.int) ∧ Q (.int (ns.getD k 0)) H
theorem ok_law_cell {f : Addr} {fd : FuncData} (F : Fun K "_law_cell" "_law_cell" s_law_cell f fd) (gf : mg "_law_cell" = some (.ref f)) (B : Bl mg) {C_BadText C_FloorError : Addr} (T : Txt K mg C_BadText C_FloorError) : Has P w K mg base CX0 1 "_law_cell" ["script", "k"] (spCell K) := by
  refine Has.mk' F gf (F.binds (ps := ["script", "k"]) fun _ _ _ _ _ _ us hl => match us, hl with | [_, _], _ => rfl) sc_law_cell (by walk_at "len") (fun cdv A outer s H vs Q E hr h => ?_)
  obtain ⟨p, ns, k, rfl, hp, q⟩ := h
  refine ⟨_, (pss_cons (ps_if (pt_cmpR op_lt (pv 1) (pe_callB (call_lenK K) (by rfl) B.len (by decide +kernel) (pa_cons (pv 0) pa_nil)) (nomark _)) (pss_one (ps_ret (pe_ix (ix_listK K) (pv 0) (pv 1) (fun _ _ => rfl)))) pss_nil)
 (pss_one (ps_ret pe_int))), ?_⟩
  walk_at "sts"
  refine ifd (fun hc => ?_) (fun hc => ?_)
  · rw [List.length_map] at hc
    have e : (ns.map V.int)[k]? = some (.int (ns.getD k 0)) := by
      rw [List.getElem?_map, List.getD_eq_getElem?_getD, List.getElem?_eq_getElem (by omega)]
      rfl
    walk_at "sts"
    exact q
  · rw [List.length_map] at hc
    walk_at "sts"
    rw [List.getD_eq_getElem?_getD, List.getElem?_eq_none (by omega)] at q
    exact q
end

section
variable {P : Program} {w : World} {K : PySem.W.Frag} {mg : Str → Option Value} {base : Heap} {C_BadText C_FloorError : Addr}
def spLaw (K : PySem.W.Frag) : Sp := fun vs H Q _ => ∃ (a : Addr) (ns : List Int), vs = [.ref a] ∧ LsE K H a (ns.map V.int) ∧ ns.length ≤ 63 ∧ (∀ z ∈ ns, Builtin.Int.intBits z ≤ 1048576) ∧ ∀ H', Q (.bl true) H'
end
theorem modN (z : Int) {n : Nat} (h : 0 < n) : ∃ k : Nat, z % (n : Int) = (k : Int) ∧ k < n := by
  have h1 := Int.emod_nonneg z (show (n : Int) ≠ 0 by omega)
  have h2 := Int.emod_lt_of_pos z (show (0 : Int) < n by omega)
  exact ⟨(z % (n : Int)).toNat, by omega, by omega⟩

section
variable {P : Program} {w : World} {K : PySem.W.Frag} {mg : Str → Option Value} {base : Heap} {C_BadText C_FloorError : Addr}
/-- the numbers' mask -/
def orL : List Nat → Nat → Nat
  | l, 0 => 0
  | l, k + 1 => orL l k ||| 2 ^ l.getD k 0
theorem orL_bit (l : List Nat) (q : Nat) : ∀ k, k ≤ l.length → ((orL l k).testBit q = true ↔ q ∈ l.take k)
  | 0, _ => by simp [orL]
  | k + 1, hk => by
    have ih := orL_bit l q k (by omega)
    unfold orL
    rw [take_snoc (by omega), List.mem_append, List.mem_singleton, Nat.testBit_or, Bool.or_eq_true, ih, Nat.testBit_two_pow, decide_eq_true_iff]
    exact or_congr Iff.rfl ⟨fun h => h.symm, fun h => h.symm⟩
theorem orL_lt {l : List Nat} {n : Nat} (h : ∀ x ∈ l, x < n) : ∀ k, k ≤ l.length → orL l k < 2 ^ n
  | 0, _ => Nat.two_pow_pos n
  | k + 1, hk => by
    refine Nat.or_lt_two_pow (orL_lt h k (by omega)) (Nat.pow_lt_pow_right (by decide) (h _ ?_))
    rw [List.getD_eq_getElem?_getD, List.getElem?_eq_getElem (by omega)]
    exact List.getElem_mem _
def spMaskOf (K : PySem.W.Frag) : Sp := fun vs H Q _ => ∃ (p : Addr) (l : List Nat), vs = [.ref p] ∧ SqL K H p (iv l) ∧ (∀ x ∈ l, x < 1000) ∧ Q (.int (orL l l.length : Nat)) H
theorem ok_mask_of {f : Addr} {fd : FuncData} (F : Fun K "mask_of" "mask_of" s_mask_of f fd) (gf : mg "mask_of" = some (.ref f)) (B : Bl mg) {C_BadText C_FloorError : Addr} (T : Txt K mg C_BadText C_FloorError) : Has P w K mg base CX0 1 "mask_of" ["places"] (spMaskOf K) := by
  refine Has.mk' F gf (F.binds (ps := ["places"]) fun _ _ _ _ _ _ us hl => match us, hl with | [_], _ => rfl) sc_mask_of (by walk_at "len") (fun cdv A outer s H vs Q E hr h => ?_)
  obtain ⟨p, l, rfl, hp, hb, q⟩ := h
  refine ⟨_, (pss_cons (ps_set (i := 1) sc_mask_of.nd rfl (.inl rfl) pe_int)
 (pss_cons (ps_for PassesOwn.never rfl (pi_listK K (pv 0)) (pg_name (i := 2) sc_mask_of.nd rfl (.inl rfl)) (pss_one (ps_set (i := 1) sc_mask_of.nd rfl (.inl rfl) (pe_op op_or (pv 1) (pe_op op_shlW pe_int (pv 2))))))
 (pss_one (ps_ret (pv 1))))), ?_⟩
  walk_at "sts"
  refine for_list (xs := iv l) (fun i σ H' => ∃ (y : Option V), σ = [some (.ref p), some (.int (orL l i : Nat)), y] ∧ H' = H) ?_ ?_ ?_ ?_
  · exact ⟨_, rfl, rfl⟩
  · rintro i σ H' _ ⟨_, rfl, rfl⟩
    exact hp
  · rintro i v σ H' hv ⟨y, rfl, rfl⟩
    have hi : i < l.length := by rw [← iv_len]; exact (List.getElem?_eq_some_iff.mp hv).1
    rw [iv_at hi] at hv
    cases hv
    have hx := hb (l.getD i 0) (by rw [List.getD_eq_getElem?_getD, List.getElem?_eq_getElem hi]; exact List.getElem_mem hi)
    walk_at "sts"
    rw [shl_one, or_nat]
    exact ⟨_, rfl, rfl⟩
  · rintro σ H' ⟨y, rfl, rfl⟩
    rw [iv_len]
    walk_at "sts"
    exact q
end

/-! ### papers: sets of rooms with prices -/
section
variable {P : Program} {w : World} {K : PySem.W.Frag} {mg : Str → Option Value} {base : Heap} {C_BadText C_FloorError : Addr}
def dPr (t : Nat × Nat) : PyData := .tuple [.int (t.1 : Nat), .int (t.2 : Nat)]
def dPap (hs : List (Nat × Nat)) : PyData := .list (hs.map dPr)
theorem goodPr (t : Nat × Nat) : Good 1 (dPr t) := goodTup (goodMap (f := PyData.int) (xs := [((t.1 : Nat) : Int), ((t.2 : Nat) : Int)]) fun _ => goodInt)
theorem goodPap (hs : List (Nat × Nat)) : Good 2 (dPap hs) := goodLst (goodMap goodPr)
theorem dpa_pairs {K : PySem.W.Frag} {H : Hp} : ∀ ts : List (Addr × Nat × Nat), (∀ t ∈ ts, SqT K H t.1 [.int (t.2.1 : Nat), .int (t.2.2 : Nat)]) → DpAll K H (ts.map fun t => V.ref t.1) ((ts.map fun t => t.2).map dPr)
  | [], _ => .nil
  | t :: ts, h => .cons (.tup (h t (by simp)) (dpInts [((t.2.1 : Nat) : Int), ((t.2.2 : Nat) : Int)])) (dpa_pairs ts fun u hu => h u (by simp [hu]))
theorem dpPapAt {K : PySem.W.Frag} {H : Hp} {xs : List V} {hs : List (Nat × Nat)} (h : DpAll K H xs (hs.map dPr)) {i : Nat} (hi : i < hs.length) : ∃ p, xs[i]? = some (.ref p) ∧ SqT K H p [.int ((hs.getD i (0, 0)).1 : Nat), .int ((hs.getD i (0, 0)).2 : Nat)] := by
  have e : hs.getD i (0, 0) = hs[i] := by rw [List.getD_eq_getElem?_getD, List.getElem?_eq_getElem hi]; rfl
  obtain ⟨v, h1, h2⟩ := dpaGet (i := i) (d := dPr hs[i]) h (by rw [List.getElem?_map, List.getElem?_eq_getElem hi]; rfl)
  rw [e]
  cases h2 with
  | @tup p xs' _ h3 h4 =>
    refine ⟨p, h1, ?_⟩
    cases h4 with
    | cons a b => cases a; cases b with
      | cons a b => cases a; cases b; exact h3
/-- what a link of these rooms pays -/
def paidX (a b : Nat) (hs : List (Nat × Nat)) : Nat := (hs.map fun t => if t.1.testBit a = t.1.testBit b then 0 else t.2).sum
theorem paidX_snoc (a b : Nat) (hs : List (Nat × Nat)) {i : Nat} (hi : i < hs.length) : paidX a b (hs.take (i + 1)) = paidX a b (hs.take i) + (if (hs.getD i (0, 0)).1.testBit a = (hs.getD i (0, 0)).1.testBit b then 0 else (hs.getD i (0, 0)).2) := by
  unfold paidX
  have e : hs.getD i (0, 0) = hs[i] := by rw [List.getD_eq_getElem?_getD, List.getElem?_eq_getElem hi]; rfl
  rw [List.take_add_one, List.getElem?_eq_getElem hi, Option.toList_some, List.map_append, List.sum_append, e]
  simp
/-- the bits of two rooms -/
theorem xbit (m a b : Nat) : Builtin.bitAnd (((m >>> a ^^^ m >>> b : Nat)) : Int) 1 = (((m.testBit a ^^ m.testBit b).toNat : Nat) : Int) := by
  have h := Nat.testBit_zero (m >>> a ^^^ m >>> b)
  rw [Nat.testBit_xor, Nat.testBit_shiftRight, Nat.testBit_shiftRight, Nat.add_zero, Nat.add_zero] at h
  rw [and_one _ (Int.natCast_nonneg _), h]
  generalize (m >>> a ^^^ m >>> b) = z
  have e : z % 2 = 0 ∨ z % 2 = 1 := by omega
  rcases e with e | e
  · rw [e]; simp; omega
  · rw [e]; simp; omega
end

/-! ### texts as lists of signs -/
open TL
def tS (l : List Nat) : Str := ⟨l.toArray⟩
theorem tS_tl (x : Str) : tS (tl x) = x := mk_tl x
theorem tS_app (a b : List Nat) : tS a ++ tS b = tS (a ++ b) := ext_tl (by rw [tl_append]; rfl)
theorem tS_inj {a b : List Nat} (h : tS a = tS b) : a = b := congrArg (fun x : Str => x.cps.toList) h
theorem tS_len (a : List Nat) : (tS a).length = a.length := by rw [len_tl]; rfl
def tL (s : String) : List Nat := s.toList.map Char.toNat
theorem tL_lit (s : String) : Str.ofString s = tS (tL s) := ext_tl (tl_ofString s)
theorem tS_num (n : Nat) : Str.ofString (toString ((n : Nat) : Int)) = tS (numL n) := ext_tl (tl_num n)
theorem dec_tS {a b : List Nat} : decide (V.str (tS a) = V.str (tS b)) = decide (a = b) := by
  by_cases h : a = b
  · rw [h]; simp
  · rw [decide_eq_false h, decide_eq_false (fun z => h (tS_inj (by injection z)))]
def sv (ws : List (List Nat)) : List V := ws.map fun w => V.str (tS w)
theorem sv_len (ws : List (List Nat)) : (sv ws).length = ws.length := List.length_map ..
theorem sv_app (a b : List (List Nat)) : sv (a ++ b) = sv a ++ sv b := List.map_append ..
theorem sv_at {ws : List (List Nat)} {i : Nat} (h : i < ws.length) : (sv ws)[i]? = some (.str (tS (ws.getD i []))) := by
  unfold sv
  rw [List.getElem?_map, List.getElem?_eq_getElem h, List.getD_eq_getElem?_getD, List.getElem?_eq_getElem h]
  rfl
theorem sv_strs (ws : List (List Nat)) : (ws.map tS).map V.str = sv ws := by unfold sv; rw [List.map_map]; rfl
theorem map_tl_tS (ws : List (List Nat)) : (ws.map tS).map tl = ws := by
  rw [List.map_map]
  exact (List.map_congr_left fun w _ => rfl).trans (List.map_id' ws)
theorem split_tS (a b : List Nat) (hb : b ≠ []) (hk : b.all (· < 256) = true) : Txt.split (tS a) (tS b) = (spl b 0 [] a).map tS := by
  refine map_tl_inj ?_
  have h : (Txt.split (tS a) (tS b)).map tl = spl b 0 [] a := split_spl (tS a) (tS b) hb (kind_ok (by
    show b.toArray.all (· < 256) = true
    rw [List.all_toArray]; exact hk))
  rw [h, map_tl_tS]
theorem join_tS (a : List Nat) (ws : List (List Nat)) : Txt.join (tS a) (ws.map tS) = tS (joinL a ws) := by
  rw [join_eq]
  refine ext_tl ?_
  rw [tl_join, map_tl_tS]
  rfl
theorem tl_cps (l : List Nat) : (tS l).cps.toList = l := rfl
section
variable {X : Cx} {o e : Expr} {to te : TE}
def rJoin (K : PySem.W.Frag) : V → List V → Hp → VK → Prop := fun x xs H Q => ∃ a p, ∃ ys : List Str, x = .str a ∧ xs = [.ref p] ∧ (SqL K H p (ys.map V.str) ∨ SqT K H p (ys.map V.str)) ∧
  (ys.map fun y => y.length).sum + ys.length * a.length ≤ 16777216 ∧ Q (.str (Txt.join a ys)) H
theorem pe_joinK (K : PySem.W.Frag) {apos pos : Pos} (ho : PE X o to) (he : PE X e te) (hs : starEach [e] X.env = [(false, eval e X.env)] := by rfl) (hbase : attributeBase o "join" X.env (eval o X.env) = eval o X.env := by rfl) (hline : (apos.endLine == pos.line) = true := by rfl) (hK : X.K = K := by rfl) :
    PE X (.Call (.Attribute o "join" apos) [e] [] pos) (tM1 (rJoin K) to te) := by subst hK; exact pe_join ho he hs hbase hline
end
section
variable {σ : L2.St} {H : Hp} {Q : VK} {D : Ends} {K : PySem.W.Frag} {p : Addr} {to te : TE} {a b : List Nat} {n c : Nat}
theorem w_cS {s : String} (h : Q (.str (tS (tL s))) H) : tC (.str (Str.ofString s)) σ H Q := by rw [tL_lit]; exact h
theorem w_m1 {r : V → List V → Hp → VK → Prop} (h : to σ H fun x H1 => (∃ a, x = .str a) ∧ te σ H1 fun y H2 => r x [y] H2 Q) : tM1 r to te σ H Q := h
theorem w_isS {a : Str} {R : Prop} (h : R) : (∃ b, V.str a = .str b) ∧ R := ⟨⟨a, rfl⟩, h⟩
theorem w_split (hb : b ≠ []) (hk : b.all (· < 256) = true) (ha : a.length + 2 ≤ sizeLine) (h : ∀ p, New H p → Q (.ref p) (upd H p (.lst (sv (spl b 0 [] a))))) :
    ∃ a' b', V.str (tS a) = .str a' ∧ [V.str (tS b)] = [.str b'] ∧ (b'.length == 0) = false ∧ a'.length + 2 ≤ sizeLine ∧ rNewStrs (Txt.split a' b') H Q := by
  refine ⟨tS a, tS b, rfl, rfl, ?_, by rw [tS_len]; exact ha, ?_⟩
  · rw [tS_len]
    cases b with
    | nil => exact absurd rfl hb
    | cons => rfl
  · intro p np
    rw [split_tS a b hb hk, sv_strs]
    exact h p np
theorem w_join {ws : List (List Nat)} (hs : SqL K H p (sv ws)) (hz : (ws.map List.length).sum + ws.length * a.length ≤ 16777216) (h : Q (.str (tS (joinL a ws))) H) : rJoin K (.str (tS a)) [.ref p] H Q := by
  refine ⟨tS a, p, ws.map tS, rfl, rfl, .inl (by rw [sv_strs]; exact hs), ?_, by rw [join_tS]; exact h⟩
  rw [List.map_map, tS_len, List.length_map]
  have e : (ws.map ((fun y : Str => y.length) ∘ tS)) = ws.map List.length := List.map_congr_left fun w _ => tS_len w
  rw [e]
  exact hz
theorem w_addS (hz : a.length + b.length ≤ sizeLine) (h : Q (.str (tS (a ++ b))) H) : ∃ i j, V.str (tS a) = .str i ∧ V.str (tS b) = .str j ∧ i.length + j.length ≤ sizeLine ∧ Q (.str (i ++ j)) H :=
  ⟨tS a, tS b, rfl, rfl, by rw [tS_len, tS_len]; exact hz, by rw [tS_app]; exact h⟩
theorem log2_small {n : Nat} (h : n < 2 ^ 1900) : (n : Int).natAbs.log2 < 1920 := by
  rw [Int.natAbs_natCast]
  by_cases h0 : n = 0
  · subst h0; decide
  · exact (Nat.log2_lt h0).mpr (Nat.lt_of_lt_of_le h (Nat.pow_le_pow_right (by decide) (by decide)))
theorem w_strI (hn : n < 2 ^ 1900) (h : Q (.str (tS (numL n))) H) : ∃ i, [V.int (n : Nat)] = [.int i] ∧ i.natAbs.log2 < 1920 ∧ Q (.str (toString i)) H :=
  ⟨_, rfl, log2_small hn, by rw [tS_num]; exact h⟩
theorem w_strJ (hn : n < 2 ^ 1900) (h : Q (.str (tS (numL n))) H) : (n : Int).natAbs.log2 < 1920 ∧ Q (.str (Str.ofString (toString ((n : Nat) : Int)))) H := ⟨log2_small hn, by rw [tS_num]; exact h⟩
theorem w_eqT (h : Q (.bl (decide (a = b))) H) : rEq (.str (tS a)) (.str (tS b)) H Q := ⟨rfl, by rw [dec_tS]; exact h⟩
theorem w_neT (h : Q (.bl (!decide (a = b))) H) : rNe (.str (tS a)) (.str (tS b)) H Q := ⟨rfl, by rw [dec_tS]; exact h⟩
theorem w_1s {x : Str} {R : Str → Prop} (h : R x) : ∃ z, [V.str x] = [.str z] ∧ R z := ⟨x, rfl, h⟩
theorem w_2s {x y : Str} {R : Str → Str → Prop} (h : R x y) : ∃ i j, V.str x = .str i ∧ V.str y = .str j ∧ R i j := ⟨x, y, rfl, rfl, h⟩
theorem w_inR {R : Nat → Str → Prop} (h : R c (tS b)) : ∃ (c' : Nat) (z : Str), V.str (tS [c]) = .str ⟨#[c']⟩ ∧ V.str (tS b) = .str z ∧ R c' z := ⟨c, tS b, rfl, rfl, h⟩
theorem w_lenS (hz : a.length ≤ sizeLine) (h : Q (.int a.length) H) : ∃ z, [V.str (tS a)] = [.str z] ∧ z.length ≤ sizeLine ∧ Q (.int z.length) H := ⟨tS a, rfl, by rw [tS_len]; exact hz, by rw [tS_len]; exact h⟩
theorem w_ixS {i : Int} (hz : a.length ≤ sizeLine) (hi : atI a i = some c) (h : Q (.str (tS [c])) H) : rIxS (.str (tS a)) (.int i) H Q := ⟨tS a, i, c, rfl, rfl, by rw [tS_len]; exact hz, hi, h⟩
theorem w_inT (h : Q (.bl (decide (c ∈ b))) H) : ∃ (c' : Nat) (z : Str), V.str (tS [c]) = .str ⟨#[c']⟩ ∧ V.str (tS b) = .str z ∧ Q (.bl (decide (c' ∈ z.cps.toList))) H := ⟨c, tS b, rfl, rfl, h⟩
theorem w_ninT (h : Q (.bl (!decide (c ∈ b))) H) : ∃ (c' : Nat) (z : Str), V.str (tS [c]) = .str ⟨#[c']⟩ ∧ V.str (tS b) = .str z ∧ Q (.bl (!decide (c' ∈ z.cps.toList))) H := ⟨c, tS b, rfl, rfl, h⟩
theorem w_iStr {R : It → Hp → Prop} (h : te σ H fun v H1 => ∃ x, v = .str x ∧ R (Its x) H1) : iStr te σ H R := h
theorem w_itS {R : Str → Prop} (h : R (tS a)) : ∃ x, V.str (tS a) = .str x ∧ R x := ⟨tS a, rfl, h⟩
theorem for_str {g : TG} {tb : TS} {D : Ends} {σ : L2.St} {H : Hp} (Pv : Nat → L2.St → Hp → Prop) (h0 : Pv 0 σ H)
    (hs : ∀ i c σ H, a[i]? = some c → Pv i σ H → g (.str (tS [c])) σ H fun σ2 H2 => tb { D with nx := Pv (i + 1), ct := Pv (i + 1), bk := D.nx } σ2 H2) (hd : ∀ σ H, Pv a.length σ H → D.nx σ H) :
    ∃ W : Nat → Nat → L2.St → Hp → Prop, (∃ m, W 0 m σ H) ∧ ∀ i m σ H, W i m σ H →
      ((Its (tS a)).stop i H ∧ D.nx σ H) ∨ ((Its (tS a)).go i H ∧ ∃ N : L2.St → Hp → Prop, (∀ σ' H', N σ' H' → ∃ m', m' < m ∧ W (i + 1) m' σ' H') ∧ ∀ x H', (Its (tS a)).yld i H x H' → g x σ H' fun σ2 H2 => tb { D with nx := N, ct := N, bk := D.nx } σ2 H2) := by
  have sz : (tS a).cps.size = a.length := by simp [tS]
  refine ⟨fun i m σ H => m = a.length - i ∧ i ≤ a.length ∧ Pv i σ H, ⟨a.length, by simp, Nat.zero_le _, h0⟩, ?_⟩
  rintro i m σ H ⟨rfl, hi, p⟩
  by_cases hlt : i < a.length
  · refine .inr ⟨by show i < (tS a).cps.size; rw [sz]; exact hlt, Pv (i + 1), fun σ' H' p' => ⟨a.length - (i + 1), by omega, rfl, hlt, p'⟩, fun x H' y => ?_⟩
    obtain ⟨e, c, hc, ex⟩ := y
    subst e
    subst ex
    exact hs i c σ _ (by rw [← hc]; show _ = a.toArray[i]?; rw [List.getElem?_toArray]) p
  · have e : i = a.length := by omega
    subst e
    exact .inl ⟨by show (tS a).cps.size ≤ a.length; rw [sz]; exact Nat.le_refl _, hd σ H p⟩
end
/-! ### rows of words -/
theorem joinL_cons (s : List Nat) (h : List Nat) (ws : List (List Nat)) : joinL s (h :: ws) = h ++ (ws.map fun w => s ++ w).flatten := by
  induction ws generalizing h with
  | nil => simp [joinL]
  | cons w r ih =>
    show h ++ (s ++ joinL s (w :: r)) = _
    rw [ih]
    simp
theorem joinL_sum (s h : List Nat) (ws : List (List Nat)) : ((h :: ws).map List.length).sum + ws.length * s.length = (joinL s (h :: ws)).length := by
  rw [joinL_cons, List.length_append, List.map_cons, List.sum_cons]
  have : ((ws.map fun w => s ++ w).flatten).length = (ws.map List.length).sum + ws.length * s.length := by
    induction ws with
    | nil => simp
    | cons w r ih =>
      rw [List.map_cons, List.flatten_cons, List.length_append, ih, List.length_append, List.map_cons, List.sum_cons, List.length_cons, Nat.add_mul]
      omega
  omega
theorem joinL_nil (ws : List (List Nat)) : joinL [] ws = ws.flatten := by
  cases ws with
  | nil => rfl
  | cons h r => rw [joinL_cons]; simp
/-- a word and numbers -/
def rowB (h : List Nat) (ns : List Nat) : List Nat := h ++ (ns.map fun n => 32 :: numL n).flatten
theorem rowB_join (h : List Nat) (ns : List Nat) : joinL [32] (h :: ns.map numL) = rowB h ns := by
  rw [joinL_cons, List.map_map]
  rfl
theorem rowB_snoc (h : List Nat) (ns : List Nat) (n : Nat) : rowB h (ns ++ [n]) = rowB h ns ++ 32 :: numL n := by
  unfold rowB
  rw [List.map_append, List.flatten_append]
  simp
theorem rowB_split {h : List Nat} {ns : List Nat} (hh : 32 ∉ h) : spl [32] 0 [] (rowB h ns) = h :: ns.map numL := by
  rw [← rowB_join]
  refine spl_join (by simp) fun p hp => ?_
  rcases List.mem_cons.mp hp with rfl | hp
  · exact hh
  · obtain ⟨n, _, rfl⟩ := List.mem_map.mp hp
    exact numL_free (.inl (by decide))
theorem rowB_free {h : List Nat} {ns : List Nat} (hh : 10 ∉ h) : 10 ∉ rowB h ns := by
  unfold rowB
  intro z
  rcases List.mem_append.mp z with z | z
  · exact hh z
  · obtain ⟨l, hl, z⟩ := List.mem_flatten.mp z
    obtain ⟨n, _, rfl⟩ := List.mem_map.mp hl
    rcases List.mem_cons.mp z with z | z
    · exact absurd z (by decide)
    · exact numL_free (.inl (by decide)) z
theorem rowB_len {h : List Nat} {ns : List Nat} {k : Nat} (hk : 0 < k) (hn : ∀ n ∈ ns, n < 10 ^ k) : (rowB h ns).length ≤ h.length + (k + 1) * ns.length := by
  induction ns with
  | nil => simp [rowB]
  | cons n r ih =>
    have h1 := ih fun m hm => hn m (List.mem_cons_of_mem _ hm)
    have h2 := numL_len hk (hn n List.mem_cons_self)
    unfold rowB at h1 ⊢
    rw [List.map_cons, List.flatten_cons, List.length_append, List.length_append, List.length_cons] at *
    rw [List.length_cons, Nat.mul_add]
    omega
/-- rows, each ended -/
def endL (rs : List (List Nat)) : List Nat := (rs.map fun r => r ++ [10]).flatten
theorem endL_join (rs : List (List Nat)) : endL rs = joinL [10] (rs ++ [[]]) := by
  induction rs with
  | nil => rfl
  | cons r s ih =>
    unfold endL at ih ⊢
    rw [List.map_cons, List.flatten_cons, ih]
    cases hs : s ++ [[]] with
    | nil => simp at hs
    | cons x y =>
      show _ = joinL [10] (r :: (s ++ [[]]))
      rw [hs]
      show r ++ [10] ++ joinL [10] (x :: y) = r ++ ([10] ++ joinL [10] (x :: y))
      rw [List.append_assoc]
theorem endL_split {rs : List (List Nat)} (h : ∀ r ∈ rs, 10 ∉ r) : spl [10] 0 [] (endL rs) = rs ++ [[]] := by
  rw [endL_join]
  refine spl_join (by simp) fun p hp => ?_
  rcases List.mem_append.mp hp with hp | hp
  · exact h p hp
  · rw [List.mem_singleton.mp hp]; simp
theorem endL_snoc (rs : List (List Nat)) (r : List Nat) : endL (rs ++ [r]) = endL rs ++ r ++ [10] := by
  unfold endL
  rw [List.map_append, List.flatten_append]
  simp
theorem endL_len {rs : List (List Nat)} {k : Nat} (h : ∀ r ∈ rs, r.length ≤ k) : (endL rs).length ≤ (k + 1) * rs.length := by
  induction rs with
  | nil => simp [endL]
  | cons r s ih =>
    have h1 := ih fun q hq => h q (List.mem_cons_of_mem _ hq)
    have h2 := h r List.mem_cons_self
    unfold endL at h1 ⊢
    rw [List.map_cons, List.flatten_cons, List.length_append, List.length_append, List.length_cons, List.length_nil, List.length_cons, Nat.mul_add]
    omega
/-- no number but nought begins with nought -/
theorem numL_head : ∀ n : Nat, 0 < n → ∃ c r, numL n = c :: r ∧ c ≠ 48 := by
  intro n
  induction n using Nat.strongRecOn with
  | _ n ih =>
    intro h
    by_cases h2 : n < 10
    · exact ⟨48 + n, [], numL_lt h2, by omega⟩
    · obtain ⟨c, r, e, hc⟩ := ih (n / 10) (by omega) (by omega)
      exact ⟨c, r ++ [48 + n % 10], by rw [numL_step (by omega), e]; rfl, hc⟩
theorem numL_ok {n : Nat} {c : Nat} {r : List Nat} (h : numL n = c :: r) : ¬ (c = 48 ∧ 1 < (numL n).length) := fun ⟨a, b⟩ => by
  by_cases h0 : n = 0
  · subst h0; exact absurd b (by decide)
  · obtain ⟨c', r', e, hc⟩ := numL_head n (by omega)
    rw [e] at h
    injection h with h1 h2
    exact hc (h1.trans a)
theorem numL_fig {n c : Nat} (h : c ∈ numL n) : c ∈ tL "0123456789" := by
  have := numL_digits n c h
  have e : tL "0123456789" = [48, 49, 50, 51, 52, 53, 54, 55, 56, 57] := by decide
  rw [e]
  simp
  omega
theorem w_intS {n : Nat} {R : Int → Prop} (hn : (numL n).length ≤ 640) (h : R (n : Nat)) : ∃ a m, [V.str (tS (numL n))] = [.str a] ∧ PySem.intText? a = some m ∧ a.length ≤ 640 ∧ R m := by
  refine ⟨_, _, rfl, ?_, by rw [tS_len]; exact hn, h⟩
  rw [← tS_num]
  exact int_num (by omega)

theorem dec_lit {a : List Nat} {s : String} : decide (tS a = Str.ofString s) = decide (a = tL s) := by
  rw [tL_lit]
  by_cases h : a = tL s
  · rw [h]; simp
  · rw [decide_eq_false h, decide_eq_false (fun z => h (tS_inj z))]
theorem dec_tt {a b : List Nat} : decide (tS a = tS b) = decide (a = b) := by
  by_cases h : a = b
  · rw [h]; simp
  · rw [decide_eq_false h, decide_eq_false (fun z => h (tS_inj z))]
theorem cutV_init (xs : List V) (v : V) : cutV (xs ++ [v]) none (some (-1)) = xs := by
  have e : HT.sIx (xs ++ [v]).length (xs ++ [v]).length (some (-1)) = xs.length := by
    rw [List.length_append, List.length_singleton]
    unfold HT.sIx
    simp
    omega
  unfold cutV
  rw [e]
  have e0 : HT.sIx (xs ++ [v]).length 0 none = 0 := rfl
  rw [e0, List.drop_zero, Nat.sub_zero]
  simp

open TL
section
variable {P : Program} {w : World} {K : PySem.W.Frag} {mg : Str → Option Value} {base : Heap} {C_BadText C_FloorError : Addr}
def dAns (c l : Nat) (ps : List (Nat × Nat)) : PyData := .tuple [.int (c : Int), .int (l : Int), dPap ps]
theorem goodAns (c l : Nat) (ps : List (Nat × Nat)) : Good 3 (dAns c l ps) := goodTup (by
  intro d hd
  simp only [List.mem_cons, List.not_mem_nil, or_false] at hd
  rcases hd with rfl | rfl | rfl
  · exact goodInt
  · exact goodInt
  · exact goodPap ps)
theorem dpAns {K : PySem.W.Frag} {H : Hp} {v : V} {c l : Nat} {ps : List (Nat × Nat)} (h : Dp K H v (dAns c l ps)) : ∃ f pa xs, v = .ref f ∧ SqT K H f [.int (c : Nat), .int (l : Nat), .ref pa] ∧ SqL K H pa xs ∧ DpAll K H xs (ps.map dPr) := by
  obtain ⟨f, xs, rfl, h1, h2⟩ := dpTup h
  cases h2 with
  | cons a b =>
    cases a
    cases b with
    | cons a b =>
      cases a
      cases b with
      | cons a b =>
        cases b
        obtain ⟨pa, ys, rfl, h3, h4⟩ := dpLst a
        exact ⟨f, pa, ys, rfl, h1, h3, h4⟩
def rowsT (c l : Nat) (ps : List (Nat × Nat)) : List (List Nat) := [rowB (tL "worth") [c], rowB (tL "down") (bl l 80)] ++ ps.map fun t => rowB (tL "hill") (t.2 :: bl t.1 80)
def shownT (c l : Nat) (ps : List (Nat × Nat)) : List Nat := endL (rowsT c l ps)
theorem bl_small (x : Nat) : ∀ n ∈ bl x 80, n < 10 ^ 41 := fun n hn => by
  unfold bl at hn
  rw [List.mem_filter, List.mem_range] at hn
  have : n < 80 := hn.1
  exact Nat.lt_of_lt_of_le this (by decide)
theorem rowsT_len {c l : Nat} {ps : List (Nat × Nat)} (hc : c < 10 ^ 41) (hp : ∀ t ∈ ps, t.2 < 10 ^ 41) : ∀ r ∈ rowsT c l ps, r.length ≤ 4000 := by
  intro r hr
  unfold rowsT at hr
  have e1 : (tL "worth").length = 5 := by decide
  have e2 : (tL "down").length = 4 := by decide
  have e3 : (tL "hill").length = 4 := by decide
  rcases List.mem_append.mp hr with hr | hr
  · rcases List.mem_cons.mp hr with rfl | hr
    · have := rowB_len (h := tL "worth") (ns := [c]) (k := 41) (by decide) (by simpa using hc)
      rw [List.length_singleton] at this
      omega
    · rw [List.mem_singleton.mp hr]
      have := rowB_len (h := tL "down") (k := 41) (by decide) (bl_small l)
      have := bl_len l 80
      omega
  · obtain ⟨t, ht, rfl⟩ := List.mem_map.mp hr
    have := rowB_len (h := tL "hill") (ns := t.2 :: bl t.1 80) (k := 41) (by decide) (fun n hn => by
      rcases List.mem_cons.mp hn with rfl | hn
      · exact hp t ht
      · exact bl_small _ n hn)
    have := bl_len t.1 80
    rw [List.length_cons] at *
    omega
def ended (rs : List (List Nat)) : List (List Nat) := rs.map fun r => r ++ [10]
theorem ended_snoc (rs : List (List Nat)) (r : List Nat) : ended (rs ++ [r]) = ended rs ++ [r ++ [10]] := List.map_append ..
def Rise (ns : List Nat) : Prop := ns.Pairwise (· < ·) ∧ ∀ n ∈ ns, n < 80
theorem Rise.bl (x : Nat) : Rise (bl x 80) := ⟨bl_sorted x 80, fun n hn => by
  unfold Sf.bl at hn
  rw [List.mem_filter, List.mem_range] at hn
  exact hn.1⟩
def hillW (t : Nat) (ns : List Nat) : List Nat := rowB (tL "hill") (t :: ns)
/-- a list of pairs, known to the sign -/
def PapX (H : Hp) (pa : Addr) (ps : List (Nat × Nat)) : Prop := ∃ ts : List (Addr × Nat × Nat), (ts.map fun t => t.2) = ps ∧ H pa = some (.lst (ts.map fun t => V.ref t.1)) ∧ ∀ t ∈ ts, H t.1 = some (.tup [.int (t.2.1 : Nat), .int (t.2.2 : Nat)])
theorem PapX.dp {K : PySem.W.Frag} {H : Hp} {pa : Addr} {ps : List (Nat × Nat)} (h : PapX H pa ps) : Dp K H (.ref pa) (dPap ps) := by
  obtain ⟨ts, rfl, h2, h3⟩ := h
  exact .lst (SqL.of h2) (dpa_pairs ts fun t ht => SqT.of (h3 t ht))
theorem PapX.same {H H' : Hp} {pa : Addr} {ps : List (Nat × Nat)} (e : Same H H') (h : PapX H pa ps) : PapX H' pa ps := by
  obtain ⟨ts, h1, h2, h3⟩ := h
  exact ⟨ts, h1, e _ _ h2, fun t ht => e _ _ (h3 t ht)⟩
theorem PapX.nil {H : Hp} {pa : Addr} (h : H pa = some (.lst [])) : PapX H pa [] := ⟨[], rfl, h, fun t ht => absurd ht List.not_mem_nil⟩
theorem PapX.len {H : Hp} {pa : Addr} {ps : List (Nat × Nat)} (h : PapX H pa ps) : ∃ xs, H pa = some (.lst xs) ∧ xs.length = ps.length := by
  obtain ⟨ts, h1, h2, h3⟩ := h
  exact ⟨_, h2, by rw [← h1]; simp⟩
/-- one more pair -/
theorem PapX.put {H H' : Hp} {pa p : Addr} {ps : List (Nat × Nat)} {t : Nat × Nat} {xs : List V} (h : PapX H pa ps) (hx : H pa = some (.lst xs)) (e : Same H H') (hp : H' p = some (.tup [.int (t.1 : Nat), .int (t.2 : Nat)])) : PapX (upd H' pa (.lst (xs ++ [.ref p]))) pa (ps ++ [t]) := by
  obtain ⟨ts, h1, h2, h3⟩ := h
  rw [h2] at hx
  injection hx with hx
  injection hx with hx
  subst hx
  have hpa := e _ _ h2
  refine ⟨ts ++ [(p, t)], by rw [List.map_append, h1]; rfl, by rw [upd_same, List.map_append]; rfl, fun u hu => ?_⟩
  rcases List.mem_append.mp hu with hu | hu
  · have := e _ _ (h3 u hu)
    rw [upd_ne (fun z => by rw [z, hpa] at this; cases this)]
    exact this
  · rw [List.mem_singleton.mp hu]
    show upd H' pa _ p = _
    rw [upd_ne (fun z => by rw [z, hpa] at hp; cases hp)]
    exact hp
theorem orL_bl {x : Nat} (h : x < 2 ^ 80) : orL (bl x 80) (bl x 80).length = x := Nat.eq_of_testBit_eq fun q => by
  rw [Bool.eq_iff_iff, orL_bit _ _ _ (Nat.le_refl _), List.take_length, bl_mem h]
end

open TL
section
variable {P : Program} {w : World} {K : PySem.W.Frag} {mg : Str → Option Value} {base : Heap} {C_BadText C_FloorError : Addr}
theorem hill_free : (10 : Nat) ∉ tL "hill" := by decide
theorem rowsT_free {c l : Nat} {ps : List (Nat × Nat)} : ∀ r ∈ rowsT c l ps, 10 ∉ r := by
  intro r hr
  unfold rowsT at hr
  rcases List.mem_append.mp hr with hr | hr
  · rcases List.mem_cons.mp hr with rfl | hr
    · exact rowB_free (by decide)
    · rw [List.mem_singleton.mp hr]; exact rowB_free (by decide)
  · obtain ⟨t, _, rfl⟩ := List.mem_map.mp hr
    exact rowB_free hill_free
theorem rowsT_at {c l : Nat} {ps : List (Nat × Nat)} {i : Nat} (hi : i < ps.length) : (rowsT c l ps).getD (i + 2) [] = rowB (tL "hill") ((ps.getD i (0, 0)).2 :: bl (ps.getD i (0, 0)).1 80) := by
  unfold rowsT
  rw [List.getD_eq_getElem?_getD, List.getElem?_append_right (by simp)]
  simp only [List.length_cons, List.length_nil, Nat.add_sub_cancel]
  rw [List.getElem?_map, List.getElem?_eq_getElem hi, List.getD_eq_getElem?_getD, List.getElem?_eq_getElem hi]
  rfl
theorem bl_ne {x : Nat} (h : x < 2 ^ 80) (h0 : x ≠ 0) : bl x 80 ≠ [] := fun e => by
  refine h0 (Nat.eq_of_testBit_eq fun q => ?_)
  rw [Nat.zero_testBit]
  cases hb : x.testBit q with
  | false => rfl
  | true =>
    have := (bl_mem h).mpr hb
    rw [e] at this
    cases this
def AnsOk (c l : Nat) (ps : List (Nat × Nat)) : Prop := c < 10 ^ 40 ∧ l < 2 ^ 80 ∧ (∀ t ∈ ps, t.1 < 2 ^ 80 ∧ t.1 ≠ 0 ∧ 1 ≤ t.2 ∧ t.2 < 10 ^ 40) ∧ ps.length ≤ 1000
end

open TL
/-! ### what a text of an answer tells -/
def digs (w : List Nat) : Bool := w.all fun c => decide (c ∈ tL "0123456789")
def figM (w : List Nat) : Option Nat := if w = [] ∨ 40 < w.length ∨ (w.head? = some 48 ∧ 1 < w.length) then none else if digs w = true then some (NumText.digitsVal w) else none
theorem fig_set : tL "0123456789" = [48, 49, 50, 51, 52, 53, 54, 55, 56, 57] := by decide
theorem digs_all {w : List Nat} (h : digs w = true) : NumText.AllDigits w := fun c hc => by
  have := List.all_eq_true.mp h c hc
  have := of_decide_eq_true this
  rw [fig_set] at this
  simp at this
  omega
theorem fig_lt {w : List Nat} {n : Nat} (h : figM w = some n) : n < 10 ^ 40 := by
  unfold figM at h
  split at h
  · cases h
  · rename_i hc
    split at h
    · rename_i hd
      injection h with h
      have hl : w.length ≤ 40 := Nat.le_of_not_lt fun z => hc (.inr (.inl z))
      have key : ∀ (l : List Nat) (a : Nat), NumText.AllDigits l → l.foldl (fun acc c => acc * 10 + (c - 48)) a < (a + 1) * 10 ^ l.length := by
        intro l
        induction l with
        | nil => intro a _; simp
        | cons c r ih =>
          intro a hr
          have hc := hr.head
          have := ih (a * 10 + (c - 48)) hr.tail
          rw [List.foldl_cons, List.length_cons, Nat.pow_succ]
          refine Nat.lt_of_lt_of_le this ?_
          rw [show (a + 1) * (10 ^ r.length * 10) = ((a + 1) * 10) * 10 ^ r.length by rw [Nat.mul_comm (10 ^ r.length) 10, Nat.mul_assoc]]
          exact Nat.mul_le_mul_right _ (by omega)
      have := key w 0 (digs_all hd)
      rw [← h]
      unfold NumText.digitsVal
      refine Nat.lt_of_lt_of_le this ?_
      rw [Nat.zero_add, Nat.one_mul]
      exact Nat.pow_le_pow_right (by decide) hl
    · cases h
theorem fig_int {w : List Nat} {n : Nat} (h : figM w = some n) : PySem.intText? (tS w) = some (n : Int) := by
  unfold figM at h
  split at h
  · cases h
  · rename_i hc
    split at h
    · rename_i hd
      injection h with h
      have hl : w.length ≤ 40 := Nat.le_of_not_lt fun z => hc (.inr (.inl z))
      have e := intText_digits (x := tS w) (digs_all hd) (fun z => hc (.inl z)) (by rw [tS_len]; omega)
      rw [e, ← h]
      rfl
    · cases h
/-- the numbers of words, the first that is none told -/
def figsM : List (List Nat) → Option (List Nat)
  | [] => some []
  | w :: ws => match figM w with
    | none => none
    | some n => match figsM ws with
      | none => none
      | some r => some (n :: r)
def rowM (h row : List Nat) : Option (List Nat) := match spl [32] 0 [] row with
  | [] => none
  | w :: ws => if w = h then figsM ws else none
/-- last is the greatest number so far, plus one -/
def risM : Nat → List Nat → Bool
  | _, [] => true
  | b, n :: r => decide (b ≤ n ∧ n ≤ 79) && risM (n + 1) r
def setM (ns : List Nat) : Option Nat := if risM 0 ns = true then some (orL ns ns.length) else none
def hillM (row : List Nat) : Option (Nat × Nat) := match rowM (tL "hill") row with
  | some (t :: n :: r) => if t < 1 then none else match setM (n :: r) with
    | some m => some (m, t)
    | none => none
  | _ => none
abbrev AnS := Nat × Nat × List (Nat × Nat)
/-- one row more; ws: all parts between line feeds -/
def stepM (ws : List (List Nat)) (k : Nat) (s : AnS) : Option AnS := if ws.length - 1 ≤ k then none else
  if k = 0 then (match rowM (tL "worth") (ws.getD 0 []) with
    | some [c] => some (c, s.2)
    | _ => none)
  else if k = 1 then (match rowM (tL "down") (ws.getD 1 []) with
    | some ns => (match setM ns with
      | some m => some (s.1, m, s.2.2)
      | none => none)
    | none => none)
  else (match hillM (ws.getD k []) with
    | some t => some (s.1, s.2.1, s.2.2 ++ [t])
    | none => none)
/-- the rows from the first on: the first wrong one's number, or what is told -/
def runM (ws : List (List Nat)) : Nat → Sum Nat AnS
  | 0 => .inr (0, 0, [])
  | k + 1 => match runM ws k with
    | .inl a => .inl a
    | .inr s => match stepM ws k s with
      | none => .inl (k + 1)
      | some t => .inr t
def cntM (ws : List (List Nat)) : Nat := max 2 (ws.length - if ws.getD (ws.length - 1) [] = [] then 1 else 0)
def readM (text : List Nat) : Sum Nat AnS := runM (spl [10] 0 [] text) (cntM (spl [10] 0 [] text))
theorem runM_stop {ws : List (List Nat)} {k a : Nat} (h : runM ws k = .inl a) : ∀ n, k ≤ n → runM ws n = .inl a := by
  intro n hn
  induction n with
  | zero => rw [show k = 0 by omega] at h; exact h
  | succ n ih =>
    by_cases e : k = n + 1
    · rw [← e]; exact h
    · have := ih (by omega)
      unfold runM
      rw [this]
theorem runM_step {ws : List (List Nat)} {k : Nat} {s : AnS} (h : runM ws k = .inr s) : runM ws (k + 1) = match stepM ws k s with
      | none => .inl (k + 1)
      | some t => .inr t := by
  conv => lhs; unfold runM
  rw [h]
/-- the parts of a text are no longer than it -/
theorem spl_len (S : List Nat) (hS : S ≠ []) : ∀ (l acc : List Nat) (k : Nat), (spl S k acc l).length ≤ l.length + 1 ∧ ∀ w ∈ spl S k acc l, w.length ≤ acc.length + l.length := by
  intro l
  induction l with
  | nil =>
    intro acc k
    rw [spl_nil]
    exact ⟨by simp, fun w hw => by rw [List.mem_singleton.mp hw]; omega⟩
  | cons c r ih =>
    intro acc k
    cases k with
    | zero =>
      cases h : pre S (c :: r) with
      | true =>
        rw [spl_hit h]
        obtain ⟨h1, h2⟩ := ih [] (S.length - 1)
        refine ⟨by rw [List.length_cons, List.length_cons]; omega, fun w hw => ?_⟩
        rcases List.mem_cons.mp hw with rfl | hw
        · omega
        · have := h2 w hw
          rw [List.length_nil] at this
          rw [List.length_cons]
          omega
      | false =>
        rw [spl_miss h]
        obtain ⟨h1, h2⟩ := ih (acc ++ [c]) 0
        refine ⟨by rw [List.length_cons]; omega, fun w hw => ?_⟩
        have := h2 w hw
        rw [List.length_append, List.length_singleton] at this
        rw [List.length_cons]
        omega
    | succ k =>
      rw [spl_pass, List.drop_succ_cons, ← spl_pass]
      obtain ⟨h1, h2⟩ := ih acc k
      exact ⟨by rw [List.length_cons]; omega, fun w hw => by have := h2 w hw; rw [List.length_cons]; omega⟩
theorem spl_ne (S : List Nat) : ∀ (l acc : List Nat) (k : Nat), spl S k acc l ≠ [] := by
  intro l
  induction l with
  | nil => intro acc k; rw [spl_nil]; simp
  | cons c r ih =>
    intro acc k
    cases k with
    | zero =>
      cases h : pre S (c :: r) with
      | true => rw [spl_hit h]; simp
      | false => rw [spl_miss h]; exact ih _ _
    | succ k => rw [spl_pass, List.drop_succ_cons, ← spl_pass]; exact ih _ _

open TL
section
variable {P : Program} {w : World} {K : PySem.W.Frag} {mg : Str → Option Value} {base : Heap} {C_BadText C_FloorError : Addr}
def XB (K : PySem.W.Frag) (C : Addr) (E : XK) (H : Hp) (a : Int) : Prop := ∀ d H', Same H H' → New H' d → E (.ref C) (some d) (upd H' d (.xd [("at", .int a)]))
def spFigX (K : PySem.W.Frag) (CB : Addr) : Sp := fun vs H Q E => ∃ (w : List Nat) (at_ : Int), vs = [.str (tS w), .int at_] ∧ w.length ≤ 100000 ∧ (∀ n, figM w = some n → Q (.int (n : Nat)) H) ∧ (figM w = none → XB K CB E H at_)
theorem fig_cut {w : List Nat} (h : ¬ (w = [] ∨ 40 < w.length ∨ (w.head? = some 48 ∧ 1 < w.length))) : figM w = if digs w = true then some (NumText.digitsVal w) else none := if_neg h
theorem ok_figure_number {f : Addr} {fd : FuncData} (F : Fun K "figure_number" "figure_number" s_figure_number f fd) (gf : mg "figure_number" = some (.ref f)) (B : Bl mg) {C_BadText C_FloorError : Addr} (T : Txt K mg C_BadText C_FloorError) (h_xm_BadText : HasXM P w K mg base 1 "BadText" C_BadText ["self", "at"] (spKeep K C_BadText)) : Has P w K mg base (L2.CX P w) 3 "figure_number" ["word", "at"] (spFigX K C_BadText) := by
  refine Has.mkX F gf (F.binds (ps := ["word", "at"]) fun _ _ _ _ _ _ us hl => match us, hl with | [_, _], _ => rfl) sc_figure_number (by walk_at "len") (fun cdv A outer s H vs Q E hr h => ?_)
  obtain ⟨w, at_, rfl, hw, q, qe⟩ := h
  have hz : w.length ≤ sizeLine := by rw [sizeLine_eq]; omega
  have hz0 : tL "0" = [48] := by decide
  have hbad : (w = [] ∨ 40 < w.length ∨ (w.head? = some 48 ∧ 1 < w.length)) → figM w = none := fun h => if_pos h
  refine ⟨_, (pss_cutX (ps_if (PW.pt (pw_or (pt_cmpR op_eq (pv 0) pe_str (nomark _)) (pw_or (pt_cmpR op_gt (pe_callB call_len_str (by rfl) B.len (by decide +kernel) (pa_cons (pv 0) pa_nil)) (pe_glob (v := .int 40) (by rfl) T.k_MOST_FIGURES.choose_spec ⟨_, rfl⟩) (nomark _)) (pw_or1 (PW.pt (pw_and (pt_cmpR op_eq (pe_ix ix_str (pv 0) pe_int (fun _ _ => rfl)) pe_str (nomark _)) (pw_and1 (pt_cmpR op_gt (pe_callB call_len_str (by rfl) B.len (by decide +kernel) (pa_cons (pv 0) pa_nil)) pe_int (nomark _))))))))) (pss_one (ps_raise rfl (takes_of rfl rfl rfl rfl) (pmk_xm h_xm_BadText (hr.mono (by decide)) (by rfl) (pa_cons (pv 1) pa_nil)))) pss_nil)
 (pss_cons (ps_for (passes_of rfl) rfl (pi_str (pv 0)) (pg_name (i := 2) sc_figure_number.nd rfl (.inl rfl)) (pss_one (ps_if (pt_cmpR op_notIn_sign (pv 2) (pe_glob (v := .str "0123456789") (by rfl) T.k_FIGURES.choose_spec ⟨_, rfl⟩) (by rfl)) (pss_one (ps_raise rfl (takes_of rfl rfl rfl rfl) (pmk_xm h_xm_BadText (hr.mono (by decide)) (by rfl) (pa_cons (pv 1) pa_nil)))) pss_nil)))
 (pss_one (ps_ret (pe_callTy call_int_str (by rfl) B.int (by decide +kernel) (pa_cons (pv 0) pa_nil)))))), ?_⟩
  refine w_cut (fun σ' H' => σ' = [some (.str (tS w)), some (.int at_), none] ∧ H' = H ∧ ¬ (w = [] ∨ 40 < w.length ∨ (w.head? = some 48 ∧ 1 < w.length))) ?_ ?_
  · walk_at "sts"
    rw [dec_lit]
    refine ifd (fun h1 => ?_) (fun h1 => ?_)
    · walk_at "sts"
      exact w_raiseK T.ox_BadText T.na_BadText fun d nd => qe (hbad (.inl h1)) d H (Same.refl _) nd
    walk_at "sts"
    refine w_1s ⟨by rw [tS_len]; exact hz, ?_⟩
    rw [tS_len]
    walk_at "sts"
    refine ifd (fun h2 => ?_) (fun h2 => ?_)
    · walk_at "sts"
      exact w_raiseK T.ox_BadText T.na_BadText fun d nd => qe (hbad (.inr (.inl (by omega)))) d H (Same.refl _) nd
    obtain ⟨c0, r0, e0⟩ : ∃ c r, w = c :: r := by
      cases w with
      | nil => exact absurd rfl h1
      | cons c r => exact ⟨c, r, rfl⟩
    walk_at "sts"
    refine w_ixS (c := c0) hz (by rw [e0]; exact atI_nat (j := 0) rfl) ?_
    walk_at "sts"
    rw [dec_lit]
    have hh : w.head? = some c0 := by rw [e0]; rfl
    refine ifd (fun h3 => ?_) (fun h3 => ?_)
    · have h48 : c0 = 48 := by rw [hz0] at h3; injection h3
      walk_at "sts"
      refine w_1s ⟨by rw [tS_len]; exact hz, ?_⟩
      rw [tS_len]
      walk_at "sts"
      refine ifd (fun h4 => ?_) (fun h4 => ?_)
      · walk_at "sts"
        exact w_raiseK T.ox_BadText T.na_BadText fun d nd => qe (hbad (.inr (.inr ⟨by rw [hh, h48], by omega⟩))) d H (Same.refl _) nd
      · walk_at "sts"
        refine ⟨rfl, rfl, fun z => ?_⟩
        rcases z with z | z | z
        · exact h1 z
        · omega
        · omega
    · walk_at "sts"
      refine ⟨rfl, rfl, fun z => ?_⟩
      rcases z with z | z | z
      · exact h1 z
      · omega
      · refine h3 ?_
        rw [hh] at z
        have := Option.some.inj z.1
        rw [this, hz0]
  rintro σ' H ⟨rfl, rfl, hok⟩
  have hfig := fig_cut hok
  walk_at "sts"
  refine w_iStr ?_
  walk_at "sts"
  refine w_itS ?_
  refine for_str (fun i σ H' => ∃ y : Option V, σ = [some (.str (tS w)), some (.int at_), y] ∧ H' = H ∧ digs (w.take i) = true) ?_ ?_ ?_
  · exact ⟨_, rfl, rfl, rfl⟩
  · rintro i c σ H' hc ⟨y, rfl, rfl, hd⟩
    have hi := (List.getElem?_eq_some_iff.mp hc).1
    have et : w.take (i + 1) = w.take i ++ [c] := by rw [List.take_add_one, hc]; rfl
    have ed : digs (w.take (i + 1)) = decide (c ∈ tL "0123456789") := by
      rw [et]
      unfold digs at hd ⊢
      rw [List.all_append, hd]
      simp
    walk_at "sts"
    rw [tL_lit]
    refine w_inR ?_
    rw [tl_cps]
    walk_at "sts"
    refine ifnd (fun hm => ?_) (fun hm => ?_)
    · walk_at "sts"
      refine w_raiseK T.ox_BadText T.na_BadText fun d nd => qe ?_ d H' (Same.refl _) nd
      rw [hfig, if_neg]
      intro z
      unfold digs at z
      exact hm (of_decide_eq_true (List.all_eq_true.mp z c (List.mem_of_getElem? hc)))
    · walk_at "sts"
      exact ⟨_, rfl, rfl, by rw [ed, decide_eq_true hm]⟩
  · rintro σ H' ⟨y, rfl, rfl, hd⟩
    rw [List.take_length] at hd
    rw [if_pos hd] at hfig
    have hl : w.length ≤ 40 := Nat.le_of_not_lt fun z => hok (.inr (.inl z))
    walk_at "sts"
    refine ⟨_, _, rfl, fig_int hfig, by rw [tS_len]; omega, ?_⟩
    exact q _ hfig
def spRowX (K : PySem.W.Frag) (CB : Addr) : Sp := fun vs H Q E => ∃ (row h : List Nat) (at_ : Int), vs = [.str (tS row), .str (tS h), .int at_] ∧ row.length ≤ 100000 ∧ (∀ ns, rowM h row = some ns → (∀ n ∈ ns, n < 10 ^ 40) → ns.length ≤ 100001 → ∀ p H', Same H H' → New H p → H' p = some (.lst (iv ns)) → Q (.ref p) H') ∧ (rowM h row = none → XB K CB E H at_)
theorem XB.same {K : PySem.W.Frag} {C : Addr} {E : XK} {H H1 : Hp} {a : Int} (h : XB K C E H a) (s : Same H H1) : XB K C E H1 a := fun d H' s2 n => h d H' (s.trans s2) n
theorem figsM_cons (w : List Nat) (ws : List (List Nat)) : figsM (w :: ws) = match figM w with
    | none => none
    | some n => match figsM ws with
      | none => none
      | some r => some (n :: r) := rfl
theorem figsM_app : ∀ (a b : List (List Nat)), figsM (a ++ b) = match figsM a with
    | none => none
    | some x => match figsM b with
      | none => none
      | some y => some (x ++ y)
  | [], b => by
    rw [List.nil_append, show figsM [] = some [] from rfl]
    cases figsM b <;> rfl
  | w :: r, b => by
    have ih := figsM_app r b
    rw [List.cons_append, figsM_cons, figsM_cons, ih]
    cases figM w <;> cases figsM r <;> cases figsM b <;> rfl
theorem figsM_lt : ∀ (ws : List (List Nat)) (ns : List Nat), figsM ws = some ns → ns.length = ws.length ∧ ∀ n ∈ ns, n < 10 ^ 40
  | [], ns, h => by injection h with h; subst h; exact ⟨rfl, fun n hn => absurd hn List.not_mem_nil⟩
  | w :: r, ns, h => by
    unfold figsM at h
    cases e : figM w with
    | none => rw [e] at h; cases h
    | some n =>
      rw [e] at h
      cases e2 : figsM r with
      | none => rw [e2] at h; cases h
      | some x =>
        rw [e2] at h
        injection h with h
        subst h
        obtain ⟨h1, h2⟩ := figsM_lt r x e2
        refine ⟨by rw [List.length_cons, List.length_cons, h1], fun m hm => ?_⟩
        rcases List.mem_cons.mp hm with rfl | hm
        · exact fig_lt e
        · exact h2 m hm
theorem figsM_none {ws : List (List Nat)} {i : Nat} {w : List Nat} (h : ws[i]? = some w) (hw : figM w = none) : figsM ws = none := by
  have hi := (List.getElem?_eq_some_iff.mp h).1
  have e : ws = ws.take i ++ (w :: ws.drop (i + 1)) := by
    have : ws.drop i = w :: ws.drop (i + 1) := by
      rw [List.drop_eq_getElem_cons hi, (List.getElem?_eq_some_iff.mp h).2]
    rw [← this, List.take_append_drop]
  rw [e, figsM_app]
  have : figsM (w :: ws.drop (i + 1)) = none := by unfold figsM; rw [hw]
  rw [this]
  cases figsM (ws.take i) <;> rfl
theorem ok_row_numbers {f : Addr} {fd : FuncData} (F : Fun K "row_numbers" "row_numbers" s_row_numbers f fd) (gf : mg "row_numbers" = some (.ref f)) (B : Bl mg) {C_BadText C_FloorError : Addr} (T : Txt K mg C_BadText C_FloorError) (h_figure_number : Has P w K mg base (L2.CX P w) 3 "figure_number" ["word", "at"] (spFigX K C_BadText)) (h_xm_BadText : HasXM P w K mg base 1 "BadText" C_BadText ["self", "at"] (spKeep K C_BadText)) : Has P w K mg base (L2.CX P w) 4 "row_numbers" ["row", "head", "at"] (spRowX K C_BadText) := by
  refine Has.mkX F gf (F.binds (ps := ["row", "head", "at"]) fun _ _ _ _ _ _ us hl => match us, hl with | [_, _, _], _ => rfl) sc_row_numbers (by walk_at "len") (fun cdv A outer s H vs Q E hr h => ?_)
  obtain ⟨row, w, at_, rfl, hsz, q, qe⟩ := h
  obtain ⟨w0, ws, hsp⟩ : ∃ w0 ws, spl [32] 0 [] row = w0 :: ws := by
    cases e : spl [32] 0 [] row with
    | nil => exact absurd e (spl_ne _ _ _ _)
    | cons a b => exact ⟨a, b, rfl⟩
  obtain ⟨hl1, hl2⟩ := spl_len [32] (by decide) row [] 0
  rw [hsp, List.length_cons] at hl1
  rw [hsp] at hl2
  have hrow : rowM w row = if w0 = w then figsM ws else none := by unfold rowM; rw [hsp]
  refine ⟨_, (pss_cons (ps_set (i := 3) sc_row_numbers.nd rfl (.inl rfl) (pe_split (pv 0) pe_str))
 (pss_cons (ps_if (pt_cmpR op_ne (pe_ix (ix_listK K) (pv 3) pe_int (fun _ _ => rfl)) (pv 1) (nomark _)) (pss_one (ps_raise rfl (takes_of rfl rfl rfl rfl) (pmk_xm h_xm_BadText (hr.mono (by decide)) (by rfl) (pa_cons (pv 2) pa_nil)))) pss_nil)
 (pss_one (ps_ret (pe_lcX (own := [("word", 4)]) rfl rfl (takes_of rfl rfl rfl rfl) rfl sc_row_numbers.nd (pi_listK K (pe_slice (sl_listK K) (pv 3) (po_some pe_int) po_none)) (blkOk_by (own := [("word", 4)]) (N := ["row", "head", "at", "words", "word"]) (sc := defScope s_row_numbers) (by decide +kernel)) (fun _ _ _ _ _ _ => pg_name (i := 4) sc_row_numbers.nd rfl (Or.inl rfl)) (fun _ _ _ _ _ _ => pts_nil) (fun _ _ _ _ _ _ _ pa => (pe_fnB pa h_figure_number (hr.mono (by decide)) (by rfl) (pa_cons (pv 4) (pa_cons (pv 2) pa_nil))))))))), ?_⟩
  walk_at "sts"
  rw [tL_lit]
  refine w_m1 ?_
  walk_at "sts"
  refine w_isS ?_
  walk_at "sts"
  rw [tL_lit]
  refine w_split (by decide) (by decide) (by rw [sizeLine_eq]; omega) fun p1 n1 => ?_
  rw [show tL " " = [32] from rfl, hsp]
  have s1 := same_upd (o := .lst (sv (w0 :: ws))) n1
  have l1 : upd H p1 (.lst (sv (w0 :: ws))) p1 = some (.lst (sv (w0 :: ws))) := upd_same
  generalize upd H p1 (.lst (sv (w0 :: ws))) = H1 at s1 l1 ⊢
  have l1s := SqL.of (K := K) l1
  have a0 : atI (sv (w0 :: ws)) 0 = some (.str (tS w0)) := atI_nat (j := 0) rfl
  walk_at "sts"
  rw [dec_tt]
  refine ifnd (fun hne => ?_) (fun heq => ?_)
  · walk_at "sts"
    exact w_raiseK T.ox_BadText T.na_BadText fun d nd => qe (by rw [hrow, if_neg hne]) d H1 s1 nd
  rw [if_pos heq] at hrow
  walk_at "sts"
  refine w_lcX ?_
  walk_at "sts"
  refine w_new fun p2 n2 => ?_
  have e2 : cutV (sv (w0 :: ws)) (some 1) none = sv ws := cutV_from _ 1
  rw [e2]
  have s2 := same_upd (o := .lst (sv ws)) n2
  have l2 : upd H1 p2 (.lst (sv ws)) p2 = some (.lst (sv ws)) := upd_same
  generalize upd H1 p2 (.lst (sv ws)) = H2 at s2 l2 ⊢
  have l2s := SqL.of (K := K) l2
  walk_at "sts"
  intro D nD
  refine lc_list (K := K) (xs := sv ws) (fun i H' => ∃ ns, figsM (ws.take i) = some ns ∧ H' D = some (.lst (iv ns)) ∧ Same H2 H') ?_ ?_ ?_ ?_
  · exact ⟨[], rfl, upd_same, same_upd nD⟩
  · rintro i H' _ ⟨_, _, _, s3⟩
    exact s3.seq l2s
  · rintro i x H' hx ⟨ns, hns, l3, s3⟩
    have hi : i < ws.length := by
      have := (List.getElem?_eq_some_iff.mp hx).1
      rwa [sv_len] at this
    rw [sv_at hi] at hx
    injection hx with hx
    subst hx
    have eg : ws[i]? = some (ws.getD i []) := by rw [List.getD_eq_getElem?_getD, List.getElem?_eq_getElem hi]; rfl
    have hwl := hl2 (ws.getD i []) (List.mem_cons_of_mem _ (List.mem_of_getElem? eg))
    have et : ws.take (i + 1) = ws.take i ++ [ws.getD i []] := by rw [List.take_add_one, eg]; rfl
    obtain ⟨hn1, hn2⟩ := figsM_lt _ _ hns
    generalize ws.getD i [] = v at *
    rw [List.length_nil] at hwl
    walk_at "sts"
    refine ⟨v, at_, rfl, by omega, fun n hn => ?_, fun hn => ?_⟩
    · refine ⟨_, l3, szlt (by rw [iv_len, hn1, List.length_take]; omega), ns ++ [n], ?_, ?_, s3.mut nD⟩
      · rw [et, figsM_app, hns]
        unfold figsM
        rw [hn]
        rfl
      · rw [upd_same, iv_app]
        rfl
    · intro d H'' s4 nd
      exact qe (by rw [hrow]; exact figsM_none eg hn) d H'' (s1.trans (s2.trans (s3.trans s4))) nd
  rintro H3 ⟨ns, hns, l3, s3⟩
  rw [sv_len, List.take_length] at hns
  obtain ⟨hn1, hn2⟩ := figsM_lt _ _ hns
  walk_at "sts"
  exact q ns (by rw [hrow, hns]) hn2 (by omega) D H3 (s1.trans (s2.trans s3)) (((show New _ D from nD).of s2).of s1) l3
end

open TL
section
variable {P : Program} {w : World} {K : PySem.W.Frag} {mg : Str → Option Value} {base : Heap} {C_BadText C_FloorError : Addr}
theorem risM_lt : ∀ (ns : List Nat) (b : Nat), risM b ns = true → ∀ n ∈ ns, n ≤ 79
  | [], _, _, n, hn => absurd hn List.not_mem_nil
  | x :: r, b, h, n, hn => by
    unfold risM at h
    rw [Bool.and_eq_true] at h
    have h1 := of_decide_eq_true h.1
    rcases List.mem_cons.mp hn with rfl | hn
    · exact h1.2
    · exact risM_lt r (x + 1) h.2 n hn
def spRisX (K : PySem.W.Frag) (CB : Addr) : Sp := fun vs H Q E => ∃ (a : Addr) (ns : List Nat) (at_ : Int), vs = [.ref a, .int at_] ∧ SqL K H a (iv ns) ∧ (∀ m : Nat, setM ns = some m → Q (.int (m : Nat)) H) ∧ (setM ns = none → XB K CB E H at_)
theorem ok_rising_mask {f : Addr} {fd : FuncData} (F : Fun K "rising_mask" "rising_mask" s_rising_mask f fd) (gf : mg "rising_mask" = some (.ref f)) (B : Bl mg) {C_BadText C_FloorError : Addr} (T : Txt K mg C_BadText C_FloorError) (h_mask_of : Has P w K mg base CX0 1 "mask_of" ["places"] (spMaskOf K)) (h_xm_BadText : HasXM P w K mg base 1 "BadText" C_BadText ["self", "at"] (spKeep K C_BadText)) : Has P w K mg base (L2.CX P w) 3 "rising_mask" ["numbers", "at"] (spRisX K C_BadText) := by
  refine Has.mkX F gf (F.binds (ps := ["numbers", "at"]) fun _ _ _ _ _ _ us hl => match us, hl with | [_, _], _ => rfl) sc_rising_mask (by walk_at "len") (fun cdv A outer s H vs Q E hr h => ?_)
  obtain ⟨a, ns, at_, rfl, hA, q, qe⟩ := h
  refine ⟨_, (pss_cons (ps_set (i := 2) sc_rising_mask.nd rfl (.inl rfl) (pe_un un_neg pe_int))
 (pss_cons (ps_for (passes_of rfl) rfl (pi_listK K (pv 0)) (pg_name (i := 3) sc_rising_mask.nd rfl (.inl rfl)) (pss_cons (ps_if (PW.pt (pw_or (pt_cmpR op_le (pv 3) (pv 2) (nomark _)) (pw_or1 (pt_cmpR op_gt (pv 3) (pe_glob (v := .int 79) (by rfl) T.k_MOST_NUMBER.choose_spec ⟨_, rfl⟩) (nomark _))))) (pss_one (ps_raise rfl (takes_of rfl rfl rfl rfl) (pmk_xm h_xm_BadText (hr.mono (by decide)) (by rfl) (pa_cons (pv 1) pa_nil)))) pss_nil)
 (pss_one (ps_set (i := 2) sc_rising_mask.nd rfl (.inl rfl) (pv 3)))))
 (pss_one (ps_ret (pe_fn h_mask_of (hr.mono (by decide)) (by rfl) (pa_cons (pv 0) pa_nil)))))), ?_⟩
  walk_at "sts"
  refine for_list (xs := iv ns) (fun i σ H' => ∃ (b : Nat) (y : Option V), σ = [some (.ref a), some (.int at_), some (.int ((b : Int) - 1)), y] ∧ H' = H ∧ risM 0 ns = risM b (ns.drop i)) ?_ ?_ ?_ ?_
  · exact ⟨0, _, rfl, rfl, rfl⟩
  · rintro i σ H' _ ⟨_, _, _, rfl, _⟩
    exact hA
  · rintro i x σ H' hx ⟨b, y, rfl, rfl, hb⟩
    have hi : i < ns.length := by
      have := (List.getElem?_eq_some_iff.mp hx).1
      rwa [iv_len] at this
    rw [iv_at hi] at hx
    injection hx with hx
    subst hx
    have ed : ns.drop i = ns.getD i 0 :: ns.drop (i + 1) := by
      rw [List.drop_eq_getElem_cons hi, List.getD_eq_getElem?_getD, List.getElem?_eq_getElem hi]; rfl
    rw [ed] at hb
    generalize ns.getD i 0 = n at hb
    have hb2 : risM 0 ns = (decide (b ≤ n ∧ n ≤ 79) && risM (n + 1) (ns.drop (i + 1))) := hb
    have hno : ¬ (b ≤ n ∧ n ≤ 79) → setM ns = none := fun z => by
      unfold setM
      rw [hb2, decide_eq_false z]
      rfl
    walk_at "sts"
    refine ifd (fun h1 => ?_) (fun h1 => ?_)
    · walk_at "sts"
      exact w_raiseK T.ox_BadText T.na_BadText fun d nd => qe (hno (by omega)) d H' (Same.refl _) nd
    walk_at "sts"
    refine ifd (fun h2 => ?_) (fun h2 => ?_)
    · walk_at "sts"
      exact w_raiseK T.ox_BadText T.na_BadText fun d nd => qe (hno (by omega)) d H' (Same.refl _) nd
    walk_at "sts"
    refine ⟨n + 1, some (.int (n : Nat)), ?_, rfl, ?_⟩
    · rw [show (((n + 1 : Nat) : Int) - 1) = (n : Int) by omega]
      rfl
    · rw [hb2, decide_eq_true (show b ≤ n ∧ n ≤ 79 by omega)]
      rfl
  rintro σ H' ⟨b, y, rfl, rfl, hb⟩
  rw [iv_len, List.drop_length] at hb
  have hr : risM 0 ns = true := hb
  walk_at "sts"
  refine ⟨a, ns, rfl, hA, fun x hx => by have := risM_lt ns 0 hr x hx; omega, q _ ?_⟩
  unfold setM
  rw [if_pos hr]
def spLSet (K : PySem.W.Frag) : Sp := fun vs H Q _ => ∃ (a : Addr) (ns : List Nat), vs = [.ref a] ∧ SqL K H a (iv ns) ∧ (∀ m : Nat, setM ns = some m → Q (.int (m : Nat)) H) ∧ (setM ns = none → Q (.int (-1)) H)
theorem ok_law_set {f : Addr} {fd : FuncData} (F : Fun K "_law_set" "_law_set" s_law_set f fd) (gf : mg "_law_set" = some (.ref f)) (B : Bl mg) {C_BadText C_FloorError : Addr} (T : Txt K mg C_BadText C_FloorError) : Has P w K mg base CX0 1 "_law_set" ["numbers"] (spLSet K) := by
  refine Has.mk' F gf (F.binds (ps := ["numbers"]) fun _ _ _ _ _ _ us hl => match us, hl with | [_], _ => rfl) sc_law_set (by walk_at "len") (fun cdv A outer s H vs Q E hr h => ?_)
  obtain ⟨a, ns, rfl, hA, q, qe⟩ := h
  refine ⟨_, (pss_cons (ps_set (i := 1) sc_law_set.nd rfl (.inl rfl) pe_int)
 (pss_cons (ps_set (i := 2) sc_law_set.nd rfl (.inl rfl) (pe_un un_neg pe_int))
 (pss_cons (ps_for PassesOwn.never rfl (pi_listK K (pv 0)) (pg_name (i := 3) sc_law_set.nd rfl (.inl rfl)) (pss_cons (ps_if (PW.pt (pw_or (pt_cmpR op_le (pv 3) (pv 2) (nomark _)) (pw_or1 (pt_cmpR op_gt (pv 3) pe_int (nomark _))))) (pss_one (ps_ret (pe_un un_neg pe_int))) pss_nil)
 (pss_cons (ps_set (i := 2) sc_law_set.nd rfl (.inl rfl) (pv 3))
 (pss_one (ps_set (i := 1) sc_law_set.nd rfl (.inl rfl) (pe_op op_or (pv 1) (pe_op op_shlW pe_int (pv 3))))))))
 (pss_one (ps_ret (pv 1)))))), ?_⟩
  walk_at "sts"
  refine for_list (xs := iv ns) (fun i σ H' => ∃ (b : Nat) (y : Option V), σ = [some (.ref a), some (.int (orL ns i : Nat)), some (.int ((b : Int) - 1)), y] ∧ H' = H ∧ risM 0 ns = risM b (ns.drop i)) ?_ ?_ ?_ ?_
  · exact ⟨0, _, rfl, rfl, rfl⟩
  · rintro i σ H' _ ⟨_, _, _, rfl, _⟩
    exact hA
  · rintro i x σ H' hx ⟨b, y, rfl, rfl, hb⟩
    have hi : i < ns.length := by
      have := (List.getElem?_eq_some_iff.mp hx).1
      rwa [iv_len] at this
    rw [iv_at hi] at hx
    injection hx with hx
    subst hx
    have ed : ns.drop i = ns.getD i 0 :: ns.drop (i + 1) := by
      rw [List.drop_eq_getElem_cons hi, List.getD_eq_getElem?_getD, List.getElem?_eq_getElem hi]; rfl
    have eo : orL ns (i + 1) = orL ns i ||| 2 ^ ns.getD i 0 := rfl
    rw [ed] at hb
    generalize ns.getD i 0 = n at hb eo
    have hb2 : risM 0 ns = (decide (b ≤ n ∧ n ≤ 79) && risM (n + 1) (ns.drop (i + 1))) := hb
    have hno : ¬ (b ≤ n ∧ n ≤ 79) → setM ns = none := fun z => by
      unfold setM
      rw [hb2, decide_eq_false z]
      rfl
    walk_at "sts"
    refine ifd (fun h1 => ?_) (fun h1 => ?_)
    · walk_at "sts"
      exact qe (hno (by omega))
    walk_at "sts"
    refine ifd (fun h2 => ?_) (fun h2 => ?_)
    · walk_at "sts"
      exact qe (hno (by omega))
    walk_at "sts"
    rw [shl_one, or_nat]
    refine ⟨n + 1, some (.int (n : Nat)), ?_, rfl, ?_⟩
    · rw [show (((n + 1 : Nat) : Int) - 1) = (n : Int) by omega, eo]
      rfl
    · rw [hb2, decide_eq_true (show b ≤ n ∧ n ≤ 79 by omega)]
      rfl
  rintro σ H' ⟨b, y, rfl, rfl, hb⟩
  rw [iv_len, List.drop_length] at hb
  have hr : risM 0 ns = true := hb
  rw [iv_len]
  walk_at "sts"
  refine q _ ?_
  unfold setM
  rw [if_pos hr]
def spHillX (K : PySem.W.Frag) (CB : Addr) : Sp := fun vs H Q E => ∃ (row : List Nat) (at_ : Int), vs = [.str (tS row), .int at_] ∧ row.length ≤ 100000 ∧ (∀ t : Nat × Nat, hillM row = some t → ∀ p H', Same H H' → New H p → H' p = some (.tup [.int (t.1 : Nat), .int (t.2 : Nat)]) → Q (.ref p) H') ∧ (hillM row = none → XB K CB E H at_)
theorem ok_hill_of {f : Addr} {fd : FuncData} (F : Fun K "hill_of" "hill_of" s_hill_of f fd) (gf : mg "hill_of" = some (.ref f)) (B : Bl mg) {C_BadText C_FloorError : Addr} (T : Txt K mg C_BadText C_FloorError) (h_row_numbers : Has P w K mg base (L2.CX P w) 4 "row_numbers" ["row", "head", "at"] (spRowX K C_BadText)) (h_rising_mask : Has P w K mg base (L2.CX P w) 3 "rising_mask" ["numbers", "at"] (spRisX K C_BadText)) (h_xm_BadText : HasXM P w K mg base 1 "BadText" C_BadText ["self", "at"] (spKeep K C_BadText)) : Has P w K mg base (L2.CX P w) 5 "hill_of" ["row", "at"] (spHillX K C_BadText) := by
  refine Has.mkX F gf (F.binds (ps := ["row", "at"]) fun _ _ _ _ _ _ us hl => match us, hl with | [_, _], _ => rfl) sc_hill_of (by walk_at "len") (fun cdv A outer s H vs Q E hr h => ?_)
  obtain ⟨row, at_, rfl, hsz, q, qe⟩ := h
  refine ⟨_, (pss_cons (ps_set (i := 2) sc_hill_of.nd rfl (.inl rfl) (pe_fnS (takes_of rfl rfl rfl rfl) h_row_numbers (hr.mono (by decide)) (by rfl) (pa_cons (pv 0) (pa_cons pe_str (pa_cons (pv 1) pa_nil)))))
 (pss_cons (ps_if (PW.pt (pw_or (pt_cmpR op_lt (pe_callB (call_lenK K) (by rfl) B.len (by decide +kernel) (pa_cons (pv 2) pa_nil)) pe_int (nomark _)) (pw_or1 (pt_cmpR op_lt (pe_ix (ix_listK K) (pv 2) pe_int (fun _ _ => rfl)) pe_int (nomark _))))) (pss_one (ps_raise rfl (takes_of rfl rfl rfl rfl) (pmk_xm h_xm_BadText (hr.mono (by decide)) (by rfl) (pa_cons (pv 1) pa_nil)))) pss_nil)
 (pss_one (ps_ret (pe_tup (pa_cons (pe_fnS (takes_of rfl rfl rfl rfl) h_rising_mask (hr.mono (by decide)) (by rfl) (pa_cons (pe_slice (sl_listK K) (pv 2) (po_some pe_int) po_none) (pa_cons (pv 1) pa_nil))) (pa_cons (pe_ix (ix_listK K) (pv 2) pe_int (fun _ _ => rfl)) pa_nil))))))), ?_⟩
  walk_at "sts"
  rw [tL_lit]
  refine ⟨row, tL "hill", at_, rfl, hsz, fun ns hns _ hnl p1 H1 s1 n1 l1 => ?_, fun hns d H' s1 nd => qe (by unfold hillM; rw [hns]) d H' s1 nd⟩
  have l1s := SqL.of (K := K) l1
  have hl := iv_len ns
  walk_at "sts"
  refine ifd (fun h1 => ?_) (fun h1 => ?_)
  · walk_at "sts"
    refine w_raiseK T.ox_BadText T.na_BadText fun d nd => qe ?_ d H1 s1 nd
    unfold hillM
    rw [hns]
    cases ns with
    | nil => rfl
    | cons a r =>
      cases r with
      | nil => rfl
      | cons b r => rw [hl, List.length_cons, List.length_cons] at h1; omega
  obtain ⟨t, n, r, rfl⟩ : ∃ t n r, ns = t :: n :: r := by
    cases ns with
    | nil => rw [hl] at h1; simp at h1
    | cons a r =>
      cases r with
      | nil => rw [hl] at h1; simp at h1
      | cons b r => exact ⟨a, b, r, rfl⟩
  have a0 : atI (iv (t :: n :: r)) 0 = some (.int (t : Nat)) := atI_nat (j := 0) rfl
  walk_at "sts"
  refine ifd (fun h2 => ?_) (fun h2 => ?_)
  · walk_at "sts"
    refine w_raiseK T.ox_BadText T.na_BadText fun d nd => qe ?_ d H1 s1 nd
    unfold hillM
    rw [hns]
    show (if t < 1 then none else _) = none
    rw [if_pos (by omega)]
  have hm : hillM row = match setM (n :: r) with
      | some m => some (m, t)
      | none => none := by
    unfold hillM
    rw [hns]
    show (if t < 1 then none else _) = _
    rw [if_neg (by omega)]
    try rfl
  walk_at "sts"
  refine w_new fun p2 n2 => ?_
  have e2 : cutV (iv (t :: n :: r)) (some 1) none = iv (n :: r) := cutV_from _ 1
  rw [e2]
  have s2 := same_upd (o := .lst (iv (n :: r))) n2
  have l2 : upd H1 p2 (.lst (iv (n :: r))) p2 = some (.lst (iv (n :: r))) := upd_same
  generalize upd H1 p2 (.lst (iv (n :: r))) = H2 at s2 l2 ⊢
  have l12 := SqL.of (K := K) (s2 _ _ l1)
  walk_at "sts"
  refine ⟨p2, n :: r, at_, rfl, SqL.of l2, fun m hms => ?_, fun hms d H' s3 nd => qe (by rw [hm, hms]) d H' (s1.trans (s2.trans s3)) nd⟩
  walk_at "sts"
  refine w_new fun p3 n3 => ?_
  exact q (m, t) (by rw [hm, hms]) p3 _ (s1.trans (s2.trans (same_upd n3))) ((n3.of s2).of s1) upd_same
def spEndX (K : PySem.W.Frag) : Sp := fun vs H Q _ => ∃ (text ini la : List Nat) (is : List (List Nat)), vs = [.str (tS text)] ∧ text.length ≤ 100000 ∧ spl [10] 0 [] text = is ++ [la] ∧
  ∀ p pr H', Same H H' → New H p → New H pr → H' p = some (.tup [.ref pr, .bl (decide (la = []))]) → H' pr = some (.lst (sv (if la = [] then is else is ++ [la]))) → Q (.ref p) H'
theorem ok_ended_rows {f : Addr} {fd : FuncData} (F : Fun K "ended_rows" "ended_rows" s_ended_rows f fd) (gf : mg "ended_rows" = some (.ref f)) (B : Bl mg) {C_BadText C_FloorError : Addr} (T : Txt K mg C_BadText C_FloorError) : Has P w K mg base CX0 1 "ended_rows" ["text"] (spEndX K) := by
  refine Has.mk' F gf (F.binds (ps := ["text"]) fun _ _ _ _ _ _ us hl => match us, hl with | [_], _ => rfl) sc_ended_rows (by walk_at "len") (fun cdv A outer s H vs Q E hr h => ?_)
  obtain ⟨text, _, la, is, rfl, hsz, hsp, q⟩ := h
  refine ⟨_, (pss_cons (ps_set (i := 1) sc_ended_rows.nd rfl (.inl rfl) (pe_split (pv 0) pe_str))
 (pss_cons (ps_if (pt_cmpR op_eq (pe_ix (ix_listK K) (pv 1) (pe_un un_neg pe_int) (fun _ _ => rfl)) pe_str (nomark _)) (pss_one (ps_ret (pe_tup (pa_cons (pe_slice (sl_listK K) (pv 1) po_none (po_some (pe_un un_neg pe_int))) (pa_cons pe_bl pa_nil))))) pss_nil)
 (pss_one (ps_ret (pe_tup (pa_cons (pv 1) (pa_cons pe_bl pa_nil))))))), ?_⟩
  walk_at "sts"
  rw [tL_lit]
  refine w_m1 ?_
  walk_at "sts"
  refine w_isS ?_
  walk_at "sts"
  rw [tL_lit]
  refine w_split (by decide) (by decide) (by rw [sizeLine_eq]; omega) fun p1 n1 => ?_
  rw [show tL "\n" = [10] from rfl, hsp, sv_app]
  have s1 := same_upd (o := .lst (sv is ++ sv [la])) n1
  have l1 : upd H p1 (.lst (sv is ++ sv [la])) p1 = some (.lst (sv is ++ sv [la])) := upd_same
  generalize upd H p1 (.lst (sv is ++ sv [la])) = H1 at s1 l1 ⊢
  have l1s := SqL.of (K := K) l1
  have a1 : atI (sv is ++ sv [la]) (-1) = some (.str (tS la)) := atI_last _ _
  walk_at "sts"
  rw [dec_lit]
  refine ifd (fun hc => ?_) (fun hc => ?_)
  · have hc : la = [] := hc
    rw [decide_eq_true hc, if_pos hc] at q
    walk_at "sts"
    refine w_new fun p2 n2 => ?_
    rw [show cutV (sv is ++ sv [la]) none (some (-1)) = sv is from cutV_init _ _]
    walk_at "sts"
    refine w_new fun p3 n3 => ?_
    exact q p3 p2 _ (s1.trans ((same_upd n2).trans (same_upd n3))) ((n3.of (same_upd n2)).of s1) (n2.of s1) upd_same (by rw [upd_ne (ne_new upd_same n3)]; exact upd_same)
  · have hc : la ≠ [] := hc
    rw [decide_eq_false hc, if_neg hc] at q
    walk_at "sts"
    refine w_new fun p3 n3 => ?_
    exact q p3 p1 _ (s1.trans (same_upd n3)) (n3.of s1) n1 upd_same (by rw [upd_ne (ne_new l1 n3), l1, sv_app])
theorem ok_BadText___init__ {f : Addr} {fd : FuncData} (F : Fun K "__init__" "BadText.__init__" s_BadText___init__ f fd) (B : Bl mg) {C_BadText C_FloorError : Addr} (T : Txt K mg C_BadText C_FloorError) : HasFn P w K mg base CX0 1 f ["self", "at"] (spKeep K C_BadText) := by
  refine HasFn.mk' F (F.binds (ps := ["self", "at"]) fun _ _ _ _ _ _ us hl => match us, hl with | [_, _], _ => rfl) sc_BadText___init__ (by walk_at "len") (fun cdv A outer s H vs Q E hr h => ?_)
  obtain ⟨a, v, rfl, O, n, e, q⟩ := h
  refine ⟨_, (pss_one (ps_ost (pv 0) (pv 1))), ?_⟩
  walk_at "sts"
  refine ⟨a, C_BadText, rfl, O, n, .inl ⟨e, fun d nd hda => ?_⟩⟩
  exact q d nd hda
def spTakenX (K : PySem.W.Frag) (CB : Addr) : Sp := fun vs H Q E => ∃ (text : List Nat), vs = [.str (tS text)] ∧ text.length ≤ 100000 ∧
  (∀ c l ps, readM text = .inr (c, l, ps) → ∀ p pa H', Same H H' → New H p → H' p = some (.tup [.int (c : Nat), .int (l : Nat), .ref pa]) → PapX H' pa ps → Q (.ref p) H') ∧ (∀ a, readM text = .inl a → XB K CB E H (a : Nat))
theorem stepM_len {ws : List (List Nat)} {k : Nat} {t u : AnS} (h : stepM ws k t = some u) : u.2.2.length ≤ t.2.2.length + 1 := by
  unfold stepM at h
  split at h
  · cases h
  split at h
  · split at h
    · injection h with h; subst h; exact Nat.le_succ _
    · cases h
  split at h
  · split at h
    · split at h
      · injection h with h; subst h; exact Nat.le_succ _
      · cases h
    · cases h
  split at h
  · injection h with h; subst h; simp
  · cases h
theorem runM_len : ∀ {ws : List (List Nat)} {k : Nat} {s : AnS}, runM ws k = .inr s → s.2.2.length ≤ k
  | ws, 0, s, h => by injection h with h; subst h; exact Nat.le_refl _
  | ws, k + 1, s, h => by
    cases e : runM ws k with
    | inl a => rw [runM_stop e (k + 1) (by omega)] at h; cases h
    | inr t =>
      have ih := runM_len e
      rw [runM_step e] at h
      cases e2 : stepM ws k t with
      | none => rw [e2] at h; cases h
      | some u =>
        rw [e2] at h
        injection h with h
        subst h
        have := stepM_len e2
        omega
theorem ok_taken {f : Addr} {fd : FuncData} (F : Fun K "taken" "taken" s_taken f fd) (gf : mg "taken" = some (.ref f)) (B : Bl mg) {C_BadText C_FloorError : Addr} (T : Txt K mg C_BadText C_FloorError) (h_ended_rows : Has P w K mg base CX0 1 "ended_rows" ["text"] (spEndX K)) (h_row_numbers : Has P w K mg base (L2.CX P w) 4 "row_numbers" ["row", "head", "at"] (spRowX K C_BadText)) (h_rising_mask : Has P w K mg base (L2.CX P w) 3 "rising_mask" ["numbers", "at"] (spRisX K C_BadText)) (h_hill_of : Has P w K mg base (L2.CX P w) 5 "hill_of" ["row", "at"] (spHillX K C_BadText)) (h_xm_BadText : HasXM P w K mg base 1 "BadText" C_BadText ["self", "at"] (spKeep K C_BadText)) : Has P w K mg base (L2.CX P w) 6 "taken" ["text"] (spTakenX K C_BadText) := by
  refine Has.mkX F gf (F.binds (ps := ["text"]) fun _ _ _ _ _ _ us hl => match us, hl with | [_], _ => rfl) sc_taken (by walk_at "len") (fun cdv A outer s H vs Q E hr h => ?_)
  obtain ⟨text, rfl, hsz, q, qe⟩ := h
  obtain ⟨hl1, hl2⟩ := spl_len [10] (by decide) text [] 0
  obtain ⟨is, la, hsp⟩ : ∃ is la, spl [10] 0 [] text = is ++ [la] := by
    have h := spl_ne [10] text [] 0
    exact ⟨_, _, (List.dropLast_concat_getLast h).symm⟩
  have hrd : readM text = runM (is ++ [la]) (cntM (is ++ [la])) := by unfold readM; rw [hsp]
  have hwl : ∀ i, ((is ++ [la]).getD i []).length ≤ 100000 := fun i => by
    rw [List.getD_eq_getElem?_getD]
    cases e : (is ++ [la])[i]? with
    | none => simp
    | some w =>
      have := hl2 w (by rw [hsp]; exact List.mem_of_getElem? e)
      simp at this ⊢
      omega
  have hil : is.length ≤ 100000 := by rw [hsp, List.length_append, List.length_singleton] at hl1; omega
  have hL : (is ++ [la]).length = is.length + 1 := by rw [List.length_append]; rfl
  have hcn : cntM (is ++ [la]) = max 2 (if la = [] then is.length else is.length + 1) := by
    unfold cntM
    rw [hL, Nat.add_sub_cancel]
    have : (is ++ [la]).getD is.length [] = la := by rw [List.getD_eq_getElem?_getD]; simp
    rw [this]
    split <;> simp
  rw [hcn] at hrd
  refine ⟨_, (pss_cons (ps_asg (pe_fn h_ended_rows (hr.mono (by decide)) (by rfl) (pa_cons (pv 0) pa_nil)) (pg_tupK K rfl (pgs_cons (pg_name (i := 1) sc_taken.nd rfl (.inl rfl)) (pgs_cons (pg_name (i := 2) sc_taken.nd rfl (.inl rfl)) pgs_nil))))
 (pss_cons (ps_set (i := 3) sc_taken.nd rfl (.inl rfl) (pe_callB (call_lenK K) (by rfl) B.len (by decide +kernel) (pa_cons (pv 1) pa_nil)))
 (pss_cutX (ps_if (pt_not (pt_val (pv 2))) (pss_one (ps_set (i := 3) sc_taken.nd rfl (.inl rfl) (pe_op op_sub (pv 3) pe_int))) pss_nil)
 (pss_cons (ps_set (i := 4) sc_taken.nd rfl (.inl rfl) pe_int)
 (pss_cons (ps_set (i := 5) sc_taken.nd rfl (.inl rfl) pe_int)
 (pss_cons (ps_set (i := 6) sc_taken.nd rfl (.inl rfl) (pe_lst pa_nil))
 (pss_cons (ps_for (passes_of rfl) rfl (pi_range1 (by rfl) B.range (pa_cons (pe_callB (call_max2 rfl) (by rfl) B.max (by decide +kernel) (pa_cons pe_int (pa_cons (pe_callB (call_lenK K) (by rfl) B.len (by decide +kernel) (pa_cons (pv 1) pa_nil)) pa_nil))) pa_nil)) (pg_name (i := 7) sc_taken.nd rfl (.inl rfl)) (pss_cons (ps_if (pt_cmpR op_ge (pv 7) (pv 3) (nomark _)) (pss_one (ps_raise rfl (takes_of rfl rfl rfl rfl) (pmk_xm h_xm_BadText (hr.mono (by decide)) (by rfl) (pa_cons (pe_op op_add (pv 7) pe_int) pa_nil)))) pss_nil)
 (pss_one (ps_if (pt_cmpR op_eq (pv 7) pe_int (nomark _)) (pss_cons (ps_set (i := 8) sc_taken.nd rfl (.inl rfl) (pe_fnS (takes_of rfl rfl rfl rfl) h_row_numbers (hr.mono (by decide)) (by rfl) (pa_cons (pe_ix (ix_listK K) (pv 1) (pv 7) (fun _ _ => rfl)) (pa_cons pe_str (pa_cons pe_int pa_nil)))))
 (pss_cons (ps_if (pt_cmpR op_ne (pe_callB (call_lenK K) (by rfl) B.len (by decide +kernel) (pa_cons (pv 8) pa_nil)) pe_int (nomark _)) (pss_one (ps_raise rfl (takes_of rfl rfl rfl rfl) (pmk_xm h_xm_BadText (hr.mono (by decide)) (by rfl) (pa_cons pe_int pa_nil)))) pss_nil)
 (pss_one (ps_set (i := 4) sc_taken.nd rfl (.inl rfl) (pe_ix (ix_listK K) (pv 8) pe_int (fun _ _ => rfl)))))) (pss_one (ps_if (pt_cmpR op_eq (pv 7) pe_int (nomark _)) (pss_one (ps_set (i := 5) sc_taken.nd rfl (.inl rfl) (pe_fnS (takes_of rfl rfl rfl rfl) h_rising_mask (hr.mono (by decide)) (by rfl) (pa_cons (pe_fnS (takes_of rfl rfl rfl rfl) h_row_numbers (hr.mono (by decide)) (by rfl) (pa_cons (pe_ix (ix_listK K) (pv 1) (pv 7) (fun _ _ => rfl)) (pa_cons pe_str (pa_cons pe_int pa_nil)))) (pa_cons pe_int pa_nil))))) (pss_one (ps_expr (pe_bmK K (pe_bm PySem.F.plainAttrs_list PySem.F.slot_list_append PySem.F.type_list_append mt_append (pv 6) (pa_cons (pe_fnS (takes_of rfl rfl rfl rfl) h_hill_of (hr.mono (by decide)) (by rfl) (pa_cons (pe_ix (ix_listK K) (pv 1) (pv 7) (fun _ _ => rfl)) (pa_cons (pe_op op_add (pv 7) pe_int) pa_nil))) pa_nil)))))))))))
 (pss_one (ps_ret (pe_tup (pa_cons (pv 4) (pa_cons (pv 5) (pa_cons (pv 6) pa_nil))))))))))))), ?_⟩
  walk_at "sts"
  refine ⟨text, [], la, is, rfl, hsz, hsp, fun p pr H1 s1 np npr lp lr => ?_⟩
  have lps := SqT.of (K := K) lp
  generalize hrs : (if la = [] then is else is ++ [la]) = rs at lr
  have lrs := SqL.of (K := K) lr
  have hrl : rs.length = if la = [] then is.length else is.length + 1 := by
    rw [← hrs]; split
    · rfl
    · exact hL
  have hrat : ∀ i, i < is.length → rs.getD i [] = (is ++ [la]).getD i [] := fun i hi => by
    rw [← hrs, List.getD_eq_getElem?_getD, List.getD_eq_getElem?_getD, List.getElem?_append_left hi]
    split
    · rfl
    · rw [List.getElem?_append_left hi]
  have hrl2 : is.length ≤ rs.length ∧ rs.length ≤ is.length + 1 := by rw [hrl]; split <;> omega
  have hsl := sv_len rs
  walk_at "sts"
  rw [hsl]
  refine w_cut (fun σ' H2 => σ' = [some (.str (tS text)), some (.ref pr), some (.bl (decide (la = []))), some (.int (is.length : Nat)), none, none, none, none, none] ∧ H2 = H1) ?_ ?_
  · walk_at "sts"
    refine ifnd (fun h1 => ?_) (fun h1 => ?_)
    · walk_at "sts"
      rw [hrl, if_neg h1, show (((is.length + 1 : Nat) : Int) - 1) = ((is.length : Nat) : Int) by omega]
      exact ⟨rfl, rfl⟩
    · walk_at "sts"
      rw [hrl, if_pos h1]
      exact ⟨rfl, rfl⟩
  rintro σ' H1 ⟨rfl, rfl⟩
  walk_at "sts"
  refine w_new fun pa na => ?_
  walk_at "sts"
  rw [hsl]
  rw [← hrl] at hrd
  obtain ⟨N, hN, hN2⟩ : ∃ N : Nat, (if ((rs.length : Nat) : Int) > 2 then ((rs.length : Nat) : Int) else 2) = (N : Nat) ∧ max 2 rs.length = N := ⟨max 2 rs.length, by split <;> omega, rfl⟩
  rw [hN]
  rw [hN2] at hrd
  have hNb : N ≤ 100001 := by omega
  walk_at "sts"
  refine for_r0 (n := N) rfl (fun i σ H' => ∃ (c l : Nat) (ps : List (Nat × Nat)) (y7 y8 : Option V), σ = [some (.str (tS text)), some (.ref pr), some (.bl (decide (la = []))), some (.int (is.length : Nat)), some (.int (c : Nat)), some (.int (l : Nat)), some (.ref pa), y7, y8] ∧ Same H1 H' ∧ PapX H' pa ps ∧ runM (is ++ [la]) i = .inr (c, l, ps)) ?_ ?_ ?_
  · exact ⟨0, 0, [], _, _, rfl, same_upd na, PapX.nil upd_same, rfl⟩
  · rintro i σ H' hi ⟨c, l, ps, y7, y8, rfl, s2, hP, hrun⟩
    have lrs2 := s2.seq lrs
    have hstep := runM_step hrun
    have hbad : stepM (is ++ [la]) i (c, l, ps) = none → XB K C_BadText E H1 ((i + 1 : Nat) : Int) := fun hb => by
      rw [hb] at hstep
      exact (qe (i + 1) (by rw [hrd]; exact runM_stop hstep N (by omega))).same s1
    have hpl := runM_len hrun
    walk_at "sts"
    refine ifd (fun h1 => ?_) (fun h1 => ?_)
    · walk_at "sts"
      rw [show ((i : Int) + 1) = ((i + 1 : Nat) : Int) by omega]
      refine w_raiseK T.ox_BadText T.na_BadText fun d nd => hbad ?_ d H' s2 nd
      unfold stepM
      rw [if_pos (by rw [hL]; omega)]
    have hil2 : i < is.length := by omega
    have hge : ¬ ((is ++ [la]).length - 1 ≤ i) := by rw [hL]; omega
    have ai := sv_at (ws := rs) (i := i) (by omega)
    rw [hrat i hil2] at ai
    have hwi := hwl i
    walk_at "sts"
    refine ifd (fun h2 => ?_) (fun h2 => ?_)
    · have h2 : i = 0 := by omega
      subst h2
      have hst : stepM (is ++ [la]) 0 (c, l, ps) = (match rowM (tL "worth") ((is ++ [la]).getD 0 []) with
          | some [c] => some (c, l, ps)
          | _ => none) := by
        unfold stepM
        rw [if_neg hge, if_pos rfl]
        try rfl
      generalize (is ++ [la]).getD 0 [] = row at *
      walk_at "sts"
      rw [tL_lit]
      refine ⟨row, tL "worth", 1, rfl, hwi, fun ns hns hnb hnl pn H3 s3 nn ln => ?_, fun hns d H'' s3 nd => hbad (by rw [hst, hns]) d H'' (s2.trans s3) nd⟩
      have lns := SqL.of (K := K) ln
      have hnl2 := iv_len ns
      walk_at "sts"
      refine ifnd (fun h3 => ?_) (fun h3 => ?_)
      · walk_at "sts"
        refine w_raiseK T.ox_BadText T.na_BadText fun d nd => hbad ?_ d H3 (s2.trans s3) nd
        rw [hst, hns]
        cases ns with
        | nil => rfl
        | cons a r =>
          cases r with
          | nil => exact absurd rfl h3
          | cons b r => rfl
      · obtain ⟨a, rfl⟩ : ∃ a, ns = [a] := by
          cases ns with
          | nil => rw [hnl2] at h3; simp at h3
          | cons a r =>
            cases r with
            | nil => exact ⟨a, rfl⟩
            | cons b r => rw [hnl2] at h3; simp at h3; omega
        rw [hns] at hst
        rw [hst] at hstep
        have a0 : atI (iv [a]) 0 = some (.int (a : Nat)) := atI_nat (j := 0) rfl
        walk_at "sts"
        exact ⟨_, _, _, _, _, rfl, s2.trans s3, hP.same s3, hstep⟩
    · walk_at "sts"
      refine ifd (fun h3 => ?_) (fun h3 => ?_)
      · have h3 : i = 1 := by omega
        subst h3
        have hst : stepM (is ++ [la]) 1 (c, l, ps) = (match rowM (tL "down") ((is ++ [la]).getD 1 []) with
            | some ns => (match setM ns with
              | some m => some (c, m, ps)
              | none => none)
            | none => none) := by
          unfold stepM
          rw [if_neg hge, if_neg (by decide), if_pos rfl]
          try rfl
        generalize (is ++ [la]).getD 1 [] = row at *
        walk_at "sts"
        rw [tL_lit]
        refine ⟨row, tL "down", 2, rfl, hwi, fun ns hns hnb hnl pn H3 s3 nn ln => ?_, fun hns d H'' s3 nd => hbad (by rw [hst, hns]) d H'' (s2.trans s3) nd⟩
        rw [hns] at hst
        walk_at "sts"
        refine ⟨pn, ns, 2, rfl, SqL.of ln, fun m hm => ?_, fun hm d H'' s4 nd => hbad (by rw [hst]; show (match setM ns with | some m => some (c, m, ps) | none => none) = none; rw [hm]) d H'' (s2.trans (s3.trans s4)) nd⟩
        have hst2 : stepM (is ++ [la]) 1 (c, l, ps) = some (c, m, ps) := by
          rw [hst]
          show (match setM ns with | some m => some (c, m, ps) | none => none) = _
          rw [hm]
        rw [hst2] at hstep
        walk_at "sts"
        exact ⟨_, _, _, _, _, rfl, s2.trans s3, hP.same s3, hstep⟩
      · have hst : stepM (is ++ [la]) i (c, l, ps) = (match hillM ((is ++ [la]).getD i []) with
            | some t => some (c, l, ps ++ [t])
            | none => none) := by
          unfold stepM
          rw [if_neg hge, if_neg (by omega), if_neg (by omega)]
          try rfl
        generalize (is ++ [la]).getD i [] = row at *
        obtain ⟨xs, hxs, hxl⟩ := hP.len
        have hxsl := SqL.of (K := K) hxs
        walk_at "sts"
        rw [show ((i : Int) + 1) = ((i + 1 : Nat) : Int) by omega]
        refine ⟨row, _, rfl, hwi, fun t ht pt H3 s3 nt lt => ?_, fun ht d H'' s3 nd => hbad (by rw [hst, ht]) d H'' (s2.trans s3) nd⟩
        rw [ht] at hst
        rw [hst] at hstep
        have hxs3 := s3 _ _ hxs
        have hpl2 : ps.length ≤ i := hpl
        have hsz2 : xs.length < sizeLine := szlt (by omega)
        walk_at "sts"
        exact ⟨_, _, _, _, _, rfl, (s2.trans s3).mut na, hP.put hxs s3 lt, hstep⟩
  · rintro σ H' ⟨c, l, ps, y7, y8, rfl, s2, hP, hrun⟩
    walk_at "sts"
    refine w_new fun pt nt => ?_
    exact q c l ps (by rw [hrd, hrun]) pt pa _ (s1.trans (s2.trans (same_upd nt))) ((nt.of s2).of s1) upd_same (hP.same (same_upd nt))
end

open TL
section
variable {P : Program} {w : World} {K : PySem.W.Frag} {mg : Str → Option Value} {base : Heap} {C_BadText C_FloorError : Addr}
def lnum (w : List Nat) : Int := match figM w with
  | some n => (n : Int)
  | none => -1
def spLNum (K : PySem.W.Frag) : Sp := fun vs H Q _ => ∃ (w : List Nat), vs = [.str (tS w)] ∧ w.length ≤ 100000 ∧ Q (.int (lnum w)) H
theorem ok_law_number {f : Addr} {fd : FuncData} (F : Fun K "_law_number" "_law_number" s_law_number f fd) (gf : mg "_law_number" = some (.ref f)) (B : Bl mg) {C_BadText C_FloorError : Addr} (T : Txt K mg C_BadText C_FloorError) : Has P w K mg base CX0 1 "_law_number" ["word"] (spLNum K) := by
  refine Has.mk' F gf (F.binds (ps := ["word"]) fun _ _ _ _ _ _ us hl => match us, hl with | [_], _ => rfl) sc_law_number (by walk_at "len") (fun cdv A outer s H vs Q E hr h => ?_)
  obtain ⟨w, rfl, hw, q⟩ := h
  have hz : w.length ≤ sizeLine := by rw [sizeLine_eq]; omega
  have hz0 : tL "0" = [48] := by decide
  have hbad : (w = [] ∨ 40 < w.length ∨ (w.head? = some 48 ∧ 1 < w.length)) → lnum w = -1 := fun h => by
    unfold lnum
    rw [show figM w = none from if_pos h]
  refine ⟨_, (pss_cutX (ps_if (PW.pt (pw_or (pt_cmpR op_eq (pv 0) pe_str (nomark _)) (pw_or (pt_cmpR op_gt (pe_callB call_len_str (by rfl) B.len (by decide +kernel) (pa_cons (pv 0) pa_nil)) pe_int (nomark _)) (pw_or1 (PW.pt (pw_and (pt_cmpR op_eq (pe_ix ix_str (pv 0) pe_int (fun _ _ => rfl)) pe_str (nomark _)) (pw_and1 (pt_cmpR op_gt (pe_callB call_len_str (by rfl) B.len (by decide +kernel) (pa_cons (pv 0) pa_nil)) pe_int (nomark _))))))))) (pss_one (ps_ret (pe_un un_neg pe_int))) pss_nil)
 (pss_cons (ps_for PassesOwn.never rfl (pi_str (pv 0)) (pg_name (i := 1) sc_law_number.nd rfl (.inl rfl)) (pss_one (ps_if (pt_cmpR op_notIn_sign (pv 1) pe_str (by rfl)) (pss_one (ps_ret (pe_un un_neg pe_int))) pss_nil)))
 (pss_one (ps_ret (pe_callTy call_int_str (by rfl) B.int (by decide +kernel) (pa_cons (pv 0) pa_nil)))))), ?_⟩
  refine w_cut (fun σ' H' => σ' = [some (.str (tS w)), none] ∧ H' = H ∧ ¬ (w = [] ∨ 40 < w.length ∨ (w.head? = some 48 ∧ 1 < w.length))) ?_ ?_
  · walk_at "sts"
    rw [dec_lit]
    refine ifd (fun h1 => ?_) (fun h1 => ?_)
    · walk_at "sts"
      rw [hbad (.inl h1)] at q
      exact q
    walk_at "sts"
    refine w_1s ⟨by rw [tS_len]; exact hz, ?_⟩
    rw [tS_len]
    walk_at "sts"
    refine ifd (fun h2 => ?_) (fun h2 => ?_)
    · walk_at "sts"
      rw [hbad (.inr (.inl (by omega)))] at q
      exact q
    obtain ⟨c0, r0, e0⟩ : ∃ c r, w = c :: r := by
      cases w with
      | nil => exact absurd rfl h1
      | cons c r => exact ⟨c, r, rfl⟩
    walk_at "sts"
    refine w_ixS (c := c0) hz (by rw [e0]; exact atI_nat (j := 0) rfl) ?_
    walk_at "sts"
    rw [dec_lit]
    have hh : w.head? = some c0 := by rw [e0]; rfl
    refine ifd (fun h3 => ?_) (fun h3 => ?_)
    · have h48 : c0 = 48 := by rw [hz0] at h3; injection h3
      walk_at "sts"
      refine w_1s ⟨by rw [tS_len]; exact hz, ?_⟩
      rw [tS_len]
      walk_at "sts"
      refine ifd (fun h4 => ?_) (fun h4 => ?_)
      · walk_at "sts"
        rw [hbad (.inr (.inr ⟨by rw [hh, h48], by omega⟩))] at q
        exact q
      · walk_at "sts"
        refine ⟨rfl, rfl, fun z => ?_⟩
        rcases z with z | z | z
        · exact h1 z
        · omega
        · omega
    · walk_at "sts"
      refine ⟨rfl, rfl, fun z => ?_⟩
      rcases z with z | z | z
      · exact h1 z
      · omega
      · refine h3 ?_
        rw [hh] at z
        have := Option.some.inj z.1
        rw [this, hz0]
  rintro σ' H ⟨rfl, rfl, hok⟩
  have hfig := fig_cut hok
  walk_at "sts"
  refine w_iStr ?_
  walk_at "sts"
  refine w_itS ?_
  refine for_str (fun i σ H' => ∃ y : Option V, σ = [some (.str (tS w)), y] ∧ H' = H ∧ digs (w.take i) = true) ?_ ?_ ?_
  · exact ⟨_, rfl, rfl, rfl⟩
  · rintro i c σ H' hc ⟨y, rfl, rfl, hd⟩
    have hi := (List.getElem?_eq_some_iff.mp hc).1
    have et : w.take (i + 1) = w.take i ++ [c] := by rw [List.take_add_one, hc]; rfl
    have ed : digs (w.take (i + 1)) = decide (c ∈ tL "0123456789") := by
      rw [et]
      unfold digs at hd ⊢
      rw [List.all_append, hd]
      simp
    walk_at "sts"
    rw [tL_lit]
    refine w_inR ?_
    rw [tl_cps]
    walk_at "sts"
    refine ifnd (fun hm => ?_) (fun hm => ?_)
    · walk_at "sts"
      have : lnum w = -1 := by
        unfold lnum
        rw [hfig, if_neg]
        intro z
        unfold digs at z
        exact hm (of_decide_eq_true (List.all_eq_true.mp z c (List.mem_of_getElem? hc)))
      rw [this] at q
      exact q
    · walk_at "sts"
      exact ⟨_, rfl, rfl, by rw [ed, decide_eq_true hm]⟩
  · rintro σ H' ⟨y, rfl, rfl, hd⟩
    rw [List.take_length] at hd
    rw [if_pos hd] at hfig
    have hl : w.length ≤ 40 := Nat.le_of_not_lt fun z => hok (.inr (.inl z))
    have hq : lnum w = ((NumText.digitsVal w : Nat) : Int) := by unfold lnum; rw [hfig]
    rw [hq] at q
    walk_at "sts"
    exact ⟨_, _, rfl, fig_int hfig, by rw [tS_len]; omega, q⟩
theorem lnum_none {w : List Nat} : lnum w = -1 ↔ figM w = none := by
  unfold lnum
  cases figM w with
  | none => simp
  | some n => simp
theorem figs_map : ∀ {ws : List (List Nat)} {ns : List Nat}, figsM ws = some ns → ws.map lnum = ns.map fun n : Nat => (n : Int)
  | [], ns, h => by injection h with h; subst h; rfl
  | w :: r, ns, h => by
    rw [figsM_cons] at h
    cases e : figM w with
    | none => rw [e] at h; cases h
    | some n =>
      rw [e] at h
      cases e2 : figsM r with
      | none => rw [e2] at h; cases h
      | some x =>
        rw [e2] at h
        injection h with h
        subst h
        rw [List.map_cons, List.map_cons, figs_map e2]
        unfold lnum
        rw [e]
theorem figs_none : ∀ {ws : List (List Nat)}, figsM ws = none ↔ (-1 : Int) ∈ ws.map lnum
  | [] => by simp [figsM]
  | w :: r => by
    rw [figsM_cons, List.map_cons, List.mem_cons]
    have ih := figs_none (ws := r)
    cases e : figM w with
    | none => simp [lnum_none.mpr e]
    | some n =>
      have : lnum w ≠ -1 := fun z => by rw [lnum_none.mp z] at e; cases e
      cases e2 : figsM r with
      | none => simp [ih.mp e2]
      | some x =>
        have h2 : ¬ (-1 : Int) ∈ r.map lnum := fun z => by rw [ih.mpr z] at e2; cases e2
        simp only [reduceCtorEq, false_iff, not_or]
        exact ⟨fun z => this z.symm, h2⟩
theorem inV_ints (x : Int) (r : List Int) : inV (.int x) (r.map V.int) = decide (x ∈ r) := by
  unfold inV
  induction r with
  | nil => rfl
  | cons a r ih =>
    rw [List.map_cons, List.any_cons, ih]
    have : eqV (.int a) (.int x) = decide (a = x) := by
      show decide _ = _
      by_cases h : a = x
      · simp [h]
      · simp [h]
    rw [this]
    by_cases h : x = a
    · subst h; simp
    · simp [h, Ne.symm h]
theorem ints_flat (r : List Int) : (r.map V.int).all flatV = true := by
  rw [List.all_map]
  exact List.all_eq_true.mpr fun x _ => rfl
theorem w_inZ {K : PySem.W.Frag} {H : Hp} {Q : VK} {p : Addr} {r : List Int} {x : Int} (hs : SqL K H p (r.map V.int)) (h : Q (.bl (decide (x ∈ r))) H) : rIn K false (.int x) (.ref p) H Q :=
  ⟨p, _, rfl, .inl hs, rfl, ints_flat r, by rw [inV_ints]; exact h⟩
def spLRow (K : PySem.W.Frag) : Sp := fun vs H Q _ => ∃ (row h : List Nat), vs = [.str (tS row), .str (tS h)] ∧ row.length ≤ 100000 ∧ (∀ ns, rowM h row = some ns → (∀ n ∈ ns, n < 10 ^ 40) → ns.length ≤ 100001 → ∀ p H', Same H H' → New H p → H' p = some (.lst (iv ns)) → Q (.ref p) H') ∧ (rowM h row = none → ∀ H', Same H H' → Q .non H')
theorem ok_law_row {f : Addr} {fd : FuncData} (F : Fun K "_law_row" "_law_row" s_law_row f fd) (gf : mg "_law_row" = some (.ref f)) (B : Bl mg) {C_BadText C_FloorError : Addr} (T : Txt K mg C_BadText C_FloorError) (h_law_number : Has P w K mg base CX0 1 "_law_number" ["word"] (spLNum K)) : Has P w K mg base CX0 2 "_law_row" ["row", "first"] (spLRow K) := by
  refine Has.mk' F gf (F.binds (ps := ["row", "first"]) fun _ _ _ _ _ _ us hl => match us, hl with | [_, _], _ => rfl) sc_law_row (by walk_at "len") (fun cdv A outer s H vs Q E hr h => ?_)
  obtain ⟨row, w, rfl, hsz, q, qe⟩ := h
  obtain ⟨w0, ws, hsp⟩ : ∃ w0 ws, spl [32] 0 [] row = w0 :: ws := by
    cases e : spl [32] 0 [] row with
    | nil => exact absurd e (spl_ne _ _ _ _)
    | cons a b => exact ⟨a, b, rfl⟩
  obtain ⟨hl1, hl2⟩ := spl_len [32] (by decide) row [] 0
  rw [hsp, List.length_cons] at hl1
  rw [hsp] at hl2
  have hrow : rowM w row = if w0 = w then figsM ws else none := by unfold rowM; rw [hsp]
  refine ⟨_, (pss_cons (ps_set (i := 2) sc_law_row.nd rfl (.inl rfl) (pe_split (pv 0) pe_str))
 (pss_cons (ps_setLc (i := 3) (own := [("word", 4)]) rfl sc_law_row.nd rfl rfl (sw_true rfl rfl rfl (by decide +kernel)) (pi_listK K (pe_slice (sl_listK K) (pv 2) (po_some pe_int) po_none)) (blkOk_by (own := [("word", 4)]) (N := ["row", "first", "words", "numbers", "word"]) (sc := defScope s_law_row) (by decide +kernel)) (fun _ _ _ _ _ => pg_name (i := 4) sc_law_row.nd rfl (Or.inl rfl)) (fun _ _ _ _ _ => pts_nil) (fun _ _ _ _ _ => (pe_fn h_law_number (hr.mono (by decide)) (by rfl) (pa_cons (pv 4) pa_nil))))
 (pss_cons (ps_if (PW.pt (pw_or (pt_cmpR op_ne (pe_ix (ix_listK K) (pv 2) pe_int (fun _ _ => rfl)) (pv 1) (nomark _)) (pw_or1 (pt_cmpR (op_inK K) (pe_un un_neg pe_int) (pv 3) (by rfl))))) (pss_one (ps_ret pe_non)) pss_nil)
 (pss_one (ps_ret (pv 3)))))), ?_⟩
  walk_at "sts"
  rw [tL_lit]
  refine w_m1 ?_
  walk_at "sts"
  refine w_isS ?_
  walk_at "sts"
  rw [tL_lit]
  refine w_split (by decide) (by decide) (by rw [sizeLine_eq]; omega) fun p1 n1 => ?_
  rw [show tL " " = [32] from rfl, hsp]
  have s1 := same_upd (o := .lst (sv (w0 :: ws))) n1
  have l1 : upd H p1 (.lst (sv (w0 :: ws))) p1 = some (.lst (sv (w0 :: ws))) := upd_same
  generalize upd H p1 (.lst (sv (w0 :: ws))) = H1 at s1 l1 ⊢
  have l1s := SqL.of (K := K) l1
  walk_at "sts"
  refine w_new fun p2 n2 => ?_
  have e2 : cutV (sv (w0 :: ws)) (some 1) none = sv ws := cutV_from _ 1
  rw [e2]
  have s2 := same_upd (o := .lst (sv ws)) n2
  have l2 : upd H1 p2 (.lst (sv ws)) p2 = some (.lst (sv ws)) := upd_same
  have l12 := s2 _ _ l1
  generalize upd H1 p2 (.lst (sv ws)) = H2 at s2 l2 l12 ⊢
  have l2s := SqL.of (K := K) l2
  walk_at "sts"
  intro D nD
  refine lc_list (K := K) (xs := sv ws) (fun i H' => H' D = some (.lst (((ws.take i).map lnum).map V.int)) ∧ Same H2 H') ?_ ?_ ?_ ?_
  · exact ⟨upd_same, same_upd nD⟩
  · rintro i H' _ ⟨_, s3⟩
    exact s3.seq l2s
  · rintro i x H' hx ⟨l3, s3⟩
    have hi : i < ws.length := by
      have := (List.getElem?_eq_some_iff.mp hx).1
      rwa [sv_len] at this
    rw [sv_at hi] at hx
    injection hx with hx
    subst hx
    have eg : ws[i]? = some (ws.getD i []) := by rw [List.getD_eq_getElem?_getD, List.getElem?_eq_getElem hi]; rfl
    have hwl := hl2 (ws.getD i []) (List.mem_cons_of_mem _ (List.mem_of_getElem? eg))
    have et : ws.take (i + 1) = ws.take i ++ [ws.getD i []] := by rw [List.take_add_one, eg]; rfl
    generalize ws.getD i [] = v at *
    rw [List.length_nil] at hwl
    walk_at "sts"
    refine ⟨v, rfl, by omega, ?_⟩
    refine ⟨_, l3, szlt (by rw [List.length_map, List.length_map, List.length_take]; omega), ?_, s3.mut nD⟩
    rw [upd_same, et, List.map_append, List.map_append]
    rfl
  rintro H3 ⟨l3, s3⟩
  rw [sv_len, List.take_length] at l3
  have l13 := SqL.of (K := K) (s3 _ _ l12)
  have l3s := SqL.of (K := K) l3
  have a0 : atI (sv (w0 :: ws)) 0 = some (.str (tS w0)) := atI_nat (j := 0) rfl
  have sA := s1.trans (s2.trans s3)
  walk_at "sts"
  rw [dec_tt]
  refine ifnd (fun hne => ?_) (fun heq => ?_)
  · walk_at "sts"
    exact qe (by rw [hrow, if_neg hne]) H3 sA
  rw [if_pos heq] at hrow
  walk_at "sts"
  refine w_inZ l3s ?_
  walk_at "sts"
  refine ifd (fun hm => ?_) (fun hm => ?_)
  · walk_at "sts"
    exact qe (by rw [hrow]; exact figs_none.mpr hm) H3 sA
  cases hns : figsM ws with
  | none => exact absurd (figs_none.mp hns) hm
  | some ns =>
    obtain ⟨hn1, hn2⟩ := figsM_lt _ _ hns
    rw [figs_map hns] at l3
    walk_at "sts"
    refine q ns (by rw [hrow, hns]) hn2 (by omega) D H3 sA (((show New _ D from nD).of s2).of s1) ?_
    rw [l3, iv_map]
end

open TL
section
variable {P : Program} {w : World} {K : PySem.W.Frag} {mg : Str → Option Value} {base : Heap} {C_BadText C_FloorError : Addr}
/-- the place 0 .. of three words -/
def headM (k : Nat) : List Nat := if k = 0 then tL "worth" else if k = 1 then tL "down" else tL "hill"
theorem w_int_bl {b : Bool} {R : Int → Prop} {H : Hp} (h : R (if b then 1 else 0)) : R (if b then 1 else 0) := h
def spLRead (K : PySem.W.Frag) : Sp := fun vs H Q _ => ∃ (text : List Nat), vs = [.str (tS text)] ∧ text.length ≤ 100000 ∧
  (∀ c l ps, readM text = .inr (c, l, ps) → ∀ p pa H', Same H H' → New H p → H' p = some (.tup [.int (c : Nat), .int (l : Nat), .ref pa]) → PapX H' pa ps → Q (.ref p) H') ∧ (∀ a, readM text = .inl a → ∀ H', Same H H' → Q (.int (a : Nat)) H')
theorem ok_law_read {f : Addr} {fd : FuncData} (F : Fun K "_law_read" "_law_read" s_law_read f fd) (gf : mg "_law_read" = some (.ref f)) (B : Bl mg) {C_BadText C_FloorError : Addr} (T : Txt K mg C_BadText C_FloorError) (h_law_row : Has P w K mg base CX0 2 "_law_row" ["row", "first"] (spLRow K)) (h_law_set : Has P w K mg base CX0 1 "_law_set" ["numbers"] (spLSet K)) : Has P w K mg base CX0 3 "_law_read" ["text"] (spLRead K) := by
  refine Has.mk' F gf (F.binds (ps := ["text"]) fun _ _ _ _ _ _ us hl => match us, hl with | [_], _ => rfl) sc_law_read (by walk_at "len") (fun cdv A outer s H vs Q E hr h => ?_)
  obtain ⟨text, rfl, hsz, q, qe⟩ := h
  obtain ⟨hl1, hl2⟩ := spl_len [10] (by decide) text [] 0
  obtain ⟨is, la, hsp⟩ : ∃ is la, spl [10] 0 [] text = is ++ [la] := by
    have h := spl_ne [10] text [] 0
    exact ⟨_, _, (List.dropLast_concat_getLast h).symm⟩
  have hrd : readM text = runM (is ++ [la]) (cntM (is ++ [la])) := by unfold readM; rw [hsp]
  have hwl : ∀ i, ((is ++ [la]).getD i []).length ≤ 100000 := fun i => by
    rw [List.getD_eq_getElem?_getD]
    cases e : (is ++ [la])[i]? with
    | none => simp
    | some w =>
      have := hl2 w (by rw [hsp]; exact List.mem_of_getElem? e)
      simp at this ⊢
      omega
  have hil : is.length ≤ 100000 := by rw [hsp, List.length_append, List.length_singleton] at hl1; omega
  have hL : (is ++ [la]).length = is.length + 1 := by rw [List.length_append]; rfl
  have hcn : cntM (is ++ [la]) = max 2 (if la = [] then is.length else is.length + 1) := by
    unfold cntM
    rw [hL, Nat.add_sub_cancel]
    have : (is ++ [la]).getD is.length [] = la := by rw [List.getD_eq_getElem?_getD]; simp
    rw [this]
    split <;> simp
  rw [hcn] at hrd
  refine ⟨_, (pss_cons (ps_set (i := 1) sc_law_read.nd rfl (.inl rfl) (pe_split (pv 0) pe_str))
 (pss_cons (ps_set (i := 2) sc_law_read.nd rfl (.inl rfl) pe_int)
 (pss_cons (ps_set (i := 3) sc_law_read.nd rfl (.inl rfl) pe_int)
 (pss_cons (ps_set (i := 4) sc_law_read.nd rfl (.inl rfl) (pe_lst pa_nil))
 (pss_cons (ps_for PassesOwn.never rfl (pi_range1 (by rfl) B.range (pa_cons (pe_callB (call_max2 rfl) (by rfl) B.max (by decide +kernel) (pa_cons pe_int (pa_cons (pe_op op_sub (pe_callB (call_lenK K) (by rfl) B.len (by decide +kernel) (pa_cons (pv 1) pa_nil)) (pe_callTy call_int1 (by rfl) B.int (by decide +kernel) (pa_cons (pe_cmpR op_eq (pe_ix (ix_listK K) (pv 1) (pe_un un_neg pe_int) (fun _ _ => rfl)) pe_str (nomark _)) pa_nil))) pa_nil))) pa_nil)) (pg_name (i := 5) sc_law_read.nd rfl (.inl rfl)) (pss_cons (ps_set (i := 6) sc_law_read.nd rfl (.inl rfl) pe_non)
 (pss_cutX (ps_if (pt_cmpR op_lt (pv 5) (pe_op op_sub (pe_callB (call_lenK K) (by rfl) B.len (by decide +kernel) (pa_cons (pv 1) pa_nil)) pe_int) (nomark _)) (pss_one (ps_set (i := 6) sc_law_read.nd rfl (.inl rfl) (pe_fn h_law_row (hr.mono (by decide)) (by rfl) (pa_cons (pe_ix (ix_listK K) (pv 1) (pv 5) (fun _ _ => rfl)) (pa_cons (pe_ix (ix_listK K) (pe_lst (pa_cons pe_str (pa_cons pe_str (pa_cons pe_str pa_nil)))) (pe_callB (call_min2 rfl) (by rfl) B.min (by decide +kernel) (pa_cons (pv 5) (pa_cons pe_int pa_nil))) (fun _ _ => rfl)) pa_nil))))) pss_nil)
 (pss_cons (ps_if (PW.pt (pw_or (pt_cmpR op_isN (pv 6) pe_non (nomark _)) (pw_or1 (PW.pt (pw_and (pt_cmpR op_eq (pv 5) pe_int (nomark _)) (pw_and1 (pt_cmpR op_ne (pe_callB (call_lenK K) (by rfl) B.len (by decide +kernel) (pa_cons (pv 6) pa_nil)) pe_int (nomark _)))))))) (pss_one (ps_ret (pe_op op_add (pv 5) pe_int))) pss_nil)
 (pss_one (ps_if (pt_cmpR op_eq (pv 5) pe_int (nomark _)) (pss_one (ps_set (i := 2) sc_law_read.nd rfl (.inl rfl) (pe_ix (ix_listK K) (pv 6) pe_int (fun _ _ => rfl)))) (pss_one (ps_if (pt_cmpR op_eq (pv 5) pe_int (nomark _)) (pss_cons (ps_set (i := 3) sc_law_read.nd rfl (.inl rfl) (pe_fn h_law_set (hr.mono (by decide)) (by rfl) (pa_cons (pv 6) pa_nil)))
 (pss_one (ps_if (pt_cmpR op_lt (pv 3) pe_int (nomark _)) (pss_one (ps_ret pe_int)) pss_nil))) (pss_one (ps_if (PW.pt (pw_or (pt_cmpR op_lt (pe_callB (call_lenK K) (by rfl) B.len (by decide +kernel) (pa_cons (pv 6) pa_nil)) pe_int (nomark _)) (pw_or (pt_cmpR op_lt (pe_ix (ix_listK K) (pv 6) pe_int (fun _ _ => rfl)) pe_int (nomark _)) (pw_or1 (pt_cmpR op_lt (pe_fn h_law_set (hr.mono (by decide)) (by rfl) (pa_cons (pe_slice (sl_listK K) (pv 6) (po_some pe_int) po_none) pa_nil)) pe_int (nomark _)))))) (pss_one (ps_ret (pe_op op_add (pv 5) pe_int))) (pss_one (ps_expr (pe_bmK K (pe_bm PySem.F.plainAttrs_list PySem.F.slot_list_append PySem.F.type_list_append mt_append (pv 4) (pa_cons (pe_tup (pa_cons (pe_fn h_law_set (hr.mono (by decide)) (by rfl) (pa_cons (pe_slice (sl_listK K) (pv 6) (po_some pe_int) po_none) pa_nil)) (pa_cons (pe_ix (ix_listK K) (pv 6) pe_int (fun _ _ => rfl)) pa_nil))) pa_nil)))))))))))))))
 (pss_one (ps_ret (pe_tup (pa_cons (pv 2) (pa_cons (pv 3) (pa_cons (pv 4) pa_nil))))))))))), ?_⟩
  walk_at "sts"
  rw [tL_lit]
  refine w_m1 ?_
  walk_at "sts"
  refine w_isS ?_
  walk_at "sts"
  rw [tL_lit]
  refine w_split (by decide) (by decide) (by rw [sizeLine_eq]; omega) fun p1 n1 => ?_
  rw [show tL "\n" = [10] from rfl, hsp]
  have s1 := same_upd (o := .lst (sv (is ++ [la]))) n1
  have l1 : upd H p1 (.lst (sv (is ++ [la]))) p1 = some (.lst (sv (is ++ [la]))) := upd_same
  generalize upd H p1 (.lst (sv (is ++ [la]))) = H1 at s1 l1 ⊢
  have l1s := SqL.of (K := K) l1
  have hsl : (sv (is ++ [la])).length = is.length + 1 := by rw [sv_len, hL]
  have aL : atI (sv (is ++ [la])) (-1) = some (.str (tS la)) := by rw [sv_app]; exact atI_last _ _
  walk_at "sts"
  refine w_new fun pa na => ?_
  have sa := same_upd (o := .lst ([] : List V)) na
  have l1a := sa.seq l1s
  walk_at "sts"
  rw [dec_lit, hsl]
  obtain ⟨N, hN⟩ : ∃ N : Nat, max 2 (if la = [] then is.length else is.length + 1) = N := ⟨_, rfl⟩
  rw [hN] at hrd
  have hNb : N ≤ 100001 := by
    rw [← hN]
    split <;> omega
  refine for_r0 (n := N) ?_ (fun i σ H' => ∃ (c l : Nat) (ps : List (Nat × Nat)) (y5 y6 : Option V), σ = [some (.str (tS text)), some (.ref p1), some (.int (c : Nat)), some (.int (l : Nat)), some (.ref pa), y5, y6] ∧ Same H1 H' ∧ PapX H' pa ps ∧ runM (is ++ [la]) i = .inr (c, l, ps)) ?_ ?_ ?_
  · rw [← hN]
    by_cases e : la = []
    · rw [if_pos e, decide_eq_true (show la = tL "" from e)]
      simp only [if_true]
      split <;> omega
    · rw [if_neg e, decide_eq_false (show ¬ la = tL "" from e)]
      simp only [Bool.false_eq_true, if_false]
      split <;> omega
  · exact ⟨0, 0, [], _, _, rfl, sa, PapX.nil upd_same, rfl⟩
  · rintro i σ H' hi ⟨c, l, ps, y5, y6, rfl, s2, hP, hrun⟩
    have l1' := s2.seq l1s
    have hstep := runM_step hrun
    have hbad : stepM (is ++ [la]) i (c, l, ps) = none → ∀ H'', Same H' H'' → Q (.int ((i + 1 : Nat) : Int)) H'' := fun hb H'' s3 => by
      rw [hb] at hstep
      exact qe (i + 1) (by rw [hrd]; exact runM_stop hstep N (by omega)) H'' (s1.trans (s2.trans s3))
    have hpl := runM_len hrun
    have hi1 : ((i : Int) + 1) = ((i + 1 : Nat) : Int) := by omega
    have hsub : ((is.length + 1 : Nat) : Int) - 1 = ((is.length : Nat) : Int) := by omega
    walk_at "sts"
    try dsimp only
    refine w_cut (fun σ' H2 => ∃ nv : V, σ' = [some (.str (tS text)), some (.ref p1), some (.int (c : Nat)), some (.int (l : Nat)), some (.ref pa), some (.int (i : Nat)), some nv] ∧ Same H' H2 ∧ ((nv = .non ∧ (is.length ≤ i ∨ rowM (headM i) ((is ++ [la]).getD i []) = none)) ∨ ∃ pn ns, nv = .ref pn ∧ H2 pn = some (.lst (iv ns)) ∧ i < is.length ∧ rowM (headM i) ((is ++ [la]).getD i []) = some ns ∧ ns.length ≤ 100001)) ?_ ?_
    · walk_at "sts"
      rw [hsl]
      refine ifd (fun h1 => ?_) (fun h1 => ?_)
      · have hi2 : i < is.length := by omega
        have ai := sv_at (ws := is ++ [la]) (i := i) (by omega)
        have hwi := hwl i
        generalize (is ++ [la]).getD i [] = row at *
        walk_at "sts"
        refine w_new fun p3 n3 => ?_
        have s3 := same_upd (o := .lst [V.str (Str.ofString "worth"), V.str (Str.ofString "down"), V.str (Str.ofString "hill")]) n3
        have l3 : upd H' p3 (.lst [V.str (Str.ofString "worth"), V.str (Str.ofString "down"), V.str (Str.ofString "hill")]) p3 = some (.lst [V.str (Str.ofString "worth"), V.str (Str.ofString "down"), V.str (Str.ofString "hill")]) := upd_same
        generalize upd H' p3 (.lst [V.str (Str.ofString "worth"), V.str (Str.ofString "down"), V.str (Str.ofString "hill")]) = H3 at s3 l3 ⊢
        have l3s := SqL.of (K := K) l3
        have a3 : atI [V.str (Str.ofString "worth"), V.str (Str.ofString "down"), V.str (Str.ofString "hill")] (if (2 : Int) < (i : Int) then 2 else (i : Int)) = some (.str (tS (headM i))) := by
          unfold headM
          rw [tL_lit, tL_lit, tL_lit]
          by_cases h0 : i = 0
          · subst h0; exact atI_nat (j := 0) rfl
          · by_cases h1 : i = 1
            · subst h1; exact atI_nat (j := 1) rfl
            · rw [if_neg h0, if_neg h1]
              have : (if (2 : Int) < (i : Int) then 2 else (i : Int)) = ((2 : Nat) : Int) := by split <;> omega
              rw [this]
              exact atI_nat (j := 2) rfl
        walk_at "sts"
        refine ⟨row, headM i, rfl, hwi, fun ns hns hnb hnl pn H4 s4 nn ln => ?_, fun hns H4 s4 => ?_⟩
        · walk_at "sts"
          exact ⟨_, rfl, s3.trans s4, .inr ⟨pn, ns, rfl, ln, hi2, hns, hnl⟩⟩
        · walk_at "sts"
          exact ⟨_, rfl, s3.trans s4, .inl ⟨rfl, .inr hns⟩⟩
      · walk_at "sts"
        exact ⟨_, rfl, Same.refl _, .inl ⟨rfl, .inl (by omega)⟩⟩
    rintro σ' H2 ⟨nv, rfl, s3, hnv⟩
    rcases hnv with ⟨rfl, hb⟩ | ⟨pn, ns, rfl, ln, hi2, hns, hnl⟩
    · have hnone : stepM (is ++ [la]) i (c, l, ps) = none := by
        unfold stepM
        rcases hb with hb | hb
        · rw [if_pos (by rw [hL]; omega)]
        · unfold headM at hb
          by_cases hge : (is ++ [la]).length - 1 ≤ i
          · rw [if_pos hge]
          rw [if_neg hge]
          by_cases h0 : i = 0
          · subst h0
            rw [if_pos rfl] at hb ⊢
            rw [hb]
          · by_cases h1 : i = 1
            · subst h1
              rw [if_neg (by decide), if_pos rfl] at hb ⊢
              rw [hb]
            · rw [if_neg h0, if_neg h1] at hb ⊢
              unfold hillM
              rw [hb]
      walk_at "sts"
      rw [decide_eq_true rfl]
      walk_at "sts"
      rw [hi1]
      exact hbad hnone H2 s3
    have lns := SqL.of (K := K) ln
    have hnl2 := iv_len ns
    have hge : ¬ ((is ++ [la]).length - 1 ≤ i) := by rw [hL]; omega
    have hP2 := hP.same s3
    walk_at "sts"
    rw [decide_eq_false (by simp)]
    walk_at "sts"
    refine ifd (fun c0 => ?_) (fun c0 => ?_)
    · have c0 : i = 0 := by omega
      subst c0
      have hst : stepM (is ++ [la]) 0 (c, l, ps) = (match rowM (tL "worth") ((is ++ [la]).getD 0 []) with
          | some [c] => some (c, l, ps)
          | _ => none) := by
        unfold stepM
        rw [if_neg hge, if_pos rfl]
        try rfl
      have hns : rowM (tL "worth") ((is ++ [la]).getD 0 []) = some ns := hns
      rw [hns] at hst
      walk_at "sts"
      refine ifnd (fun h3 => ?_) (fun h3 => ?_)
      · walk_at "sts"
        refine hbad ?_ H2 s3
        rw [hst]
        cases ns with
        | nil => rfl
        | cons a r =>
          cases r with
          | nil => exact absurd rfl h3
          | cons b r => rfl
      · obtain ⟨x, rfl⟩ : ∃ a, ns = [a] := by
          cases ns with
          | nil => rw [hnl2] at h3; simp at h3
          | cons a r =>
            cases r with
            | nil => exact ⟨a, rfl⟩
            | cons b r => rw [hnl2] at h3; simp at h3; omega
        rw [hst] at hstep
        have a0 : atI (iv [x]) 0 = some (.int (x : Nat)) := atI_nat (j := 0) rfl
        walk_at "sts"
        exact ⟨_, _, _, _, _, rfl, s2.trans s3, hP2, hstep⟩
    · have c0 : i ≠ 0 := by omega
      walk_at "sts"
      refine ifd (fun c1 => ?_) (fun c1 => ?_)
      · have c1 : i = 1 := by omega
        subst c1
        have hst : stepM (is ++ [la]) 1 (c, l, ps) = (match rowM (tL "down") ((is ++ [la]).getD 1 []) with
            | some ns => (match setM ns with
              | some m => some (c, m, ps)
              | none => none)
            | none => none) := by
          unfold stepM
          rw [if_neg hge, if_neg (by decide), if_pos rfl]
          try rfl
        have hns : rowM (tL "down") ((is ++ [la]).getD 1 []) = some ns := hns
        rw [hns] at hst
        walk_at "sts"
        refine ⟨pn, ns, rfl, lns, fun m hm => ?_, fun hm => ?_⟩
        · have hst2 : stepM (is ++ [la]) 1 (c, l, ps) = some (c, m, ps) := by
            rw [hst]
            show (match setM ns with | some m => some (c, m, ps) | none => none) = _
            rw [hm]
          rw [hst2] at hstep
          walk_at "sts"
          exact ⟨_, _, _, _, _, rfl, s2.trans s3, hP2, hstep⟩
        · walk_at "sts"
          exact hbad (by rw [hst]; show (match setM ns with | some m => some (c, m, ps) | none => none) = none; rw [hm]) H2 s3
      · have hst : stepM (is ++ [la]) i (c, l, ps) = (match hillM ((is ++ [la]).getD i []) with
            | some t => some (c, l, ps ++ [t])
            | none => none) := by
          unfold stepM
          rw [if_neg hge, if_neg c0, if_neg (by omega)]
          try rfl
        have hns : rowM (tL "hill") ((is ++ [la]).getD i []) = some ns := by
          have : headM i = tL "hill" := by unfold headM; rw [if_neg c0, if_neg (by omega)]
          rw [← this]
          exact hns
        generalize (is ++ [la]).getD i [] = row at *
        obtain ⟨xs, hxs, hxl⟩ := hP2.len
        have hxsl := SqL.of (K := K) hxs
        walk_at "sts"
        refine ifd (fun h4 => ?_) (fun h4 => ?_)
        · walk_at "sts"
          rw [hi1]
          refine hbad ?_ H2 s3
          rw [hst, show hillM row = none from ?_]
          unfold hillM
          rw [hns]
          cases ns with
          | nil => rfl
          | cons a r =>
            cases r with
            | nil => rfl
            | cons b r => rw [hnl2, List.length_cons, List.length_cons] at h4; omega
        obtain ⟨x, n, r, rfl⟩ : ∃ t n r, ns = t :: n :: r := by
          cases ns with
          | nil => rw [hnl2] at h4; simp at h4
          | cons a r =>
            cases r with
            | nil => rw [hnl2] at h4; simp at h4
            | cons b r => exact ⟨a, b, r, rfl⟩
        have a0 : atI (iv (x :: n :: r)) 0 = some (.int (x : Nat)) := atI_nat (j := 0) rfl
        walk_at "sts"
        refine ifd (fun h5 => ?_) (fun h5 => ?_)
        · walk_at "sts"
          rw [hi1]
          refine hbad ?_ H2 s3
          rw [hst, show hillM row = none from ?_]
          unfold hillM
          rw [hns]
          show (if x < 1 then none else _) = none
          rw [if_pos (by omega)]
        have hm : hillM row = match setM (n :: r) with
            | some m => some (m, x)
            | none => none := by
          unfold hillM
          rw [hns]
          show (if x < 1 then none else _) = _
          rw [if_neg (by omega)]
          try rfl
        have ec : cutV (iv (x :: n :: r)) (some 1) none = iv (n :: r) := cutV_from _ 1
        walk_at "sts"
        refine w_new fun p4 n4 => ?_
        rw [ec]
        have s4 := same_upd (o := .lst (iv (n :: r))) n4
        have l4 : upd H2 p4 (.lst (iv (n :: r))) p4 = some (.lst (iv (n :: r))) := upd_same
        generalize upd H2 p4 (.lst (iv (n :: r))) = H4 at s4 l4 ⊢
        have lns4 := s4.seq lns
        walk_at "sts"
        refine ⟨p4, n :: r, rfl, SqL.of l4, fun m hms => ?_, fun hms => ?_⟩
        · walk_at "sts"
          refine w_new fun p5 n5 => ?_
          rw [ec]
          have s5 := same_upd (o := .lst (iv (n :: r))) n5
          have l5 : upd H4 p5 (.lst (iv (n :: r))) p5 = some (.lst (iv (n :: r))) := upd_same
          generalize upd H4 p5 (.lst (iv (n :: r))) = H5 at s5 l5 ⊢
          have lns5 := s5.seq lns4
          walk_at "sts"
          refine ⟨p5, n :: r, rfl, SqL.of l5, fun m2 hms2 => ?_, fun hms2 => by rw [hms] at hms2; cases hms2⟩
          rw [hms] at hms2
          cases hms2
          have hx5 := s5 _ _ (s4 _ _ hxs)
          rw [hm, hms] at hst
          rw [hst] at hstep
          have hpl2 : ps.length ≤ i := hpl
          have hsz2 : xs.length < sizeLine := szlt (by omega)
          walk_at "sts"
          refine w_new fun p6 n6 => ?_
          have s6 := same_upd (o := .tup [V.int ((m : Nat) : Int), V.int ((x : Nat) : Int)]) n6
          have l6 : upd H5 p6 (.tup [V.int ((m : Nat) : Int), V.int ((x : Nat) : Int)]) p6 = some (.tup [V.int ((m : Nat) : Int), V.int ((x : Nat) : Int)]) := upd_same
          generalize upd H5 p6 (.tup [V.int ((m : Nat) : Int), V.int ((x : Nat) : Int)]) = H6 at s6 l6 ⊢
          have hx6 := s6 _ _ hx5
          walk_at "sts"
          exact ⟨_, _, _, _, _, rfl, (s2.trans (s3.trans (s4.trans (s5.trans s6)))).mut na, hP2.put hxs (s4.trans (s5.trans s6)) l6, hstep⟩
        · walk_at "sts"
          rw [hi1]
          exact hbad (by rw [hst, hm, hms]) H4 (s3.trans s4)
  · rintro σ H' ⟨c, l, ps, y5, y6, rfl, s2, hP, hrun⟩
    walk_at "sts"
    refine w_new fun pt nt => ?_
    exact q c l ps (by rw [hrd, hrun]) pt pa _ (s1.trans (s2.trans (same_upd nt))) ((nt.of s2).of s1) upd_same (hP.same (same_upd nt))
end

open TL
section
variable {P : Program} {w : World} {K : PySem.W.Frag} {mg : Str → Option Value} {base : Heap} {C_BadText C_FloorError : Addr}
theorem endL_app (a b : List (List Nat)) : endL (a ++ b) = endL a ++ endL b := by unfold endL; rw [List.map_append, List.flatten_append]
def spLShown (K : PySem.W.Frag) : Sp := fun vs H Q _ => ∃ (a : Addr) (c l : Nat) (ps : List (Nat × Nat)), vs = [.int c, .int l, .ref a] ∧ Dp K H (.ref a) (dPap ps) ∧ c < 10 ^ 41 ∧ l < 2 ^ 40 ∧ (∀ t ∈ ps, t.1 < 2 ^ 80 ∧ t.2 < 10 ^ 41) ∧ ps.length ≤ 1000 ∧ Q (.str (tS (shownT c l ps))) H
theorem ok_law_shown {f : Addr} {fd : FuncData} (F : Fun K "_law_shown" "_law_shown" s_law_shown f fd) (gf : mg "_law_shown" = some (.ref f)) (B : Bl mg) {C_BadText C_FloorError : Addr} (T : Txt K mg C_BadText C_FloorError) : Has P w K mg base CX0 1 "_law_shown" ["cost", "laying", "paper"] (spLShown K) := by
  refine Has.mk' F gf (F.binds (ps := ["cost", "laying", "paper"]) fun _ _ _ _ _ _ us hl => match us, hl with | [_, _, _], _ => rfl) sc_law_shown (by walk_at "len") (fun cdv A outer s H vs Q E hr h => ?_)
  obtain ⟨a, c, l, ps, rfl, hD, hc, hl, hps, hn, q⟩ := h
  obtain ⟨xs, hpa, hxs⟩ := dpLstA hD
  have hxl : xs.length = ps.length := by have := dpaLen hxs; simpa using this
  have ew : tL "worth " = tL "worth" ++ [32] := by decide
  have ed : tL "\ndown" = 10 :: tL "down" := by decide
  have e1 : tL "\n" = [10] := by decide
  have e2 : tL " " = [32] := by decide
  have eh : tL "hill " = tL "hill" ++ [32] := by decide
  have l1 : (tL "worth ").length = 6 := by decide
  have l2 : (tL "\ndown").length = 5 := by decide
  have l3 : (tL "hill ").length = 5 := by decide
  have l4 : (tL "\n").length = 1 := by decide
  have l5 : (tL " ").length = 1 := by decide
  have hcl := numL_len (k := 41) (by decide) hc
  have base : tL "worth " ++ numL c ++ tL "\ndown" = endL [rowB (tL "worth") [c]] ++ rowB (tL "down") (bl l 0) := by
    rw [ew, ed]
    unfold rowB endL
    simp [bl]
  have bln : ∀ i, i ≤ 80 → (rowB (tL "down") (bl l i)).length ≤ 4 + 42 * 80 := fun i hi => by
    have h1 := rowB_len (h := tL "down") (ns := bl l i) (k := 41) (by decide) (fun n hn => by
      unfold bl at hn
      rw [List.mem_filter, List.mem_range] at hn
      exact Nat.lt_of_lt_of_le (Nat.lt_of_lt_of_le hn.1 hi) (by decide))
    have h2 := bl_len l i
    have h4 : (tL "down").length = 4 := by decide
    omega
  refine ⟨_, (pss_cons (ps_set (i := 3) sc_law_shown.nd rfl (.inl rfl) (pe_op op_add_str (pe_op op_add_str pe_str (pe_callTy call_str_int (by rfl) B.str (by decide +kernel) (pa_cons (pv 0) pa_nil))) pe_str))
 (pss_cons (ps_for PassesOwn.never rfl (pi_range1 (by rfl) B.range (pa_cons pe_int pa_nil)) (pg_name (i := 4) sc_law_shown.nd rfl (.inl rfl)) (pss_one (ps_if (pt_cmpR op_eq (pe_op op_and (pe_op op_shr (pv 1) (pv 4)) pe_int) pe_int (nomark _)) (pss_one (ps_set (i := 3) sc_law_shown.nd rfl (.inl rfl) (pe_op op_add_str (pe_op op_add_str (pv 3) pe_str) (pe_callTy call_str_int (by rfl) B.str (by decide +kernel) (pa_cons (pv 4) pa_nil))))) pss_nil)))
 (pss_cons (ps_set (i := 3) sc_law_shown.nd rfl (.inl rfl) (pe_op op_add_str (pv 3) pe_str))
 (pss_cons (ps_for PassesOwn.never rfl (pi_listK K (pv 2)) (pg_name (i := 5) sc_law_shown.nd rfl (.inl rfl)) (pss_cons (ps_set (i := 3) sc_law_shown.nd rfl (.inl rfl) (pe_op op_add_str (pe_op op_add_str (pv 3) pe_str) (pe_callTy call_str_int (by rfl) B.str (by decide +kernel) (pa_cons (pe_ix (ix_tupK K) (pv 5) pe_int (fun _ _ => rfl)) pa_nil))))
 (pss_cons (ps_for PassesOwn.never rfl (pi_range1 (by rfl) B.range (pa_cons pe_int pa_nil)) (pg_name (i := 6) sc_law_shown.nd rfl (.inl rfl)) (pss_one (ps_if (pt_cmpR op_eq (pe_op op_and (pe_op op_shr (pe_ix (ix_tupK K) (pv 5) pe_int (fun _ _ => rfl)) (pv 6)) pe_int) pe_int (nomark _)) (pss_one (ps_set (i := 3) sc_law_shown.nd rfl (.inl rfl) (pe_op op_add_str (pe_op op_add_str (pv 3) pe_str) (pe_callTy call_str_int (by rfl) B.str (by decide +kernel) (pa_cons (pv 6) pa_nil))))) pss_nil)))
 (pss_one (ps_set (i := 3) sc_law_shown.nd rfl (.inl rfl) (pe_op op_add_str (pv 3) pe_str))))))
 (pss_one (ps_ret (pv 3))))))), ?_⟩
  walk_at "sts"
  rw [tL_lit]
  refine ⟨log2_small (Nat.lt_trans hc (by decide +kernel)), ?_⟩
  rw [tS_num]
  refine w_2s ⟨by rw [tS_len, tS_len, sizeLine_eq]; omega, ?_⟩
  rw [tS_app]
  walk_at "sts"
  rw [tL_lit]
  refine w_2s ⟨by rw [tS_len, tS_len, List.length_append, sizeLine_eq]; omega, ?_⟩
  rw [tS_app, base]
  walk_at "sts"
  have w0 : (endL [rowB (tL "worth") [c]]).length ≤ 60 := by
    have h1 := rowB_len (h := tL "worth") (ns := [c]) (k := 41) (by decide) (by simpa using hc)
    have h5 : (tL "worth").length = 5 := by decide
    have h2 := endL_len (rs := [rowB (tL "worth") [c]]) (k := 50) (fun r hr => by rw [List.mem_singleton.mp hr, List.length_singleton] at *; omega)
    rw [List.length_singleton] at h2
    omega
  refine for_r0 (n := 40) rfl (fun i σ H' => ∃ (y4 y5 y6 : Option V), σ = [some (.int c), some (.int l), some (.ref a), some (.str (tS (endL [rowB (tL "worth") [c]] ++ rowB (tL "down") (bl l i)))), y4, y5, y6] ∧ H' = H) ?_ ?_ ?_
  · exact ⟨_, _, _, rfl, rfl⟩
  · rintro i σ H' hi ⟨y4, y5, y6, rfl, rfl⟩
    have := bln i (by omega)
    walk_at "sts"
    rw [bit_dec]
    cases hb : l.testBit i with
    | true =>
      have eb : bl l (i + 1) = bl l i ++ [i] := by rw [bl_succ, if_pos hb]
      have hi2 := numL_len (n := i) (k := 41) (by decide) (Nat.lt_of_lt_of_le hi (by decide))
      walk_at "sts"
      rw [tL_lit]
      refine w_2s ⟨by rw [tS_len, tS_len, List.length_append, sizeLine_eq]; omega, ?_⟩
      rw [tS_app]
      walk_at "sts"
      refine ⟨log2_small (Nat.lt_of_lt_of_le hi (by decide +kernel)), ?_⟩
      rw [tS_num]
      refine w_2s ⟨by rw [tS_len, tS_len, List.length_append, List.length_append, sizeLine_eq]; omega, ?_⟩
      have rt : endL [rowB (tL "worth") [c]] ++ rowB (tL "down") (bl l i) ++ [32] ++ numL i = endL [rowB (tL "worth") [c]] ++ rowB (tL "down") (bl l (i + 1)) := by
        rw [eb, rowB_snoc]
        simp only [List.append_assoc, List.singleton_append]
      rw [tS_app, e2, rt]
      walk_at "sts"
      exact ⟨_, _, _, rfl, rfl⟩
    | false =>
      have eb : bl l (i + 1) = bl l i := by rw [bl_succ, if_neg (by rw [hb]; decide)]
      walk_at "sts"
      rw [eb]
      exact ⟨_, _, _, rfl, rfl⟩
  rintro σ H ⟨y4, y5, y6, rfl, rfl⟩
  have hb40 := bln 40 (by omega)
  have e80 : bl l 40 = bl l 80 := bl_eq hl (Nat.lt_of_lt_of_le hl (Nat.pow_le_pow_right (by decide) (by decide)))
  walk_at "sts"
  rw [tL_lit]
  refine w_2s ⟨by rw [tS_len, tS_len, List.length_append, sizeLine_eq]; omega, ?_⟩
  have rr : endL [rowB (tL "worth") [c]] ++ rowB (tL "down") (bl l 80) ++ [10] = endL (rowsT c l []) := by
    unfold rowsT endL; simp
  rw [tS_app, e1, e80, rr]
  walk_at "sts"
  have hlen : ∀ i, i ≤ ps.length → (endL (rowsT c l (ps.take i))).length ≤ 4001 * 1002 := fun i hi => by
    have h1 := endL_len (rowsT_len (c := c) (l := l) (ps := ps.take i) hc fun t ht => (hps t (List.mem_of_mem_take ht)).2)
    have : (rowsT c l (ps.take i)).length = i + 2 := by unfold rowsT; simp; omega
    rw [this] at h1
    refine Nat.le_trans h1 (Nat.mul_le_mul_left _ (by omega))
  refine for_list (xs := xs) (fun i σ H' => ∃ (y4 y5 y6 : Option V), σ = [some (.int c), some (.int l), some (.ref a), some (.str (tS (endL (rowsT c l (ps.take i))))), y4, y5, y6] ∧ H' = H) ?_ ?_ ?_ ?_
  · exact ⟨_, _, _, rfl, rfl⟩
  · rintro i σ H' _ ⟨_, _, _, _, rfl⟩
    exact hpa
  · rintro i x σ H' hx ⟨y4, y5, y6, rfl, rfl⟩
    have hi : i < ps.length := by rw [← hxl]; exact (List.getElem?_eq_some_iff.mp hx).1
    obtain ⟨p, hp, ht⟩ := dpPapAt hxs hi
    rw [hp] at hx
    injection hx with hx
    subst hx
    have hlt := hps _ (show ps.getD i (0, 0) ∈ ps by rw [List.getD_eq_getElem?_getD, List.getElem?_eq_getElem hi]; exact List.getElem_mem hi)
    have etk : ps.take (i + 1) = ps.take i ++ [ps.getD i (0, 0)] := by rw [List.take_add_one, List.getElem?_eq_getElem hi, List.getD_eq_getElem?_getD, List.getElem?_eq_getElem hi]; rfl
    generalize ps.getD i (0, 0) = t at ht hlt etk
    have hli := hlen i (by omega)
    generalize hE : endL (rowsT c l (ps.take i)) = E at hli
    have htl := numL_len (k := 41) (by decide) hlt.2
    have bt : ∀ k, k ≤ 80 → (rowB (tL "hill") (t.2 :: bl t.1 k)).length ≤ 4 + 42 * 81 := fun k hk => by
      have h1 := rowB_len (h := tL "hill") (ns := t.2 :: bl t.1 k) (k := 41) (by decide) (fun n hn => by
        rcases List.mem_cons.mp hn with rfl | hn
        · exact hlt.2
        · unfold bl at hn
          rw [List.mem_filter, List.mem_range] at hn
          exact Nat.lt_of_lt_of_le (Nat.lt_of_lt_of_le hn.1 hk) (by decide))
      have h2 := bl_len t.1 k
      have h4 : (tL "hill").length = 4 := by decide
      rw [List.length_cons] at h1
      omega
    walk_at "sts"
    rw [tL_lit]
    refine w_2s ⟨by rw [tS_len, tS_len, sizeLine_eq]; omega, ?_⟩
    rw [tS_app]
    walk_at "sts"
    refine ⟨log2_small (Nat.lt_trans hlt.2 (by decide +kernel)), ?_⟩
    rw [tS_num]
    refine w_2s ⟨by rw [tS_len, tS_len, List.length_append, sizeLine_eq]; omega, ?_⟩
    have rh : E ++ tL "hill " ++ numL t.2 = E ++ rowB (tL "hill") (t.2 :: bl t.1 0) := by
      rw [eh]; unfold rowB; simp [bl]
    rw [tS_app, rh]
    walk_at "sts"
    refine for_r0 (n := 80) rfl (fun k σ H1 => ∃ (y4 y6 : Option V), σ = [some (.int c), some (.int l), some (.ref a), some (.str (tS (E ++ rowB (tL "hill") (t.2 :: bl t.1 k)))), y4, some (.ref p), y6] ∧ H1 = H') ?_ ?_ ?_
    · exact ⟨_, _, rfl, rfl⟩
    · rintro k σ H1 hk ⟨y4, y6, rfl, rfl⟩
      have := bt k (by omega)
      walk_at "sts"
      rw [bit_dec]
      cases hb : t.1.testBit k with
      | true =>
        have eb : bl t.1 (k + 1) = bl t.1 k ++ [k] := by rw [bl_succ, if_pos hb]
        have hk2 := numL_len (n := k) (k := 41) (by decide) (Nat.lt_of_lt_of_le hk (by decide))
        walk_at "sts"
        rw [tL_lit]
        refine w_2s ⟨by rw [tS_len, tS_len, List.length_append, sizeLine_eq]; omega, ?_⟩
        rw [tS_app]
        walk_at "sts"
        refine ⟨log2_small (Nat.lt_of_lt_of_le hk (by decide +kernel)), ?_⟩
        rw [tS_num]
        refine w_2s ⟨by rw [tS_len, tS_len, List.length_append, List.length_append, sizeLine_eq]; omega, ?_⟩
        have rt : E ++ rowB (tL "hill") (t.2 :: bl t.1 k) ++ [32] ++ numL k = E ++ rowB (tL "hill") (t.2 :: bl t.1 (k + 1)) := by
          rw [eb, ← List.cons_append, rowB_snoc]
          simp only [List.append_assoc, List.singleton_append]
        rw [tS_app, e2, rt]
        walk_at "sts"
        exact ⟨_, _, rfl, rfl⟩
      | false =>
        have eb : bl t.1 (k + 1) = bl t.1 k := by rw [bl_succ, if_neg (by rw [hb]; decide)]
        walk_at "sts"
        rw [eb]
        exact ⟨_, _, rfl, rfl⟩
    rintro σ H1 ⟨y4, y6, rfl, rfl⟩
    have := bt 80 (by omega)
    walk_at "sts"
    refine w_2s ⟨by rw [tS_len, tS_len, List.length_append, sizeLine_eq, List.length_singleton]; omega, ?_⟩
    have re : E ++ rowB (tL "hill") (t.2 :: bl t.1 80) ++ [10] = endL (rowsT c l (ps.take (i + 1))) := by
      rw [← hE, etk]
      unfold rowsT
      rw [List.map_append, ← List.append_assoc, List.map_cons, List.map_nil, endL_snoc]
    rw [tS_app, re]
    walk_at "sts"
    exact ⟨_, _, _, rfl, rfl⟩
  rintro σ H' ⟨y4, y5, y6, rfl, rfl⟩
  rw [hxl, List.take_length]
  walk_at "sts"
  exact q
end

theorem rgcPosN {i j c : Int} (hc : 0 < c) (hc2 : c < 1000000) (hi : 0 ≤ i) (hi2 : i < 1000000) (hj : -1000000 < j) (hj2 : j < 1000000) : ∃ n : Nat, RgC i j c n ∧ n ≤ 1000000 ∧ ∀ t : Nat, t < n ↔ i + t * c < j := by
  obtain ⟨r, hr⟩ : ∃ r, Builtin.Range.rangeSize i j c = r := ⟨_, rfl⟩
  have h1 : r = if i < j then (j - i - 1) / c + 1 else 0 := by
    rw [← hr]
    unfold Builtin.Range.rangeSize
    rw [if_pos hc]
  have h2 : 0 ≤ r ∧ r ≤ 1000000 := by
    rw [h1]
    split
    · have a := Int.ediv_nonneg (show 0 ≤ j - i - 1 by omega) (show 0 ≤ c by omega)
      have b := Int.ediv_le_self c (show 0 ≤ j - i - 1 by omega)
      omega
    · omega
  refine ⟨r.toNat, ⟨by omega, by omega, ?_, by rw [hr]; omega⟩, by omega, fun t => ?_⟩
  · unfold Builtin.Range.small
    rw [hr]
    simp only [Builtin.Range.rangeFitsLong, Bool.and_eq_true, Bool.or_eq_true, decide_eq_true_eq, beq_iff_eq, if_pos hc]
    refine ⟨⟨⟨⟨⟨?_, ?_⟩, ⟨?_, ?_⟩⟩, ⟨?_, ?_⟩⟩, ⟨?_, ?_⟩⟩, .inr ⟨?_, ?_⟩⟩ <;> omega
  · by_cases h : i < j
    · rw [if_pos h] at h1
      have e : (t : Int) ≤ (j - i - 1) / c ↔ (t : Int) * c ≤ j - i - 1 := Int.le_ediv_iff_mul_le hc
      generalize (t : Int) * c = tc at e ⊢
      omega
    · rw [if_neg h] at h1
      have : 0 ≤ (t : Int) * c := Int.mul_nonneg (by omega) (by omega)
      omega

open TL
section
variable {X : Cx}
def rMulS : V → V → Hp → VK → Prop := fun x y H Q => ∃ a : Str, ∃ n : Nat, x = .str a ∧ y = .int n ∧ a.length ≤ 16 ∧ n ≤ 1000 ∧ ∀ b : Str, b.length = a.length * n → Q (.str b) H
theorem op_mulS : OpR X (binaryOp .Mult) rMulS := by
  intro pins s σ H x y v u Q I rx ry h
  obtain ⟨a, n, rfl, rfl, h1, h2, q⟩ := h
  obtain ⟨t, rfl⟩ := rx
  obtain ⟨t', rfl⟩ := ry
  refine SB.mul (mulOk_of 16 1000 h1 (by omega) (by omega) (by decide) (by decide)) fun t' k => ⟨.str (Txt.mul a n), H, I.tok _, ⟨_, rfl⟩, q _ ?_⟩
  have e := len_mul a n
  rw [if_neg (fun c => absurd (of_decide_eq_true c) (by omega))] at e
  rw [← Int.natCast_mul] at e
  omega
end
/-- a text as a list of signs -/
theorem str_tS (z : Str) : z = tS (tl z) := (tS_tl z).symm
theorem str_len (z : Str) : (tl z).length = z.length := by rw [len_tl]
/-! ### rows and their length -/
def mR (ws : List (List Nat)) : Nat := (ws.map fun w => w.length + 1).sum
theorem mR_cons (w : List Nat) (ws : List (List Nat)) : mR (w :: ws) = w.length + 1 + mR ws := by unfold mR; rw [List.map_cons, List.sum_cons]
theorem mR_app (a b : List (List Nat)) : mR (a ++ b) = mR a + mR b := by unfold mR; rw [List.map_append, List.sum_append]
theorem mR_len : ∀ ws : List (List Nat), (ws.map List.length).sum + ws.length * 1 = mR ws
  | [] => rfl
  | w :: ws => by
    have := mR_len ws
    rw [List.map_cons, List.sum_cons, List.length_cons, mR_cons]
    omega
theorem mR_many : ∀ ws : List (List Nat), ws.length ≤ mR ws
  | [] => Nat.le_refl _
  | w :: ws => by
    have := mR_many ws
    rw [List.length_cons, mR_cons]
    omega
theorem mR_join (ws : List (List Nat)) : (joinL [10] ws).length ≤ mR ws := by
  cases ws with
  | nil => exact Nat.zero_le _
  | cons w ws =>
    have h1 := joinL_sum [10] w ws
    have h2 := mR_len (w :: ws)
    rw [List.length_cons] at h2
    have h3 : [10].length = 1 := rfl
    rw [h3] at h1
    omega
theorem mR_spl : ∀ (l acc : List Nat), mR (spl [10] 0 acc l) = acc.length + l.length + 1
  | [], acc => by rw [spl_nil, mR_cons]; rfl
  | c :: r, acc => by
    cases h : pre [10] (c :: r) with
    | true =>
      rw [spl_hit h, mR_cons, show [10].length - 1 = 0 from rfl, mR_spl r [], List.length_cons, List.length_nil]
      omega
    | false =>
      rw [spl_miss h, mR_spl r (acc ++ [c]), List.length_append, List.length_cons, List.length_cons, List.length_nil]
      omega
theorem spl_two : ∀ (l acc : List Nat), 10 ∈ l → 2 ≤ (spl [10] 0 acc l).length
  | [], acc, h => by cases h
  | c :: r, acc, h => by
    cases e : pre [10] (c :: r) with
    | true =>
      rw [spl_hit e, List.length_cons]
      have := List.length_pos_iff.mpr (spl_ne [10] r [] ([10].length - 1))
      omega
    | false =>
      rw [spl_miss e]
      rcases List.mem_cons.mp h with rfl | h
      · have z : pre [10] (10 :: r) = true := by unfold pre; simp [pre]
        rw [z] at e
        cases e
      · exact spl_two r _ h
theorem mR_endL : ∀ ws : List (List Nat), (endL ws).length = mR ws
  | [] => rfl
  | w :: ws => by
    have := mR_endL ws
    unfold endL at this ⊢
    rw [List.map_cons, List.flatten_cons, List.length_append, this, mR_cons, List.length_append]
    rfl
theorem mR_le {B : Nat} : ∀ ws : List (List Nat), (∀ w ∈ ws, w.length ≤ B) → mR ws ≤ ws.length * (B + 1)
  | [], _ => Nat.zero_le _
  | w :: ws, h => by
    have h1 := mR_le ws fun x hx => h x (List.mem_cons_of_mem _ hx)
    have h2 := h w List.mem_cons_self
    rw [mR_cons, List.length_cons, Nat.succ_mul]
    omega
theorem mR_ins (ws : List (List Nat)) (i : Nat) (w : List Nat) : mR (ws.take i ++ w :: ws.drop i) = mR ws + (w.length + 1) := by
  have h : mR ws = mR (ws.take i) + mR (ws.drop i) := by rw [← mR_app, List.take_append_drop]
  rw [mR_app, mR_cons, h]
  omega
theorem mR_del (ws : List (List Nat)) (i : Nat) (hi : i < ws.length) : mR (ws.eraseIdx i) + ((ws.getD i []).length + 1) = mR ws := by
  have h : mR ws = mR (ws.take i) + mR (ws.drop i) := by rw [← mR_app, List.take_append_drop]
  rw [List.eraseIdx_eq_take_drop_succ, mR_app, h, List.drop_eq_getElem_cons hi, mR_cons, List.getD_eq_getElem?_getD, List.getElem?_eq_getElem hi]
  show _ + (ws[i].length + 1) = _
  omega
theorem sv_ins (ws : List (List Nat)) (i : Nat) (w : List Nat) : (sv ws).take i ++ [V.str (tS w)] ++ (sv ws).drop i = sv (ws.take i ++ w :: ws.drop i) := by
  unfold sv
  rw [List.map_append, List.map_cons, List.map_take, List.map_drop, List.append_assoc]
  rfl
theorem seq_in {n k : Nat} (h : k < n) : seqIndex? (k : Int) n = some k := by
  unfold seqIndex?
  have h0 : ¬ ((k : Int) < 0) := by omega
  have h1 : ((k : Int) < (n : Int)) := by omega
  simp only [if_neg h0, decide_eq_true (show (0 : Int) ≤ (k : Int) by omega), decide_eq_true h1, Bool.and_self, if_true, Int.toNat_natCast]
theorem sv_del (ws : List (List Nat)) (i : Nat) : sv (ws.eraseIdx i) = (sv ws).eraseIdx i := by
  unfold sv
  rw [List.eraseIdx_eq_take_drop_succ, List.eraseIdx_eq_take_drop_succ, List.map_append, List.map_take, List.map_drop]
theorem length_app (a b : Str) : (a ++ b).length = a.length + b.length := by
  rw [str_tS a, str_tS b, tS_app, tS_len, tS_len, tS_len, List.length_append]
theorem w_slS {H : Hp} {Q : VK} {z : Str} {lo hi : Option Int} (hz : z.length ≤ sizeLine) (h : Q (.str (cutS z lo hi)) H) : rSlS (.str z) lo hi H Q := ⟨z, rfl, hz, h⟩
section
variable {P : Program} {w : World} {K : PySem.W.Frag} {mg : Str → Option Value} {base : Heap} {C_BadText C_FloorError : Addr}
def spLPaper (K : PySem.W.Frag) : Sp := fun vs H Q _ => ∃ (a : Addr) (ns : List Int), vs = [.ref a] ∧ SqL K H a (ns.map V.int) ∧ ns.length ≤ 100 ∧ ∀ pa H' ps, Same H H' → New H pa → PapX H' pa ps → ps.length ≤ 10 → (∀ t ∈ ps, t.1 < 2 ^ 80 ∧ t.2 < 10 ^ 41) → Q (.ref pa) H'
theorem ok_law_paper {f : Addr} {fd : FuncData} (F : Fun K "_law_paper" "_law_paper" s_law_paper f fd) (gf : mg "_law_paper" = some (.ref f)) (B : Bl mg) {C_BadText C_FloorError : Addr} (T : Txt K mg C_BadText C_FloorError) : Has P w K mg base CX0 1 "_law_paper" ["script"] (spLPaper K) := by
  refine Has.mk' F gf (F.binds (ps := ["script"]) fun _ _ _ _ _ _ us hl => match us, hl with | [_], _ => rfl) sc_law_paper (by walk_at "len") (fun cdv A outer s H vs Q E hr h => ?_)
  obtain ⟨a, ns, rfl, hS, hlen, q⟩ := h
  refine ⟨_, (pss_cons (ps_set (i := 1) sc_law_paper.nd rfl (.inl rfl) (pe_lst pa_nil))
 (pss_cons (ps_for PassesOwn.never rfl (pi_range3 (by rfl) B.range (pa_cons pe_int (pa_cons (pe_callB (call_min2 rfl) (by rfl) B.min (by decide +kernel) (pa_cons (pe_op op_sub (pe_callB (call_lenK K) (by rfl) B.len (by decide +kernel) (pa_cons (pv 0) pa_nil)) pe_int) (pa_cons pe_int pa_nil))) (pa_cons pe_int pa_nil)))) (pg_name (i := 2) sc_law_paper.nd rfl (.inl rfl)) (pss_cons (ps_set (i := 3) sc_law_paper.nd rfl (.inl rfl) (pe_op op_mod (pe_op op_mulX (pe_op op_mod (pe_ix (ix_listK K) (pv 0) (pv 2) (fun _ _ => rfl)) (pe_op op_pow pe_int pe_int)) pe_int) (pe_op op_shlW pe_int pe_int)))
 (pss_cutX (ps_if (pt_cmpR op_eq (pv 3) pe_int (nomark _)) (pss_one (ps_set (i := 3) sc_law_paper.nd rfl (.inl rfl) (pe_op op_shlW pe_int (pe_op op_mod (pe_ix (ix_listK K) (pv 0) (pe_op op_add (pv 2) pe_int) (fun _ _ => rfl)) pe_int)))) pss_nil)
 (pss_one (ps_expr (pe_bmK K (pe_bm PySem.F.plainAttrs_list PySem.F.slot_list_append PySem.F.type_list_append mt_append (pv 1) (pa_cons (pe_tup (pa_cons (pv 3) (pa_cons (pe_op op_add pe_int (pe_op op_mod (pe_op op_fdivW (pe_ix (ix_listK K) (pv 0) (pe_op op_add (pv 2) pe_int) (fun _ _ => rfl)) pe_int) (pe_op op_pow pe_int pe_int))) pa_nil))) pa_nil))))))))
 (pss_one (ps_ret (pv 1))))), ?_⟩
  walk_at "sts"
  refine w_new fun pa na => ?_
  have s0 := same_upd (o := .lst []) na
  have hS0 := s0.seq hS
  walk_at "sts"
  rw [List.length_map]
  obtain ⟨J, hJ, hJ0, hJ1⟩ : ∃ J : Int, (if (24 : Int) < ((ns.length : Nat) : Int) - 1 then (24 : Int) else ((ns.length : Nat) : Int) - 1) = J ∧ -2 ≤ J ∧ J ≤ 24 ∧ J ≤ (ns.length : Int) - 1 := by
    refine ⟨_, rfl, ?_⟩
    split <;> omega
  rw [hJ]
  clear hJ
  obtain ⟨m, hr, hm, hmt⟩ := rgcPosN (i := 4) (j := J) (c := 2) (by omega) (by omega) (by omega) (by omega) (by omega) (by omega)
  refine ⟨_, _, _, _, rfl, hr, ?_⟩
  refine for_rangeC (fun i σ H' => ∃ (y2 y3 : Option V) (ps : List (Nat × Nat)), σ = [some (.ref a), some (.ref pa), y2, y3] ∧ Same H H' ∧ PapX H' pa ps ∧ ps.length = i ∧ (∀ t ∈ ps, t.1 < 2 ^ 80 ∧ t.2 < 10 ^ 41)) ?_ ?_ ?_
  · exact ⟨_, _, [], rfl, s0, PapX.nil upd_same, rfl, fun t ht => absurd ht List.not_mem_nil⟩
  · rintro i σ H' hi ⟨y2, y3, ps, rfl, s1, hP, hpl, hps⟩
    have hlt := (hmt i).mp hi
    obtain ⟨k, hk⟩ : ∃ k : Nat, (4 : Int) + (i : Int) * 2 = (k : Nat) := ⟨4 + i * 2, by omega⟩
    rw [hk] at hlt ⊢
    have e0 : (ns.map V.int)[k]? = some (.int (ns.getD k 0)) := by
      rw [List.getElem?_map, List.getD_eq_getElem?_getD, List.getElem?_eq_getElem (by omega)]; rfl
    have e1 : atI (ns.map V.int) ((k : Int) + 1) = some (.int (ns.getD (k + 1) 0)) := by
      rw [show ((k : Int) + 1) = ((k + 1 : Nat) : Int) by omega]
      refine atI_nat ?_
      rw [List.getElem?_map, List.getD_eq_getElem?_getD, List.getElem?_eq_getElem (by omega)]; rfl
    have hS1 := s1.seq hS
    generalize ns.getD k 0 = z0 at e0
    generalize ns.getD (k + 1) 0 = z1 at e1
    have q12 : (10 : Int) ^ Int.toNat 12 = 1000000000000 := by decide
    have q30 : (10 : Int) ^ Int.toNat 30 = 1000000000000000000000000000000 := by decide
    have q80 : (1 : Int) * 2 ^ Int.toNat 80 = 1208925819614629174706176 := by decide
    have b0 : 0 ≤ z0 % 1000000000000 ∧ z0 % 1000000000000 < 1000000000000 := by omega
    walk_at "sts"
    rw [q12]
    walk_at "sts"
    rw [q80]
    obtain ⟨M, hM, hM2⟩ := modN (z0 % 1000000000000 * 48271) (n := 1208925819614629174706176) (by decide)
    rw [show ((1208925819614629174706176 : Nat) : Int) = 1208925819614629174706176 from rfl] at hM
    rw [hM]
    dsimp only
    refine w_cut (fun σ' H2 => ∃ m : Nat, σ' = [some (.ref a), some (.ref pa), some (.int (k : Nat)), some (.int (m : Nat))] ∧ H2 = H' ∧ m < 2 ^ 80) ?_ ?_
    · walk_at "sts"
      refine ifd (fun hc => ?_) (fun hc => ?_)
      · walk_at "sts"
        obtain ⟨n, hn1, hn2⟩ := modN z1 (n := 80) (by decide)
        rw [show ((80 : Nat) : Int) = 80 from rfl] at hn1
        rw [hn1]
        walk_at "sts"
        rw [shl_one]
        exact ⟨2 ^ n, rfl, rfl, Nat.pow_lt_pow_right (by decide) hn2⟩
      · walk_at "sts"
        exact ⟨M, rfl, rfl, hM2⟩
    rintro σ' H2 ⟨m', rfl, rfl, hm'⟩
    obtain ⟨xs, hxs, hxl⟩ := hP.len
    obtain ⟨t, ht1, ht2⟩ := modN (z1 / 80) (n := 1000000000000000000000000000000) (by decide)
    rw [show ((1000000000000000000000000000000 : Nat) : Int) = 1000000000000000000000000000000 from rfl] at ht1
    have hsz : xs.length < sizeLine := szlt (by omega)
    walk_at "sts"
    rw [q30]
    walk_at "sts"
    rw [ht1]
    rw [show (1 : Int) + (t : Int) = ((t + 1 : Nat) : Int) by omega]
    refine w_new fun pt nt => ?_
    have st := same_upd (o := .tup [.int (m' : Nat), .int ((t + 1 : Nat) : Int)]) nt
    have lt : upd H2 pt (.tup [.int (m' : Nat), .int ((t + 1 : Nat) : Int)]) pt = some (.tup [.int (m' : Nat), .int ((t + 1 : Nat) : Int)]) := upd_same
    generalize upd H2 pt (.tup [.int (m' : Nat), .int ((t + 1 : Nat) : Int)]) = H4 at st lt ⊢
    have hxs4 := st _ _ hxs
    walk_at "sts"
    refine ⟨_, _, ps ++ [(m', t + 1)], rfl, (s1.trans st).mut na, hP.put hxs st lt, by rw [List.length_append, hpl]; rfl, fun u hu => ?_⟩
    rcases List.mem_append.mp hu with hu | hu
    · exact hps u hu
    · rw [List.mem_singleton.mp hu]
      exact ⟨hm', by show t + 1 < _; omega⟩
  · rintro σ H' ⟨y2, y3, ps, rfl, s1, hP, hpl, hps⟩
    walk_at "sts"
    have hm33 : ps.length ≤ 10 := by
      rcases Nat.lt_or_ge 10 ps.length with h | h
      · have := (hmt 10).mp (by omega)
        omega
      · exact h
    exact q pa H' ps s1 na hP hm33 hps
def spLSign (K : PySem.W.Frag) : Sp := fun vs H Q _ => ∃ (text : List Nat) (way cell : Int) (at_ : Nat), vs = [.str (tS text), .int way, .int (at_ : Nat), .int cell] ∧ text ≠ [] ∧ text.length ≤ 100000 ∧ ∀ u : List Nat, u.length ≤ 2 * text.length + 1 → Q (.str (tS u)) H
theorem ok_law_sign_spoiled {f : Addr} {fd : FuncData} (F : Fun K "_law_sign_spoiled" "_law_sign_spoiled" s_law_sign_spoiled f fd) (gf : mg "_law_sign_spoiled" = some (.ref f)) (B : Bl mg) {C_BadText C_FloorError : Addr} (T : Txt K mg C_BadText C_FloorError) : Has P w K mg base CX0 1 "_law_sign_spoiled" ["text", "way", "at", "cell"] (spLSign K) := by
  refine Has.mk' F gf (F.binds (ps := ["text", "way", "at", "cell"]) fun _ _ _ _ _ _ us hl => match us, hl with | [_, _, _, _], _ => rfl) sc_law_sign_spoiled (by walk_at "len") (fun cdv A outer s H vs Q E hr h => ?_)
  obtain ⟨text, way, cell, at_, rfl, hne, hsz, q⟩ := h
  have hz : text.length ≤ sizeLine := by rw [sizeLine_eq]; omega
  have hp : 0 < text.length := List.length_pos_iff.mpr hne
  refine ⟨_, (pss_cons (ps_set (i := 4) sc_law_sign_spoiled.nd rfl (.inl rfl) pe_str)
 (pss_cons (ps_set (i := 5) sc_law_sign_spoiled.nd rfl (.inl rfl) (pe_ix ix_str (pv 4) (pe_op op_mod (pv 3) (pe_callB call_len_str (by rfl) B.len (by decide +kernel) (pa_cons (pv 4) pa_nil))) (fun _ _ => rfl)))
 (pss_cons (ps_set (i := 6) sc_law_sign_spoiled.nd rfl (.inl rfl) (pe_op op_mod (pv 2) (pe_callB call_len_str (by rfl) B.len (by decide +kernel) (pa_cons (pv 0) pa_nil))))
 (pss_cons (ps_if (pt_cmpR op_eq (pv 1) pe_int (nomark _)) (pss_one (ps_ret (pe_op op_add_str (pe_slice sl_str (pv 0) po_none (po_some (pv 6))) (pe_slice sl_str (pv 0) (po_some (pe_op op_add (pv 6) pe_int)) po_none)))) pss_nil)
 (pss_cons (ps_if (pt_cmpR op_eq (pv 1) pe_int (nomark _)) (pss_one (ps_ret (pe_op op_add_str (pe_op op_add_str (pe_slice sl_str (pv 0) po_none (po_some (pv 6))) (pv 5)) (pe_slice sl_str (pv 0) (po_some (pv 6)) po_none)))) pss_nil)
 (pss_cons (ps_if (pt_cmpR op_eq (pv 1) pe_int (nomark _)) (pss_one (ps_ret (pe_op op_add_str (pe_op op_add_str (pe_slice sl_str (pv 0) po_none (po_some (pv 6))) (pv 5)) (pe_slice sl_str (pv 0) (po_some (pe_op op_add (pv 6) pe_int)) po_none)))) pss_nil)
 (pss_one (ps_ret (pe_slice sl_str (pv 0) po_none (po_some (pv 6))))))))))), ?_⟩
  walk_at "sts"
  obtain ⟨mn, hmn, hml⟩ : ∃ l, Str.ofString "0123456789 -_wdhopl+\n" = tS l ∧ l.length = 21 := ⟨_, tL_lit _, by decide⟩
  rw [hmn]
  have hmz : mn.length ≤ sizeLine := by rw [sizeLine_eq]; omega
  refine ⟨tS mn, rfl, by rw [tS_len]; exact hmz, ?_⟩
  rw [tS_len, hml]
  walk_at "sts"
  obtain ⟨j, hj1, hj2⟩ := modN cell (n := 21) (by decide)
  rw [show ((21 : Nat) : Int) = 21 from rfl] at hj1 ⊢
  rw [hj1]
  refine w_ixS hmz (atI_nat (v := mn.getD j 0) (by rw [List.getD_eq_getElem?_getD, List.getElem?_eq_getElem (by omega)]; rfl)) ?_
  walk_at "sts"
  refine ⟨tS text, rfl, by rw [tS_len]; exact hz, ?_⟩
  rw [tS_len]
  walk_at "sts"
  have hzT : (tS text).length ≤ sizeLine := by rw [tS_len]; exact hz
  have hcl : ∀ lo hi, (cutS (tS text) lo hi).length ≤ text.length := fun lo hi => by have := cutS_length (tS text) lo hi; rwa [tS_len] at this
  have hfin : ∀ z : Str, z.length ≤ 2 * text.length + 1 → Q (.str z) H := fun z hz2 => by
    rw [str_tS z]
    exact q _ (by rw [str_len]; exact hz2)
  have h1s : ∀ c, (tS [c]).length = 1 := fun c => by rw [tS_len]; rfl
  refine ifd (fun c1 => ?_) (fun c1 => ?_)
  · walk_at "sts"
    refine w_slS hzT ?_
    walk_at "sts"
    refine w_slS hzT ?_
    refine w_2s ⟨?_, ?_⟩
    · have h1 := hcl none (some ((at_ : Int) % (text.length : Int)))
      have h2 := hcl (some ((at_ : Int) % (text.length : Int) + 1)) none
      rw [sizeLine_eq]
      omega
    · refine hfin _ ?_
      have h1 := hcl none (some ((at_ : Int) % (text.length : Int)))
      have h2 := hcl (some ((at_ : Int) % (text.length : Int) + 1)) none
      rw [length_app]
      omega
  walk_at "sts"
  refine ifd (fun c2 => ?_) (fun c2 => ?_)
  · walk_at "sts"
    refine w_slS hzT ?_
    have h1 := hcl none (some ((at_ : Int) % (text.length : Int)))
    have h2 := hcl (some ((at_ : Int) % (text.length : Int))) none
    have h3 := h1s (mn.getD j 0)
    walk_at "sts"
    refine w_2s ⟨?_, ?_⟩
    · rw [sizeLine_eq]
      omega
    walk_at "sts"
    refine w_slS hzT ?_
    refine w_2s ⟨?_, ?_⟩
    · rw [length_app, sizeLine_eq]
      omega
    · refine hfin _ ?_
      rw [length_app, length_app]
      omega
  walk_at "sts"
  refine ifd (fun c3 => ?_) (fun c3 => ?_)
  · walk_at "sts"
    refine w_slS hzT ?_
    have h1 := hcl none (some ((at_ : Int) % (text.length : Int)))
    have h2 := hcl (some ((at_ : Int) % (text.length : Int) + 1)) none
    have h3 := h1s (mn.getD j 0)
    walk_at "sts"
    refine w_2s ⟨?_, ?_⟩
    · rw [sizeLine_eq]
      omega
    walk_at "sts"
    refine w_slS hzT ?_
    refine w_2s ⟨?_, ?_⟩
    · rw [length_app, sizeLine_eq]
      omega
    · refine hfin _ ?_
      rw [length_app, length_app]
      omega
  walk_at "sts"
  refine w_slS hzT ?_
  refine hfin _ ?_
  have h1 := hcl none (some ((at_ : Int) % (text.length : Int)))
  omega
def spLRowS (K : PySem.W.Frag) : Sp := fun vs H Q _ => ∃ (text : List Nat) (way : Int) (at_ : Nat), vs = [.str (tS text), .int way, .int (at_ : Nat)] ∧ 10 ∈ text ∧ text.length ≤ 50000 ∧ ∀ (u : List Nat) H', Same H H' → u.length ≤ 2 * text.length + 2 → Q (.str (tS u)) H'
theorem ok_law_row_spoiled {f : Addr} {fd : FuncData} (F : Fun K "_law_row_spoiled" "_law_row_spoiled" s_law_row_spoiled f fd) (gf : mg "_law_row_spoiled" = some (.ref f)) (B : Bl mg) {C_BadText C_FloorError : Addr} (T : Txt K mg C_BadText C_FloorError) : Has P w K mg base CX0 1 "_law_row_spoiled" ["text", "way", "at"] (spLRowS K) := by
  refine Has.mk' F gf (F.binds (ps := ["text", "way", "at"]) fun _ _ _ _ _ _ us hl => match us, hl with | [_, _, _], _ => rfl) sc_law_row_spoiled (by walk_at "len") (fun cdv A outer s H vs Q E hr h => ?_)
  obtain ⟨text, way, at_, rfl, hne, hsz, q⟩ := h
  refine ⟨_, (pss_cons (ps_set (i := 3) sc_law_row_spoiled.nd rfl (.inl rfl) (pe_split (pv 0) pe_str))
 (pss_cons (ps_set (i := 4) sc_law_row_spoiled.nd rfl (.inl rfl) (pe_op op_mod (pv 2) (pe_op op_sub (pe_callB (call_lenK K) (by rfl) B.len (by decide +kernel) (pa_cons (pv 3) pa_nil)) pe_int)))
 (pss_cons (ps_if (pt_cmpR op_eq (pv 1) pe_int (nomark _)) (pss_one (ps_expr (pe_bmK K (pe_bm PySem.F.plainAttrs_list PySem.F.slot_list_pop PySem.F.type_list_pop mt_popAt (pv 3) (pa_cons (pv 4) pa_nil))))) pss_nil)
 (pss_cons (ps_if (pt_cmpR op_eq (pv 1) pe_int (nomark _)) (pss_one (ps_expr (pe_bmK K (pe_bm PySem.F.plainAttrs_list PySem.F.slot_list_insert PySem.F.type_list_insert mt_insert (pv 3) (pa_cons (pv 4) (pa_cons (pe_ix (ix_listK K) (pv 3) (pv 4) (fun _ _ => rfl)) pa_nil)))))) pss_nil)
 (pss_cons (ps_if (pt_cmpR op_eq (pv 1) pe_int (nomark _)) (pss_one (ps_expr (pe_bmK K (pe_bm PySem.F.plainAttrs_list PySem.F.slot_list_insert PySem.F.type_list_insert mt_insert (pv 3) (pa_cons (pe_op op_add (pv 4) pe_int) (pa_cons (pe_bmK K (pe_bm PySem.F.plainAttrs_list PySem.F.slot_list_pop PySem.F.type_list_pop mt_popAt (pv 3) (pa_cons (pv 4) pa_nil))) pa_nil)))))) pss_nil)
 (pss_one (ps_ret (pe_joinK K pe_str (pv 3))))))))), ?_⟩
  walk_at "sts"
  refine w_m1 ?_
  walk_at "sts"
  refine w_isS ?_
  walk_at "sts"
  rw [show Str.ofString "\n" = tS [10] from tL_lit _]
  refine w_split (by decide) (by decide) (by rw [sizeLine_eq]; omega) fun p1 n1 => ?_
  have hm := mR_spl text []
  rw [List.length_nil, Nat.zero_add] at hm
  have h2 := spl_two text [] hne
  generalize spl [10] 0 [] text = ws at hm h2 ⊢
  have s1 := same_upd (o := .lst (sv ws)) n1
  have l1 : upd H p1 (.lst (sv ws)) p1 = some (.lst (sv ws)) := upd_same
  generalize upd H p1 (.lst (sv ws)) = H1 at s1 l1 ⊢
  have l1s := SqL.of (K := K) l1
  have hsl := sv_len ws
  walk_at "sts"
  obtain ⟨k, hk, hkl⟩ : ∃ k : Nat, (at_ : Int) % (((sv ws).length : Nat) - 1 : Int) = (k : Nat) ∧ k + 1 < ws.length := by
    have a1 := Int.emod_nonneg (at_ : Int) (show (((sv ws).length : Nat) - 1 : Int) ≠ 0 by omega)
    have a2 := Int.emod_lt_of_pos (at_ : Int) (show 0 < (((sv ws).length : Nat) - 1 : Int) by omega)
    exact ⟨((at_ : Int) % (((sv ws).length : Nat) - 1 : Int)).toNat, by omega, by omega⟩
  rw [hk]
  have hmany := mR_many ws
  have hk2 := sv_at (ws := ws) (i := k) (by omega)
  have hdel := mR_del ws k (by omega)
  generalize ws.getD k [] = row at hk2 hdel
  have hsz2 : (sv ws).length < sizeLine := szlt (by rw [hsl]; omega)
  have fin : ∀ {vs : List (List Nat)} {H' : Hp}, Same H H' → H' p1 = some (.lst (sv vs)) → mR vs ≤ 2 * text.length + 2 → rJoin K (.str (tS [10])) [.ref p1] H' Q := fun {vs H'} s l hb => by
    refine w_join (SqL.of l) (by rw [show [10].length = 1 from rfl, mR_len]; omega) (q _ H' s (Nat.le_trans (mR_join vs) hb))
  refine ifd (fun c5 => ?_) (fun c5 => ?_)
  · subst c5
    walk_at "sts"
    refine ⟨p1, _, _, k, _, rfl, rfl, l1, by omega, by omega, seq_in (by omega), hk2, ?_⟩
    rw [← sv_del]
    have s2 : Same H (upd H1 p1 (.lst (sv (ws.eraseIdx k)))) := s1.mut n1
    have l2 : upd H1 p1 (.lst (sv (ws.eraseIdx k))) p1 = some (.lst (sv (ws.eraseIdx k))) := upd_same
    generalize upd H1 p1 (.lst (sv (ws.eraseIdx k))) = H2 at s2 l2 ⊢
    walk_at "sts"
    refine w_m1 ?_
    walk_at "sts"
    refine w_isS ?_
    walk_at "sts"
    exact fin s2 l2 (by omega)
  walk_at "sts"
  refine ifd (fun c6 => ?_) (fun c6 => ?_)
  · subst c6
    walk_at "sts"
    rw [Int.toNat_natCast, sv_ins]
    have hins := mR_ins ws k row
    have s2 : Same H (upd H1 p1 (.lst (sv (ws.take k ++ row :: ws.drop k)))) := s1.mut n1
    have l2 : upd H1 p1 (.lst (sv (ws.take k ++ row :: ws.drop k))) p1 = some (.lst (sv (ws.take k ++ row :: ws.drop k))) := upd_same
    generalize upd H1 p1 (.lst (sv (ws.take k ++ row :: ws.drop k))) = H2 at s2 l2 ⊢
    walk_at "sts"
    refine w_m1 ?_
    walk_at "sts"
    refine w_isS ?_
    walk_at "sts"
    exact fin s2 l2 (by omega)
  walk_at "sts"
  refine ifd (fun c7 => ?_) (fun c7 => ?_)
  · subst c7
    walk_at "sts"
    refine ⟨p1, _, _, k, _, rfl, rfl, l1, by omega, by omega, seq_in (by omega), hk2, ?_⟩
    rw [← sv_del]
    have s2 : Same H (upd H1 p1 (.lst (sv (ws.eraseIdx k)))) := s1.mut n1
    have l2 : upd H1 p1 (.lst (sv (ws.eraseIdx k))) p1 = some (.lst (sv (ws.eraseIdx k))) := upd_same
    generalize upd H1 p1 (.lst (sv (ws.eraseIdx k))) = H2 at s2 l2 ⊢
    have hm2 := mR_many (ws.eraseIdx k)
    have hins := mR_ins (ws.eraseIdx k) (k + 1) row
    walk_at "sts"
    refine ⟨p1, _, (k : Int) + 1, _, rfl, rfl, l2, szlt (by rw [sv_len]; omega), by omega, by omega, ?_⟩
    rw [show ((k : Int) + 1).toNat = k + 1 by omega, sv_ins]
    have s3 : Same H (upd H2 p1 (.lst (sv ((ws.eraseIdx k).take (k + 1) ++ row :: (ws.eraseIdx k).drop (k + 1))))) := s2.mut n1
    have l3 : upd H2 p1 (.lst (sv ((ws.eraseIdx k).take (k + 1) ++ row :: (ws.eraseIdx k).drop (k + 1)))) p1 = some (.lst (sv ((ws.eraseIdx k).take (k + 1) ++ row :: (ws.eraseIdx k).drop (k + 1)))) := upd_same
    generalize upd H2 p1 (.lst (sv ((ws.eraseIdx k).take (k + 1) ++ row :: (ws.eraseIdx k).drop (k + 1)))) = H3 at s3 l3 ⊢
    walk_at "sts"
    refine w_m1 ?_
    walk_at "sts"
    refine w_isS ?_
    walk_at "sts"
    exact fin s3 l3 (by omega)
  walk_at "sts"
  refine w_m1 ?_
  walk_at "sts"
  refine w_isS ?_
  walk_at "sts"
  exact fin s1 l1 (by omega)
def spLTold (K : PySem.W.Frag) (CB : Addr) : Sp := fun vs H Q _ => ∃ (text : List Nat), vs = [.str (tS text)] ∧ text.length ≤ 100000 ∧
  (∀ c l ps, readM text = .inr (c, l, ps) → ∀ p pp pa H', Same H H' → New H p → H' p = some (.tup [.ref pp, .non, .bl false]) → H' pp = some (.tup [.int (c : Nat), .int (l : Nat), .ref pa]) → PapX H' pa ps → Q (.ref p) H') ∧
  (∀ a, readM text = .inl a → ∀ p H', Same H H' → New H p → H' p = some (.tup [.non, .int (a : Nat), .bl true]) → Q (.ref p) H')
theorem ok_law_told {f : Addr} {fd : FuncData} (F : Fun K "_law_told" "_law_told" s_law_told f fd) (gf : mg "_law_told" = some (.ref f)) (B : Bl mg) {C_BadText C_FloorError : Addr} (T : Txt K mg C_BadText C_FloorError) (h_taken : Has P w K mg base (L2.CX P w) 6 "taken" ["text"] (spTakenX K C_BadText)) : Has P w K mg base CX0 7 "_law_told" ["text"] (spLTold K C_BadText) := by
  refine Has.mk' F gf (F.binds (ps := ["text"]) fun _ _ _ _ _ _ us hl => match us, hl with | [_], _ => rfl) sc_law_told (by walk_at "len") (fun cdv A outer s H vs Q E hr h => ?_)
  obtain ⟨text, rfl, hsz, q, qe⟩ := h
  refine ⟨_, (pss_cons (ps_set (i := 1) sc_law_told.nd rfl (.inl rfl) pe_non)
 (pss_cons (ps_set (i := 2) sc_law_told.nd rfl (.inl rfl) pe_non)
 (pss_cons (ps_set (i := 3) sc_law_told.nd rfl (.inl rfl) pe_bl)
 (pss_cons (ps_try_as (i := 4) rfl rfl sc_law_told.nd rfl rfl ⟨rfl, by decide, .inl T.g_BadText⟩ takes0 (fun W pn xe tk pw => (pss_one (ps_set (i := 1) sc_law_told.nd rfl (.inl rfl) (pe_fnS tk h_taken (hr.mono (by decide)) (by rfl) (pa_cons (pv 0) pa_nil))))) (fun a oe cls d pn hz hf => (pss_cons (ps_set (i := 2) sc_law_told.nd rfl (.inl rfl) (pe_xf T.xf_BadText.xf T.na_BadText hz hf (pv 4) rfl))
 (pss_one (ps_set (i := 3) sc_law_told.nd rfl (.inl rfl) (pe_and (pe_callB (call_isX K hz hf) (by rfl) B.isinstance (by decide +kernel) (pa_cons (pv 4) (pa_cons (pe_glob (v := .ref C_FloorError) (by rfl) T.g_FloorError rfl) pa_nil))) (pe_one (pe_callB (call_isX K hz hf) (by rfl) B.isinstance (by decide +kernel) (pa_cons (pv 4) (pa_cons (pe_bltn (v := .ty "ValueError") (by rfl) B.ValueError (by decide +kernel) rfl) pa_nil))))))))))
 (pss_one (ps_ret (pe_tup (pa_cons (pv 1) (pa_cons (pv 2) (pa_cons (pv 3) pa_nil)))))))))), ?_⟩
  walk_at "sts"
  refine ⟨text, rfl, hsz, fun c l ps hr p pa H' s1 n1 l1 hP => ?_, fun at_ hr d H' s1 nd => ?_⟩
  · walk_at "sts"
    refine w_new fun pt nt => ?_
    have st := same_upd (o := .tup [.ref p, .non, .bl false]) nt
    exact q c l ps hr pt p pa _ (s1.trans st) (nt.of s1) upd_same (st _ _ l1) (hP.same st)
  · refine ⟨true, T.xf_BadText.exm T.sb_BadText_BadText, fun _ a ha => ?_, fun z => nomatch z⟩
    walk_at "sts"
    refine ⟨rfl, rfl, d, _, .int at_, rfl, upd_same, rfl, ?_⟩
    walk_at "sts"
    refine w_isX T.xf_BadText T.xf_FloorError T.sb_BadText_FloorError (.inr ⟨d, _, rfl, upd_same⟩) ?_
    walk_at "sts"
    refine w_isXV T.xf_BadText (.inr ⟨d, _, rfl, upd_same⟩) ?_
    walk_at "sts"
    refine w_new fun pt nt => ?_
    exact qe at_ hr pt _ (s1.trans ((same_upd nd).trans (same_upd nt))) (nt.of (s1.trans (same_upd nd))) upd_same
end

open TL
section
variable {P : Program} {w : World} {K : PySem.W.Frag} {mg : Str → Option Value} {base : Heap} {C_BadText C_FloorError : Addr}
def spTriple (K : PySem.W.Frag) : Sp := fun vs H Q _ => ∃ (p pa : Addr) (v : V) (c l : Nat) (ps : List (Nat × Nat)), vs = [.ref p, v] ∧ H p = some (.tup [.int (c : Nat), .int (l : Nat), .ref pa]) ∧ PapX H pa ps ∧ Dp K H v (dAns c l ps) ∧ ∀ H', Same H H' → Q (.bl true) H'
theorem ok_law_triple {f : Addr} {fd : FuncData} (F : Fun K "_law_triple" "_law_triple" s_law_triple f fd) (gf : mg "_law_triple" = some (.ref f)) (B : Bl mg) {C_BadText C_FloorError : Addr} (T : Txt K mg C_BadText C_FloorError) (h_law_whole : Has P w K mg base CX0 1 "_law_whole" ["found"] spIsInt) : Has P w K mg base CX0 2 "_law_triple" ["found", "due"] (spTriple K) := by
  refine Has.mk' F gf (F.binds (ps := ["found", "due"]) fun _ _ _ _ _ _ us hl => match us, hl with | [_, _], _ => rfl) sc_law_triple (by walk_at "len") (fun cdv A outer s H vs Q E hr h => ?_)
  obtain ⟨p, pa, v, c, l, ps, rfl, hp, hP, hD, q⟩ := h
  obtain ⟨ts, rfl, hpa, hts⟩ := id hP
  have hps := SqT.of (K := K) hp
  have hpas := SqL.of (K := K) hpa
  refine ⟨_, (pss_cons (ps_if (PW.pt (pw_or (pt_not (pt_val (pe_callB (call_isiK' K) (by rfl) B.isinstance (by decide +kernel) (pa_cons (pv 0) (pa_cons (pe_bltn (v := .ty "tuple") (by rfl) B.tuple (by decide +kernel) rfl) pa_nil))))) (pw_or (pt_cmpR op_ne (pe_callB (call_lenK K) (by rfl) B.len (by decide +kernel) (pa_cons (pv 0) pa_nil)) pe_int (nomark _)) (pw_or1 (pt_not (pt_val (pe_callB (call_isiK' K) (by rfl) B.isinstance (by decide +kernel) (pa_cons (pe_ix (ix_tupK K) (pv 0) pe_int (fun _ _ => rfl)) (pa_cons (pe_bltn (v := .ty "list") (by rfl) B.list (by decide +kernel) rfl) pa_nil))))))))) (pss_one (ps_ret pe_bl)) pss_nil)
 (pss_cons (ps_if (PW.pt (pw_or (pt_not (pt_val (pe_fn h_law_whole (hr.mono (by decide)) (by rfl) (pa_cons (pe_ix (ix_tupK K) (pv 0) pe_int (fun _ _ => rfl)) pa_nil)))) (pw_or1 (pt_not (pt_val (pe_fn h_law_whole (hr.mono (by decide)) (by rfl) (pa_cons (pe_ix (ix_tupK K) (pv 0) pe_int (fun _ _ => rfl)) pa_nil))))))) (pss_one (ps_ret pe_bl)) pss_nil)
 (pss_cons (ps_for PassesOwn.never rfl (pi_listK K (pe_ix (ix_tupK K) (pv 0) pe_int (fun _ _ => rfl))) (pg_name (i := 2) sc_law_triple.nd rfl (.inl rfl)) (pss_one (ps_if (PW.pt (pw_or (pt_not (pt_val (pe_callB (call_isiK' K) (by rfl) B.isinstance (by decide +kernel) (pa_cons (pv 2) (pa_cons (pe_bltn (v := .ty "tuple") (by rfl) B.tuple (by decide +kernel) rfl) pa_nil))))) (pw_or (pt_cmpR op_ne (pe_callB (call_lenK K) (by rfl) B.len (by decide +kernel) (pa_cons (pv 2) pa_nil)) pe_int (nomark _)) (pw_or (pt_not (pt_val (pe_fn h_law_whole (hr.mono (by decide)) (by rfl) (pa_cons (pe_ix (ix_tupK K) (pv 2) pe_int (fun _ _ => rfl)) pa_nil)))) (pw_or1 (pt_not (pt_val (pe_fn h_law_whole (hr.mono (by decide)) (by rfl) (pa_cons (pe_ix (ix_tupK K) (pv 2) pe_int (fun _ _ => rfl)) pa_nil))))))))) (pss_one (ps_ret pe_bl)) pss_nil)))
 (pss_one (ps_ret (pe_cmpR (op_eqDK K hr.units) (pv 0) (pv 1) (nomark _))))))), ?_⟩
  walk_at "sts"
  refine ⟨_, rfl, ?_⟩
  walk_at "sts"
  refine ⟨_, rfl, ?_⟩
  walk_at "sts"
  refine ⟨_, rfl, ?_⟩
  walk_at "sts"
  refine for_list (xs := ts.map fun t => V.ref t.1) (fun i σ H' => ∃ y : Option V, σ = [some (.ref p), some v, y] ∧ H' = H) ?_ ?_ ?_ ?_
  · exact ⟨_, rfl, rfl⟩
  · rintro i σ H' _ ⟨_, _, rfl⟩
    exact hpas
  · rintro i x σ H' hx ⟨y, rfl, rfl⟩
    have hi : i < ts.length := by
      have := (List.getElem?_eq_some_iff.mp hx).1
      rwa [List.length_map] at this
    have ht := hts _ (List.getElem_mem hi)
    rw [List.getElem?_map, List.getElem?_eq_getElem hi] at hx
    injection hx with hx
    subst hx
    have hts2 := SqT.of (K := K) ht
    walk_at "sts"
    refine ifnd (fun h => absurd rfl h) (fun _ => ?_)
    walk_at "sts"
    refine ⟨_, rfl, ?_⟩
    walk_at "sts"
    refine ⟨_, rfl, ?_⟩
    walk_at "sts"
    exact ⟨_, rfl, rfl⟩
  rintro σ H' ⟨y, rfl, rfl⟩
  have hD2 : Dp K H' (.ref p) (dAns c l (ts.map fun t => t.2)) := .tup hps (.cons (.int _) (.cons (.int _) (.cons hP.dp .nil)))
  walk_at "sts"
  refine w_eqD hD2 hD (goodAns _ _ _) (by decide) ?_
  exact q _ (Same.refl _)
end

open TL
theorem shownT_len {c l : Nat} {ps : List (Nat × Nat)} (hc : c < 10 ^ 41) (hp : ∀ t ∈ ps, t.2 < 10 ^ 41) (hl : ps.length ≤ 10) : (shownT c l ps).length ≤ 48012 := by
  unfold shownT
  rw [mR_endL]
  refine Nat.le_trans (mR_le _ (rowsT_len hc hp)) ?_
  unfold rowsT
  rw [List.length_append, List.length_map, List.length_cons, List.length_cons, List.length_nil]
  omega
theorem shownT_ten (c l : Nat) (ps : List (Nat × Nat)) : 10 ∈ shownT c l ps := by
  unfold shownT rowsT endL
  simp
section
variable {P : Program} {w : World} {K : PySem.W.Frag} {mg : Str → Option Value} {base : Heap} {C_BadText C_FloorError : Addr}
theorem ok_law {f : Addr} {fd : FuncData} (F : Fun K "law" "law" s_law f fd) (B : Bl mg) {C_BadText C_FloorError : Addr} (T : Txt K mg C_BadText C_FloorError) (h_law_shown : Has P w K mg base CX0 1 "_law_shown" ["cost", "laying", "paper"] (spLShown K)) (h_law_read : Has P w K mg base CX0 3 "_law_read" ["text"] (spLRead K)) (h_law_told : Has P w K mg base CX0 7 "_law_told" ["text"] (spLTold K C_BadText)) (h_law_paper : Has P w K mg base CX0 1 "_law_paper" ["script"] (spLPaper K)) (h_law_cell : Has P w K mg base CX0 1 "_law_cell" ["script", "k"] (spCell K)) (h_law_sign_spoiled : Has P w K mg base CX0 1 "_law_sign_spoiled" ["text", "way", "at", "cell"] (spLSign K)) (h_law_row_spoiled : Has P w K mg base CX0 1 "_law_row_spoiled" ["text", "way", "at"] (spLRowS K)) (h_law_triple : Has P w K mg base CX0 2 "_law_triple" ["found", "due"] (spTriple K)) (h_law_whole : Has P w K mg base CX0 1 "_law_whole" ["found"] spIsInt) : FnOk P w K mg base CX0 8 f fd ["script"] (spLaw K) := by
  refine F.ok sc_law (by walk_at "len") (fun cdv A outer s H vs Q E hr h => ?_)
  obtain ⟨a, ns, rfl, hS, hlen, _, q⟩ := h
  have hS0 := hS.sq
  have q40 : (10 : Int) ^ Int.toNat 40 = 10000000000000000000000000000000000000000 := by decide
  have q39 : (10 : Int) ^ Int.toNat 39 = 1000000000000000000000000000000000000000 := by decide
  have q30 : (10 : Int) ^ Int.toNat 30 = 1000000000000000000000000000000 := by decide
  have q4 : (1 : Int) * 2 ^ Int.toNat 40 = 1099511627776 := by decide
  refine ⟨_, (pss_cons (ps_set (i := 1) sc_law.nd rfl (.inl rfl) (pe_op op_mulX (pe_op op_mod (pe_fn h_law_cell (hr.mono (by decide)) (by rfl) (pa_cons (pv 0) (pa_cons pe_int pa_nil))) (pe_op op_pow pe_int pe_int)) pe_int))
 (pss_cons (ps_set (i := 2) sc_law.nd rfl (.inl rfl) (pe_op op_mod (pe_op op_xor (pv 1) (pe_op op_shr (pv 1) pe_int)) (pe_op op_shlW pe_int pe_int)))
 (pss_cons (ps_set (i := 3) sc_law.nd rfl (.inl rfl) (pe_fn h_law_shown (hr.mono (by decide)) (by rfl) (pa_cons (pe_op op_mod (pe_fn h_law_cell (hr.mono (by decide)) (by rfl) (pa_cons (pv 0) (pa_cons pe_int pa_nil))) (pe_op op_pow pe_int pe_int)) (pa_cons (pv 2) (pa_cons (pe_fn h_law_paper (hr.mono (by decide)) (by rfl) (pa_cons (pv 0) pa_nil)) pa_nil)))))
 (pss_cons (ps_set (i := 4) sc_law.nd rfl (.inl rfl) (pe_op op_mod (pe_fn h_law_cell (hr.mono (by decide)) (by rfl) (pa_cons (pv 0) (pa_cons pe_int pa_nil))) pe_int))
 (pss_cons (ps_set (i := 5) sc_law.nd rfl (.inl rfl) (pe_op op_mod (pe_fn h_law_cell (hr.mono (by decide)) (by rfl) (pa_cons (pv 0) (pa_cons pe_int pa_nil))) pe_int))
 (pss_cutX (ps_if (PW.pt (pw_and (pt_cmpR op_le pe_int (pv 4) (nomark _)) (pw_and1 (pt_cmpR op_le (pv 4) pe_int (nomark _))))) (pss_one (ps_set (i := 3) sc_law.nd rfl (.inl rfl) (pe_fn h_law_sign_spoiled (hr.mono (by decide)) (by rfl) (pa_cons (pv 3) (pa_cons (pv 4) (pa_cons (pv 5) (pa_cons (pe_fn h_law_cell (hr.mono (by decide)) (by rfl) (pa_cons (pv 0) (pa_cons pe_int pa_nil))) pa_nil))))))) pss_nil)
 (pss_cutX (ps_if (PW.pt (pw_and (pt_cmpR op_le pe_int (pv 4) (nomark _)) (pw_and1 (pt_cmpR op_le (pv 4) pe_int (nomark _))))) (pss_one (ps_set (i := 3) sc_law.nd rfl (.inl rfl) (pe_fn h_law_row_spoiled (hr.mono (by decide)) (by rfl) (pa_cons (pv 3) (pa_cons (pv 4) (pa_cons (pv 5) pa_nil)))))) pss_nil)
 (pss_cutX (ps_if (pt_cmpR op_eq (pv 4) pe_int (nomark _)) (pss_cons (ps_set (i := 6) sc_law.nd rfl (.inl rfl) (pe_lst (pa_cons pe_str (pa_cons pe_str (pa_cons pe_str (pa_cons (pe_op op_add_str (pe_op op_add_str pe_str (pe_op op_mulS pe_str pe_int)) pe_str) (pa_cons pe_str (pa_cons pe_str (pa_cons pe_str pa_nil)))))))))
 (pss_one (ps_set (i := 3) sc_law.nd rfl (.inl rfl) (pe_op op_add_str (pe_op op_add_str (pv 3) (pe_ix (ix_listK K) (pv 6) (pe_op op_mod (pv 5) (pe_callB (call_lenK K) (by rfl) B.len (by decide +kernel) (pa_cons (pv 6) pa_nil))) (fun _ _ => rfl))) pe_str)))) pss_nil)
 (pss_cutX (ps_if (pt_cmpR op_eq (pv 4) pe_int (nomark _)) (pss_one (ps_set (i := 3) sc_law.nd rfl (.inl rfl) (pe_op op_add_str (pe_op op_add_str pe_str (pe_callTy call_str_int (by rfl) B.str (by decide +kernel) (pa_cons (pe_op op_add (pe_ix (ix_listK K) (pe_lst (pa_cons (pe_op op_pow pe_int pe_int) (pa_cons (pe_op op_pow pe_int pe_int) pa_nil))) (pe_op op_mod (pv 5) pe_int) (fun _ _ => rfl)) (pv 5)) pa_nil))) (pe_slice sl_str (pv 3) (po_some (pe_bmK K (pe_bm PySem.F.plainAttrs_str PySem.F.slot_str_index PySem.F.type_str_index mt_sindex (pv 3) (pa_cons pe_str pa_nil)))) po_none)))) pss_nil)
 (pss_cons (ps_set (i := 7) sc_law.nd rfl (.inl rfl) (pe_fn h_law_read (hr.mono (by decide)) (by rfl) (pa_cons (pv 3) pa_nil)))
 (pss_cons (ps_set (i := 8) sc_law.nd rfl (.inl rfl) (pe_fn h_law_told (hr.mono (by decide)) (by rfl) (pa_cons (pv 3) pa_nil)))
 (pss_cons (ps_if (pt_val (pe_callB (call_isiK' K) (by rfl) B.isinstance (by decide +kernel) (pa_cons (pv 7) (pa_cons (pe_bltn (v := .ty "int") (by rfl) B.int (by decide +kernel) rfl) pa_nil)))) (pss_one (ps_ret (pe_and (pe_ix (ix_tupK K) (pv 8) pe_int (fun _ _ => rfl)) (pe_and (pe_fn h_law_whole (hr.mono (by decide)) (by rfl) (pa_cons (pe_ix (ix_tupK K) (pv 8) pe_int (fun _ _ => rfl)) pa_nil)) (pe_one (pe_cmpR op_eq (pe_ix (ix_tupK K) (pv 8) pe_int (fun _ _ => rfl)) (pv 7) (nomark _))))))) pss_nil)
 (pss_one (ps_ret (pe_and (pe_cmpR op_isN (pe_ix (ix_tupK K) (pv 8) pe_int (fun _ _ => rfl)) pe_non (nomark _)) (pe_one (pe_fn h_law_triple (hr.mono (by decide)) (by rfl) (pa_cons (pe_ix (ix_tupK K) (pv 8) pe_int (fun _ _ => rfl)) (pa_cons (pv 7) pa_nil))))))))))))))))))), ?_⟩
  walk_at "sts"
  refine ⟨a, ns, 1, rfl, hS0, ?_⟩
  generalize ns.getD 1 0 = z1
  have b1 : 0 ≤ z1 % 1000000000000000000000000000000 ∧ z1 % 1000000000000000000000000000000 < 1000000000000000000000000000000 := by omega
  walk_at "sts"
  rw [q30]
  walk_at "sts"
  obtain ⟨x, hx⟩ : ∃ x : Nat, z1 % 1000000000000000000000000000000 * 2654435761 = (x : Nat) := ⟨(z1 % 1000000000000000000000000000000 * 2654435761).toNat, by omega⟩
  obtain ⟨l, hl, hl2⟩ := modN (Builtin.bitXor (x : Int) ((x : Int) / 2 ^ Int.toNat 19)) (n := 1099511627776) (by decide)
  rw [show ((1099511627776 : Nat) : Int) = 1099511627776 from rfl] at hl
  rw [hx, q4, hl]
  walk_at "sts"
  refine ⟨a, ns, 1, rfl, hS0, ?_⟩
  obtain ⟨c, hc, hc2⟩ := modN (ns.getD 1 0) (n := 1000000000000000000000000000000) (by decide)
  rw [show ((1000000000000000000000000000000 : Nat) : Int) = 1000000000000000000000000000000 from rfl] at hc
  walk_at "sts"
  rw [q30, hc]
  refine ⟨a, ns, rfl, hS0, by omega, fun pa H1 ps s1 na hP hpl hps => ?_⟩
  have hS1 := s1.seq hS0
  have hPd := hP.dp (K := K)
  walk_at "sts"
  refine ⟨pa, c, l, ps, rfl, hPd, Nat.lt_of_lt_of_le hc2 (by decide), hl2, hps, by omega, ?_⟩
  walk_at "sts"
  refine ⟨a, ns, 0, rfl, hS1, ?_⟩
  walk_at "sts"
  refine ⟨a, ns, 2, rfl, hS1, ?_⟩
  obtain ⟨at_, hat1, hat2⟩ := modN (ns.getD 2 0) (n := 1000003) (by decide)
  rw [show ((1000003 : Nat) : Int) = 1000003 from rfl] at hat1
  obtain ⟨way, hw1, hw2⟩ := modN (ns.getD 0 0) (n := 10) (by decide)
  rw [show ((10 : Nat) : Int) = 10 from rfl] at hw1
  walk_at "sts"
  rw [hat1, hw1]
  dsimp only
  have hT1 := shownT_len (c := c) (l := l) (ps := ps) (Nat.lt_of_lt_of_le hc2 (by decide)) (fun t ht => (hps t ht).2) hpl
  have hT2 := shownT_ten c l ps
  generalize shownT c l ps = T0 at hT1 hT2 ⊢
  have hTne : T0 ≠ [] := fun z => by rw [z] at hT2; cases hT2
  refine w_cut (fun σ' H' => ∃ u : List Nat, σ' = [some (.ref a), some (.int (x : Nat)), some (.int (l : Nat)), some (.str (tS u)), some (.int (way : Nat)), some (.int (at_ : Nat)), none, none, none] ∧ H' = H1 ∧ u.length ≤ 97000 ∧ (¬ (1 ≤ way ∧ way ≤ 4) → u = T0)) ?_ ?_
  · walk_at "sts"
    refine ifd (fun c1 => ?_) (fun c1 => ?_)
    · walk_at "sts"
      refine ifd (fun c2 => ?_) (fun c2 => ?_)
      · walk_at "sts"
        refine ⟨a, ns, 3, rfl, hS1, ?_⟩
        walk_at "sts"
        refine ⟨T0, way, _, at_, rfl, hTne, by omega, fun u hu => ?_⟩
        walk_at "sts"
        exact ⟨u, rfl, rfl, by omega, fun z => absurd ⟨by omega, by omega⟩ z⟩
      · walk_at "sts"
        exact ⟨T0, rfl, rfl, by omega, fun _ => rfl⟩
    · walk_at "sts"
      exact ⟨T0, rfl, rfl, by omega, fun _ => rfl⟩
  rintro σ' H' ⟨u1, rfl, rfl, hu1, hu1b⟩
  refine w_cut (fun σ' H2 => ∃ u : List Nat, σ' = [some (.ref a), some (.int (x : Nat)), some (.int (l : Nat)), some (.str (tS u)), some (.int (way : Nat)), some (.int (at_ : Nat)), none, none, none] ∧ Same H' H2 ∧ u.length ≤ 97000 ∧ (¬ (1 ≤ way ∧ way ≤ 7) → u = T0)) ?_ ?_
  · walk_at "sts"
    refine ifd (fun c1 => ?_) (fun c1 => ?_)
    · walk_at "sts"
      refine ifd (fun c2 => ?_) (fun c2 => ?_)
      · walk_at "sts"
        obtain rfl := hu1b (by omega)
        refine ⟨u1, way, at_, rfl, hT2, by omega, fun u H2 s2 hu => ?_⟩
        walk_at "sts"
        exact ⟨u, rfl, s2, by omega, fun z => absurd ⟨by omega, by omega⟩ z⟩
      · walk_at "sts"
        exact ⟨u1, rfl, Same.refl _, hu1, fun z => hu1b (by omega)⟩
    · walk_at "sts"
      exact ⟨u1, rfl, Same.refl _, hu1, fun z => hu1b (by omega)⟩
  rintro σ' H2 ⟨u2, rfl, s2, hu2, hu2b⟩
  refine w_cut (fun σ' H3 => ∃ (u : List Nat) (y6 : Option V), σ' = [some (.ref a), some (.int (x : Nat)), some (.int (l : Nat)), some (.str (tS u)), some (.int (way : Nat)), some (.int (at_ : Nat)), y6, none, none] ∧ Same H2 H3 ∧ u.length ≤ 98000 ∧ (way = 8 → u = T0)) ?_ ?_
  · walk_at "sts"
    refine ifd (fun c1 => ?_) (fun c1 => ?_)
    · walk_at "sts"
      refine ⟨_, 40, rfl, rfl, by decide, by decide, fun z0 hz0 => ?_⟩
      refine w_2s ⟨?_, ?_⟩
      · rw [hz0, sizeLine_eq]; decide
      walk_at "sts"
      refine w_2s ⟨?_, ?_⟩
      · rw [length_app, hz0, sizeLine_eq]; decide
      walk_at "sts"
      refine w_new fun pm nm => ?_
      obtain ⟨zs, hzs, hz7, hzl⟩ : ∃ zs : List Str, [V.str (Str.ofString "hill 0 5"), V.str (Str.ofString "hill 5 80"), V.str (Str.ofString "hill 5 79"), V.str (Str.ofString "hill 1" ++ z0 ++ Str.ofString " 3"), V.str (Str.ofString "hill 7"), V.str (Str.ofString "hill 3 4 4"), V.str (Str.ofString "hill 3 5 4")] = zs.map V.str ∧ zs.length = 7 ∧ ∀ z ∈ zs, z.length ≤ 60 := by
        refine ⟨[Str.ofString "hill 0 5", Str.ofString "hill 5 80", Str.ofString "hill 5 79", Str.ofString "hill 1" ++ z0 ++ Str.ofString " 3", Str.ofString "hill 7", Str.ofString "hill 3 4 4", Str.ofString "hill 3 5 4"], rfl, rfl, fun z hz => ?_⟩
        simp only [List.mem_cons, List.not_mem_nil, or_false] at hz
        rcases hz with rfl | rfl | rfl | rfl | rfl | rfl | rfl
        · decide
        · decide
        · decide
        · rw [length_app, length_app, hz0]; decide
        · decide
        · decide
        · decide
      rw [hzs]
      have sm := same_upd (o := .lst (zs.map V.str)) nm
      have lm := SqL.of (K := K) (H := upd H2 pm (.lst (zs.map V.str))) upd_same
      generalize upd H2 pm (.lst (zs.map V.str)) = H3 at sm lm ⊢
      have hzl7 : (zs.map V.str).length = 7 := by rw [List.length_map]; exact hz7
      obtain ⟨j, hj1, hj2⟩ := modN (at_ : Int) (n := 7) (by decide)
      rw [show ((7 : Nat) : Int) = 7 from rfl] at hj1
      have hjz : j < zs.length := by omega
      have hzj : (zs.map V.str)[j]? = some (.str zs[j]) := by rw [List.getElem?_map, List.getElem?_eq_getElem hjz]; rfl
      have hzjl := hzl _ (List.getElem_mem hjz)
      generalize zs[j] = zj at hzj hzjl
      walk_at "sts"
      rw [hzl7, show ((7 : Nat) : Int) = 7 from rfl, hj1]
      refine w_ixL lm (atI_nat hzj) ?_
      refine w_2s ⟨by rw [tS_len, sizeLine_eq]; omega, ?_⟩
      walk_at "sts"
      refine w_2s ⟨by rw [length_app, tS_len, sizeLine_eq, show (Str.ofString "\n").length = 1 from rfl]; omega, ?_⟩
      walk_at "sts"
      refine ⟨tl (tS u2 ++ zj ++ Str.ofString "\n"), _, by rw [tS_tl]; rfl, sm, ?_, fun z => absurd z (by omega)⟩
      rw [str_len, length_app, length_app, tS_len, show (Str.ofString "\n").length = 1 from rfl]
      omega
    · walk_at "sts"
      exact ⟨u2, _, rfl, Same.refl _, by omega, fun z => hu2b (by omega)⟩
  rintro σ' H3 ⟨u3, y6, rfl, s3, hu3, hu3b⟩
  refine w_cut (fun σ' H4 => ∃ (u : List Nat) (y6 : Option V), σ' = [some (.ref a), some (.int (x : Nat)), some (.int (l : Nat)), some (.str (tS u)), some (.int (way : Nat)), some (.int (at_ : Nat)), y6, none, none] ∧ Same H3 H4 ∧ u.length ≤ 99000) ?_ ?_
  · walk_at "sts"
    refine ifd (fun c1 => ?_) (fun c1 => ?_)
    · obtain rfl := hu3b (by omega)
      walk_at "sts"
      refine w_new fun pl nl => ?_
      have sl := same_upd (o := .lst [V.int (10 ^ Int.toNat 39), V.int (10 ^ Int.toNat 40)]) nl
      have ll : upd H3 pl (.lst [V.int (10 ^ Int.toNat 39), V.int (10 ^ Int.toNat 40)]) pl = some (.lst [V.int (10 ^ Int.toNat 39), V.int (10 ^ Int.toNat 40)]) := upd_same
      generalize upd H3 pl (.lst [V.int (10 ^ Int.toNat 39), V.int (10 ^ Int.toNat 40)]) = H4 at sl ll ⊢
      have lls := SqL.of (K := K) ll
      obtain ⟨j, hj1, hj2⟩ := modN (at_ : Int) (n := 2) (by decide)
      rw [show ((2 : Nat) : Int) = 2 from rfl] at hj1
      obtain ⟨y, hy1, hy2⟩ : ∃ y : Nat, [V.int (10 ^ Int.toNat 39), V.int (10 ^ Int.toNat 40)][j]? = some (.int (y : Nat)) ∧ y ≤ 10 ^ 40 := by
        rcases (show j = 0 ∨ j = 1 by omega) with rfl | rfl
        · exact ⟨10 ^ 39, rfl, by decide⟩
        · exact ⟨10 ^ 40, rfl, Nat.le_refl _⟩
      walk_at "sts"
      rw [hj1]
      refine w_ixL lls (atI_nat hy1) ?_
      walk_at "sts"
      have hya : y + at_ < 10 ^ 41 := by have : (10 : Nat) ^ 41 = 10 * 10 ^ 40 := by decide
                                         omega
      have hnl := numL_len (k := 41) (by decide) hya
      rw [show (y : Int) + (at_ : Int) = ((y + at_ : Nat) : Int) by omega]
      refine ⟨log2_small (Nat.lt_trans hya (by decide +kernel)), ?_⟩
      rw [tS_num]
      have h6 : (Str.ofString "worth ").length = 6 := by decide
      refine w_2s ⟨by rw [h6, tS_len, sizeLine_eq]; omega, ?_⟩
      walk_at "sts"
      have hin := StrLaws.found_one (tS u3) 10
      rw [show (tS u3).cps.toList = u3 from rfl, decide_eq_true hT2] at hin
      obtain ⟨i, rest, ho⟩ : ∃ i rest, Builtin.Str.occurrences (tS u3) (tS [10]) 0 (tS u3).length 1 = i :: rest := by
        have hin : (!(Builtin.Str.occurrences (tS u3) (tS [10]) 0 (tS u3).length 1).isEmpty) = true := hin
        cases e : Builtin.Str.occurrences (tS u3) (tS [10]) 0 (tS u3).length 1 with
        | nil => rw [e] at hin; cases hin
        | cons i rest => exact ⟨i, rest, rfl⟩
      rw [show Str.ofString "\n" = tS [10] from tL_lit _]
      refine ⟨rfl, ?_⟩
      walk_at "sts"
      refine ⟨tS u3, tS [10], i, rest, rfl, rfl, ho, ?_⟩
      walk_at "sts"
      have hcl := cutS_length (tS u3) (some (i : Int)) none
      rw [tS_len] at hcl
      refine w_slS (by rw [tS_len, sizeLine_eq]; omega) ?_
      refine w_2s ⟨by rw [length_app, h6, tS_len, sizeLine_eq]; omega, ?_⟩
      walk_at "sts"
      refine ⟨tl (Str.ofString "worth " ++ tS (numL (y + at_)) ++ cutS (tS u3) (some (i : Int)) none), _, by rw [tS_tl]; rfl, sl, ?_⟩
      rw [str_len, length_app, length_app, h6, tS_len]
      omega
    · walk_at "sts"
      exact ⟨u3, _, rfl, Same.refl _, by omega⟩
  rintro σ' H4 ⟨u4, y6, rfl, s4, hu4⟩
  clear hu3b hu2b hu1b
  walk_at "sts"
  refine ⟨u4, rfl, by omega, fun c' l' ps' hr p pa' H5 s5 n5 l5 hP5 => ?_, fun k hr H5 s5 => ?_⟩
  · walk_at "sts"
    refine ⟨u4, rfl, by omega, fun c2 l2 ps2 hr2 p2 pp pa2 H6 s6 n6 l6 m6 hP6 => ?_, fun k hr2 => nomatch hr.symm.trans hr2⟩
    rw [hr] at hr2
    cases hr2
    have l6' := SqT.of (K := K) l6
    walk_at "sts"
    refine w_ist (s6 _ _ l5) (show kitB "tuple" "int" = some false by decide +kernel) ?_
    walk_at "sts"
    rw [decide_eq_true rfl]
    walk_at "sts"
    refine ⟨pp, pa2, .ref p, c', l', ps', rfl, m6, hP6, .tup (SqT.of (s6 _ _ l5)) (.cons (.int _) (.cons (.int _) (.cons (hP5.same s6).dp .nil))), fun H7 s7 => ?_⟩
    exact q _
  · walk_at "sts"
    refine ⟨u4, rfl, by omega, fun c2 l2 ps2 (hr2 : readM u4 = .inr (c2, l2, ps2)) => (by rw [hr] at hr2; cases hr2), fun k2 hr2 p2 H6 s6 n6 l6 => ?_⟩
    rw [hr] at hr2
    cases hr2
    have l6' := SqT.of (K := K) l6
    walk_at "sts"
    refine ⟨_, rfl, ?_⟩
    walk_at "sts"
    rw [decide_eq_true rfl]
    exact q _
end

theorem all_mk {l : PySem.W.OpenLaw} {w : World} {K : PySem.W.Frag} {h : Heap} {mg : Str → Option Value} {fa f0 f1 f2 f3 f4 f5 f6 f7 f8 f9 f10 f11 f12 f13 f14 f15 f16 f17 f18 f19 f20 C_BadText C_FloorError : Addr} (X : K.In h) (G : h.Ns mainGlobals mg) (hfa : mg "law" = some (.ref fa))
    {nm_BadText q_BadText : Str} {N_BadText : Addr} {bs_BadText : List Value} {sn_BadText : List Str} {su_BadText : List Value} {ab_BadText : Bool} {col_BadText : Option Bool} {dd_BadText : Option Addr} {m0_BadText m1_BadText m2_BadText m3_BadText m5_BadText : Option Value}
    {t_MOST_FIGURES t_FIGURES t_MOST_NUMBER : Tok}
    {od0 an0 od1 an1 od2 an2 od3 an3 od4 an4 od5 an5 od6 an6 od7 an7 od8 an8 od9 an9 od10 an10 od11 an11 od12 an12 od13 an13 od14 an14 od15 an15 od16 an16 od17 an17 od18 an18 od19 an19 od20 an20 : Option Addr} {sl0 sl1 sl2 sl3 sl4 sl5 sl6 sl7 sl8 sl9 sl10 sl11 sl12 sl13 sl14 sl15 sl16 sl17 sl18 sl19 sl20 : Array (Option Value)} {oc0 kV0 dc0 pm0 ct0 cd0 oc1 kV1 dc1 pm1 ct1 cd1 oc2 kV2 dc2 pm2 ct2 cd2 oc3 kV3 dc3 pm3 ct3 cd3 oc4 kV4 dc4 pm4 ct4 cd4 oc5 kV5 dc5 pm5 ct5 cd5 oc6 kV6 dc6 pm6 ct6 cd6 oc7 kV7 dc7 pm7 ct7 cd7 oc8 kV8 dc8 pm8 ct8 cd8 oc9 kV9 dc9 pm9 ct9 cd9 oc10 kV10 dc10 pm10 ct10 cd10 oc11 kV11 dc11 pm11 ct11 cd11 oc12 kV12 dc12 pm12 ct12 cd12 oc13 kV13 dc13 pm13 ct13 cd13 oc14 kV14 dc14 pm14 ct14 cd14 oc15 kV15 dc15 pm15 ct15 cd15 oc16 kV16 dc16 pm16 ct16 cd16 oc17 kV17 dc17 pm17 ct17 cd17 oc18 kV18 dc18 pm18 ct18 cd18 oc19 kV19 dc19 pm19 ct19 cd19 oc20 kV20 dc20 pm20 ct20 cd20 : Value}
    (g_BadText : PySem.W.nsIn K mainGlobals "BadText" = some (some (.ref C_BadText)))
    (g_FloorError : PySem.W.nsIn K mainGlobals "FloorError" = some (some (.ref C_FloorError)))
    (r0_BadText : PySem.W.findIn K (.ref C_BadText) "__init__" = some (some (.ref f0)))
    (ti0_BadText : PySem.W.typeIn K (.ref f0) = some (.type "function"))
    (xL_BadText : K.lookup C_BadText = some (excClassObj nm_BadText q_BadText C_BadText N_BadText bs_BadText [.ref C_FloorError, .type "ValueError", .type "Exception", .type "BaseException", .type "object"] true sn_BadText su_BadText ab_BadText col_BadText dd_BadText m0_BadText m1_BadText m2_BadText m3_BadText m5_BadText "ValueError.__new__"))
    (sa_BadText : PySem.W.findIn K (.ref C_BadText) "__setattr__" = some (some (.builtin "object.__setattr__")))
    (na_BadText : PySem.W.findIn K (.ref C_BadText) "at" = some none)
    (i0 : PySem.W.isFn K (.ref f0) = true)
    (l0 : K.lookup f0 = some ⟨oc0, od0, .func (PySem.W.fnOf "__init__" "BadText.__init__" (defArgs s_BadText___init__) (defBody s_BadText___init__) (defScope s_BadText___init__) .none kV0 dc0 pm0 an0 cd0 ct0), sl0⟩)
    (c0 : PySem.W.codeIn K cd0 "BadText.__init__" = true)
    (k0 : PySem.W.keepIn K (.ref f0) = true)
    (a1 : PySem.W.nsIn K mainGlobals "mask_of" = some (some (.ref f1)))
    (l1 : K.lookup f1 = some ⟨oc1, od1, .func (PySem.W.fnOf "mask_of" "mask_of" (defArgs s_mask_of) (defBody s_mask_of) (defScope s_mask_of) .none kV1 dc1 pm1 an1 cd1 ct1), sl1⟩)
    (c1 : PySem.W.codeIn K cd1 "mask_of" = true)
    (k1 : PySem.W.keepIn K (.ref f1) = true)
    (a2 : PySem.W.nsIn K mainGlobals "figure_number" = some (some (.ref f2)))
    (l2 : K.lookup f2 = some ⟨oc2, od2, .func (PySem.W.fnOf "figure_number" "figure_number" (defArgs s_figure_number) (defBody s_figure_number) (defScope s_figure_number) .none kV2 dc2 pm2 an2 cd2 ct2), sl2⟩)
    (c2 : PySem.W.codeIn K cd2 "figure_number" = true)
    (k2 : PySem.W.keepIn K (.ref f2) = true)
    (a3 : PySem.W.nsIn K mainGlobals "row_numbers" = some (some (.ref f3)))
    (l3 : K.lookup f3 = some ⟨oc3, od3, .func (PySem.W.fnOf "row_numbers" "row_numbers" (defArgs s_row_numbers) (defBody s_row_numbers) (defScope s_row_numbers) .none kV3 dc3 pm3 an3 cd3 ct3), sl3⟩)
    (c3 : PySem.W.codeIn K cd3 "row_numbers" = true)
    (k3 : PySem.W.keepIn K (.ref f3) = true)
    (a4 : PySem.W.nsIn K mainGlobals "rising_mask" = some (some (.ref f4)))
    (l4 : K.lookup f4 = some ⟨oc4, od4, .func (PySem.W.fnOf "rising_mask" "rising_mask" (defArgs s_rising_mask) (defBody s_rising_mask) (defScope s_rising_mask) .none kV4 dc4 pm4 an4 cd4 ct4), sl4⟩)
    (c4 : PySem.W.codeIn K cd4 "rising_mask" = true)
    (k4 : PySem.W.keepIn K (.ref f4) = true)
    (a5 : PySem.W.nsIn K mainGlobals "hill_of" = some (some (.ref f5)))
    (l5 : K.lookup f5 = some ⟨oc5, od5, .func (PySem.W.fnOf "hill_of" "hill_of" (defArgs s_hill_of) (defBody s_hill_of) (defScope s_hill_of) .none kV5 dc5 pm5 an5 cd5 ct5), sl5⟩)
    (c5 : PySem.W.codeIn K cd5 "hill_of" = true)
    (k5 : PySem.W.keepIn K (.ref f5) = true)
    (a6 : PySem.W.nsIn K mainGlobals "ended_rows" = some (some (.ref f6)))
    (l6 : K.lookup f6 = some ⟨oc6, od6, .func (PySem.W.fnOf "ended_rows" "ended_rows" (defArgs s_ended_rows) (defBody s_ended_rows) (defScope s_ended_rows) .none kV6 dc6 pm6 an6 cd6 ct6), sl6⟩)
    (c6 : PySem.W.codeIn K cd6 "ended_rows" = true)
    (k6 : PySem.W.keepIn K (.ref f6) = true)
    (a7 : PySem.W.nsIn K mainGlobals "taken" = some (some (.ref f7)))
    (l7 : K.lookup f7 = some ⟨oc7, od7, .func (PySem.W.fnOf "taken" "taken" (defArgs s_taken) (defBody s_taken) (defScope s_taken) .none kV7 dc7 pm7 an7 cd7 ct7), sl7⟩)
    (c7 : PySem.W.codeIn K cd7 "taken" = true)
    (k7 : PySem.W.keepIn K (.ref f7) = true)
    (a8 : PySem.W.nsIn K mainGlobals "_law_cell" = some (some (.ref f8)))
    (l8 : K.lookup f8 = some ⟨oc8, od8, .func (PySem.W.fnOf "_law_cell" "_law_cell" (defArgs s_law_cell) (defBody s_law_cell) (defScope s_law_cell) .none kV8 dc8 pm8 an8 cd8 ct8), sl8⟩)
    (c8 : PySem.W.codeIn K cd8 "_law_cell" = true)
    (k8 : PySem.W.keepIn K (.ref f8) = true)
    (a9 : PySem.W.nsIn K mainGlobals "_law_whole" = some (some (.ref f9)))
    (l9 : K.lookup f9 = some ⟨oc9, od9, .func (PySem.W.fnOf "_law_whole" "_law_whole" (defArgs s_law_whole) (defBody s_law_whole) (defScope s_law_whole) .none kV9 dc9 pm9 an9 cd9 ct9), sl9⟩)
    (c9 : PySem.W.codeIn K cd9 "_law_whole" = true)
    (k9 : PySem.W.keepIn K (.ref f9) = true)
    (a10 : PySem.W.nsIn K mainGlobals "_law_shown" = some (some (.ref f10)))
    (l10 : K.lookup f10 = some ⟨oc10, od10, .func (PySem.W.fnOf "_law_shown" "_law_shown" (defArgs s_law_shown) (defBody s_law_shown) (defScope s_law_shown) .none kV10 dc10 pm10 an10 cd10 ct10), sl10⟩)
    (c10 : PySem.W.codeIn K cd10 "_law_shown" = true)
    (k10 : PySem.W.keepIn K (.ref f10) = true)
    (a11 : PySem.W.nsIn K mainGlobals "_law_triple" = some (some (.ref f11)))
    (l11 : K.lookup f11 = some ⟨oc11, od11, .func (PySem.W.fnOf "_law_triple" "_law_triple" (defArgs s_law_triple) (defBody s_law_triple) (defScope s_law_triple) .none kV11 dc11 pm11 an11 cd11 ct11), sl11⟩)
    (c11 : PySem.W.codeIn K cd11 "_law_triple" = true)
    (k11 : PySem.W.keepIn K (.ref f11) = true)
    (a12 : PySem.W.nsIn K mainGlobals "_law_number" = some (some (.ref f12)))
    (l12 : K.lookup f12 = some ⟨oc12, od12, .func (PySem.W.fnOf "_law_number" "_law_number" (defArgs s_law_number) (defBody s_law_number) (defScope s_law_number) .none kV12 dc12 pm12 an12 cd12 ct12), sl12⟩)
    (c12 : PySem.W.codeIn K cd12 "_law_number" = true)
    (k12 : PySem.W.keepIn K (.ref f12) = true)
    (a13 : PySem.W.nsIn K mainGlobals "_law_row" = some (some (.ref f13)))
    (l13 : K.lookup f13 = some ⟨oc13, od13, .func (PySem.W.fnOf "_law_row" "_law_row" (defArgs s_law_row) (defBody s_law_row) (defScope s_law_row) .none kV13 dc13 pm13 an13 cd13 ct13), sl13⟩)
    (c13 : PySem.W.codeIn K cd13 "_law_row" = true)
    (k13 : PySem.W.keepIn K (.ref f13) = true)
    (a14 : PySem.W.nsIn K mainGlobals "_law_set" = some (some (.ref f14)))
    (l14 : K.lookup f14 = some ⟨oc14, od14, .func (PySem.W.fnOf "_law_set" "_law_set" (defArgs s_law_set) (defBody s_law_set) (defScope s_law_set) .none kV14 dc14 pm14 an14 cd14 ct14), sl14⟩)
    (c14 : PySem.W.codeIn K cd14 "_law_set" = true)
    (k14 : PySem.W.keepIn K (.ref f14) = true)
    (a15 : PySem.W.nsIn K mainGlobals "_law_read" = some (some (.ref f15)))
    (l15 : K.lookup f15 = some ⟨oc15, od15, .func (PySem.W.fnOf "_law_read" "_law_read" (defArgs s_law_read) (defBody s_law_read) (defScope s_law_read) .none kV15 dc15 pm15 an15 cd15 ct15), sl15⟩)
    (c15 : PySem.W.codeIn K cd15 "_law_read" = true)
    (k15 : PySem.W.keepIn K (.ref f15) = true)
    (a16 : PySem.W.nsIn K mainGlobals "_law_paper" = some (some (.ref f16)))
    (l16 : K.lookup f16 = some ⟨oc16, od16, .func (PySem.W.fnOf "_law_paper" "_law_paper" (defArgs s_law_paper) (defBody s_law_paper) (defScope s_law_paper) .none kV16 dc16 pm16 an16 cd16 ct16), sl16⟩)
    (c16 : PySem.W.codeIn K cd16 "_law_paper" = true)
    (k16 : PySem.W.keepIn K (.ref f16) = true)
    (a17 : PySem.W.nsIn K mainGlobals "_law_sign_spoiled" = some (some (.ref f17)))
    (l17 : K.lookup f17 = some ⟨oc17, od17, .func (PySem.W.fnOf "_law_sign_spoiled" "_law_sign_spoiled" (defArgs s_law_sign_spoiled) (defBody s_law_sign_spoiled) (defScope s_law_sign_spoiled) .none kV17 dc17 pm17 an17 cd17 ct17), sl17⟩)
    (c17 : PySem.W.codeIn K cd17 "_law_sign_spoiled" = true)
    (k17 : PySem.W.keepIn K (.ref f17) = true)
    (a18 : PySem.W.nsIn K mainGlobals "_law_row_spoiled" = some (some (.ref f18)))
    (l18 : K.lookup f18 = some ⟨oc18, od18, .func (PySem.W.fnOf "_law_row_spoiled" "_law_row_spoiled" (defArgs s_law_row_spoiled) (defBody s_law_row_spoiled) (defScope s_law_row_spoiled) .none kV18 dc18 pm18 an18 cd18 ct18), sl18⟩)
    (c18 : PySem.W.codeIn K cd18 "_law_row_spoiled" = true)
    (k18 : PySem.W.keepIn K (.ref f18) = true)
    (a19 : PySem.W.nsIn K mainGlobals "_law_told" = some (some (.ref f19)))
    (l19 : K.lookup f19 = some ⟨oc19, od19, .func (PySem.W.fnOf "_law_told" "_law_told" (defArgs s_law_told) (defBody s_law_told) (defScope s_law_told) .none kV19 dc19 pm19 an19 cd19 ct19), sl19⟩)
    (c19 : PySem.W.codeIn K cd19 "_law_told" = true)
    (k19 : PySem.W.keepIn K (.ref f19) = true)
    (a20 : PySem.W.nsIn K mainGlobals "law" = some (some (.ref f20)))
    (l20 : K.lookup f20 = some ⟨oc20, od20, .func (PySem.W.fnOf "law" "law" (defArgs s_law) (defBody s_law) (defScope s_law) .none kV20 dc20 pm20 an20 cd20 ct20), sl20⟩)
    (c20 : PySem.W.codeIn K cd20 "law" = true)
    (k20 : PySem.W.keepIn K (.ref f20) = true)
    (z_int : PySem.W.nsIn K mainGlobals "int" = some none)
    (z_len : PySem.W.nsIn K mainGlobals "len" = some none)
    (z_range : PySem.W.nsIn K mainGlobals "range" = some none)
    (z_max : PySem.W.nsIn K mainGlobals "max" = some none)
    (z_isinstance : PySem.W.nsIn K mainGlobals "isinstance" = some none)
    (z_bool : PySem.W.nsIn K mainGlobals "bool" = some none)
    (z_str : PySem.W.nsIn K mainGlobals "str" = some none)
    (z_tuple : PySem.W.nsIn K mainGlobals "tuple" = some none)
    (z_list : PySem.W.nsIn K mainGlobals "list" = some none)
    (z_min : PySem.W.nsIn K mainGlobals "min" = some none)
    (z_ValueError : PySem.W.nsIn K mainGlobals "ValueError" = some none)
    (kk_MOST_FIGURES : PySem.W.nsIn K mainGlobals "MOST_FIGURES" = some (some (.int 40 t_MOST_FIGURES)))
    (kk_FIGURES : PySem.W.nsIn K mainGlobals "FIGURES" = some (some (.str "0123456789" t_FIGURES)))
    (kk_MOST_NUMBER : PySem.W.nsIn K mainGlobals "MOST_NUMBER" = some (some (.int 79 t_MOST_NUMBER)))
    (x_og : PySem.W.specialIn K (.builtin "object.__class__") "__get__" = some (some (.builtin "getset_descriptor.__get__")))
    (x_ot : PySem.W.takesIn K (.builtin "object.__class__") = some true)
    (x_kp_BadText : PySem.W.keepIn K (.ref C_BadText) = true)
    (x_be_BadText : PySem.W.subIn K (.ref C_BadText) (.type "BaseException") = some true)
    (x_ty_BadText : PySem.W.typeIn K (.ref C_BadText) = some (.type "type"))
    (x_cl_BadText : PySem.W.isClsIn K C_BadText = true)
    (x_hd_BadText : PySem.W.hasDictIn K C_BadText = true)
    (x_ga_BadText : PySem.W.findIn K (.ref C_BadText) "__getattribute__" = some (some (.builtin "BaseException.__getattribute__")))
    (x_gg_BadText : PySem.W.findIn K (.ref C_BadText) "__getattr__" = some none)
    (x_oc_BadText : PySem.W.findIn K (.ref C_BadText) "__class__" = some (some (.builtin "object.__class__")))
    (x_om_BadText : PySem.W.mroIn K C_BadText (.type "object") = some true)
    (x_sv_BadText : PySem.W.subIn K (.ref C_BadText) (.type "ValueError") = some true)
    (x_sb_BadText_BadText : PySem.W.subIn K (.ref C_BadText) (.ref C_BadText) = some true)
    (x_kp_FloorError : PySem.W.keepIn K (.ref C_FloorError) = true)
    (x_be_FloorError : PySem.W.subIn K (.ref C_FloorError) (.type "BaseException") = some true)
    (x_ty_FloorError : PySem.W.typeIn K (.ref C_FloorError) = some (.type "type"))
    (x_cl_FloorError : PySem.W.isClsIn K C_FloorError = true)
    (x_hd_FloorError : PySem.W.hasDictIn K C_FloorError = true)
    (x_ga_FloorError : PySem.W.findIn K (.ref C_FloorError) "__getattribute__" = some (some (.builtin "BaseException.__getattribute__")))
    (x_gg_FloorError : PySem.W.findIn K (.ref C_FloorError) "__getattr__" = some none)
    (x_oc_FloorError : PySem.W.findIn K (.ref C_FloorError) "__class__" = some (some (.builtin "object.__class__")))
    (x_om_FloorError : PySem.W.mroIn K C_FloorError (.type "object") = some true)
    (x_sv_FloorError : PySem.W.subIn K (.ref C_FloorError) (.type "ValueError") = some true)
    (x_sb_FloorError_FloorError : PySem.W.subIn K (.ref C_FloorError) (.ref C_FloorError) = some true)
    (x_sb_BadText_FloorError : PySem.W.subIn K (.ref C_BadText) (.ref C_FloorError) = some true)
    : ∃ fd : FuncData, (∀ (s : Shared) (v : Value), BindsTo s fd ⟨[v], []⟩ [("script", v)]) ∧ ∀ base : Heap, K.In base → base.Ns mainGlobals mg → FnOk l.prog w K mg base CX0 8 fa fd ["script"] (spLaw K) := by
  have e := hfa.symm.trans (PySem.W.mg_of X G a20)
  cases e
  have B : Bl mg := ⟨PySem.W.mg_none_of X G z_int, PySem.W.mg_none_of X G z_len, PySem.W.mg_none_of X G z_range, PySem.W.mg_none_of X G z_max, PySem.W.mg_none_of X G z_isinstance, PySem.W.mg_none_of X G z_bool, PySem.W.mg_none_of X G z_str, PySem.W.mg_none_of X G z_tuple, PySem.W.mg_none_of X G z_list, PySem.W.mg_none_of X G z_min, PySem.W.mg_none_of X G z_ValueError⟩
  have T : Txt K mg C_BadText C_FloorError := ⟨PySem.W.mg_of X G g_BadText, PySem.W.mg_of X G g_FloorError, ⟨_, PySem.W.mg_of X G kk_MOST_FIGURES⟩, ⟨_, PySem.W.mg_of X G kk_FIGURES⟩, ⟨_, PySem.W.mg_of X G kk_MOST_NUMBER⟩, x_og, x_ot, x_kp_BadText, x_be_BadText, x_ty_BadText, x_cl_BadText, x_hd_BadText, x_ga_BadText, x_gg_BadText, x_oc_BadText, x_om_BadText, x_sv_BadText, x_sb_BadText_BadText, x_kp_FloorError, x_be_FloorError, x_ty_FloorError, x_cl_FloorError, x_hd_FloorError, x_ga_FloorError, x_gg_FloorError, x_oc_FloorError, x_om_FloorError, x_sv_FloorError, x_sb_FloorError_FloorError, x_sb_BadText_FloorError, ⟨⟨nm_BadText, q_BadText, N_BadText, bs_BadText, _, sn_BadText, su_BadText, ab_BadText, col_BadText, dd_BadText, m0_BadText, m1_BadText, m2_BadText, m3_BadText, m5_BadText, xL_BadText, by rfl⟩, sa_BadText, x_be_BadText, x_ty_BadText, x_kp_BadText⟩, na_BadText⟩
  refine ⟨PySem.W.fnOf "law" "law" (defArgs s_law) (defBody s_law) (defScope s_law) .none kV20 dc20 pm20 an20 cd20 ct20, fun s v => .of_eq rfl, fun base _ _ => ?_⟩
  have hf_BadText___init__ := ok_BadText___init__ (P := l.prog) (w := w) (base := base) (fun_mk (st := s_BadText___init__) l0 c0 k0) B T 
  have h_xm_BadText : HasXM l.prog w K mg base 1 "BadText" C_BadText ["self", "at"] (spKeep K C_BadText) := ⟨T.ox_BadText, f0, hf_BadText___init__.ex.choose, hf_BadText___init__.ex.choose_spec.1, r0_BadText, ti0_BadText, PySem.W.mg_of X G g_BadText, hf_BadText___init__.ex.choose_spec.2⟩
  have h_mask_of := ok_mask_of (P := l.prog) (w := w) (base := base) (fun_mk (st := s_mask_of) l1 c1 k1) (PySem.W.mg_of X G a1) B T 
  have h_figure_number := ok_figure_number (P := l.prog) (w := w) (base := base) (fun_mk (st := s_figure_number) l2 c2 k2) (PySem.W.mg_of X G a2) B T h_xm_BadText
  have h_row_numbers := ok_row_numbers (P := l.prog) (w := w) (base := base) (fun_mk (st := s_row_numbers) l3 c3 k3) (PySem.W.mg_of X G a3) B T h_figure_number h_xm_BadText
  have h_rising_mask := ok_rising_mask (P := l.prog) (w := w) (base := base) (fun_mk (st := s_rising_mask) l4 c4 k4) (PySem.W.mg_of X G a4) B T h_mask_of h_xm_BadText
  have h_hill_of := ok_hill_of (P := l.prog) (w := w) (base := base) (fun_mk (st := s_hill_of) l5 c5 k5) (PySem.W.mg_of X G a5) B T h_row_numbers h_rising_mask h_xm_BadText
  have h_ended_rows := ok_ended_rows (P := l.prog) (w := w) (base := base) (fun_mk (st := s_ended_rows) l6 c6 k6) (PySem.W.mg_of X G a6) B T 
  have h_taken := ok_taken (P := l.prog) (w := w) (base := base) (fun_mk (st := s_taken) l7 c7 k7) (PySem.W.mg_of X G a7) B T h_ended_rows h_row_numbers h_rising_mask h_hill_of h_xm_BadText
  have h_law_cell := ok_law_cell (P := l.prog) (w := w) (base := base) (fun_mk (st := s_law_cell) l8 c8 k8) (PySem.W.mg_of X G a8) B T 
  have h_law_whole := ok_law_whole (P := l.prog) (w := w) (base := base) (fun_mk (st := s_law_whole) l9 c9 k9) (PySem.W.mg_of X G a9) B T 
  have h_law_shown := ok_law_shown (P := l.prog) (w := w) (base := base) (fun_mk (st := s_law_shown) l10 c10 k10) (PySem.W.mg_of X G a10) B T 
  have h_law_triple := ok_law_triple (P := l.prog) (w := w) (base := base) (fun_mk (st := s_law_triple) l11 c11 k11) (PySem.W.mg_of X G a11) B T h_law_whole
  have h_law_number := ok_law_number (P := l.prog) (w := w) (base := base) (fun_mk (st := s_law_number) l12 c12 k12) (PySem.W.mg_of X G a12) B T 
  have h_law_row := ok_law_row (P := l.prog) (w := w) (base := base) (fun_mk (st := s_law_row) l13 c13 k13) (PySem.W.mg_of X G a13) B T h_law_number
  have h_law_set := ok_law_set (P := l.prog) (w := w) (base := base) (fun_mk (st := s_law_set) l14 c14 k14) (PySem.W.mg_of X G a14) B T 
  have h_law_read := ok_law_read (P := l.prog) (w := w) (base := base) (fun_mk (st := s_law_read) l15 c15 k15) (PySem.W.mg_of X G a15) B T h_law_row h_law_set
  have h_law_paper := ok_law_paper (P := l.prog) (w := w) (base := base) (fun_mk (st := s_law_paper) l16 c16 k16) (PySem.W.mg_of X G a16) B T 
  have h_law_sign_spoiled := ok_law_sign_spoiled (P := l.prog) (w := w) (base := base) (fun_mk (st := s_law_sign_spoiled) l17 c17 k17) (PySem.W.mg_of X G a17) B T 
  have h_law_row_spoiled := ok_law_row_spoiled (P := l.prog) (w := w) (base := base) (fun_mk (st := s_law_row_spoiled) l18 c18 k18) (PySem.W.mg_of X G a18) B T 
  have h_law_told := ok_law_told (P := l.prog) (w := w) (base := base) (fun_mk (st := s_law_told) l19 c19 k19) (PySem.W.mg_of X G a19) B T h_taken
  exact ok_law (P := l.prog) (w := w) (base := base) (fun_mk (st := s_law) l20 c20 k20) B T h_law_shown h_law_read h_law_told h_law_paper h_law_cell h_law_sign_spoiled h_law_row_spoiled h_law_triple h_law_whole
theorem factsQ {l : PySem.W.OpenLaw} {w : World} {K : PySem.W.Frag} {h : Heap} {mg : Str → Option Value} {fa : Addr} (X : K.In h) (G : h.Ns mainGlobals mg) (hfa : mg "law" = some (.ref fa)) (c : SaysK fsQ fnQ K) : ∃ fd : FuncData, (∀ (s : Shared) (v : Value), BindsTo s fd ⟨[v], []⟩ [("script", v)]) ∧ ∀ base : Heap, K.In base → base.Ns mainGlobals mg → FnOk l.prog w K mg base CX0 8 fa fd ["script"] (spLaw K) := by
  obtain ⟨fd0, D0⟩ : ∃ fd, FunD K "__init__" "BadText.__init__" (defArgs s_BadText___init__) (defBody s_BadText___init__) (defScope s_BadText___init__) [] [] (He.fAd K ("BadText", some "__init__")) fd := c.def_ 0 rfl
  obtain ⟨oc0, od0, kV0, dc0, pm0, an0, cd0, ct0, sl0, l0, c0, k0⟩ := fnl_of D0
  obtain ⟨fd1, D1⟩ : ∃ fd, FunD K "mask_of" "mask_of" (defArgs s_mask_of) (defBody s_mask_of) (defScope s_mask_of) [] [] (He.fAd K ("mask_of", none)) fd := c.def_ 1 rfl
  obtain ⟨oc1, od1, kV1, dc1, pm1, an1, cd1, ct1, sl1, l1, c1, k1⟩ := fnl_of D1
  obtain ⟨fd2, D2⟩ : ∃ fd, FunD K "figure_number" "figure_number" (defArgs s_figure_number) (defBody s_figure_number) (defScope s_figure_number) [] [] (He.fAd K ("figure_number", none)) fd := c.def_ 2 rfl
  obtain ⟨oc2, od2, kV2, dc2, pm2, an2, cd2, ct2, sl2, l2, c2, k2⟩ := fnl_of D2
  obtain ⟨fd3, D3⟩ : ∃ fd, FunD K "row_numbers" "row_numbers" (defArgs s_row_numbers) (defBody s_row_numbers) (defScope s_row_numbers) [] [] (He.fAd K ("row_numbers", none)) fd := c.def_ 3 rfl
  obtain ⟨oc3, od3, kV3, dc3, pm3, an3, cd3, ct3, sl3, l3, c3, k3⟩ := fnl_of D3
  obtain ⟨fd4, D4⟩ : ∃ fd, FunD K "rising_mask" "rising_mask" (defArgs s_rising_mask) (defBody s_rising_mask) (defScope s_rising_mask) [] [] (He.fAd K ("rising_mask", none)) fd := c.def_ 4 rfl
  obtain ⟨oc4, od4, kV4, dc4, pm4, an4, cd4, ct4, sl4, l4, c4, k4⟩ := fnl_of D4
  obtain ⟨fd5, D5⟩ : ∃ fd, FunD K "hill_of" "hill_of" (defArgs s_hill_of) (defBody s_hill_of) (defScope s_hill_of) [] [] (He.fAd K ("hill_of", none)) fd := c.def_ 5 rfl
  obtain ⟨oc5, od5, kV5, dc5, pm5, an5, cd5, ct5, sl5, l5, c5, k5⟩ := fnl_of D5
  obtain ⟨fd6, D6⟩ : ∃ fd, FunD K "ended_rows" "ended_rows" (defArgs s_ended_rows) (defBody s_ended_rows) (defScope s_ended_rows) [] [] (He.fAd K ("ended_rows", none)) fd := c.def_ 6 rfl
  obtain ⟨oc6, od6, kV6, dc6, pm6, an6, cd6, ct6, sl6, l6, c6, k6⟩ := fnl_of D6
  obtain ⟨fd7, D7⟩ : ∃ fd, FunD K "taken" "taken" (defArgs s_taken) (defBody s_taken) (defScope s_taken) [] [] (He.fAd K ("taken", none)) fd := c.def_ 7 rfl
  obtain ⟨oc7, od7, kV7, dc7, pm7, an7, cd7, ct7, sl7, l7, c7, k7⟩ := fnl_of D7
  obtain ⟨fd8, D8⟩ : ∃ fd, FunD K "_law_cell" "_law_cell" (defArgs s_law_cell) (defBody s_law_cell) (defScope s_law_cell) [] [] (He.fAd K ("_law_cell", none)) fd := c.def_ 8 rfl
  obtain ⟨oc8, od8, kV8, dc8, pm8, an8, cd8, ct8, sl8, l8, c8, k8⟩ := fnl_of D8
  obtain ⟨fd9, D9⟩ : ∃ fd, FunD K "_law_whole" "_law_whole" (defArgs s_law_whole) (defBody s_law_whole) (defScope s_law_whole) [] [] (He.fAd K ("_law_whole", none)) fd := c.def_ 9 rfl
  obtain ⟨oc9, od9, kV9, dc9, pm9, an9, cd9, ct9, sl9, l9, c9, k9⟩ := fnl_of D9
  obtain ⟨fd10, D10⟩ : ∃ fd, FunD K "_law_shown" "_law_shown" (defArgs s_law_shown) (defBody s_law_shown) (defScope s_law_shown) [] [] (He.fAd K ("_law_shown", none)) fd := c.def_ 10 rfl
  obtain ⟨oc10, od10, kV10, dc10, pm10, an10, cd10, ct10, sl10, l10, c10, k10⟩ := fnl_of D10
  obtain ⟨fd11, D11⟩ : ∃ fd, FunD K "_law_triple" "_law_triple" (defArgs s_law_triple) (defBody s_law_triple) (defScope s_law_triple) [] [] (He.fAd K ("_law_triple", none)) fd := c.def_ 11 rfl
  obtain ⟨oc11, od11, kV11, dc11, pm11, an11, cd11, ct11, sl11, l11, c11, k11⟩ := fnl_of D11
  obtain ⟨fd12, D12⟩ : ∃ fd, FunD K "_law_number" "_law_number" (defArgs s_law_number) (defBody s_law_number) (defScope s_law_number) [] [] (He.fAd K ("_law_number", none)) fd := c.def_ 12 rfl
  obtain ⟨oc12, od12, kV12, dc12, pm12, an12, cd12, ct12, sl12, l12, c12, k12⟩ := fnl_of D12
  obtain ⟨fd13, D13⟩ : ∃ fd, FunD K "_law_row" "_law_row" (defArgs s_law_row) (defBody s_law_row) (defScope s_law_row) [] [] (He.fAd K ("_law_row", none)) fd := c.def_ 13 rfl
  obtain ⟨oc13, od13, kV13, dc13, pm13, an13, cd13, ct13, sl13, l13, c13, k13⟩ := fnl_of D13
  obtain ⟨fd14, D14⟩ : ∃ fd, FunD K "_law_set" "_law_set" (defArgs s_law_set) (defBody s_law_set) (defScope s_law_set) [] [] (He.fAd K ("_law_set", none)) fd := c.def_ 14 rfl
  obtain ⟨oc14, od14, kV14, dc14, pm14, an14, cd14, ct14, sl14, l14, c14, k14⟩ := fnl_of D14
  obtain ⟨fd15, D15⟩ : ∃ fd, FunD K "_law_read" "_law_read" (defArgs s_law_read) (defBody s_law_read) (defScope s_law_read) [] [] (He.fAd K ("_law_read", none)) fd := c.def_ 15 rfl
  obtain ⟨oc15, od15, kV15, dc15, pm15, an15, cd15, ct15, sl15, l15, c15, k15⟩ := fnl_of D15
  obtain ⟨fd16, D16⟩ : ∃ fd, FunD K "_law_paper" "_law_paper" (defArgs s_law_paper) (defBody s_law_paper) (defScope s_law_paper) [] [] (He.fAd K ("_law_paper", none)) fd := c.def_ 16 rfl
  obtain ⟨oc16, od16, kV16, dc16, pm16, an16, cd16, ct16, sl16, l16, c16, k16⟩ := fnl_of D16
  obtain ⟨fd17, D17⟩ : ∃ fd, FunD K "_law_sign_spoiled" "_law_sign_spoiled" (defArgs s_law_sign_spoiled) (defBody s_law_sign_spoiled) (defScope s_law_sign_spoiled) [] [] (He.fAd K ("_law_sign_spoiled", none)) fd := c.def_ 17 rfl
  obtain ⟨oc17, od17, kV17, dc17, pm17, an17, cd17, ct17, sl17, l17, c17, k17⟩ := fnl_of D17
  obtain ⟨fd18, D18⟩ : ∃ fd, FunD K "_law_row_spoiled" "_law_row_spoiled" (defArgs s_law_row_spoiled) (defBody s_law_row_spoiled) (defScope s_law_row_spoiled) [] [] (He.fAd K ("_law_row_spoiled", none)) fd := c.def_ 18 rfl
  obtain ⟨oc18, od18, kV18, dc18, pm18, an18, cd18, ct18, sl18, l18, c18, k18⟩ := fnl_of D18
  obtain ⟨fd19, D19⟩ : ∃ fd, FunD K "_law_told" "_law_told" (defArgs s_law_told) (defBody s_law_told) (defScope s_law_told) [] [] (He.fAd K ("_law_told", none)) fd := c.def_ 19 rfl
  obtain ⟨oc19, od19, kV19, dc19, pm19, an19, cd19, ct19, sl19, l19, c19, k19⟩ := fnl_of D19
  obtain ⟨fd20, D20⟩ : ∃ fd, FunD K "law" "law" (defArgs s_law) (defBody s_law) (defScope s_law) [] [] (He.fAd K ("law", none)) fd := c.def_ 20 rfl
  obtain ⟨oc20, od20, kV20, dc20, pm20, an20, cd20, ct20, sl20, l20, c20, k20⟩ := fnl_of D20
  have g_BadText : PySem.W.nsIn K mainGlobals "BadText" = some (some (.ref (He.ga K "BadText"))) := c.is 0 rfl
  have g_FloorError : PySem.W.nsIn K mainGlobals "FloorError" = some (some (.ref (He.ga K "FloorError"))) := c.is 1 rfl
  have r0_BadText : PySem.W.findIn K (.ref (He.ga K "BadText")) "__init__" = some (some (.ref (He.fAd K ("BadText", some "__init__")))) := c.is 2 rfl
  have ti0_BadText : PySem.W.typeIn K (.ref (He.fAd K ("BadText", some "__init__"))) = some (.type "function") := c.is 3 rfl
  obtain ⟨nm_BadText, q_BadText, N_BadText, bs_BadText, sn_BadText, su_BadText, ab_BadText, col_BadText, dd_BadText, m0_BadText, m1_BadText, m2_BadText, m3_BadText, m5_BadText, xL_BadText⟩ := excB_ok (c.fact 4 rfl)
  have sa_BadText : PySem.W.findIn K (.ref (He.ga K "BadText")) "__setattr__" = some (some (.builtin "object.__setattr__")) := c.is 5 rfl
  have na_BadText : PySem.W.findIn K (.ref (He.ga K "BadText")) "at" = some none := c.is 6 rfl
  have i0 : PySem.W.isFn K (.ref (He.fAd K ("BadText", some "__init__"))) = true := c.is 7 rfl
  have a1 : PySem.W.nsIn K mainGlobals "mask_of" = some (some (.ref (He.fAd K ("mask_of", none)))) := c.is 8 rfl
  have a2 : PySem.W.nsIn K mainGlobals "figure_number" = some (some (.ref (He.fAd K ("figure_number", none)))) := c.is 9 rfl
  have a3 : PySem.W.nsIn K mainGlobals "row_numbers" = some (some (.ref (He.fAd K ("row_numbers", none)))) := c.is 10 rfl
  have a4 : PySem.W.nsIn K mainGlobals "rising_mask" = some (some (.ref (He.fAd K ("rising_mask", none)))) := c.is 11 rfl
  have a5 : PySem.W.nsIn K mainGlobals "hill_of" = some (some (.ref (He.fAd K ("hill_of", none)))) := c.is 12 rfl
  have a6 : PySem.W.nsIn K mainGlobals "ended_rows" = some (some (.ref (He.fAd K ("ended_rows", none)))) := c.is 13 rfl
  have a7 : PySem.W.nsIn K mainGlobals "taken" = some (some (.ref (He.fAd K ("taken", none)))) := c.is 14 rfl
  have a8 : PySem.W.nsIn K mainGlobals "_law_cell" = some (some (.ref (He.fAd K ("_law_cell", none)))) := c.is 15 rfl
  have a9 : PySem.W.nsIn K mainGlobals "_law_whole" = some (some (.ref (He.fAd K ("_law_whole", none)))) := c.is 16 rfl
  have a10 : PySem.W.nsIn K mainGlobals "_law_shown" = some (some (.ref (He.fAd K ("_law_shown", none)))) := c.is 17 rfl
  have a11 : PySem.W.nsIn K mainGlobals "_law_triple" = some (some (.ref (He.fAd K ("_law_triple", none)))) := c.is 18 rfl
  have a12 : PySem.W.nsIn K mainGlobals "_law_number" = some (some (.ref (He.fAd K ("_law_number", none)))) := c.is 19 rfl
  have a13 : PySem.W.nsIn K mainGlobals "_law_row" = some (some (.ref (He.fAd K ("_law_row", none)))) := c.is 20 rfl
  have a14 : PySem.W.nsIn K mainGlobals "_law_set" = some (some (.ref (He.fAd K ("_law_set", none)))) := c.is 21 rfl
  have a15 : PySem.W.nsIn K mainGlobals "_law_read" = some (some (.ref (He.fAd K ("_law_read", none)))) := c.is 22 rfl
  have a16 : PySem.W.nsIn K mainGlobals "_law_paper" = some (some (.ref (He.fAd K ("_law_paper", none)))) := c.is 23 rfl
  have a17 : PySem.W.nsIn K mainGlobals "_law_sign_spoiled" = some (some (.ref (He.fAd K ("_law_sign_spoiled", none)))) := c.is 24 rfl
  have a18 : PySem.W.nsIn K mainGlobals "_law_row_spoiled" = some (some (.ref (He.fAd K ("_law_row_spoiled", none)))) := c.is 25 rfl
  have a19 : PySem.W.nsIn K mainGlobals "_law_told" = some (some (.ref (He.fAd K ("_law_told", none)))) := c.is 26 rfl
  have a20 : PySem.W.nsIn K mainGlobals "law" = some (some (.ref (He.fAd K ("law", none)))) := c.is 27 rfl
  have z_int : PySem.W.nsIn K mainGlobals "int" = some none := c.is 28 rfl
  have z_len : PySem.W.nsIn K mainGlobals "len" = some none := c.is 29 rfl
  have z_range : PySem.W.nsIn K mainGlobals "range" = some none := c.is 30 rfl
  have z_max : PySem.W.nsIn K mainGlobals "max" = some none := c.is 31 rfl
  have z_isinstance : PySem.W.nsIn K mainGlobals "isinstance" = some none := c.is 32 rfl
  have z_bool : PySem.W.nsIn K mainGlobals "bool" = some none := c.is 33 rfl
  have z_str : PySem.W.nsIn K mainGlobals "str" = some none := c.is 34 rfl
  have z_tuple : PySem.W.nsIn K mainGlobals "tuple" = some none := c.is 35 rfl
  have z_list : PySem.W.nsIn K mainGlobals "list" = some none := c.is 36 rfl
  have z_min : PySem.W.nsIn K mainGlobals "min" = some none := c.is 37 rfl
  have z_ValueError : PySem.W.nsIn K mainGlobals "ValueError" = some none := c.is 38 rfl
  obtain ⟨t_MOST_FIGURES, kk_MOST_FIGURES⟩ := intK_ok (c.fact 39 rfl)
  obtain ⟨t_FIGURES, kk_FIGURES⟩ := strK_ok (c.fact 40 rfl)
  obtain ⟨t_MOST_NUMBER, kk_MOST_NUMBER⟩ := intK_ok (c.fact 41 rfl)
  have x_og : PySem.W.specialIn K (.builtin "object.__class__") "__get__" = some (some (.builtin "getset_descriptor.__get__")) := c.is 42 rfl
  have x_ot : PySem.W.takesIn K (.builtin "object.__class__") = some true := c.is 43 rfl
  have x_kp_BadText : PySem.W.keepIn K (.ref (He.ga K "BadText")) = true := c.is 44 rfl
  have x_be_BadText : PySem.W.subIn K (.ref (He.ga K "BadText")) (.type "BaseException") = some true := c.is 45 rfl
  have x_ty_BadText : PySem.W.typeIn K (.ref (He.ga K "BadText")) = some (.type "type") := c.is 46 rfl
  have x_cl_BadText : PySem.W.isClsIn K (He.ga K "BadText") = true := c.is 47 rfl
  have x_hd_BadText : PySem.W.hasDictIn K (He.ga K "BadText") = true := c.is 48 rfl
  have x_ga_BadText : PySem.W.findIn K (.ref (He.ga K "BadText")) "__getattribute__" = some (some (.builtin "BaseException.__getattribute__")) := c.is 49 rfl
  have x_gg_BadText : PySem.W.findIn K (.ref (He.ga K "BadText")) "__getattr__" = some none := c.is 50 rfl
  have x_oc_BadText : PySem.W.findIn K (.ref (He.ga K "BadText")) "__class__" = some (some (.builtin "object.__class__")) := c.is 51 rfl
  have x_om_BadText : PySem.W.mroIn K (He.ga K "BadText") (.type "object") = some true := c.is 52 rfl
  have x_sv_BadText : PySem.W.subIn K (.ref (He.ga K "BadText")) (.type "ValueError") = some true := c.is 53 rfl
  have x_sb_BadText_BadText : PySem.W.subIn K (.ref (He.ga K "BadText")) (.ref (He.ga K "BadText")) = some true := c.is 54 rfl
  have x_kp_FloorError : PySem.W.keepIn K (.ref (He.ga K "FloorError")) = true := c.is 55 rfl
  have x_be_FloorError : PySem.W.subIn K (.ref (He.ga K "FloorError")) (.type "BaseException") = some true := c.is 56 rfl
  have x_ty_FloorError : PySem.W.typeIn K (.ref (He.ga K "FloorError")) = some (.type "type") := c.is 57 rfl
  have x_cl_FloorError : PySem.W.isClsIn K (He.ga K "FloorError") = true := c.is 58 rfl
  have x_hd_FloorError : PySem.W.hasDictIn K (He.ga K "FloorError") = true := c.is 59 rfl
  have x_ga_FloorError : PySem.W.findIn K (.ref (He.ga K "FloorError")) "__getattribute__" = some (some (.builtin "BaseException.__getattribute__")) := c.is 60 rfl
  have x_gg_FloorError : PySem.W.findIn K (.ref (He.ga K "FloorError")) "__getattr__" = some none := c.is 61 rfl
  have x_oc_FloorError : PySem.W.findIn K (.ref (He.ga K "FloorError")) "__class__" = some (some (.builtin "object.__class__")) := c.is 62 rfl
  have x_om_FloorError : PySem.W.mroIn K (He.ga K "FloorError") (.type "object") = some true := c.is 63 rfl
  have x_sv_FloorError : PySem.W.subIn K (.ref (He.ga K "FloorError")) (.type "ValueError") = some true := c.is 64 rfl
  have x_sb_FloorError_FloorError : PySem.W.subIn K (.ref (He.ga K "FloorError")) (.ref (He.ga K "FloorError")) = some true := c.is 65 rfl
  have x_sb_BadText_FloorError : PySem.W.subIn K (.ref (He.ga K "BadText")) (.ref (He.ga K "FloorError")) = some true := c.is 66 rfl
  exact all_mk X G hfa g_BadText g_FloorError r0_BadText ti0_BadText xL_BadText sa_BadText na_BadText i0 l0 c0 k0 a1 l1 c1 k1 a2 l2 c2 k2 a3 l3 c3 k3 a4 l4 c4 k4 a5 l5 c5 k5 a6 l6 c6 k6 a7 l7 c7 k7 a8 l8 c8 k8 a9 l9 c9 k9 a10 l10 c10 k10 a11 l11 c11 k11 a12 l12 c12 k12 a13 l13 c13 k13 a14 l14 c14 k14 a15 l15 c15 k15 a16 l16 c16 k16 a17 l17 c17 k17 a18 l18 c18 k18 a19 l19 c19 k19 a20 l20 c20 k20 z_int z_len z_range z_max z_isinstance z_bool z_str z_tuple z_list z_min z_ValueError kk_MOST_FIGURES kk_FIGURES kk_MOST_NUMBER x_og x_ot x_kp_BadText x_be_BadText x_ty_BadText x_cl_BadText x_hd_BadText x_ga_BadText x_gg_BadText x_oc_BadText x_om_BadText x_sv_BadText x_sb_BadText_BadText x_kp_FloorError x_be_FloorError x_ty_FloorError x_cl_FloorError x_hd_FloorError x_ga_FloorError x_gg_FloorError x_oc_FloorError x_om_FloorError x_sv_FloorError x_sb_FloorError_FloorError x_sb_BadText_FloorError
end Sf
open PySem PySem.W PySem.Calls PyProof.Rows
set_option maxRecDepth 100000 in
set_option maxHeartbeats 0 in
theorem PySem.Challenge.cw_spinfloor_k60_answers_read_holds : PySem.Challenge.rw_spinfloor_k60_answers_read.Holds := by
  refine Sf.headQ ?_
  refine Sf.walk_ofK (l := PySem.Challenge.rw_spinfloor_k60_answers_read) (n := 63) (k := 8) (sp := Sf.spLaw) rfl (by decide) (by kernel_rfl) ⟨rfl, by decide, by decide⟩ ?F (fun _ _ a ns hl hb hS => ⟨a, ns, rfl, hS, hl, hb, fun _ => rfl⟩)
  intro w mg fa h Y G hmg0
  obtain ⟨K, KX, c⟩ := Y
  have hmg : mg ("law" : PySem.Str) = some (.ref fa) := by
    have e : (HandSHeadRun.topDef (PySem.W.OpenLaw.row PySem.Challenge.rw_spinfloor_k60_answers_read).prog 28).name = ("law" : PySem.Str) := by kernel_rfl
    rw [← e]
    exact hmg0
  exact ⟨K, KX, Sf.factsQ (l := PySem.Challenge.rw_spinfloor_k60_answers_read) KX G hmg c⟩

