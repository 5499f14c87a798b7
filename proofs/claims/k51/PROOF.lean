import PyProof.Rows.All
import Wide.All
import OpenK.AllK
import Wide.FinOn
import HandS.ForMost
import HandS.Evl
import HandS.Steps
import HandS.Wide
import HandS.Style
import HandS.IsInst
import HandS.Strs
import HandS.Sort
import HandS.SortRule
import HandS.Conv
import HandS.DictComp
import HandS.Walk
import HandS.Defaults
import HandS.MakeKwOnly
import HandS.More
import PyProof.AutoSeq1
import PyProof.Rows.SetFrom
import HandS.SetFor
import KE.KDictWalk
import PySem.Challenge.RW_retryslots_k51_whole_long_outages_and_se
set_option Elab.async false
set_option linter.all false
set_option maxRecDepth 100000
set_option maxHeartbeats 4000000

section
/-! RKit: a calculus over the layer's readings: one lemma a reading, told from behind; heaps are letters, each known to extend the one before. -/
namespace RK
open PySem L2

abbrev Ex (H H' : Hp) : Prop := Evl.Ex H H'
theorem ex_refl (H : Hp) : Ex H H := Evl.Ex.refl H
theorem ex_new {H : Hp} {p : Addr} {o : HO} (h : H p = none) : Ex H (upd H p o) := Evl.Ex.new h
theorem ex_at {H H' : Hp} {a : Addr} {o : HO} (e : Ex H H') (h : H a = some o) : H' a = some o := e a o h
theorem ex_l {K : PySem.W.Frag} {H H' : Hp} {a : Addr} {xs : List V} (e : Ex H H') (h : SqL K H a xs) : SqL K H' a xs := Evl.ex_l e h
theorem ex_t {K : PySem.W.Frag} {H H' : Hp} {a : Addr} {xs : List V} (e : Ex H H') (h : SqT K H a xs) : SqT K H' a xs := Evl.ex_t e h
theorem ex_free {H H' : Hp} {p : Addr} (e : Ex H H') (h : H' p = none) : H p = none := Evl.fresh_back e h

mutual
theorem dp_ex {K : PySem.W.Frag} {H H' : Hp} (e : Ex H H') : ∀ {v : V} {d : PyData}, Dp K H v d → Dp K H' v d
  | _, _, .non => .non
  | _, _, .bl b => .bl b
  | _, _, .int i => .int i
  | _, _, .str x => .str x
  | _, _, .lst h r => .lst (ex_l e h) (dps_ex e r)
  | _, _, .tup h r => .tup (ex_t e h) (dps_ex e r)
theorem dps_ex {K : PySem.W.Frag} {H H' : Hp} (e : Ex H H') : ∀ {vs : List V} {ds : List PyData}, DpAll K H vs ds → DpAll K H' vs ds
  | _, _, .nil => .nil
  | _, _, .cons h r => .cons (dp_ex e h) (dps_ex e r)
end
theorem dps_app {K : PySem.W.Frag} {H : Hp} : ∀ {vs ws : List V} {ds es : List PyData}, DpAll K H vs ds → DpAll K H ws es → DpAll K H (vs ++ ws) (ds ++ es)
  | _, _, _, _, .nil, r => r
  | _, _, _, _, .cons h t, r => .cons h (dps_app t r)

/-! ### statements -/
section
variable {σ : St} {H : Hp} {D : Ends} {Q : VK} {ta tb te tc : TE} {t u : TS} {tt tu : TT} {i : Nat} {v x y : V} {r : R2} {K : PySem.W.Frag} {tl : TA}
theorem xSeq (h : t { nx := u D, rt := D.rt, bk := D.bk, ct := D.ct } σ H) : tSeq t u D σ H := h
theorem xAsg {g : TG} (h : te σ H fun x H1 => g x σ H1 D.nx) : tAsg te g D σ H := h
theorem xName {Q : St → Hp → Prop} (h : Q (σ.set i (some x)) H) : gName i x σ H Q := h
theorem xRet (h : te σ H D.rt) : tRet te D σ H := h
theorem xRetN (h : D.rt .non H) : tRetN D σ H := h
theorem xDrop (h : te σ H fun _ H1 => D.nx σ H1) : tDrop te D σ H := h
theorem xIfS (h : tt σ H fun b H1 => if b = true then t D σ H1 else u D σ H1) : tIfS tt t u D σ H := h
theorem xNext (h : D.nx σ H) : tNext D σ H := h
theorem xAug {ti : TIp} (hx : σ[i]? = some (some x)) (h : te σ H fun y H1 => ti x y H1 fun z H2 => D.nx (σ.set i (some z)) H2) : tAug i te ti D σ H := ⟨x, hx, h⟩
theorem xIpI {f : Int → Int → Int} {a b : Int} (q : Q (.int (f a b)) H) : ipI f (.int a) (.int b) H Q := ⟨a, b, rfl, rfl, q⟩
theorem xPar {i j : Nat} (h : tl σ H fun vs H1 => ∃ v w, vs = [v, w] ∧ D.nx ((σ.set i (some v)).set j (some w)) H1) : tPar i j tl D σ H := h
theorem xPar3 {i j l : Nat} (h : tl σ H fun vs H1 => ∃ u v w, vs = [u, v, w] ∧ D.nx (((σ.set i (some u)).set j (some v)).set l (some w)) H1) : tPar3 i j l tl D σ H := h
theorem xTwo {v w : V} {P : V → V → Prop} (h : P v w) : ∃ v' w', [v, w] = [v', w'] ∧ P v' w' := ⟨v, w, rfl, h⟩
theorem xThree {u v w : V} {P : V → V → V → Prop} (h : P u v w) : ∃ u' v' w', [u, v, w] = [u', v', w'] ∧ P u' v' w' := ⟨u, v, w, rfl, h⟩
/-! ### expressions -/
theorem xVar (h : σ[i]? = some (some v)) (q : Q v H) : tVar i σ H Q := ⟨v, h, q⟩
theorem xC (q : Q v H) : tC v σ H Q := q
theorem xOp (h : ta σ H fun x H1 => tb σ H1 fun y H2 => r x y H2 Q) : tOp r ta tb σ H Q := h
theorem xUn {r : V → Hp → VK → Prop} (h : ta σ H fun x H1 => r x H1 Q) : tUn r ta σ H Q := h
theorem xU {g : Int → V} {a : Int} (q : Q (g a) H) : rU g (.int a) H Q := ⟨a, rfl, q⟩
theorem xI0 {g : Int → Int → V} {a b : Int} (q : Q (g a b) H) : rI0 g (.int a) (.int b) H Q := ⟨a, b, rfl, rfl, q⟩
theorem xI {C : Int → Int → Prop} {g : Int → Int → V} {a b : Int} (c : C a b) (q : Q (g a b) H) : rI C g (.int a) (.int b) H Q := ⟨a, b, rfl, rfl, c, q⟩
theorem xEqI {a b : Int} (q : Q (.bl (decide (a = b))) H) : rEq (.int a) (.int b) H Q := ⟨rfl, by
  have e : decide (V.int a = V.int b) = decide (a = b) := by
    by_cases z : a = b
    · subst z; simp
    · rw [decide_eq_false z, decide_eq_false (fun q => z (V.int.inj q))]
  rw [e]
  exact q⟩
theorem xNeI {a b : Int} (q : Q (.bl (decide (a ≠ b))) H) : rNe (.int a) (.int b) H Q := ⟨rfl, by
  have e : (!decide (V.int a = V.int b)) = decide (a ≠ b) := by
    by_cases z : a = b
    · subst z; simp
    · rw [decide_eq_true z, decide_eq_false (fun q => z (V.int.inj q))]; rfl
  rw [e]
  exact q⟩
theorem xEqS {a b : Str} {c : Bool} (h : decide (a = b) = c) (q : Q (.bl c) H) : rEq (.str a) (.str b) H Q := ⟨rfl, by
  have e : decide (V.str a = V.str b) = decide (a = b) := by
    by_cases z : a = b
    · subst z; simp
    · rw [decide_eq_false z, decide_eq_false (fun q => z (V.str.inj q))]
  rw [e, h]
  exact q⟩
theorem xNeS {a b : Str} {c : Bool} (h : (!decide (a = b)) = c) (q : Q (.bl c) H) : rNe (.str a) (.str b) H Q := ⟨rfl, by
  have e : decide (V.str a = V.str b) = decide (a = b) := by
    by_cases z : a = b
    · subst z; simp
    · rw [decide_eq_false z, decide_eq_false (fun q => z (V.str.inj q))]
  rw [e, h]
  exact q⟩
theorem xIsN {c : Bool} (h : decide (x = .non) = c) (q : Q (.bl c) H) : rIsN x .non H Q := ⟨rfl, by rw [h]; exact q⟩
theorem xNotN {c : Bool} (h : (!decide (x = .non)) = c) (q : Q (.bl c) H) : rNotN x .non H Q := ⟨rfl, by rw [h]; exact q⟩
theorem xChain {r' : R2} (h : ta σ H fun x H1 => tb σ H1 fun y H2 => r x y H2 fun z H3 => ∃ k, z = .bl k ∧ if k = true then tc σ H3 fun w H4 => r' y w H4 Q else Q (.bl false) H3) : tChain r r' ta tb tc σ H Q := h
theorem xBl {P : Bool → Prop} {b : Bool} (q : P b) : ∃ k, V.bl b = .bl k ∧ P k := ⟨b, rfl, q⟩
theorem xIfE (h : tt σ H fun c H1 => if c = true then ta σ H1 Q else tb σ H1 Q) : tIf tt ta tb σ H Q := h
theorem xAndV (h : ta σ H fun x H1 => ∃ c, x = .bl c ∧ if c = true then tb σ H1 Q else Q (.bl false) H1) : tAndV ta tb σ H Q := h
theorem xOrV (h : ta σ H fun x H1 => ∃ c, x = .bl c ∧ if c = true then Q (.bl true) H1 else tb σ H1 Q) : tOrV ta tb σ H Q := h
theorem xNotV (h : ta σ H fun x H1 => ∃ c, x = .bl c ∧ Q (.bl (!c)) H1) : tNotV ta σ H Q := h
/-- a new tuple, a new list -/
def nTup (xs : List V) (H : Hp) (Q : VK) : Prop := xs.length ≤ sizeLine ∧ ∀ p, H p = none → Q (.ref p) (upd H p (.tup xs))
def nLst (xs : List V) (H : Hp) (Q : VK) : Prop := xs.length ≤ sizeLine ∧ ∀ p, H p = none → Q (.ref p) (upd H p (.lst xs))
theorem xTup (h : tl σ H fun xs H1 => nTup xs H1 Q) : tTup tl σ H Q := h
theorem xLst (h : tl σ H fun xs H1 => nLst xs H1 Q) : tLst tl σ H Q := h
theorem xNewT {xs : List V} (hn : xs.length ≤ 100000) (h : ∀ p H1, H p = none → Ex H H1 → H1 p = some (.tup xs) → Q (.ref p) H1) : nTup xs H Q :=
  ⟨Nat.le_trans hn (by decide), fun p hp => h p _ hp (ex_new hp) upd_same⟩
theorem xNewL {xs : List V} (hn : xs.length ≤ 100000) (h : ∀ p H1, H p = none → Ex H H1 → H1 p = some (.lst xs) → Q (.ref p) H1) : nLst xs H Q :=
  ⟨Nat.le_trans hn (by decide), fun p hp => h p _ hp (ex_new hp) upd_same⟩
theorem xNil {Q : List V → Hp → Prop} (q : Q [] H) : tNil σ H Q := q
theorem xCons {Q : List V → Hp → Prop} (h : te σ H fun x H1 => tl σ H1 fun xs H2 => Q (x :: xs) H2) : tCons te tl σ H Q := h
theorem xNew0 {P : V → Hp → Prop} {o : HO} (h : ∀ p H1, H p = none → Ex H H1 → H1 p = some o → P (.ref p) H1) : ∀ p, H p = none → P (.ref p) (upd H p o) :=
  fun p hp => h p _ hp (ex_new hp) upd_same
theorem xCB {r : List V → Hp → VK → Prop} (h : tl σ H fun vs H1 => r vs H1 Q) : tCB r tl σ H Q := h
theorem xBM {T : String} {r : V → List V → Hp → VK → Prop} (h : te σ H fun x H1 => tyV K T x H1 ∧ tl σ H1 fun xs H2 => r x xs H2 Q) : tBM K T r te tl σ H Q := h
theorem xCall {sp : Sp} {dvs : List V} {E : XK} (h : tl σ H fun vs H1 => sp (vs ++ dvs) H1 Q E) : tCall sp dvs E tl σ H Q := h
theorem xSl {r : V → Option Int → Option Int → Hp → VK → Prop} {to th : TO} (h : te σ H fun x H1 => to σ H1 fun l H2 => th σ H2 fun u H3 => r x l u H3 Q) : tSl r te to th σ H Q := h
theorem xNoPart {Q : Option Int → Hp → Prop} (h : Q none H) : tNoPart σ H Q := h
theorem xPart {Q : Option Int → Hp → Prop} (h : te σ H fun x H1 => ∃ i, x = .int i ∧ Q (some i) H1) : tPart te σ H Q := h
theorem xInt {P : Int → Prop} {a : Int} (h : P a) : ∃ i, V.int a = .int i ∧ P i := ⟨a, rfl, h⟩
/-! ### tests -/
theorem xB {Q : Bool → Hp → Prop} (h : te σ H fun x H1 => ∃ c, x = .bl c ∧ Q c H1) : tB te σ H Q := h
theorem xTest {Q : Bool → Hp → Prop} (h : te σ H fun x H1 => ∃ c, x = .bl c ∧ Q c H1) : tTest te σ H Q := h
theorem xAnd {Q : Bool → Hp → Prop} (h : tt σ H fun c H1 => if c = true then tu σ H1 Q else Q false H1) : tAnd tt tu σ H Q := h
theorem xOr {Q : Bool → Hp → Prop} (h : tt σ H fun c H1 => if c = true then Q true H1 else tu σ H1 Q) : tOr tt tu σ H Q := h
theorem xNot {Q : Bool → Hp → Prop} (h : tt σ H fun c H1 => Q (!c) H1) : tNot tt σ H Q := h
theorem xYes {Q : Bool → Hp → Prop} (h : Q true H) : tYes σ H Q := h
/-! ### the two ways -/
theorem itT {A B : Prop} (h : A) : if true = true then A else B := by rw [if_pos rfl]; exact h
theorem itF {A B : Prop} (h : B) : if false = true then A else B := by rw [if_neg Bool.false_ne_true]; exact h
theorem itNT {A B : Prop} (h : B) : if (!true) = true then A else B := by rw [if_neg (by decide)]; exact h
theorem itNF {A B : Prop} (h : A) : if (!false) = true then A else B := by rw [if_pos (by rfl)]; exact h
theorem itD {c A B : Prop} [Decidable c] (h1 : c → A) (h2 : ¬ c → B) : if decide c = true then A else B := by
  by_cases h : c
  · rw [if_pos (decide_eq_true h)]; exact h1 h
  · rw [if_neg (by rw [decide_eq_false h]; decide)]; exact h2 h
theorem itDN {c A B : Prop} [Decidable c] (h1 : ¬ c → A) (h2 : c → B) : if (!decide c) = true then A else B := by
  by_cases h : c
  · rw [if_neg (by rw [decide_eq_true h]; decide)]; exact h2 h
  · rw [if_pos (by rw [decide_eq_false h]; rfl)]; exact h1 h
theorem itY {c A B : Prop} [Decidable c] (h : c) (a : A) : if decide c = true then A else B := by rw [if_pos (decide_eq_true h)]; exact a
theorem itN {c A B : Prop} [Decidable c] (h : ¬ c) (b : B) : if decide c = true then A else B := by rw [if_neg (by rw [decide_eq_false h]; decide)]; exact b
theorem itNY {c A B : Prop} [Decidable c] (h : c) (b : B) : if (!decide c) = true then A else B := by rw [if_neg (by rw [decide_eq_true h]; decide)]; exact b
theorem itNN {c A B : Prop} [Decidable c] (h : ¬ c) (a : A) : if (!decide c) = true then A else B := by rw [if_pos (by rw [decide_eq_false h]; rfl)]; exact a
/-! ### lists, tuples, built-ins -/
theorem xIxL {a : Addr} {xs : List V} {i : Int} (h : H a = some (.lst xs)) (ha : atI xs i = some v) (q : Q v H) : rIxL K (.ref a) (.int i) H Q := ⟨a, xs, i, v, rfl, rfl, SqL.of h, ha, q⟩
theorem xIxT {a : Addr} {xs : List V} {i : Int} (h : H a = some (.tup xs)) (ha : atI xs i = some v) (q : Q v H) : rIxT K (.ref a) (.int i) H Q := ⟨a, xs, i, v, rfl, rfl, SqT.of h, ha, q⟩
def rLen (K : PySem.W.Frag) : List V → Hp → VK → Prop := fun xs H Q => ∃ p ys, xs = [.ref p] ∧ (SqL K H p ys ∨ SqT K H p ys) ∧ Q (.int ys.length) H
theorem call_len {X : Cx} : CallR X (.builtin "len") (rLen X.K) := call_len_seq
theorem xLenL {a : Addr} {xs : List V} (h : H a = some (.lst xs)) (q : Q (.int (xs.length : Int)) H) : rLen K [.ref a] H Q := ⟨a, xs, rfl, .inl (SqL.of h), q⟩
theorem xLenT {a : Addr} {xs : List V} (h : H a = some (.tup xs)) (q : Q (.int (xs.length : Int)) H) : rLen K [.ref a] H Q := ⟨a, xs, rfl, .inr (SqT.of h), q⟩
def rInt1 : List V → Hp → VK → Prop := fun xs H Q => (∃ i, xs = [.int i] ∧ Q (.int i) H) ∨ ∃ k, xs = [.bl k] ∧ Q (.int (if k then 1 else 0)) H
theorem call_int {X : Cx} : CallR X (.type "int") rInt1 := call_int1
theorem xInt1 {a : Int} (q : Q (.int a) H) : rInt1 [.int a] H Q := .inl ⟨a, rfl, q⟩
theorem xIntB {b : Bool} (q : Q (.int (if b then 1 else 0)) H) : rInt1 [.bl b] H Q := .inr ⟨b, rfl, q⟩
def rMax2 : List V → Hp → VK → Prop := fun xs H Q => ∃ i j, xs = [.int i, .int j] ∧ Q (.int (if j > i then j else i)) H
def rMin2 : List V → Hp → VK → Prop := fun xs H Q => ∃ i j, xs = [.int i, .int j] ∧ Q (.int (if j < i then j else i)) H
theorem call_max {X : Cx} (hc : X.calm = true) : CallR X (.builtin "max") rMax2 := call_max2 hc
theorem call_min {X : Cx} (hc : X.calm = true) : CallR X (.builtin "min") rMin2 := call_min2 hc
theorem xMax2 {a b c : Int} (e : c = max a b) (q : Q (.int c) H) : rMax2 [.int a, .int b] H Q := ⟨a, b, rfl, by rw [show (if b > a then b else a) = c by omega]; exact q⟩
theorem xMin2 {a b c : Int} (e : c = min a b) (q : Q (.int c) H) : rMin2 [.int a, .int b] H Q := ⟨a, b, rfl, by rw [show (if b < a then b else a) = c by omega]; exact q⟩
def rListOf (K : PySem.W.Frag) : List V → Hp → VK → Prop := fun xs H Q => ∃ p ys, xs = [.ref p] ∧ (SqL K H p ys ∨ SqT K H p ys) ∧ ∀ l, H l = none → Q (.ref l) (upd H l (.lst ys))
theorem call_list {X : Cx} : CallR X (.type "list") (rListOf X.K) := call_list_of
theorem xListOf {a : Addr} {xs : List V} (h : H a = some (.lst xs)) (q : ∀ p H1, H p = none → Ex H H1 → H1 p = some (.lst xs) → Q (.ref p) H1) : rListOf K [.ref a] H Q :=
  ⟨a, xs, rfl, .inl (SqL.of h), xNew0 (P := Q) q⟩
theorem xCat {a b : Addr} {xs ys : List V} (h : H a = some (.lst xs)) (h' : H b = some (.lst ys)) (hl : xs.length + ys.length ≤ 100000) (q : ∀ p H1, H p = none → Ex H H1 → H1 p = some (.lst (xs ++ ys)) → Q (.ref p) H1) : rCat (.ref a) (.ref b) H Q :=
  ⟨a, b, xs, ys, rfl, rfl, h, h', Nat.le_trans hl (by decide), xNew0 (P := Q) q⟩
theorem xSlL {a : Addr} {xs : List V} {lo hi : Option Int} (h : H a = some (.lst xs)) (q : ∀ p H1, H p = none → Ex H H1 → H1 p = some (.lst (cutV xs lo hi)) → Q (.ref p) H1) : rSlL K (.ref a) lo hi H Q :=
  ⟨a, xs, rfl, SqL.of h, xNew0 (P := Q) q⟩
theorem xSum {a : Addr} {ns : List Int} (h : H a = some (.lst (ns.map V.int))) (q : Q (.int ns.sum) H) : rSum K [.ref a] H Q := ⟨a, ns, rfl, SqL.of h, q⟩
theorem xMax {a : Addr} {ns : List Int} (h : H a = some (.lst (ns.map V.int))) (hn : 0 < ns.length) (q : ∀ m, m ∈ ns → (∀ y, y ∈ ns → y ≤ m) → Q (.int m) H) : rMax K [.ref a] H Q := ⟨a, ns, rfl, SqL.of h, hn, q⟩
theorem xMin {a : Addr} {ns : List Int} (h : H a = some (.lst (ns.map V.int))) (hn : 0 < ns.length) (q : ∀ m, m ∈ ns → (∀ y, y ∈ ns → m ≤ y) → Q (.int m) H) : rMin K [.ref a] H Q := ⟨a, ns, rfl, SqL.of h, hn, q⟩
theorem xAll {a : Addr} {bs : List Bool} (h : H a = some (.lst (bs.map V.bl))) (q : Q (.bl (bs.all id)) H) : rAll K [.ref a] H Q := ⟨a, bs, rfl, SqL.of h, q⟩
theorem xApp {a : Addr} {xs : List V} {y : V} (h : H a = some (.lst xs)) (hl : xs.length < 100000) (q : Q .non (upd H a (.lst (xs ++ [y])))) : tyV K "list" (.ref a) H ∧ rAppend (.ref a) [y] H Q :=
  ⟨.inl ⟨rfl, _, SqL.of h⟩, a, xs, y, rfl, rfl, h, Nat.lt_of_lt_of_le hl (by decide), q⟩
theorem tyL {a : Addr} {xs : List V} (h : H a = some (.lst xs)) : tyV K "list" (.ref a) H := .inl ⟨rfl, _, SqL.of h⟩
theorem xApp1 {a : Addr} {xs : List V} {y : V} (h : H a = some (.lst xs)) (hl : xs.length < 100000) (q : Q .non (upd H a (.lst (xs ++ [y])))) : rAppend (.ref a) [y] H Q :=
  ⟨a, xs, y, rfl, rfl, h, Nat.lt_of_lt_of_le hl (by decide), q⟩
theorem xIsi {x : V} {t : Value} {n : String} {b : Bool} (ty : TyOf K H x t) (e : PySem.W.kitOne K t (.type n) = some b) (q : Q (.bl b) H) : rIsi K [x, .ty n] H Q := ⟨x, .ty n, t, .type n, b, rfl, .ty n, .base ty, e, q⟩
theorem xIsiC {x : V} {t : Value} {C : Addr} {b : Bool} (ty : TyOf K H x t) (e : PySem.W.kitOne K t (.ref C) = some b) (q : Q (.bl b) H) : rIsi K [x, .ref C] H Q := ⟨x, .ref C, t, .ref C, b, rfl, .own C, .base ty, e, q⟩
/-! ### fields, methods -/
def Has (K : PySem.W.Frag) (H : Hp) (a : Addr) (f : Str) (v : V) : Prop := ∃ C dx fs, H a = some (.ins C dx fs) ∧ Cls K C ∧ NoAttr K C f ∧ fs.lookup f = some v
def IsO (H : Hp) (C a : Addr) (m : Str) : Prop := ∃ dx fs, H a = some (.ins C dx fs) ∧ fs.lookup m = none
theorem has_ex {H H' : Hp} {a : Addr} {f : Str} {v : V} (e : Ex H H') (h : Has K H a f v) : Has K H' a f v :=
  let ⟨C, dx, fs, h1, h2⟩ := h; ⟨C, dx, fs, e _ _ h1, h2⟩
theorem obj_ex {H H' : Hp} {C a : Addr} {m : Str} (e : Ex H H') (h : IsO H C a m) : IsO H' C a m :=
  let ⟨dx, fs, h1, h2⟩ := h; ⟨dx, fs, e _ _ h1, h2⟩
theorem xFld {f : Str} (h : ta σ H fun x H1 => ∃ a C dx fs v, x = .ref a ∧ H1 a = some (.ins C dx fs) ∧ Cls K C ∧ NoAttr K C f ∧ fs.lookup f = some v ∧ Q v H1) : tFld K ta f σ H Q := h
theorem xHas {f : Str} {p : Addr} {v : V} {R : V → Prop} (h : Has K H p f v) (q : R v) : ∃ a C dx fs v', V.ref p = .ref a ∧ H a = some (.ins C dx fs) ∧ Cls K C ∧ NoAttr K C f ∧ fs.lookup f = some v' ∧ R v' :=
  let ⟨C, dx, fs, h1, h2, h3, h4⟩ := h; ⟨p, C, dx, fs, v, rfl, h1, h2, h3, h4, q⟩
theorem xMeth {C : Addr} {m : Str} {sp : Sp} {dvs : List V} {E : XK} (h : ta σ H fun x H1 => ∃ a dx fs, x = .ref a ∧ H1 a = some (.ins C dx fs) ∧ fs.lookup m = none ∧ tl σ H1 fun vs H2 => sp (x :: (vs ++ dvs)) H2 Q E) : tMeth C m sp dvs E ta tl σ H Q := h
theorem xObj {C p : Addr} {m : Str} {P : Prop} (h : IsO H C p m) (q : P) : ∃ a dx fs, V.ref p = .ref a ∧ H a = some (.ins C dx fs) ∧ fs.lookup m = none ∧ P :=
  let ⟨dx, fs, h1, h2⟩ := h; ⟨p, dx, fs, rfl, h1, h2, q⟩
/-! ### a field stored -/
def nFld (K : PySem.W.Frag) (x y : V) (f : Str) (D : Ends) (σ : St) (H : Hp) : Prop := ∃ a C dx fs, x = .ref a ∧ H a = some (.ins C dx fs) ∧ Cls K C ∧ NoAttr K C f ∧ fs.length < 1000 ∧ D.nx σ (upd H a (.ins C dx (putF f y fs)))
theorem xFldS {f : Str} (h : tb σ H fun y H1 => ta σ H1 fun x H2 => nFld K x y f D σ H2) : sFld K ta tb f D σ H := h
theorem xPutF {f : Str} {a C dx : Addr} {fs fs' : List (Str × V)} (h : H a = some (.ins C dx fs)) (hc : Cls K C) (hn : NoAttr K C f) (hl : fs.length < 1000) (e : putF f y fs = fs') (q : D.nx σ (upd H a (.ins C dx fs'))) : nFld K (.ref a) y f D σ H :=
  ⟨a, C, dx, fs, rfl, h, hc, hn, hl, by rw [e]; exact q⟩
theorem ex_mut {H' : Hp} {p : Addr} {o : HO} (e : Ex H H') (h : H p = none) : Ex H (upd H' p o) := Evl.Ex.mut e h
/-! ### targets -/
theorem xGTup {n : Nat} {g : TGs} {a : Addr} {xs : List V} {Q : St → Hp → Prop} (h : H a = some (.tup xs)) (hn : xs.length = n) (q : g xs σ H Q) : gTup K n g (.ref a) σ H Q := ⟨a, xs, rfl, SqT.of h, hn, q⟩
theorem xGCons {g : TG} {gs : TGs} {v : V} {vs : List V} {Q : St → Hp → Prop} (q : g v σ H fun σ' H' => gs vs σ' H' Q) : gCons g gs (v :: vs) σ H Q := ⟨v, vs, rfl, q⟩
theorem xGNil {Q : St → Hp → Prop} (q : Q σ H) : gNil [] σ H Q := ⟨rfl, q⟩
theorem xGSub {to ti : TE} {t : TSet} {v : V} {Q : St → Hp → Prop} (h : to σ H fun o H1 => ti σ H1 fun i H2 => t o i v H2 fun H3 => Q σ H3) : gSub to ti t v σ H Q := h
theorem xSetL {p : Addr} {xs : List V} {z : Int} {j : Nat} {v : V} {Q : Hp → Prop} (h : H p = some (.lst xs)) (e : z = (j : Int)) (hj : j < xs.length) (q : Q (upd H p (.lst (xs.set j v)))) : rSetL (.ref p) (.int z) v H Q :=
  ⟨p, xs, z, j, rfl, rfl, h, by rw [e]; exact Evl.ixN_nat hj, q⟩
/-! ### loops -/
/-- a walk's turns: what a for asks of its iterator -/
def fGo (J : It) (g : TG) (tb : TS) (D : Ends) (σ : St) (H : Hp) : Prop := ∃ W : Nat → Nat → St → Hp → Prop, (∃ m, W 0 m σ H) ∧ ∀ i m σ H, W i m σ H →
  (J.stop i H ∧ D.nx σ H) ∨ (J.go i H ∧ ∃ N : St → Hp → Prop, (∀ σ' H', N σ' H' → ∃ m', m' < m ∧ W (i + 1) m' σ' H') ∧ ∀ x H', J.yld i H x H' → g x σ H' fun σ2 H2 => tb { D with nx := N, ct := N, bk := D.nx } σ2 H2)
theorem xFor {wi : TI} {g : TG} {tb : TS} (h : wi σ H fun J H1 => fGo J g tb D σ H1) : tFor wi g tb D σ H := h
def cGo (J : It) (g : TG) (tt : TT) (te : TE) (vs : List Nat) (σ : St) (Q : VK) (H1 : Hp) : Prop := ∀ D, H1 D = none → ∃ W : Nat → Nat → Hp → Prop, (∃ m, W 0 m (upd H1 D (.lst []))) ∧ ∀ i m H, W i m H →
  (J.stop i H ∧ Q (.ref D) H) ∨ (J.go i H ∧ ∃ Nx : Hp → Prop, (∀ H', Nx H' → ∃ m', m' < m ∧ W (i + 1) m' H') ∧ ∀ x H', J.yld i H x H' → g x (wipe σ vs) H' fun σ2 H2 => wipe σ2 vs = wipe σ vs ∧ tt σ2 H2 fun b H3 =>
    if b = true then te σ2 H3 fun y H4 => ∃ acc, H4 D = some (.lst acc) ∧ acc.length < sizeLine ∧ Nx (upd H4 D (.lst (acc ++ [y]))) else Nx H3)
theorem xLc {wi : TI} {g : TG} {vs : List Nat} (h : wi σ H fun J H1 => cGo J g tt te vs σ Q H1) : tLc wi g tt te vs σ H Q := h
/-! what is walked -/
def wList (K : PySem.W.Frag) (x : V) (H : Hp) (R : It → Hp → Prop) : Prop := ∃ a, x = .ref a ∧ (∃ xs, SqL K H a xs) ∧ R (Itl K a) H
def wTup (K : PySem.W.Frag) (x : V) (H : Hp) (R : It → Hp → Prop) : Prop := ∃ a, x = .ref a ∧ (∃ xs, SqT K H a xs) ∧ R (Itt K a) H
def wEnum (K : PySem.W.Frag) (vs : List V) (H : Hp) (R : It → Hp → Prop) : Prop := ∃ a xs, vs = [.ref a] ∧ SqL K H a xs ∧ R (Ite K a) H
def wZip (K : PySem.W.Frag) (vs : List V) (H : Hp) (R : It → Hp → Prop) : Prop := ∃ a b xs ys, vs = [.ref a, .ref b] ∧ SqL K H a xs ∧ SqL K H b ys ∧ R (Itz K a b) H
def wRng (vs : List V) (H : Hp) (R : It → Hp → Prop) : Prop := ∃ j : Int, vs = [.int j] ∧ -(2 ^ 62) ≤ j ∧ j < 2 ^ 62 ∧ R (Itr 0 j.toNat) H
def wItems (x : V) (H : Hp) (R : It → Hp → Prop) : Prop := ∃ d o kvs, x = .ref d ∧ H d = some (.frz o (.dK kvs)) ∧ R (Iti d o kvs) H
def wKeys (x : V) (H : Hp) (R : It → Hp → Prop) : Prop := ∃ d o, x = .ref d ∧ ((∃ kvs, H d = some (.frz o (.dK kvs)) ∧ R (Itk d o kvs) H) ∨ ∃ kvs, H d = some (.frz o (.dT kvs)) ∧ R (Itkt d o kvs) H)
theorem xIList {R : It → Hp → Prop} (h : te σ H fun x H1 => wList K x H1 R) : iList K te σ H R := h
theorem xITup {R : It → Hp → Prop} (h : te σ H fun x H1 => wTup K x H1 R) : iTup K te σ H R := h
theorem xIEnum {R : It → Hp → Prop} (h : tl σ H fun x H1 => wEnum K x H1 R) : iEnum K tl σ H R := h
theorem xIZip {R : It → Hp → Prop} (h : tl σ H fun x H1 => wZip K x H1 R) : iZip K tl σ H R := h
theorem xIRng {R : It → Hp → Prop} (h : tl σ H fun x H1 => wRng x H1 R) : iRng1 tl σ H R := h
theorem xIItems {R : It → Hp → Prop} (h : te σ H fun x H1 => wItems x H1 R) : iItems te σ H R := h
theorem xIKeys {R : It → Hp → Prop} (h : te σ H fun x H1 => wKeys x H1 R) : iKeys te σ H R := h
/-- a for over a walk of n turns that stands while G does -/
theorem fgo_walk {J : It} {n : Nat} {G : Hp → Prop} {Y : Nat → Hp → V → Hp → Prop} (W : Walk J n G Y) {g : TG} {tb : TS} (Pv : Nat → St → Hp → Prop) (h0 : Pv 0 σ H) (hG : ∀ i σ H, i ≤ n → Pv i σ H → G H)
    (hs : ∀ i x σ H H', i < n → Pv i σ H → Y i H x H' → g x σ H' fun σ2 H2 => tb { D with nx := Pv (i + 1), ct := Pv (i + 1), bk := D.nx } σ2 H2) (hd : ∀ σ H, Pv n σ H → D.nx σ H) : fGo J g tb D σ H :=
  for_it W Pv h0 hG hs hd
/-- for i, x in enumerate(xs) -/
theorem xForEnum {a : Addr} {xs : List V} {g : TG} {tb : TS} (h : H a = some (.lst xs)) (Pv : Nat → St → Hp → Prop) (h0 : Pv 0 σ H) (hE : ∀ i σ' H', Pv i σ' H' → Ex H H')
    (turn : ∀ (i : Nat) x σ' H', xs[i]? = some x → Pv i σ' H' → ∀ T H2, Ex H' H2 → H2 T = some (.tup [.int (i : Int), x]) → g (.ref T) σ' H2 fun σ2 H3 => tb { D with nx := Pv (i + 1), ct := Pv (i + 1), bk := D.nx } σ2 H3)
    (done : ∀ σ' H', Pv xs.length σ' H' → D.nx σ' H') : wEnum K [.ref a] H fun J H1 => fGo J g tb D σ H1 :=
  ⟨a, xs, rfl, SqL.of h, fgo_walk walk_enum Pv h0 (fun i σ' H' _ p => SqL.of (hE i σ' H' p _ _ h)) (fun i x σ' H' H2 hi p y => by
    obtain ⟨T, u, v, rfl, hT, rfl, e1, e2⟩ := y
    cases e1
    exact turn i v σ' H' e2 p T _ (ex_new hT) upd_same) done⟩
/-- for x in xs, the list stays -/
theorem xForList {a : Addr} {xs : List V} {g : TG} {tb : TS} (h : H a = some (.lst xs)) (Pv : Nat → St → Hp → Prop) (h0 : Pv 0 σ H) (hE : ∀ i σ' H', Pv i σ' H' → H' a = some (.lst xs))
    (turn : ∀ (i : Nat) x σ' H', xs[i]? = some x → Pv i σ' H' → g x σ' H' fun σ2 H3 => tb { D with nx := Pv (i + 1), ct := Pv (i + 1), bk := D.nx } σ2 H3)
    (done : ∀ σ' H', Pv xs.length σ' H' → D.nx σ' H') : wList K (.ref a) H fun J H1 => fGo J g tb D σ H1 :=
  ⟨a, rfl, ⟨xs, SqL.of h⟩, fgo_walk walk_list Pv h0 (fun i σ' H' _ p => SqL.of (hE i σ' H' p)) (fun i x σ' H' H2 hi p y => by
    obtain ⟨rfl, e⟩ := y
    exact turn i x σ' _ e p) done⟩
/-- for i in range(n) -/
theorem xForRng {n : Nat} {g : TG} {tb : TS} (hn : n ≤ 100000) (Pv : Nat → St → Hp → Prop) (h0 : Pv 0 σ H)
    (turn : ∀ (i : Nat) σ' H', i < n → Pv i σ' H' → g (.int (i : Int)) σ' H' fun σ2 H3 => tb { D with nx := Pv (i + 1), ct := Pv (i + 1), bk := D.nx } σ2 H3)
    (done : ∀ σ' H', Pv n σ' H' → D.nx σ' H') : wRng [.int (n : Int)] H fun J H1 => fGo J g tb D σ H1 :=
  ⟨n, rfl, by omega, by omega, fgo_walk (n := n) (walk_range (lo := 0)) Pv h0 (fun _ _ _ _ _ => trivial) (fun i x σ' H' H2 hi p y => by
    obtain ⟨rfl, rfl⟩ := y
    show g (V.int ((0 : Int) + (i : Int))) σ' _ _
    rw [show (0 : Int) + (i : Int) = (i : Int) by omega]
    exact turn i σ' _ hi p) done⟩
/-- for x, y in zip(xs, ys) -/
theorem xForZip {a b : Addr} {xs ys : List V} {n : Nat} {g : TG} {tb : TS} (h : H a = some (.lst xs)) (h' : H b = some (.lst ys)) (hn : n = min xs.length ys.length) (Pv : Nat → St → Hp → Prop) (h0 : Pv 0 σ H)
    (hE : ∀ i σ' H', Pv i σ' H' → H' a = some (.lst xs) ∧ H' b = some (.lst ys))
    (turn : ∀ (i : Nat) x y σ' H', xs[i]? = some x → ys[i]? = some y → Pv i σ' H' → ∀ T H2, Ex H' H2 → H' T = none → H2 T = some (.tup [x, y]) → g (.ref T) σ' H2 fun σ2 H3 => tb { D with nx := Pv (i + 1), ct := Pv (i + 1), bk := D.nx } σ2 H3)
    (done : ∀ σ' H', Pv n σ' H' → D.nx σ' H') : wZip K [.ref a, .ref b] H fun J H1 => fGo J g tb D σ H1 :=
  ⟨a, b, xs, ys, rfl, SqL.of h, SqL.of h', fgo_walk (walk_zip hn) Pv h0 (fun i σ' H' _ p => ⟨SqL.of (hE i σ' H' p).1, SqL.of (hE i σ' H' p).2⟩) (fun i x σ' H' H2 hi p y => by
    obtain ⟨T, u, v, rfl, hT, rfl, e1, e2⟩ := y
    exact turn i u v σ' H' e1 e2 p T _ (ex_new hT) hT upd_same) done⟩
/-- while: a word by a measure; behind the test the two ways -/
def wGo (W : Nat → St → Hp → Prop) (m : Nat) (tb : TS) (D : Ends) (σ : St) (H : Hp) : Prop := ∃ N : St → Hp → Prop, (∀ σ' H', N σ' H' → ∃ m', m' < m ∧ W m' σ' H') ∧ tb { D with nx := N, ct := N, bk := D.nx } σ H
theorem xWhile {c : TT} {tb : TS} (W : Nat → St → Hp → Prop) (m0 : Nat) (h0 : W m0 σ H) (hs : ∀ m σ H, W m σ H → c σ H fun b H1 => if b = true then wGo W m tb D σ H1 else D.nx σ H1) : tWhile c tb D σ H := ⟨W, ⟨m0, h0⟩, hs⟩
theorem xTurn {tb : TS} {W : Nat → St → Hp → Prop} {m : Nat} (h : tb { D with nx := fun σ' H' => ∃ m', m' < m ∧ W m' σ' H', ct := fun σ' H' => ∃ m', m' < m ∧ W m' σ' H', bk := D.nx } σ H) : wGo W m tb D σ H := ⟨_, fun _ _ h => h, h⟩
/-! ### comprehensions: the list so far stands at D; what is known is known of the heap without D -/
def era (H : Hp) (d : Addr) : Hp := fun b => if b = d then none else H b
theorem era_none {d : Addr} : era H d d = none := if_pos rfl
theorem era_at {b d : Addr} {o : HO} (h : H b = some o) (n : b ≠ d) : era H d b = some o := by unfold era; rw [if_neg n]; exact h
theorem era_ex {S : Hp} {d : Addr} (e : Ex S H) (n : S d = none) : Ex S (era H d) := fun b o h => era_at (e b o h) (ne_of_none h n)
theorem ex_era {d : Addr} : Ex (era H d) H := fun b o h => by
  unfold era at h
  split at h
  · cases h
  · exact h
theorem era_upd {d : Addr} {o : HO} : Ex (era H d) (upd H d o) := fun b u h => by
  unfold era at h
  split at h
  · cases h
  · rename_i n
    rw [upd_ne n]; exact h
theorem cgo {J : It} {n : Nat} {G : Hp → Prop} {Y : Nat → Hp → V → Hp → Prop} (W : Walk J n G Y) {g : TG} {vs : List Nat} (hn : n ≤ 100000) (Pv : Nat → List V → Hp → Prop) (hG : ∀ H', Ex H H' → G H') (h0 : Pv 0 [] H)
    (turn : ∀ i x l D S H1 H2 (Y1 : V → Hp → Prop) (N1 : Hp → Prop), i < n → S D = none → Ex H S → Ex S H1 → H1 D = some (.lst l) → Pv i l S → Y i H1 x H2 →
      (∀ y H5, Ex H1 H5 → Pv (i + 1) (l ++ [y]) (era H5 D) → Y1 y H5) → (∀ H4, Ex H1 H4 → Pv (i + 1) l (era H4 D) → N1 H4) →
      g x (wipe σ vs) H2 fun σ2 H3 => wipe σ2 vs = wipe σ vs ∧ tt σ2 H3 fun b H4 => if b = true then te σ2 H4 Y1 else N1 H4)
    (k : ∀ p H1 l S, H p = none → Ex H S → Ex S H1 → S p = none → H1 p = some (.lst l) → Pv n l S → Q (.ref p) H1) : cGo J g tt te vs σ Q H := by
  intro D hD
  refine lc_it W (fun i H' => ∃ l S, S D = none ∧ Ex H S ∧ Ex S H' ∧ H' D = some (.lst l) ∧ l.length ≤ i ∧ Pv i l S) ⟨[], H, hD, ex_refl H, ex_new hD, upd_same, Nat.zero_le _, h0⟩ ?_ ?_ ?_
  · rintro i H' _ ⟨l, S, _, e1, e2, _⟩
    exact hG H' (e1.trans e2)
  · rintro i x H1 H2 hi ⟨l, S, a1, a2, a3, a4, a5, a6⟩ y
    refine turn i x l D S H1 H2 _ _ hi a1 a2 a3 a4 a6 y (fun y H5 e p => ?_) (fun H4 e p => ?_)
    · exact ⟨l, e _ _ a4, Nat.lt_of_lt_of_le (show l.length < 100000 by omega) (by decide), l ++ [y], era H5 D, era_none, a2.trans (era_ex (a3.trans e) a1), era_upd, upd_same, by rw [List.length_append, List.length_singleton]; omega, p⟩
    · exact ⟨l, era H4 D, era_none, a2.trans (era_ex (a3.trans e) a1), ex_era, e _ _ a4, by omega, p⟩
  · rintro H' ⟨l, S, a1, a2, a3, a4, a5, a6⟩
    exact k D H' l S hD a2 a3 a1 a4 a6
/-- over a list, each item's result known: f x -/
theorem cgoList {a : Addr} {xs : List V} {g : TG} {vs : List Nat} (h : H a = some (.lst xs)) (hn : xs.length ≤ 100000) (f : V → Option V)
    (turn : ∀ (i : Nat) x H1 (Y1 : V → Hp → Prop) (N1 : Hp → Prop), xs[i]? = some x → Ex H H1 → (∀ y H5, Ex H1 H5 → f x = some y → Y1 y H5) → (∀ H4, Ex H1 H4 → f x = none → N1 H4) →
      g x (wipe σ vs) H1 fun σ2 H3 => wipe σ2 vs = wipe σ vs ∧ tt σ2 H3 fun b H4 => if b = true then te σ2 H4 Y1 else N1 H4)
    (k : ∀ p H1, H p = none → Ex H H1 → H1 p = some (.lst (xs.filterMap f)) → Q (.ref p) H1) : wList K (.ref a) H fun J H1 => cGo J g tt te vs σ Q H1 := by
  refine ⟨a, rfl, ⟨xs, SqL.of h⟩, cgo walk_list hn (fun i l _ => l = (xs.take i).filterMap f) (fun H' e => SqL.of (e _ _ h)) rfl (fun i x l D S H1 H2 Y1 N1 hi a1 a2 a3 a4 a5 y hy hN => ?_) (fun p H1 l S hp e1 e2 _ hl e => k p H1 hp (e1.trans e2) ?_)⟩
  · obtain ⟨rfl, e⟩ := y
    refine turn i x _ Y1 N1 e (a2.trans a3) (fun y H5 e5 q => hy y H5 e5 ?_) (fun H4 e4 q => hN H4 e4 ?_)
    · rw [List.take_add_one, e, List.filterMap_append, ← a5]
      simp [q]
    · rw [List.take_add_one, e, List.filterMap_append, ← a5]
      simp [q]
  · rw [hl, e, List.take_of_length_le (Nat.le_refl _)]
/-- over range(n) -/
theorem cgoRng {n : Nat} {g : TG} {vs : List Nat} (hn : n ≤ 100000) (f : Nat → Option V)
    (turn : ∀ (i : Nat) H1 (Y1 : V → Hp → Prop) (N1 : Hp → Prop), i < n → Ex H H1 → (∀ y H5, Ex H1 H5 → f i = some y → Y1 y H5) → (∀ H4, Ex H1 H4 → f i = none → N1 H4) →
      g (.int (i : Int)) (wipe σ vs) H1 fun σ2 H3 => wipe σ2 vs = wipe σ vs ∧ tt σ2 H3 fun b H4 => if b = true then te σ2 H4 Y1 else N1 H4)
    (k : ∀ p H1, H p = none → Ex H H1 → H1 p = some (.lst ((List.range n).filterMap f)) → Q (.ref p) H1) : wRng [.int (n : Int)] H fun J H1 => cGo J g tt te vs σ Q H1 := by
  refine ⟨n, rfl, by omega, by omega, cgo (n := n) (walk_range (lo := 0)) hn (fun i l _ => l = (List.range i).filterMap f) (fun _ _ => trivial) rfl (fun i x l D S H1 H2 Y1 N1 hi a1 a2 a3 a4 a5 y hy hN => ?_) (fun p H1 l S hp e1 e2 _ hl e => k p H1 hp (e1.trans e2) ?_)⟩
  · obtain ⟨rfl, rfl⟩ := y
    show g (V.int ((0 : Int) + (i : Int))) _ _ _
    rw [show (0 : Int) + (i : Int) = (i : Int) by omega]
    refine turn i _ Y1 N1 hi (a2.trans a3) (fun y H5 e5 q => hy y H5 e5 ?_) (fun H4 e4 q => hN H4 e4 ?_)
    · rw [List.range_succ, List.filterMap_append, ← a5]
      simp [q]
    · rw [List.range_succ, List.filterMap_append, ← a5]
      simp [q]
  · rw [hl, e]
/-- over enumerate(xs) -/
theorem cgoEnum {a : Addr} {xs : List V} {g : TG} {vs : List Nat} (h : H a = some (.lst xs)) (hn : xs.length ≤ 100000) (f : Nat → V → Option V)
    (turn : ∀ (i : Nat) x T H1 (Y1 : V → Hp → Prop) (N1 : Hp → Prop), xs[i]? = some x → Ex H H1 → H1 T = some (.tup [.int (i : Int), x]) → (∀ y H5, Ex H1 H5 → f i x = some y → Y1 y H5) → (∀ H4, Ex H1 H4 → f i x = none → N1 H4) →
      g (.ref T) (wipe σ vs) H1 fun σ2 H3 => wipe σ2 vs = wipe σ vs ∧ tt σ2 H3 fun b H4 => if b = true then te σ2 H4 Y1 else N1 H4)
    (k : ∀ p H1, H p = none → Ex H H1 → H1 p = some (.lst ((List.range xs.length).filterMap fun i => xs[i]?.bind (f i))) → Q (.ref p) H1) : wEnum K [.ref a] H fun J H1 => cGo J g tt te vs σ Q H1 := by
  refine ⟨a, xs, rfl, SqL.of h, cgo walk_enum hn (fun i l _ => l = (List.range i).filterMap fun i => xs[i]?.bind (f i)) (fun H' e => SqL.of (e _ _ h)) rfl (fun i x l D S H1 H2 Y1 N1 hi a1 a2 a3 a4 a5 y hy hN => ?_) (fun p H1 l S hp e1 e2 _ hl e => k p H1 hp (e1.trans e2) ?_)⟩
  · obtain ⟨T, u, v, rfl, hT, rfl, e1, e2⟩ := y
    cases e1
    refine turn i v T _ Y1 N1 e2 ((a2.trans a3).trans (ex_new hT)) upd_same (fun y H5 e5 q => hy y H5 ((ex_new hT).trans e5) ?_) (fun H4 e4 q => hN H4 ((ex_new hT).trans e4) ?_)
    · rw [List.range_succ, List.filterMap_append, ← a5]
      simp [e2, q]
    · rw [List.range_succ, List.filterMap_append, ← a5]
      simp [e2, q]
  · rw [hl, e]
/-- over d.items(), d locked -/
theorem cgoItems {d : Addr} {o : Obj} {kvs : List (Key × V)} {g : TG} {vs : List Nat} (h : H d = some (.frz o (.dK kvs))) (hn : kvs.length ≤ 100000) (Pv : Nat → List V → Hp → Prop) (h0 : Pv 0 [] H)
    (turn : ∀ (i : Nat) x v l D T S H1 (Y1 : V → Hp → Prop) (N1 : Hp → Prop), kvs[i]? = some (x, v) → S D = none → Ex H S → Ex S H1 → H1 D = some (.lst l) → Pv i l S → H1 T = some (.tup [kV x, v]) →
      (∀ y H5, Ex H1 H5 → Pv (i + 1) (l ++ [y]) (era H5 D) → Y1 y H5) → (∀ H4, Ex H1 H4 → Pv (i + 1) l (era H4 D) → N1 H4) →
      g (.ref T) (wipe σ vs) H1 fun σ2 H3 => wipe σ2 vs = wipe σ vs ∧ tt σ2 H3 fun b H4 => if b = true then te σ2 H4 Y1 else N1 H4)
    (k : ∀ p H1 l S, H p = none → Ex H S → Ex S H1 → S p = none → H1 p = some (.lst l) → Pv kvs.length l S → Q (.ref p) H1) : wItems (.ref d) H fun J H1 => cGo J g tt te vs σ Q H1 := by
  refine ⟨d, o, kvs, rfl, h, cgo walk_items hn Pv (fun H' e => e _ _ h) h0 (fun i x l D S H1 H2 Y1 N1 hi a1 a2 a3 a4 a5 y hy hN => ?_) k⟩
  obtain ⟨T, u, v, rfl, hT, rfl, e1, e2⟩ := y
  obtain ⟨⟨kk, vv⟩, hk, rfl⟩ := Option.map_eq_some_iff.mp e1
  have e3 : kvs[i]?.map Prod.snd = some v := e2
  rw [hk] at e3
  cases e3
  exact turn i kk vv l D T S _ Y1 N1 hk a1 a2 (a3.trans (ex_new hT)) (by rw [upd_ne (ne_of_none a4 hT)]; exact a4) a5 upd_same (fun y H5 e5 p => hy y H5 ((ex_new hT).trans e5) p) (fun H4 e4 p => hN H4 ((ex_new hT).trans e4) p)
/-- {k: v for ..} over d.items(), d locked; each value known: f k v -/
def dGo (J : It) (g : TG) (tt : TT) (tk tv : TE) (vs : List Nat) (σ : St) (Q : VK) (H1 : Hp) : Prop := ∀ D, H1 D = none → ∃ W : Nat → Nat → Hp → Prop, (∃ m, W 0 m (upd H1 D (.dK []))) ∧ ∀ i m H, W i m H →
  (J.stop i H ∧ Q (.ref D) H) ∨ (J.go i H ∧ ∃ Nx : Hp → Prop, (∀ H', Nx H' → ∃ m', m' < m ∧ W (i + 1) m' H') ∧ ∀ x H', J.yld i H x H' → g x (wipe σ vs) H' fun σ2 H2 => wipe σ2 vs = wipe σ vs ∧ tt σ2 H2 fun b H3 =>
    if b = true then tk σ2 H3 fun y H4 => tv σ2 H4 fun z H5 => ∃ kvs k, y = kV k ∧ H5 D = some (.dK kvs) ∧ kvs.length < sizeLine ∧ Nx (upd H5 D (.dK (putK kvs k z))) else Nx H3)
theorem xDc {wi : TI} {g : TG} {tk tv : TE} {vs : List Nat} (h : wi σ H fun J H1 => dGo J g tt tk tv vs σ Q H1) : tDc wi g tt tk tv vs σ H Q := h
theorem val_none {kvs : List (Key × V)} {k : Key} (h : k ∉ kvs.map (·.1)) : valV kvs k = none := by
  induction kvs with
  | nil => rfl
  | cons p r ih =>
    rw [List.map_cons, List.mem_cons, not_or] at h
    rw [valV_neg (fun e => h.1 e.symm)]
    exact ih h.2
theorem dgoItems {d : Addr} {o : PySem.Obj} {kvs : List (Key × V)} {g : TG} {tk tv : TE} {vs : List Nat} (h : H d = some (.frz o (.dK kvs))) (hn : kvs.length ≤ 100000) (hd : (kvs.map (·.1)).Nodup) (f : Key → V → V)
    (turn : ∀ (i : Nat) x v T H1 (Y1 : V → V → Hp → Prop) (N1 : Hp → Prop), kvs[i]? = some (x, v) → Ex H H1 → H1 T = some (.tup [kV x, v]) → (∀ H5, Ex H1 H5 → Y1 (kV x) (f x v) H5) →
      g (.ref T) (wipe σ vs) H1 fun σ2 H3 => wipe σ2 vs = wipe σ vs ∧ tt σ2 H3 fun b H4 => if b = true then tk σ2 H4 fun y H5 => tv σ2 H5 fun z H6 => Y1 y z H6 else N1 H4)
    (k : ∀ p H1, H p = none → Ex H H1 → H1 p = some (.dK (kvs.map fun kv => (kv.1, f kv.1 kv.2))) → Q (.ref p) H1) : wItems (.ref d) H fun J H1 => dGo J g tt tk tv vs σ Q H1 := by
  refine ⟨d, o, kvs, rfl, h, fun D hD => ?_⟩
  refine ⟨fun i m H' => m = kvs.length - i ∧ i ≤ kvs.length ∧ (∃ S, S D = none ∧ Ex H S ∧ Ex S H') ∧ H' D = some (.dK ((kvs.take i).map fun kv => (kv.1, f kv.1 kv.2))), ⟨_, rfl, Nat.zero_le _, ⟨H, hD, ex_refl H, ex_new hD⟩, upd_same⟩, ?_⟩
  rintro i m H1 ⟨rfl, hi, ⟨S, s1, s2, s3⟩, hl⟩
  have hfz : H1 d = some (.frz o (.dK kvs)) := s3 _ _ (s2 _ _ h)
  have W := walk_items (d := d) (o := o) (kvs := kvs)
  by_cases lt : i < kvs.length
  · refine .inr ⟨W.goes i H1 lt hfz, _, fun H' q => q, fun x H2 y => ?_⟩
    have y2 := W.yields i H1 x H2 lt hfz y
    obtain ⟨T, u, v, rfl, hT, rfl, e1, e2⟩ := y2
    obtain ⟨⟨kk, vv⟩, hk, rfl⟩ := Option.map_eq_some_iff.mp e1
    have e3 : kvs[i]?.map Prod.snd = some v := e2
    rw [hk] at e3
    cases e3
    refine turn i kk vv T _ (fun y z H5 => ∃ kvs1 k1, y = kV k1 ∧ H5 D = some (.dK kvs1) ∧ kvs1.length < sizeLine ∧ _) _ hk ((s2.trans s3).trans (ex_new hT)) upd_same fun H5 e5 => ?_
    have hl5 : H5 D = some (.dK ((kvs.take i).map fun kv => (kv.1, f kv.1 kv.2))) := e5 _ _ (by rw [upd_ne (ne_of_none hl hT)]; exact hl)
    have len : ((kvs.take i).map fun kv => (kv.1, f kv.1 kv.2)).length < sizeLine := by
      rw [List.length_map, List.length_take]
      exact Nat.lt_of_lt_of_le (show min i kvs.length < 100000 by omega) (by decide)
    refine ⟨_, kk, rfl, hl5, len, kvs.length - (i + 1), by omega, rfl, lt, ⟨era H5 D, era_none, s2.trans (era_ex (s3.trans ((ex_new hT).trans e5)) s1), era_upd⟩, ?_⟩
    rw [upd_same, List.take_add_one, hk, List.map_append]
    have fresh : kk ∉ ((kvs.take i).map fun kv => (kv.1, f kv.1 kv.2)).map (·.1) := by
      rw [List.map_map]
      intro z
      obtain ⟨q, hq, e⟩ := List.mem_map.mp z
      have e' : q.1 = kk := e
      have sp : kvs.map (·.1) = (kvs.take i).map (·.1) ++ ((kvs.drop i).map (·.1)) := by rw [← List.map_append, List.take_append_drop]
      rw [sp] at hd
      have dj := (List.nodup_append.mp hd).2.2
      refine dj q.1 (List.mem_map_of_mem hq) kk ?_ e'
      have hdrop : (kvs.drop i)[0]? = some (kk, vv) := by rw [List.getElem?_drop]; exact hk
      exact List.mem_map_of_mem (f := (·.1)) (List.mem_of_getElem? hdrop)
    rw [putK_new _ (val_none fresh)]
    rfl
  · have e : i = kvs.length := by omega
    subst e
    refine .inl ⟨W.stops H1 hfz, k D H1 hD (s2.trans s3) ?_⟩
    rw [List.take_of_length_le (Nat.le_refl _)] at hl
    exact hl
/-- a lock on a dict, as an expression and as a statement -/
theorem xLockE {d : Addr} {u : HO} (h : H d = some u) (mu : Mut (some u)) (hq : ∀ od H1, (∀ b o, b ≠ d → H b = some o → H1 b = some o) → H1 d = some (.frz od u) → te σ H1 fun v H' => H' d = some (.frz od u) ∧ Q v (upd H' d u)) : tLockE te σ H Q :=
  ⟨d, u, h, mu, fun od => hq od _ (fun b o n e => by rw [upd_ne n]; exact e) upd_same⟩
theorem xLock {d : Addr} {u : HO} (h : H d = some u) (mu : Mut (some u)) (hq : ∀ od H1, (∀ b o, b ≠ d → H b = some o → H1 b = some o) → H1 d = some (.frz od u) →
    t ⟨fun σ' H' => H' d = some (.frz od u) ∧ D.nx σ' (upd H' d u), fun v H' => H' d = some (.frz od u) ∧ D.rt v (upd H' d u), fun σ' H' => H' d = some (.frz od u) ∧ D.bk σ' (upd H' d u), fun σ' H' => H' d = some (.frz od u) ∧ D.ct σ' (upd H' d u)⟩ σ H1) : tLock t D σ H :=
  ⟨d, u, h, mu, fun od => hq od _ (fun b o n e => by rw [upd_ne n]; exact e) upd_same⟩
/-- behind the lock: all that stood ahead stands again -/
theorem unlock_ex {d : Addr} {u : HO} {od : Obj} {H1 H2 : Hp} (h : H d = some u) (h1 : ∀ b o, b ≠ d → H b = some o → H1 b = some o) (e : Ex H1 H2) : Ex H (upd H2 d u) := fun b o q => by
  by_cases n : b = d
  · subst n; rw [h] at q; cases q; exact upd_same
  · rw [upd_ne n]; exact e b o (h1 b o n q)
end
/-! ### the rules, the written part said apart -/
section
variable {X : Cx} {K : PySem.W.Frag}
theorem ixL (hK : X.K = K) : IxR X (rIxL K) := hK ▸ ix_list
theorem ixT (hK : X.K = K) : IxR X (rIxT K) := hK ▸ ix_tup
theorem slL (hK : X.K = K) : SlR X (rSlL K) := hK ▸ sl_list
theorem slT (hK : X.K = K) : SlR X (rSlT K) := hK ▸ sl_tup
theorem peFld {e : Expr} {f : Str} {pos : Pos} {ta : TE} (hK : X.K = K) (he : PE X e ta) (hb : attributeBase e f X.env (eval e X.env) = eval e X.env) : PE X (.Attribute e f pos) (tFld K ta f) := hK ▸ pe_fld he hb
theorem callLen (hK : X.K = K) : CallR X (.builtin "len") (rLen K) := hK ▸ call_len
theorem callIsi (hK : X.K = K) : CallR X (.builtin "isinstance") (rIsi K) := hK ▸ call_isi
theorem callAll (hK : X.K = K) (hc : X.calm = true) : CallR X (.builtin "all") (rAll K) := hK ▸ cr_all hc
theorem callSum (hK : X.K = K) (hc : X.calm = true) : CallR X (.builtin "sum") (rSum K) := hK ▸ cr_sum hc
theorem callMaxL (hK : X.K = K) (hc : X.calm = true) : CallR X (.builtin "max") (rMax K) := hK ▸ cr_max hc
theorem callMinL (hK : X.K = K) (hc : X.calm = true) : CallR X (.builtin "min") (rMin K) := hK ▸ cr_min hc
theorem callSorted (hK : X.K = K) : CallR X (.builtin "sorted") (rSorted K) := hK ▸ cr_sorted
theorem callSortedP (hK : X.K = K) : CallR X (.builtin "sorted") (rSortedPO K) := hK ▸ cr_sortedPO
theorem callList (hK : X.K = K) : CallR X (.type "list") (rListOf K) := hK ▸ call_list
theorem opNotIn (hK : X.K = K) : OpR X (compareOp .NotIn) (rIn K true) := hK ▸ op_notIn_seq
theorem opEqD (hK : X.K = K) (hu : X.A.units + 64 < cLine) : OpR X (compareOp .Eq) (rEqD K) := hK ▸ op_eqD hu
theorem opNeD (hK : X.K = K) (hu : X.A.units + 64 < cLine) : OpR X (compareOp .NotEq) (rNeD K) := hK ▸ op_neD hu
theorem pgTup {es : List Expr} {k : Nat} {pos : Pos} {t : TGs} (n : Nat) (hK : X.K = K) (hc : X.calm = true) (h : PGs X es t) (hn : (assignEach es X.env).length = n := by rfl) (hst : (assignEach es X.env).findIdx? (·.1) = none := by rfl) :
    PG X (.Tuple es k pos) (gTup K n t) := hK ▸ pg_tup hc h hn hst
theorem piList {l tg : Expr} {tl : TE} (hK : X.K = K) (hl : PE X l tl) : PI X tg l (iList K tl) := hK ▸ pi_list hl
theorem piTup {l tg : Expr} {tl : TE} (hK : X.K = K) (hl : PE X l tl) : PI X tg l (iTup K tl) := hK ▸ pi_tup hl
theorem piEnum {e : Expr} {ta : TA} {p pos tpos : Pos} {elts : List Expr} {kk : Nat} (hK : X.K = K) (hg : Gl X "enumerate") (hm : X.mg "enumerate" = none) (ha : PA X [e] ta) (hs : starEach [e] X.env = [(false, eval e X.env)] := by rfl) :
    PI X (.Tuple elts kk tpos) (.Call (.Name "enumerate" p) [e] [] pos) (iEnum K ta) := hK ▸ pi_enum hg hm ha hs
theorem piZip {e e2 : Expr} {ta : TA} {p pos tpos : Pos} {elts : List Expr} {kk : Nat} (hK : X.K = K) (hg : Gl X "zip") (hm : X.mg "zip" = none) (ha : PA X [e, e2] ta)
    (hs : starEach [e, e2] X.env = (false, eval e X.env) :: starEach [e2] X.env := by rfl) (hpl : (backTo pos (starEach [e2] X.env)).any (·.1) = false := by rfl) :
    PI X (.Tuple elts kk tpos) (.Call (.Name "zip" p) [e, e2] [] pos) (iZip K ta) := hK ▸ pi_zip hg hm ha hs hpl
theorem psFld {o value : Expr} {f : Str} {pos pos' : Pos} {ta tv : TE} (hK : X.K = K) (ha : PE X o ta) (hv : PE X value tv) (hs : swapsWith value (some (.Attribute o f pos')) pos.line X.env = pure false) :
    PS X (.Assign [.Attribute o f pos'] value pos) (sFld K ta tv f) := hK ▸ ps_fld ha hv hs
theorem peBm {T : String} {name : Str} {id : String} {r : V → List V → Hp → VK → Prop} {o e : Expr} {es : List Expr} {to : TE} {t : TA} {apos cpos : Pos} (hK : X.K = K)
    (pa : PlainAttrs T) (slot : Slot T name id) (hty : typeOf (.builtin id) = pure (.type "method_descriptor")) (hm : MtR X id r) (ho : PE X o to) (ha : PA X (e :: es) t)
    (hbase : attributeBase o name X.env (eval o X.env) = eval o X.env := by rfl)
    (hfew : ((backTo cpos (starEach (e :: es) X.env)).all (fun x => !x.1) && (backToKw cpos (keywordEach [] X.env)).all (fun x => x.1.isSome)
      && decide ((e :: es).length + ([] : List Keyword).length + (if ([] : List Keyword).isEmpty then 0 else 1) < 30)) = true := by rfl)
    (hline : (apos.endLine == cpos.line) = true := by rfl) (hs : starEach (e :: es) X.env = (false, eval e X.env) :: starEach es X.env := by rfl) (hplain : (backTo cpos (starEach es X.env)).any (·.1) = false := by rfl) :
    PE X (.Call (.Attribute o name apos) (e :: es) [] cpos) (tBM K T r to t) := hK ▸ pe_bm pa slot hty hm ho ha hbase hfew hline hs hplain
end
end RK
end

section
/-! RRules: rules of my own: a list extended by a tuple, a dict against {}, the least value of a dict, a dict made by a comprehension and named, set(list). -/
namespace RK
open PySem PySem.Spec PyProof.Rows L2

section
variable {X : Cx}
/-- xs.extend(t), t a tuple -/
theorem ext_tup (l b : Addr) (us ws : Array Value) (n m : Nat) (dd : Option Addr) (sl : Array (Option Value)) (h0 : ¬(!us.isEmpty && Builtin.List.listTooLong (us.size + ws.size)) = true)
    (h1 : us.size ≤ sizeLine) (h2 : us.size + ws.size ≤ sizeLine + 1) :
    Meets (Builtin.«list.extend» ⟨[.ref l, .ref b], []⟩) (fun _ R s => s.heap.get? l = some { cls := .type "list", data := .seq us n } ∧
      s.heap.get? b = some { cls := .type "tuple", dict := dd, data := .seq ws m, slots := sl } ∧ R (.ok (.ret Value.none)) { s with heap := s.heap.update l (Obj.mapSeq fun x => x ++ ws) }) :=
  .of_wp fun prog w A R s h => by
    obtain ⟨hp, gg, dr, tk, os⟩ := s
    obtain ⟨hl, hb, hr⟩ := h
    have g1 := sub_tuple_tuple
    have g2 := sub_list_list
    have g3 := sub_tuple_list
    have g4 := sub_list_tuple
    have hz : (us ++ ws).size ≤ sizeLine + 1 := by
      rw [Array.size_append]
      exact h2
    wp_walk using (wpAny_updateSeq hl rfl (hz := h1) (_hz' := hz)), wpAny_loadPart' hl, wpAny_loadPart' hb
    exact ⟨_, rfl, hr⟩
def rExtT : V → List V → Hp → VK → Prop := fun x vs H Q => ∃ l b xs zs, x = .ref l ∧ vs = [.ref b] ∧ H l = some (.lst xs) ∧ H b = some (.tup zs) ∧ xs.length + zs.length ≤ 100000 ∧ Q .non (upd H l (.lst (xs ++ zs)))
theorem mt_extendT : MtM X "list.extend" rExtT := by
  intro pins s σ H x vs v us Q I rx rv h
  obtain ⟨l, b, xs, zs, rfl, rfl, hl, hb, hz, q⟩ := h
  have hz2 : xs.length + zs.length ≤ sizeLine := Nat.le_trans hz (by decide)
  obtain ⟨u, rfl, ru⟩ := rv.one
  cases rx
  cases ru
  obtain ⟨_, its, n, r1, e1, o1⟩ := I.lstM hl
  obtain ⟨_, ws, r2, o, ob, oc, m, od⟩ := I.hok b _ hb
  obtain ⟨c, dd, dat, sl⟩ := o
  simp only at oc od
  subst oc
  subst od
  have e2 := r2.length
  have hs : its.toArray.size + ws.toArray.size ≤ sizeLine := by
    simp only [List.size_toArray]
    omega
  have hlong : ¬(!its.toArray.isEmpty && Builtin.List.listTooLong (its.toArray.size + ws.toArray.size)) = true := by
    rw [notLongL hs, Bool.and_false]
    decide
  refine call_meets F.slot_list_extend ⟨_, o1, rfl⟩ F.entry_list_extend (F.args_list_extend_2 _ _) (ext_tup l b _ _ n m dd sl hlong (by omega) (by omega)) ⟨o1, ob, ?_⟩
  refine ⟨.non, _, I.lset (its' := its ++ ws) hl o1 (by simp) (r1.append r2) ?_, rfl, q⟩
  rw [List.length_append]
  omega
/-- d != {}, d not empty -/
def rNeE : R2 := fun x y H Q => ∃ a b ks, x = .ref a ∧ y = .ref b ∧ H a = some (.dK ks) ∧ H b = some (.dK []) ∧ Q (.bl (!ks.isEmpty)) H
theorem op_ne_dE (hu : X.A.units < cLine) : OpR X (compareOp .NotEq) rNeE := by
  intro pins s σ H x y v u Q I rx ry h
  obtain ⟨a, b, ks, rfl, rfl, ea, eb, q⟩ := h
  cases rx
  cases ry
  obtain ⟨_, ya, va, ra, da⟩ := I.hok a _ ea
  obtain ⟨_, yb, vb, rb, db⟩ := I.hok b _ eb
  cases rb
  refine PySem.W.keq_ne (knd := mixKind X.prog X.w) (r := true) ya yb da db hu (fun z => ?_) (fin_bl I q ?_)
  · have z2 : va = [] := List.eq_nil_of_length_eq_zero z
    subst z2
    exact .nil
  · cases ra <;> rfl

/-! ### a dict's values, their least -/
/-- the view d.values() at p -/
def ViewV (p d : Addr) : HO := .ext fun h => h.get? p = some { cls := .type "dict_values", data := .fields #[.ref d] }
theorem viewV_ok {P : Program} {w : World} {H : Hp} {h : Heap} {p d : Addr} (e : h.get? p = some { cls := .type "dict_values", data := .fields #[.ref d] }) : ObjOk P w H h p (ViewV p d) :=
  ⟨e, ⟨_, e⟩, fun _ _ q k => k _ q⟩
def tValsV (td : TE) : TE := fun σ H Q => td σ H fun x H1 => ∃ d kvs, x = .ref d ∧ H1 d = some (.dK kvs) ∧ ∀ p, H1 p = none → Q (.ref p) (upd H1 p (ViewV p d))
theorem pe_valuesV {e : Expr} {td : TE} {apos cpos : Pos} (he : PE X e td) (hb : attributeBase e "values" X.env (eval e X.env) = eval e X.env := by rfl) (hl : (apos.endLine == cpos.line) = true := by rfl) :
    PE X (.Call (.Attribute e "values" apos) [] [] cpos) (tValsV td) := by
  refine ⟨fun pins s σ H Q I h => ?_⟩
  refine wpAny_Call_method (id := "dict.values") (T := "dict") hb rfl hl F.plainAttrs_dict F.slot_dict_values F.type_dict_values ?_
  refine thn (he.run pins s σ H _ I h) fun u s1 hx => ?_
  obtain ⟨x, H1, I1, rx, d, kvs, rfl, hd, q⟩ := hx
  cases rx
  obtain ⟨_, hs, vs, kv, hm⟩ := dk_of I1.hok hd
  refine ⟨hm.typeIs, hm.mapOf.noDict, ?_⟩
  have hn : H1 s1.heap.objs.size = none := I1.hok.fresh (Nat.le_refl _)
  have J : Inv X pins σ (upd H1 s1.heap.objs.size (ViewV s1.heap.objs.size d)) { s1 with heap := s1.heap.push { cls := .type "dict_values", data := .fields #[.ref d] } } :=
    I1.laid (t' := s1.toks) (fun b ob z => Heap.get?_push_of_some _ z) (Nat.le_refl _) (viewV_ok (Heap.get?_push_size _ rfl))
  show wpAny _ _ (callWith cpos (.builtin "dict.values") [.ref d] [] []) _ X.xe s1
  refine method_meetsIn F.slot_dict_values F.entry_dict_values rfl (PySem.evalArgs_none ?_)
  exact ⟨rfl, hm.typeIs, F.args_dict_values_1 _, _, meets_dict_values (mixKind X.prog X.w) d hs, ⟨vs, hm⟩, ⟨.ref _, _, J, rfl, q _ hn⟩⟩
def rMinV : List V → Hp → VK → Prop := fun xs H Q => ∃ p d, ∃ ks : List (Key × Int), xs = [.ref p] ∧ H p = some (ViewV p d) ∧ H d = some (.dK (ks.map fun k => (k.1, V.int k.2))) ∧ 0 < ks.length ∧
  ∀ m, m ∈ ks.map Prod.snd → (∀ y, y ∈ ks.map Prod.snd → m ≤ y) → Q (.int m) H
theorem call_minV (hc : X.calm = true) : CallR X (.builtin "min") rMinV := by
  intro pins s σ H xs us Q I r h
  obtain ⟨p, d, ks, rfl, hp, hd, hn, q⟩ := h
  rw [Vals.ref1 r]
  have hh := I.ok.hd hc
  obtain ⟨_, hs, vs, kv, hm⟩ := dk_of I.hok hd
  obtain ⟨hv, _⟩ := I.hok p _ hp
  obtain ⟨es, ep, hraw, hsz, hat⟩ := hm.raw
  have hl : ks.length = vs.length := by
    have z := kv.length
    rw [List.length_map] at z
    exact z
  refine call_min_walk (wpAny_pyIter_values_raw (d := d) ⟨_, hv, rfl, rfl⟩ hraw ?_)
  have hdlt : d < s.heap.objs.size := let ⟨_, e, _⟩ := hraw; Heap.lt_size e
  have num : ∀ (i : Nat) (v : Value), (∃ hi : i < es.size, v = es[i].val) → ∃ t, v = .int ((ks.map Prod.snd).getD i 0) t := fun i v hx => by
    obtain ⟨hi, rfl⟩ := hx
    have h1 : i < ks.length := by omega
    have h2 : (ks.map fun k => (k.1, V.int k.2))[i]? = some ((ks[i]).1, V.int (ks[i]).2) := by
      rw [List.getElem?_map, List.getElem?_eq_getElem h1]
      rfl
    obtain ⟨u, e1, ru⟩ := kv_get kv h2
    obtain ⟨t, rfl⟩ := ru
    have h3 := (hat i hi _ _ e1).2
    refine ⟨t, ?_⟩
    rw [h3, List.getD_eq_getElem?_getD, List.getElem?_map, List.getElem?_eq_getElem h1]
    rfl
  refine ⟨_, _, _, _, _, _, _, rfl, Walks.rawValues (A := X.A.in1) hh _ d (Nat.ne_of_lt hdlt) es ep, ⟨⟨_, Heap.get?_push_size _ rfl, rfl, rfl⟩, hraw.at fun o e => Heap.get?_push_of_some _ e⟩, ?_, by omega, CmpOf.ints_lt _ num, fun v h' tk hP hk => ?_⟩
  · intro b hb
    show b < (s.heap.push _).objs.size
    rw [Heap.size_push]
    rcases List.mem_cons.mp hb with z | hb
    · rw [z]; exact Nat.lt_succ_self _
    · rcases List.mem_cons.mp hb with z | hb
      · rw [z]; exact Nat.lt_succ_of_lt hdlt
      · cases hb
  · obtain ⟨t, rfl⟩ := num _ v hP
    obtain ⟨b1, b2⟩ := argBest_lt (fun i => (ks.map Prod.snd).getD i 0) (es.size - 1)
    have kept : ∀ b o, s.heap.get? b = some o → h'.get? b = some o := fun b o e => hk b o (fun z => by
      have zz : b = s.heap.objs.size := by simpa using z
      rw [zz] at e
      exact absurd (Heap.lt_size e) (Nat.lt_irrefl _)) (Heap.get?_push_of_some _ e)
    refine ⟨.int _, H, I.kept kept, ⟨t, rfl⟩, q _ ?_ fun y hy => ?_⟩
    · exact PySem.getD_mem (by rw [List.length_map]; omega)
    · obtain ⟨j, hj, rfl⟩ := mem_getD hy
      rw [List.length_map] at hj
      exact b2 j (by omega)

/-! ### name = {..}, the name a local -/
theorem sw_trueD {kx vx : Expr} {gs : List Comprehension} {scope : Scope} {pos py : Pos} {y : Str} {l : Nat} {env : Env} (hk : env.scope.kind = .function) (hy : env.scope.names.lookup y = some .local) (hl : (py.line == pos.line) = true)
    (ha : (scope.names.any fun (n, k) => n == y && (k == .local || k == .cell)) = false) : swapsWith (.DictComp kx vx gs scope pos) (some (.Name y py)) l env = pure true := by
  have hb : env.blockKind = .function := by unfold Env.blockKind; rw [hk]; rfl
  have ky : env.kindOf y = some .local := hy
  unfold swapsWith
  simp only [Expr.pos, ha, hb, hl, ky]
  rfl
theorem ps_setDc {i : Nat} {y : Str} {py : Pos} {kx vx tg iter : Expr} {ifs : List Expr} {scope : Scope} {own : List (Str × Nat)} {pos spos : Pos} {wi : TI} {g : TG} {tt : TT} {tk tv : TE} (hc : X.calm = true) (hN : X.N.Nodup)
    (hy : X.N[i]? = some y) (hyl : X.env.scope.names.lookup y = some .local) (hsw : swapsWith (.DictComp kx vx [⟨tg, iter, ifs, 0⟩] scope pos) (some (.Name y py)) spos.line X.env = pure true)
    (hi : PI X tg iter wi) (ok : BlkOk X.N X.env.scope scope own)
    (hg : ∀ (s : Shared) (H : Hp) (C : Addr) (cl : List (Str × Addr)) (fp : List Addr), PG (X.blk s H scope (compEnvC scope cl C X.env) fp) tg g)
    (ht : ∀ (s : Shared) (H : Hp) (C : Addr) (cl : List (Str × Addr)) (fp : List Addr), PTs (X.blk s H scope (compEnvC scope cl C X.env) fp) ifs tt)
    (hk : ∀ (s : Shared) (H : Hp) (C : Addr) (cl : List (Str × Addr)) (fp : List Addr), PE (X.blk s H scope (compEnvC scope cl C X.env) fp) kx tk)
    (he : ∀ (s : Shared) (H : Hp) (C : Addr) (cl : List (Str × Addr)) (fp : List Addr), PE (X.blk s H scope (compEnvC scope cl C X.env) fp) vx tv)
    (hs : ∀ x, foldedSetIterable iter X.env x = pure x := by intro _; rfl) :
    PS X (.Assign [.Name y py] (.DictComp kx vx [⟨tg, iter, ifs, 0⟩] scope pos) spos) (tAsg (tDc wi g tt tk tv (own.map (·.2))) (gName i)) := by
  refine ⟨fun pins s σ H D I h => ?_⟩
  rw [exec_Assign_Name_used _ _ _ _ hsw]
  refine wpAny_bind (wpAny_standAt (wpAny_bind ?_))
  show wpAny _ X.A (comprehension (.DictComp kx vx [⟨tg, iter, ifs, 0⟩] scope pos) scope X.env (firstIterPos [⟨tg, iter, ifs, 0⟩] pos) newDict false (eval iter X.env) (some (assign (.Name y py) X.env)) >>= fun _ => pure ()) _ _ s
  have hq : tDc wi g tt tk tv (own.map (·.2)) σ H (fun x H1 => gName i x σ H1 D.nx) := h
  have fin := dc_core (pos := pos) (Qf := fun _ s' => SP X pins D .next s') (pos' := firstIterPos [⟨tg, iter, ifs, 0⟩] pos) (use := some (assign (.Name y py) X.env)) hc hN I hi ok hg ht hk he hs hq (fun L C s' m H' I' q hn f => by
    obtain ⟨f0, f1, f2, f3, f4, f5⟩ := f
    refine wpAny_assign_Name (store_ok2 (v := V.ref L) I' hN hy (.inl hyl) rfl (fun s2 I2 hx => ?_) (.inr hyl))
    obtain ⟨a, sb, ha⟩ := hx
    have haC : C ≠ a := ha.elim (fun z => z ▸ f1) (fun z e => f4 y a z e.symm)
    exact ⟨m, hn.sameBut sb haC, fun h3 sb3 => ⟨_, H', I2.turned (t' := s2.toks) (fun b o hb e => (sb3.2 b hb).trans e) f0 f1 f3 f4 f5, q⟩⟩)
  exact wpAny_bind (thn fin fun _ s' z => wpAny_pure (wpAny_pure z))
end

/-! ### set(xs) of a list of ints -/
section
variable {P : Program} {w : World} {A : Around} {E : Value → Shared → Prop} {s : Shared}
theorem nt1 {a n m : Nat} (h : a < n) (e : m = n + 1) : a ≠ m := by omega
theorem nt2 {n m l : Nat} (h : l < n) (e : m = n + 1) (z : n ∈ [m, l]) : False := by
  rcases List.mem_cons.mp z with z | z
  · omega
  · have zz := List.mem_singleton.mp z
    omega
theorem nt3 {b n m : Nat} (h : b < n) (e : m = n + 1) (z : b ∈ [n, m]) : False := by
  rcases List.mem_cons.mp z with z | z
  · omega
  · have zz := List.mem_singleton.mp z
    omega
/-- the object that set.__new__ lays -/
def set0 (w : World) : PySem.Obj := { cls := .type "set", dict := none, data := .set #[] 0 (.fresh 0 0 (!w.params.followText "set-order")) }
set_option maxHeartbeats 6400000 in
theorem set_of_list {l : Addr} {us : Array Value} (ns : List Int) {Q : Value → Shared → Prop} (hh : A.handled = none) (hl : s.heap.IsList l us) (hi : IntsAre us.toList ns) (hb : ns.length + 1 < scanBound)
    (h : ∀ (h' : Heap) (tk c : Nat), SetR w h' s.heap.objs.size (fun j => decide (j ∈ ns)) c → c ≤ ns.length → (∀ b o, s.heap.get? b = some o → h'.get? b = some o) → Q (.ref s.heap.objs.size) { s with heap := h', toks := tk }) :
    wpAny (model P w) A (call (.type "set") [.ref l]) Q E s := by
  have hn : us.size = ns.length := (Array.length_toList (xs := us)).symm.trans (IntsAre.length hi)
  have k1 := F.called_set.made
  have k2 := F.called_set.sub
  have k3 := F.called_set.notType
  have k4 := F.called_set.canCreate
  have k5 := F.called_set.init.lookup
  have k6 := F.called_set.init.bind (.ref s.heap.objs.size)
  have k7 := F.typeCall_set_1 (.ref l)
  obtain ⟨c0, c1, k8⟩ := F.called_set.mro
  refine wpAny_call (codeAny_of_tree ?_)
  show wpAny _ _ (callAny (.type "set") _) _ _ _
  refine wpAny_pure ⟨Code.quiet_builtin _ (by decide +kernel), codeAny_builtin F.entry_type_call ?_⟩
  rw [Around.under_plain (weight_type_call_type "set" [.ref l] []) rfl]
  repeat (any_goals (first | assumption | wp_step))
  refine codeAny_mono (code_set_led1 (.ref l) (E := E) (Q₁ := fun z t => z = .ref s.heap.objs.size ∧ t = { s with heap := s.heap.push (set0 w) }) ⟨rfl, rfl⟩) fun r t hr => ?_
  rcases r with e | fl
  · exact hr
  rcases fl with _ | _ | _ | z
  · exact hr.elim
  · exact hr.elim
  · exact hr.elim
  obtain ⟨rfl, rfl⟩ := hr
  have at0 : (s.heap.push (set0 w)).get? s.heap.objs.size = some (set0 w) := Heap.get?_push_size _ rfl
  have ty0 : Shared.TypeIs { s with heap := s.heap.push (set0 w) } (.ref s.heap.objs.size) "set" := ⟨_, at0, rfl⟩
  repeat (any_goals (first | assumption | wp_step))
  have sz1 : (s.heap.push (set0 w)).objs.size = s.heap.objs.size + 1 := Heap.size_push ..
  have main : codeAny (model P w) A.in1 (.call (.builtin "set.__init__") ⟨[.ref s.heap.objs.size, .ref l], []⟩)
      (wants (fun r t => r = .none ∧ ∃ h' tk c, t = { s with heap := h', toks := tk } ∧ SetR w h' s.heap.objs.size (fun j => decide (j ∈ ns)) c ∧ c ≤ ns.length ∧ ∀ b o, s.heap.get? b = some o → h'.get? b = some o) E) { s with heap := s.heap.push (set0 w) } := by
    refine codeAny_call_builtin F.called_set.init.plain F.entry_set_init (check_set_init_1 ty0 ?_)
    obtain ⟨⟨oc, od, odata, osl⟩, hol, hcl, nl, hdl⟩ := id hl
    simp only at hcl hdl
    subst hcl
    subst hdl
    have hol1 : (s.heap.push (set0 w)).get? l = some { cls := .type "list", dict := od, data := .seq us nl, slots := osl } := Heap.get?_push_of_some _ hol
    have hl1 : (s.heap.push (set0 w)).IsList l us := ⟨_, hol1, rfl, nl, rfl⟩
    have u1 := F.sub_list_set
    have u2 := F.sub_list_frozenset
    have u3 : (Value.type "list" == Value.type "dict") = false := by decide
    unfold Builtin.«set.__init__» noKeywords Builtin.Frozenset.updateFrom
    generalize hPI : pyIter = PI
    wp_walk
    subst hPI
    refine wpAny_pyIter_list hl1 (wpAny_bind (wpAny_runValue ?_))
    have hlt : l < s.heap.objs.size := Heap.lt_size hol
    have nI : l ≠ (s.heap.push (set0 w)).objs.size := nt1 hlt sz1
    have nS : s.heap.objs.size ∉ [(s.heap.push (set0 w)).objs.size, l] := fun z => nt2 hlt sz1 z
    have val : ∀ (i : Nat) (v : Value), us[i]? = some v → ∃ k t, ns[i]? = some k ∧ v = .int k t := fun i v hv => by
      have lt : i < ns.length := hn ▸ (Array.getElem?_eq_some_iff.mp hv).1
      obtain ⟨t, e⟩ := PyProof.Rows.IntsAre.int_at hi i v (by rw [Array.getElem?_toList]; exact hv)
      rw [List.getD_eq_getElem?_getD, List.getElem?_eq_getElem lt] at e
      exact ⟨ns[i], t, List.getElem?_eq_getElem lt, e⟩
    have hh3 : A.in1.in1.in1.handled = none := hh
    refine set_update_ints (Walks.list hh3 _ l nI us).toS s.heap.objs.size nS ns hn hb val (us.size - 0) 0 _ rfl (Nat.zero_le _) ⟨⟨_, Heap.get?_push_size _ rfl, rfl, rfl⟩, hl1.push _⟩
      ⟨0, Nat.le_refl 0, setR_new_at (Heap.get?_push_of_some _ at0)⟩ fun t c hm hc hS => ?_
    obtain ⟨h', g2, d2, tk2, os2⟩ := t
    obtain rfl : g2 = s.gens := hm.gens
    obtain rfl : d2 = s.drawn := hm.drawn
    obtain rfl : os2 = s.os := hm.os
    show wpAny _ _ _ _ _ _
    refine wpAny_pure ?_
    show wpAny _ _ (ret Value.none) _ _ _
    refine wpAny_pure ⟨rfl, h', tk2, c, rfl, hS, hn ▸ hc, fun b o e => ?_⟩
    have blt : b < s.heap.objs.size := Heap.lt_size e
    exact hm.heap b o (fun z => nt3 blt sz1 z) (Heap.get?_push_of_some _ (Heap.get?_push_of_some _ e))
  refine codeAny_mono main fun r t hr => ?_
  rcases r with e | fl
  · exact hr
  rcases fl with _ | _ | _ | z
  · exact hr.elim
  · exact hr.elim
  · exact hr.elim
  obtain ⟨rfl, h', tk, c, rfl, hS, hc, hk⟩ := hr
  repeat (any_goals (first | assumption | wp_step))
  exact h _ _ _ hS hc hk
end
section
variable {X : Cx}
def rSetL1 (w : World) : List V → Hp → VK → Prop := fun xs H Q => ∃ a, ∃ ns : List Int, xs = [.ref a] ∧ H a = some (.lst (ns.map V.int)) ∧ ns.length ≤ 1000 ∧ ∀ p c, H p = none → c ≤ ns.length → Q (.ref p) (upd H p (SetO w p (fun j => decide (j ∈ ns)) c))
theorem call_setL (hc : X.calm = true) : CallR X (.type "set") (rSetL1 X.w) := by
  intro pins s σ H xs us Q I r h
  obtain ⟨a, ns, rfl, ha, hn, q⟩ := h
  rw [Vals.ref1 r]
  obtain ⟨its, rv, hl, _⟩ := I.list (SqL.of (K := X.K) ha)
  refine set_of_list ns (I.ok.hd hc) hl.isList (Vals.ints rv) (by have e : (1001 : Nat) < scanBound := by decide
                                                                  omega) fun h' tk c R hcl hk => ?_
  have hp : H s.heap.objs.size = none := I.hok.fresh (Nat.le_refl _)
  exact ⟨.ref _, _, I.laid (t' := tk) hk (Nat.le_refl _) (setO_new R), rfl, q _ _ hp hcl⟩
end
end RK
end

section
/-! RSMath: plain mathematics of the law: offsets of a rule that repeats, first attempts, parts of the failing time. -/
namespace RS

/-! ### the rule -/
structure Rok (g : List Int) (n : Nat) : Prop where
  n1 : 1 ≤ n
  nl : n ≤ g.length
  l20 : g.length ≤ 20
  pos : ∀ x ∈ g, 1 ≤ x
  big : ∀ x ∈ g, x ≤ 1000000000000

def gapF (g : List Int) (n k : Nat) : Int :=
  if k < g.length then g.getD k 0 else g.getD (g.length - n + (k - g.length) % n) 0

def off (g : List Int) (n : Nat) : Nat → Int
  | 0 => 0
  | k + 1 => off g n k + gapF g n k

/-- the sum of the first k gaps -/
def ps (g : List Int) (k : Nat) : Int := (g.take k).sum
def per (g : List Int) (n : Nat) : Int := ps g g.length - ps g (g.length - n)

theorem ps_zero (g : List Int) : ps g 0 = 0 := by simp [ps]
theorem ps_succ {g : List Int} {k : Nat} (h : k < g.length) : ps g (k + 1) = ps g k + g.getD k 0 := by
  unfold ps
  rw [List.take_add_one, List.getElem?_eq_getElem h, List.sum_append]
  simp [List.getD_eq_getElem?_getD, List.getElem?_eq_getElem h]

section
variable {g : List Int} {n : Nat}

theorem off_le : ∀ {k : Nat}, k ≤ g.length → off g n k = ps g k
  | 0, _ => by simp [off, ps_zero]
  | k + 1, h => by
    rw [ps_succ (by omega)]
    show off g n k + gapF g n k = _
    rw [off_le (by omega)]
    unfold gapF
    rw [if_pos (by omega)]

theorem gapF_mem (R : Rok g n) (k : Nat) : gapF g n k ∈ g := by
  have h1 := R.n1
  have h2 := R.nl
  unfold gapF
  split
  · rename_i h
    rw [List.getD_eq_getElem?_getD, List.getElem?_eq_getElem h]
    exact List.getElem_mem h
  · have h3 : (k - g.length) % n < n := Nat.mod_lt _ (by omega)
    have h : g.length - n + (k - g.length) % n < g.length := by omega
    rw [List.getD_eq_getElem?_getD, List.getElem?_eq_getElem h]
    exact List.getElem_mem h
theorem gap_pos (R : Rok g n) (k : Nat) : 1 ≤ gapF g n k := R.pos _ (gapF_mem R k)

theorem off_lt_succ (R : Rok g n) (k : Nat) : off g n k < off g n (k + 1) := by
  have := gap_pos R k
  show off g n k < off g n k + gapF g n k
  omega
theorem off_strict (R : Rok g n) : ∀ {j k : Nat}, j < k → off g n j < off g n k
  | j, 0, h => by omega
  | j, k + 1, h => by
    have h1 := off_lt_succ R k
    by_cases e : j = k
    · subst e; exact h1
    · have h2 := off_strict R (show j < k by omega)
      omega
theorem off_mono (R : Rok g n) {j k : Nat} (h : j ≤ k) : off g n j ≤ off g n k := by
  by_cases e : j = k
  · subst e; exact Int.le_refl _
  · exact Int.le_of_lt (off_strict R (by omega))
theorem off_ge (R : Rok g n) : ∀ k : Nat, (k : Int) ≤ off g n k
  | 0 => by simp [off]
  | k + 1 => by
    have h1 := off_ge R k
    have h2 := off_lt_succ R k
    omega
theorem off_nonneg (R : Rok g n) (k : Nat) : 0 ≤ off g n k := by
  have := off_ge R k
  omega

theorem gap_per (R : Rok g n) {k : Nat} (h : g.length - n ≤ k) : gapF g n (k + n) = gapF g n k := by
  have h1 := R.n1
  have h2 := R.nl
  unfold gapF
  rw [if_neg (show ¬ k + n < g.length by omega)]
  by_cases hk : k < g.length
  · rw [if_pos hk]
    have e : (k + n - g.length) % n = k + n - g.length := Nat.mod_eq_of_lt (by omega)
    rw [e]
    congr 1
    omega
  · rw [if_neg hk]
    have e : k + n - g.length = (k - g.length) + n := by omega
    rw [e, Nat.add_mod_right]
theorem off_per (R : Rok g n) : ∀ {k : Nat}, g.length - n ≤ k → off g n (k + n) = off g n k + per g n
  | k, h => by
    have h2 := R.nl
    by_cases e : k = g.length - n
    · subst e
      have e2 : g.length - n + n = g.length := by omega
      rw [e2, off_le (Nat.le_refl _), off_le (by omega)]
      unfold per
      omega
    · obtain ⟨j, rfl⟩ : ∃ j, k = j + 1 := ⟨k - 1, by omega⟩
      have ih := off_per R (k := j) (by omega)
      have hg := gap_per R (k := j) (by omega)
      have e3 : j + 1 + n = (j + n) + 1 := by omega
      rw [e3]
      show off g n (j + n) + gapF g n (j + n) = off g n j + gapF g n j + per g n
      rw [ih, hg]
      omega
theorem off_perq (R : Rok g n) {k : Nat} (h : g.length - n ≤ k) : ∀ q : Nat, off g n (k + q * n) = off g n k + (q : Int) * per g n
  | 0 => by simp
  | q + 1 => by
    have ih := off_perq R h q
    have h0 : k ≤ k + q * n := Nat.le_add_right _ _
    have e : k + (q + 1) * n = (k + q * n) + n := by rw [Nat.succ_mul]; omega
    rw [e, off_per R (by omega), ih]
    have : ((q + 1 : Nat) : Int) * per g n = (q : Int) * per g n + per g n := by
      rw [Int.natCast_add, Int.add_mul]; simp
    omega
theorem per_pos (R : Rok g n) : 1 ≤ per g n := by
  have h1 := R.n1
  have h2 := R.nl
  have e := off_per R (k := g.length - n) (Nat.le_refl _)
  have s := off_strict R (show g.length - n < g.length - n + n by omega)
  omega
/-- the form in which program and law reckon an offset beyond the listed gaps -/
theorem off_closed (R : Rok g n) (m : Nat) : off g n (g.length + m) = ps g g.length + ((m / n : Nat) : Int) * per g n + (ps g (g.length - n + m % n) - ps g (g.length - n)) := by
  have h1 := R.n1
  have h2 := R.nl
  have h3 : m % n < n := Nat.mod_lt _ (by omega)
  have e : g.length + m = (g.length - n + m % n) + n + (m / n) * n := by
    have := Nat.div_add_mod m n
    rw [Nat.mul_comm] at this
    omega
  rw [e, off_perq R (by omega), off_per R (by omega), off_le (by omega)]
  unfold per
  omega
/-- a repeating gap is no more than the period -/
theorem gap_le_per (R : Rok g n) {k : Nat} (h : g.length - n ≤ k) : gapF g n k ≤ per g n := by
  have h1 := R.n1
  have e := off_per R h
  have m := off_mono R (show k + 1 ≤ k + n by omega)
  have s : off g n (k + 1) = off g n k + gapF g n k := rfl
  omega

theorem ps_le (R : Rok g n) : ∀ {k : Nat}, k ≤ g.length → 0 ≤ ps g k ∧ ps g k ≤ (k : Int) * 1000000000000
  | 0, _ => by simp [ps_zero]
  | k + 1, h => by
    have ih := ps_le R (k := k) (by omega)
    rw [ps_succ (by omega)]
    have hm : g.getD k 0 ∈ g := by
      rw [List.getD_eq_getElem?_getD, List.getElem?_eq_getElem (by omega)]
      exact List.getElem_mem (by omega)
    have h1 := R.pos _ hm
    have h2 := R.big _ hm
    have e : ((k + 1 : Nat) : Int) * 1000000000000 = (k : Int) * 1000000000000 + 1000000000000 := by omega
    omega
theorem per_le (R : Rok g n) : per g n ≤ 20000000000000 := by
  have h0 := R.l20
  have h1 := (ps_le R (k := g.length) (Nat.le_refl _)).2
  have h2 := (ps_le R (k := g.length - n) (by omega)).1
  unfold per
  omega

/-! ### the first attempt from a distance on -/
theorem least_of {P : Nat → Prop} (m : Nat) (h : P m) : ∃ k, P k ∧ ∀ j, j < k → ¬ P j := by
  induction m using Nat.strongRecOn with
  | ind m ih =>
    by_cases e : ∃ j, j < m ∧ P j
    · obtain ⟨j, hj, hp⟩ := e
      exact ih j hj hp
    · exact ⟨m, h, fun j hj hp => e ⟨j, hj, hp⟩⟩
theorem fst_ex (R : Rok g n) (d : Int) : ∃ k, d ≤ off g n k ∧ ∀ j, j < k → ¬ d ≤ off g n j :=
  least_of (P := fun k => d ≤ off g n k) d.toNat (by
    have := off_ge R d.toNat
    show d ≤ off g n d.toNat
    omega)
open Classical in
/-- the first attempt whose offset is at least d -/
noncomputable def fst (g : List Int) (n : Nat) (d : Int) : Nat :=
  if h : ∃ k, d ≤ off g n k ∧ ∀ j, j < k → ¬ d ≤ off g n j then Classical.choose h else 0
theorem fst_spec (R : Rok g n) (d : Int) : d ≤ off g n (fst g n d) ∧ ∀ j, j < fst g n d → ¬ d ≤ off g n j := by
  unfold fst
  rw [dif_pos (fst_ex R d)]
  exact Classical.choose_spec (fst_ex R d)
theorem fst_le_iff (R : Rok g n) {d : Int} {k : Nat} : fst g n d ≤ k ↔ d ≤ off g n k := by
  have s := fst_spec R d
  constructor
  · intro h
    have := off_mono R h
    omega
  · intro h
    by_cases e : fst g n d ≤ k
    · exact e
    · exact absurd h (s.2 k (by omega))
theorem lt_fst_iff (R : Rok g n) {d : Int} {k : Nat} : k < fst g n d ↔ off g n k < d := by
  have := fst_le_iff R (d := d) (k := k)
  omega
theorem fst_uniq (R : Rok g n) {d : Int} {k : Nat} (h : d ≤ off g n k) (h' : k = 0 ∨ off g n (k - 1) < d) : fst g n d = k := by
  have h1 := (fst_le_iff R).mpr h
  rcases h' with e | e
  · omega
  · have h2 := (lt_fst_iff R).mpr e
    omega
theorem fst_nonpos (R : Rok g n) {d : Int} (h : d ≤ 0) : fst g n d = 0 := fst_uniq R (by simpa [off] using h) (.inl rfl)
theorem fst_mono (R : Rok g n) {d e : Int} (h : d ≤ e) : fst g n d ≤ fst g n e := by
  have s := (fst_spec R e).1
  exact (fst_le_iff R).mpr (by omega)
theorem fst_off (R : Rok g n) (k : Nat) : fst g n (off g n k) = k := by
  have h1 : fst g n (off g n k) ≤ k := (fst_le_iff R).mpr (Int.le_refl _)
  by_cases e : k = fst g n (off g n k)
  · exact e.symm
  · have h2 := off_strict R (show fst g n (off g n k) < k by omega)
    have s := (fst_spec R (off g n k)).1
    omega
theorem fst_le_toNat (R : Rok g n) (d : Int) : (fst g n d : Int) ≤ max d 0 := by
  have h := off_ge R d.toNat
  have := (fst_le_iff R (d := d) (k := d.toNat)).mpr (by omega)
  omega
end
end RS
end

section
/-! RSLaw: the three parts of client 1's failing time, the entries of the law, the program's history as a cut of them, counts. -/
namespace RS

inductive Why where
  | out | busy | srv
  deriving DecidableEq

/-- one outage from f to a - 1, a service of length L from slot 0 on, client 1 starts in slot b -/
structure Par where
  g : List Int
  n : Nat
  L : Int
  b : Int
  f : Int
  a : Int
structure Par.Ok (p : Par) : Prop where
  rok : Rok p.g p.n
  L1 : 1 ≤ p.L
  b1 : 1 ≤ p.b
  f1 : 1 ≤ p.f
  fa : p.f < p.a

noncomputable def Par.F (p : Par) (d : Int) : Nat := fst p.g p.n d
def Par.o (p : Par) (k : Nat) : Int := off p.g p.n k
/-- the slot of an attempt of client 1 -/
def Par.t (p : Par) (k : Nat) : Int := p.b + p.o k
def Par.whyS (p : Par) (s : Int) : Why := if p.f ≤ s ∧ s < p.a then .out else if s < p.L then .busy else .srv
def Par.endS (p : Par) (s : Int) : Int := if p.f ≤ s ∧ s < p.a then p.a else if s < p.f then min p.L p.f else p.L
def Par.why (p : Par) (k : Nat) : Why := p.whyS (p.t k)
noncomputable def Par.beh (p : Par) (k : Nat) : Nat := if p.why k = .srv then k + 1 else p.F (p.endS (p.t k) - p.b)
def Par.B (p : Par) : Int := max p.b p.L

noncomputable def Par.k1 (p : Par) : Nat := if p.B < p.f then p.F (p.B - p.b) else p.F (max p.b p.f - p.b)
noncomputable def Par.k3 (p : Par) : Nat :=
  if p.B < p.f then (if p.F (p.B - p.b) = p.F (p.f - p.b) then p.F (p.a - p.b) else p.F (p.B - p.b))
  else if p.B < p.a then p.F (p.a - p.b) else p.F (p.B - p.b)
noncomputable def Par.k2 (p : Par) : Nat := if p.B < p.f then p.k3 else if p.B < p.a then p.k3 else p.F (max p.b p.a - p.b)

section
variable {p : Par}
theorem Par.Ok.F_le (O : p.Ok) {d : Int} {k : Nat} : p.F d ≤ k ↔ d ≤ p.o k := fst_le_iff O.rok
theorem Par.Ok.lt_F (O : p.Ok) {d : Int} {k : Nat} : k < p.F d ↔ p.o k < d := lt_fst_iff O.rok
theorem Par.Ok.F_mono (O : p.Ok) {d e : Int} (h : d ≤ e) : p.F d ≤ p.F e := fst_mono O.rok h
theorem Par.Ok.F_non (O : p.Ok) {d : Int} (h : d ≤ 0) : p.F d = 0 := fst_nonpos O.rok h
theorem Par.Ok.o_nn (O : p.Ok) (k : Nat) : 0 ≤ p.o k := off_nonneg O.rok k
theorem Par.Ok.o_F (O : p.Ok) (d : Int) : d ≤ p.o (p.F d) := (fst_spec O.rok d).1

/-- the facts of the three parts -/
structure Shape (p : Par) (k1 k2 k3 : Nat) : Prop where
  h12 : k1 ≤ k2
  h23 : k2 ≤ k3
  w1 : ∀ j, j < k1 → p.why j = .busy ∧ p.beh j = k1
  w2 : ∀ j, k1 ≤ j → j < k2 → p.why j = .out ∧ p.beh j = k2
  w3 : ∀ j, k2 ≤ j → j < k3 → p.why j = .busy ∧ p.beh j = k3
  w4 : p.why k3 = .srv

theorem why_out {k : Nat} (h : p.f ≤ p.t k) (h' : p.t k < p.a) : p.why k = .out := by
  unfold Par.why Par.whyS
  rw [if_pos ⟨h, h'⟩]
theorem why_busy {k : Nat} (h : ¬ (p.f ≤ p.t k ∧ p.t k < p.a)) (h' : p.t k < p.L) : p.why k = .busy := by
  unfold Par.why Par.whyS
  rw [if_neg h, if_pos h']
theorem why_srv {k : Nat} (h : ¬ (p.f ≤ p.t k ∧ p.t k < p.a)) (h' : ¬ p.t k < p.L) : p.why k = .srv := by
  unfold Par.why Par.whyS
  rw [if_neg h, if_neg h']
theorem beh_out {k : Nat} (h : p.f ≤ p.t k) (h' : p.t k < p.a) : p.beh k = p.F (p.a - p.b) := by
  unfold Par.beh Par.endS
  rw [why_out h h', if_neg (by decide), if_pos ⟨h, h'⟩]
theorem beh_busy {k : Nat} (h : ¬ (p.f ≤ p.t k ∧ p.t k < p.a)) (h' : p.t k < p.L) : p.beh k = p.F ((if p.t k < p.f then min p.L p.f else p.L) - p.b) := by
  unfold Par.beh Par.endS
  rw [why_busy h h', if_neg (by decide), if_neg h]

theorem shape (O : p.Ok) : Shape p p.k1 p.k2 p.k3 := by
  have hL := O.L1
  have hb := O.b1
  have hf := O.f1
  have hfa := O.fa
  have hB : p.B = max p.b p.L := rfl
  have ht : ∀ k, p.t k = p.b + p.o k := fun _ => rfl
  have lt : ∀ (d : Int) (k : Nat), k < p.F d ↔ p.o k < d := fun d k => O.lt_F
  have le : ∀ (d : Int) (k : Nat), p.F d ≤ k ↔ d ≤ p.o k := fun d k => O.F_le
  have nn := O.o_nn
  by_cases c1 : p.B < p.f
  · -- the busy time ends ahead of the outage
    have e1 : p.k1 = p.F (p.B - p.b) := by unfold Par.k1; rw [if_pos c1]
    have e2 : p.k2 = p.k3 := by unfold Par.k2; rw [if_pos c1]
    have busy : ∀ j, j < p.F (p.B - p.b) → p.why j = .busy ∧ p.beh j = p.F (p.B - p.b) := fun j hj => by
      have h1 := (lt _ _).mp hj
      have h2 := ht j
      have h3 := nn j
      refine ⟨why_busy (by omega) (by omega), ?_⟩
      rw [beh_busy (by omega) (by omega), if_pos (by omega)]
      congr 1
      omega
    by_cases c2 : p.F (p.B - p.b) = p.F (p.f - p.b)
    · have e3 : p.k3 = p.F (p.a - p.b) := by unfold Par.k3; rw [if_pos c1, if_pos c2]
      rw [e2, e1, e3]
      refine ⟨O.F_mono (by omega), Nat.le_refl _, busy, fun j h1 h2 => ?_, fun j h1 h2 => by omega, ?_⟩
      · have h3 := (lt _ _).mp h2
        rw [c2] at h1
        have h4 := (le _ _).mp h1
        have h5 := ht j
        exact ⟨why_out (by omega) (by omega), beh_out (by omega) (by omega)⟩
      · have h1 := O.o_F (p.a - p.b)
        have h2 := ht (p.F (p.a - p.b))
        exact why_srv (by omega) (by omega)
    · have e3 : p.k3 = p.F (p.B - p.b) := by unfold Par.k3; rw [if_pos c1, if_neg c2]
      rw [e2, e1, e3]
      refine ⟨Nat.le_refl _, Nat.le_refl _, busy, fun j h1 h2 => by omega, fun j h1 h2 => by omega, ?_⟩
      have h1 := O.o_F (p.B - p.b)
      have h2 := ht (p.F (p.B - p.b))
      have h3 : p.F (p.B - p.b) ≤ p.F (p.f - p.b) := O.F_mono (by omega)
      have h4 : p.F (p.B - p.b) < p.F (p.f - p.b) := by omega
      have h5 := (lt _ _).mp h4
      exact why_srv (by omega) (by omega)
  · have e1 : p.k1 = p.F (max p.b p.f - p.b) := by unfold Par.k1; rw [if_neg c1]
    have busy : ∀ j, j < p.F (max p.b p.f - p.b) → p.why j = .busy ∧ p.beh j = p.F (max p.b p.f - p.b) := fun j hj => by
      have h1 := (lt _ _).mp hj
      have h2 := ht j
      have h3 := nn j
      refine ⟨why_busy (by omega) (by omega), ?_⟩
      rw [beh_busy (by omega) (by omega), if_pos (by omega)]
      congr 1
      omega
    by_cases c2 : p.B < p.a
    · have e3 : p.k3 = p.F (p.a - p.b) := by unfold Par.k3; rw [if_neg c1, if_pos c2]
      have e2 : p.k2 = p.F (p.a - p.b) := by unfold Par.k2; rw [if_neg c1, if_pos c2, e3]
      rw [e2, e1, e3]
      refine ⟨O.F_mono (by omega), Nat.le_refl _, busy, fun j h1 h2 => ?_, fun j h1 h2 => by omega, ?_⟩
      · have h3 := (lt _ _).mp h2
        have h4 := (le _ _).mp h1
        have h5 := ht j
        exact ⟨why_out (by omega) (by omega), beh_out (by omega) (by omega)⟩
      · have h1 := O.o_F (p.a - p.b)
        have h2 := ht (p.F (p.a - p.b))
        exact why_srv (by omega) (by omega)
    · have e3 : p.k3 = p.F (p.B - p.b) := by unfold Par.k3; rw [if_neg c1, if_neg c2]
      have e2 : p.k2 = p.F (max p.b p.a - p.b) := by unfold Par.k2; rw [if_neg c1, if_neg c2]
      rw [e2, e1, e3]
      refine ⟨O.F_mono (by omega), O.F_mono (by omega), busy, fun j h1 h2 => ?_, fun j h1 h2 => ?_, ?_⟩
      · have h3 := (lt _ _).mp h2
        have h4 := (le _ _).mp h1
        have h5 := ht j
        have h6 := nn j
        refine ⟨why_out (by omega) (by omega), ?_⟩
        rw [beh_out (by omega) (by omega)]
        congr 1
        omega
      · have h3 := (lt _ _).mp h2
        have h4 := (le _ _).mp h1
        have h5 := ht j
        have h6 := nn j
        refine ⟨why_busy (by omega) (by omega), ?_⟩
        rw [beh_busy (by omega) (by omega), if_neg (by omega)]
        congr 1
        omega
      · have h1 := O.o_F (p.B - p.b)
        have h2 := ht (p.F (p.B - p.b))
        exact why_srv (by omega) (by omega)

/-- the program serves client 1 at k3: the one attempt that does not fail behind attempts that all do -/
theorem k3_uniq (O : p.Ok) {k : Nat} (h : p.why k = .srv) (h' : ∀ j, j < k → p.why j ≠ .srv) : k = p.k3 := by
  have S := shape O
  by_cases e : k = p.k3
  · exact e
  · exfalso
    by_cases l : p.k3 < k
    · exact h' _ l S.w4
    · by_cases m : k < p.k1
      · rw [(S.w1 k m).1] at h; cases h
      · by_cases m2 : k < p.k2
        · rw [(S.w2 k (by omega) m2).1] at h; cases h
        · rw [(S.w3 k (by omega) (by omega)).1] at h; cases h
theorem why_lt (O : p.Ok) {k : Nat} (h : k < p.k3) : p.why k ≠ .srv := by
  have S := shape O
  by_cases m : k < p.k1
  · rw [(S.w1 k m).1]; decide
  · by_cases m2 : k < p.k2
    · rw [(S.w2 k (by omega) m2).1]; decide
    · rw [(S.w3 k (by omega) (by omega)).1]; decide

/-! ### entries -/
abbrev Ent := Nat × Nat × Why
def optE (i j : Nat) (w : Why) : List Ent := if i < j then [(i, j, w)] else []
noncomputable def Par.ents (p : Par) : List Ent := optE 0 p.k1 .busy ++ optE p.k1 p.k2 .out ++ optE p.k2 p.k3 .busy ++ [(p.k3, p.k3 + 1, .srv)]

/-- a partition of the attempts from s to T - 1 into entries -/
def Part (p : Par) : Nat → List Ent → Nat → Prop
  | s, [], T => s = T
  | s, (l, h, w) :: r, T => s = l ∧ l < h ∧ (∀ j, l ≤ j → j < h → p.why j = w ∧ p.beh j = h) ∧ Part p h r T
theorem Part.app : ∀ {E E' : List Ent} {s m T : Nat}, Part p s E m → Part p m E' T → Part p s (E ++ E') T
  | [], _, s, m, T, h, h' => by
    have e : s = m := h
    subst e
    exact h'
  | (l, h, w) :: r, _, s, m, T, q, q' => ⟨q.1, q.2.1, q.2.2.1, Part.app q.2.2.2 q'⟩
theorem Part.opt {i j : Nat} {w : Why} (h : i ≤ j) (q : ∀ k, i ≤ k → k < j → p.why k = w ∧ p.beh k = j) : Part p i (optE i j w) j := by
  unfold optE
  split
  · rename_i hl
    exact ⟨rfl, hl, q, rfl⟩
  · show i = j
    omega
theorem Part.le : ∀ {E : List Ent} {s T : Nat}, Part p s E T → s ≤ T
  | [], s, T, h => by
    have e : s = T := h
    omega
  | (l, h, w) :: r, s, T, q => by
    have h1 := Part.le q.2.2.2
    have h2 := q.1
    have h3 := q.2.1
    omega
theorem ents_part (O : p.Ok) : Part p 0 p.ents (p.k3 + 1) := by
  have S := shape O
  unfold Par.ents
  refine Part.app (m := p.k3) (Part.app (m := p.k2) (Part.app (m := p.k1) (Part.opt (Nat.zero_le _) fun k _ h => S.w1 k h) (Part.opt S.h12 S.w2)) (Part.opt S.h23 S.w3)) ?_
  refine ⟨rfl, Nat.lt_succ_self _, fun j h1 h2 => ?_, rfl⟩
  have e : j = p.k3 := by omega
  subst e
  refine ⟨S.w4, ?_⟩
  unfold Par.beh
  rw [if_pos S.w4]

/-! ### cutting -/
def cutE (lo hi : Nat) (E : List Ent) : List Ent := (E.map fun e => (max e.1 lo, min e.2.1 hi, e.2.2)).filter fun e => decide (e.1 < e.2.1)
theorem cutE_nil (lo hi : Nat) : cutE lo hi [] = [] := rfl
theorem cutE_cons (lo hi : Nat) (e : Ent) (E : List Ent) : cutE lo hi (e :: E) = (if max e.1 lo < min e.2.1 hi then [(max e.1 lo, min e.2.1 hi, e.2.2)] else []) ++ cutE lo hi E := by
  unfold cutE
  rw [List.map_cons, List.filter_cons]
  by_cases h : max e.1 lo < min e.2.1 hi
  · rw [if_pos h, if_pos (by simpa using h)]
    rfl
  · rw [if_neg h, if_neg (by simpa using h)]
    rfl
theorem cutE_app (lo hi : Nat) (E E' : List Ent) : cutE lo hi (E ++ E') = cutE lo hi E ++ cutE lo hi E' := by
  unfold cutE
  rw [List.map_append, List.filter_append]
theorem cutE_none : ∀ {E : List Ent} {s T lo hi : Nat}, Part p s E T → min hi T ≤ max s lo → cutE lo hi E = []
  | [], _, _, _, _, _, _ => rfl
  | (l, h, w) :: r, s, T, lo, hi, q, c => by
    have h1 := q.1
    have h2 := q.2.1
    have h3 := Part.le q.2.2.2
    rw [cutE_cons, cutE_none q.2.2.2 (by omega)]
    show (if max l lo < min h hi then _ else _) ++ _ = _
    rw [if_neg (by omega)]
    rfl
theorem cutE_whole : ∀ {E : List Ent} {s T hi : Nat}, Part p s E T → T ≤ hi → ∀ lo, lo ≤ s → cutE lo hi E = E
  | [], _, _, _, _, _, _, _ => rfl
  | (l, h, w) :: r, s, T, hi, q, c, lo, hlo => by
    have h1 := q.1
    have h2 := q.2.1
    have h3 := Part.le q.2.2.2
    rw [cutE_cons, cutE_whole q.2.2.2 c lo (by omega)]
    show (if max l lo < min h hi then [(max l lo, min h hi, w)] else []) ++ r = (l, h, w) :: r
    rw [if_pos (by omega), show max l lo = l by omega, show min h hi = h by omega]
    rfl
/-- one turn of the program's loop -/
theorem cutE_step : ∀ {E : List Ent} {s T c hi : Nat}, Part p s E T → s ≤ c → c < min hi T →
    cutE c hi E = (c, min (min hi T) (p.beh c), p.why c) :: cutE (min (min hi T) (p.beh c)) hi E
  | [], s, T, c, hi, q, hs, hc => by
    have e : s = T := q
    omega
  | (l, h, w) :: r, s, T, c, hi, q, hs, hc => by
    have h1 := q.1
    have h2 := q.2.1
    have h3 := Part.le q.2.2.2
    rw [cutE_cons, cutE_cons]
    by_cases k : c < h
    · have hw := q.2.2.1 c (by omega) k
      rw [hw.1, hw.2]
      show (if max l c < min h hi then [(max l c, min h hi, w)] else []) ++ cutE c hi r = (c, min (min hi T) h, w) :: ((if max l (min (min hi T) h) < min h hi then [(max l (min (min hi T) h), min h hi, w)] else []) ++ cutE (min (min hi T) h) hi r)
      rw [if_pos (by omega), if_neg (by omega), show max l c = c by omega, show min (min hi T) h = min h hi by omega]
      show (c, min h hi, w) :: cutE c hi r = (c, min h hi, w) :: cutE (min h hi) hi r
      congr 1
      by_cases z : h ≤ hi
      · have e : ∀ lo, lo ≤ h → cutE lo hi r = cutE h hi r := fun lo hlo => by
          have key : ∀ {E : List Ent} {s : Nat}, Part p s E T → h ≤ s → cutE lo hi E = cutE h hi E := fun {E} => by
            induction E with
            | nil => intros; rfl
            | cons e E ih =>
              intro s qq hh
              obtain ⟨l2, h2', w2⟩ := e
              have g1 := qq.1
              have g2 := qq.2.1
              rw [cutE_cons, cutE_cons, ih qq.2.2.2 (by omega)]
              show (if max l2 lo < min h2' hi then [(max l2 lo, min h2' hi, w2)] else []) ++ _ = (if max l2 h < min h2' hi then [(max l2 h, min h2' hi, w2)] else []) ++ _
              rw [show max l2 lo = l2 by omega, show max l2 h = l2 by omega]
          exact key q.2.2.2 (Nat.le_refl _)
        rw [e c (by omega), e (min h hi) (by omega)]
      · rw [cutE_none q.2.2.2 (by omega), cutE_none q.2.2.2 (by omega)]
    · have ih := cutE_step (c := c) (hi := hi) q.2.2.2 (by omega) hc
      show (if max l c < min h hi then [(max l c, min h hi, w)] else []) ++ cutE c hi r = _ :: ((if max l (min (min hi T) (p.beh c)) < min h hi then _ else _) ++ _)
      rw [if_neg (by omega), ih]
      by_cases z : c < p.beh c
      · rw [if_neg (by omega)]
        rfl
      · exfalso
        exact z (Part.beh_gt q.2.2.2 (by omega) (by omega))
where
  Part.beh_gt : ∀ {E : List Ent} {s T c : Nat}, Part p s E T → s ≤ c → c < T → c < p.beh c
  | [], s, T, c, q, _, _ => by
    have e : s = T := q
    omega
  | (l, h, w) :: r, s, T, c, q, hs, hc => by
    by_cases k : c < h
    · have := (q.2.2.1 c (by have := q.1; omega) k).2
      omega
    · exact Part.beh_gt q.2.2.2 (by omega) hc
theorem cutE_length (lo hi : Nat) (E : List Ent) : (cutE lo hi E).length ≤ E.length := by
  unfold cutE
  refine Nat.le_trans (List.length_filter_le _ _) ?_
  rw [List.length_map]
  exact Nat.le_refl _
theorem optE_length (i j : Nat) (w : Why) : (optE i j w).length ≤ 1 := by
  unfold optE
  split <;> simp
theorem ents_length (p : Par) : p.ents.length ≤ 4 := by
  unfold Par.ents
  have h1 := optE_length 0 p.k1 .busy
  have h2 := optE_length p.k1 p.k2 .out
  have h3 := optE_length p.k2 p.k3 .busy
  simp only [List.length_append, List.length_singleton]
  omega
end
end RS
end

section
/-! RSEnts: the law's own reckoning of the entries is Par.ents; counts. -/
namespace RS
section
variable {p : Par}

/-! ### strictly sorted lists -/
theorem sorted_uniq : ∀ {xs ys : List Int}, xs.Pairwise (· < ·) → ys.Pairwise (· < ·) → (∀ x, x ∈ xs ↔ x ∈ ys) → xs = ys
  | [], [], _, _, _ => rfl
  | [], y :: ys, _, _, h => by
    have := (h y).mpr (by simp)
    simp at this
  | x :: xs, [], _, _, h => by
    have := (h x).mp (by simp)
    simp at this
  | x :: xs, y :: ys, hx, hy, h => by
    obtain ⟨hx1, hx2⟩ := List.pairwise_cons.mp hx
    obtain ⟨hy1, hy2⟩ := List.pairwise_cons.mp hy
    have e : x = y := by
      have h1 := (h x).mp (by simp)
      have h2 := (h y).mpr (by simp)
      rcases List.mem_cons.mp h1 with e | m
      · exact e
      · rcases List.mem_cons.mp h2 with e | m'
        · exact e.symm
        · have := hx1 y m'
          have := hy1 x m
          omega
    subst e
    congr 1
    refine sorted_uniq hx2 hy2 fun z => ?_
    constructor
    · intro m
      have := hx1 z m
      rcases List.mem_cons.mp ((h z).mp (List.mem_cons_of_mem _ m)) with e | m'
      · omega
      · exact m'
    · intro m
      have := hy1 z m
      rcases List.mem_cons.mp ((h z).mpr (List.mem_cons_of_mem _ m)) with e | m'
      · omega
      · exact m'

/-! ### the law's way to the entries -/
def Par.in1 (p : Par) (s : Int) : Prop := p.f ≤ s ∧ s < p.a
instance (p : Par) (s : Int) : Decidable (p.in1 s) := inferInstanceAs (Decidable (_ ∧ _))
def Par.wy (p : Par) (s : Int) : Why := if p.in1 s then .out else .busy
def Par.behind (p : Par) : Int := if p.in1 p.B then p.a else p.B
def Par.borders (p : Par) : List Int := [p.b, max p.b p.f, max p.b p.a] ++ (if p.in1 p.B then [] else [p.B])
noncomputable def Par.segE (p : Par) (lo hi : Int) : List Ent := if lo < p.behind ∧ (p.wy lo = .out ∨ lo < p.L) then optE (p.F (lo - p.b)) (p.F (hi - p.b)) (p.wy lo) else []
noncomputable def Par.segs (p : Par) : List Int → List Ent
  | [] => []
  | [_] => []
  | x :: y :: r => p.segE x y ++ p.segs (y :: r)
noncomputable def Par.last1 (p : Par) : Nat := p.F (p.behind - p.b)
noncomputable def Par.last2 (p : Par) : Nat := if p.in1 (p.t p.last1) then p.F (p.a - p.b) else p.last1
noncomputable def Par.found2 (p : Par) (bs : List Int) : List Ent := p.segs bs ++ (if p.in1 (p.t p.last1) then [(p.last1, p.F (p.a - p.b), .out)] else [])

theorem segE_yes {lo hi : Int} (h : lo < p.behind) (h' : p.in1 lo ∨ lo < p.L) : p.segE lo hi = optE (p.F (lo - p.b)) (p.F (hi - p.b)) (p.wy lo) := by
  unfold Par.segE
  rw [if_pos]
  refine ⟨h, ?_⟩
  rcases h' with h' | h'
  · left
    unfold Par.wy
    rw [if_pos h']
  · exact .inr h'
theorem segE_no {lo hi : Int} (h : ¬ lo < p.behind) : p.segE lo hi = [] := by
  unfold Par.segE
  rw [if_neg fun z => h z.1]
theorem wy_out {s : Int} (h : p.in1 s) : p.wy s = .out := if_pos h
theorem wy_busy {s : Int} (h : ¬ p.in1 s) : p.wy s = .busy := if_neg h
theorem optE_same (i : Nat) (w : Why) : optE i i w = [] := if_neg (Nat.lt_irrefl i)

/-- the entries ahead of the served one -/
noncomputable def Par.head (p : Par) : List Ent := optE 0 p.k1 .busy ++ optE p.k1 p.k2 .out ++ optE p.k2 p.k3 .busy
theorem ents_head (p : Par) : p.ents = p.head ++ [(p.k3, p.k3 + 1, .srv)] := rfl
theorem head_part (O : p.Ok) : Part p 0 p.head p.k3 := by
  have S := shape O
  unfold Par.head
  exact Part.app (m := p.k2) (Part.app (m := p.k1) (Part.opt (Nat.zero_le _) fun k _ h => S.w1 k h) (Part.opt S.h12 S.w2)) (Part.opt S.h23 S.w3)

theorem found_head (O : p.Ok) {bs : List Int} (hs : bs.Pairwise (· < ·)) (hm : ∀ x, x ∈ bs ↔ x ∈ p.borders) : p.found2 bs = p.head ∧ p.last2 = p.k3 := by
  have hL := O.L1
  have hb := O.b1
  have hf := O.f1
  have hfa := O.fa
  have hB : p.B = max p.b p.L := rfl
  have F0 : p.F (p.b - p.b) = 0 := O.F_non (by omega)
  have ht : ∀ k, p.t k = p.b + p.o k := fun _ => rfl
  have i1 : ∀ s, p.in1 s ↔ p.f ≤ s ∧ s < p.a := fun _ => Iff.rfl
  have key : ∀ l : List Int, l.Pairwise (· < ·) → (∀ x, x ∈ l ↔ x ∈ p.borders) → bs = l := fun l h1 h2 => sorted_uniq hs h1 fun x => (hm x).trans (h2 x).symm
  by_cases c1 : p.B < p.f
  · -- busy time, then a gap, then the outage
    have n1 : ¬ p.in1 p.B := fun z => by have := (i1 _).mp z; omega
    have hbd : p.borders = [p.b, max p.b p.f, max p.b p.a, p.B] := by unfold Par.borders; rw [if_neg n1]; rfl
    have hbh : p.behind = p.B := if_neg n1
    have e1 : p.k1 = p.F (p.B - p.b) := by unfold Par.k1; rw [if_pos c1]
    have e2 : p.k2 = p.k3 := by unfold Par.k2; rw [if_pos c1]
    have l1 : p.last1 = p.F (p.B - p.b) := by unfold Par.last1; rw [hbh]
    have sg : p.segs bs = optE 0 (p.F (p.B - p.b)) .busy := by
      by_cases c : p.b = p.B
      · rw [key [p.b, p.f, p.a] (by simp; omega) (by intro x; rw [hbd]; simp only [List.mem_cons, List.not_mem_nil, or_false]; omega)]
        show p.segE p.b p.f ++ (p.segE p.f p.a ++ []) = _
        rw [segE_no (by omega), segE_no (by omega), ← c, F0, optE_same]
        rfl
      · rw [key [p.b, p.B, p.f, p.a] (by simp; omega) (by intro x; rw [hbd]; simp only [List.mem_cons, List.not_mem_nil, or_false]; omega)]
        show p.segE p.b p.B ++ (p.segE p.B p.f ++ (p.segE p.f p.a ++ [])) = _
        rw [segE_yes (by omega) (.inr (by omega)), segE_no (by omega), segE_no (by omega), wy_busy (fun z => by have := (i1 _).mp z; omega), F0]
        simp
    have lh : p.F (p.B - p.b) ≤ p.F (p.f - p.b) := O.F_mono (by omega)
    have h1 := O.o_F (p.B - p.b)
    have h2 := ht (p.F (p.B - p.b))
    unfold Par.found2 Par.last2 Par.head
    rw [sg, l1, e1, e2, optE_same, List.append_nil]
    by_cases c2 : p.F (p.B - p.b) = p.F (p.f - p.b)
    · have e3 : p.k3 = p.F (p.a - p.b) := by unfold Par.k3; rw [if_pos c1, if_pos c2]
      have h3 := O.o_F (p.f - p.b)
      rw [← c2] at h3
      rw [e3]
      by_cases c3 : p.t (p.F (p.B - p.b)) < p.a
      · have h4 : p.F (p.B - p.b) < p.F (p.a - p.b) := O.lt_F.mpr (by omega)
        rw [if_pos ((i1 _).mpr ⟨by omega, c3⟩), if_pos ((i1 _).mpr ⟨by omega, c3⟩)]
        exact ⟨by unfold optE; rw [if_pos h4], rfl⟩
      · have h5 : p.F (p.a - p.b) ≤ p.F (p.B - p.b) := O.F_le.mpr (by omega)
        have h6 : p.F (p.f - p.b) ≤ p.F (p.a - p.b) := O.F_mono (by omega)
        have h7 : p.F (p.B - p.b) = p.F (p.a - p.b) := by omega
        rw [if_neg (fun z => c3 z.2), if_neg (fun z => c3 z.2), h7, optE_same]
        exact ⟨rfl, rfl⟩
    · have e3 : p.k3 = p.F (p.B - p.b) := by unfold Par.k3; rw [if_pos c1, if_neg c2]
      have h4 : p.F (p.B - p.b) < p.F (p.f - p.b) := by omega
      have h5 := O.lt_F.mp h4
      have n2 : ¬ p.in1 (p.t (p.F (p.B - p.b))) := fun z => by have := (i1 _).mp z; omega
      rw [e3, if_neg n2, if_neg n2, optE_same]
      exact ⟨rfl, rfl⟩
  · have e1 : p.k1 = p.F (max p.b p.f - p.b) := by unfold Par.k1; rw [if_neg c1]
    -- the end of the last part does not lie in the outage
    have srv : ∀ {d : Int}, p.a ≤ d → ¬ p.in1 (p.t (p.F (d - p.b))) := fun {d} hd z => by
      have := (i1 _).mp z
      have h1 := O.o_F (d - p.b)
      have h2 := ht (p.F (d - p.b))
      omega
    by_cases c2 : p.B < p.a
    · have y1 : p.in1 p.B := (i1 _).mpr ⟨by omega, c2⟩
      have e3 : p.k3 = p.F (p.a - p.b) := by unfold Par.k3; rw [if_neg c1, if_pos c2]
      have e2 : p.k2 = p.F (p.a - p.b) := by unfold Par.k2; rw [if_neg c1, if_pos c2, e3]
      have hbd : p.borders = [p.b, max p.b p.f, max p.b p.a] := by unfold Par.borders; rw [if_pos y1]; rfl
      have hbh : p.behind = p.a := if_pos y1
      have l1 : p.last1 = p.F (p.a - p.b) := by unfold Par.last1; rw [hbh]
      have n2 : ¬ p.in1 (p.t (p.F (p.a - p.b))) := srv (Int.le_refl _)
      unfold Par.found2 Par.last2 Par.head
      rw [l1, if_neg n2, if_neg n2, e1, e2, e3, optE_same, List.append_nil, List.append_nil]
      refine ⟨?_, rfl⟩
      by_cases c : p.f ≤ p.b
      · rw [key [p.b, p.a] (by simp; omega) (by intro x; rw [hbd]; simp only [List.mem_cons, List.not_mem_nil, or_false]; omega)]
        show p.segE p.b p.a ++ [] = _
        have hx : max p.b p.f = p.b := by omega
        rw [segE_yes (by omega) (.inl ((i1 _).mpr (by omega))), wy_out ((i1 _).mpr (by omega)), hx, F0, optE_same]
        simp
      · rw [key [p.b, p.f, p.a] (by simp; omega) (by intro x; rw [hbd]; simp only [List.mem_cons, List.not_mem_nil, or_false]; omega)]
        show p.segE p.b p.f ++ (p.segE p.f p.a ++ []) = _
        have hx : max p.b p.f = p.f := by omega
        rw [segE_yes (by omega) (.inr (by omega)), segE_yes (by omega) (.inl ((i1 _).mpr (by omega))), wy_busy (fun z => by have := (i1 _).mp z; omega), wy_out ((i1 _).mpr (by omega)), hx, F0]
        simp
    · have n1 : ¬ p.in1 p.B := fun z => c2 z.2
      have e3 : p.k3 = p.F (p.B - p.b) := by unfold Par.k3; rw [if_neg c1, if_neg c2]
      have e2 : p.k2 = p.F (max p.b p.a - p.b) := by unfold Par.k2; rw [if_neg c1, if_neg c2]
      have hbd : p.borders = [p.b, max p.b p.f, max p.b p.a, p.B] := by unfold Par.borders; rw [if_neg n1]; rfl
      have hbh : p.behind = p.B := if_neg n1
      have l1 : p.last1 = p.F (p.B - p.b) := by unfold Par.last1; rw [hbh]
      have n2 : ¬ p.in1 (p.t (p.F (p.B - p.b))) := srv (by omega)
      unfold Par.found2 Par.last2 Par.head
      rw [l1, if_neg n2, if_neg n2, e1, e2, e3, List.append_nil]
      refine ⟨?_, rfl⟩
      by_cases d1 : p.a ≤ p.b
      · have hx : max p.b p.f = p.b := by omega
        have hy : max p.b p.a = p.b := by omega
        rw [hx, hy, F0, optE_same, optE_same]
        by_cases c : p.b = p.B
        · rw [key [p.b] (by simp) (by intro x; rw [hbd]; simp only [List.mem_cons, List.not_mem_nil, or_false]; omega)]
          rw [← c, F0, optE_same]
          rfl
        · rw [key [p.b, p.B] (by simp; omega) (by intro x; rw [hbd]; simp only [List.mem_cons, List.not_mem_nil, or_false]; omega)]
          show p.segE p.b p.B ++ [] = _
          rw [segE_yes (by omega) (.inr (by omega)), wy_busy (fun z => by have := (i1 _).mp z; omega), F0]
          simp
      · have hy : max p.b p.a = p.a := by omega
        by_cases d2 : p.f ≤ p.b
        · have hx : max p.b p.f = p.b := by omega
          rw [hx, hy, F0, optE_same]
          by_cases c : p.a = p.B
          · rw [key [p.b, p.a] (by simp; omega) (by intro x; rw [hbd]; simp only [List.mem_cons, List.not_mem_nil, or_false]; omega)]
            show p.segE p.b p.a ++ [] = _
            rw [segE_yes (by omega) (.inl ((i1 _).mpr (by omega))), wy_out ((i1 _).mpr (by omega)), ← c, F0, optE_same]
            simp
          · rw [key [p.b, p.a, p.B] (by simp; omega) (by intro x; rw [hbd]; simp only [List.mem_cons, List.not_mem_nil, or_false]; omega)]
            show p.segE p.b p.a ++ (p.segE p.a p.B ++ []) = _
            rw [segE_yes (by omega) (.inl ((i1 _).mpr (by omega))), wy_out ((i1 _).mpr (by omega)), segE_yes (by omega) (.inr (by omega)), wy_busy (fun z => by have := (i1 _).mp z; omega), F0]
            simp
        · have hx : max p.b p.f = p.f := by omega
          rw [hx, hy]
          by_cases c : p.a = p.B
          · rw [key [p.b, p.f, p.a] (by simp; omega) (by intro x; rw [hbd]; simp only [List.mem_cons, List.not_mem_nil, or_false]; omega)]
            show p.segE p.b p.f ++ (p.segE p.f p.a ++ []) = _
            rw [segE_yes (by omega) (.inr (by omega)), wy_busy (fun z => by have := (i1 _).mp z; omega), segE_yes (by omega) (.inl ((i1 _).mpr (by omega))), wy_out ((i1 _).mpr (by omega)), ← c, F0, optE_same]
            simp
          · rw [key [p.b, p.f, p.a, p.B] (by simp; omega) (by intro x; rw [hbd]; simp only [List.mem_cons, List.not_mem_nil, or_false]; omega)]
            show p.segE p.b p.f ++ (p.segE p.f p.a ++ (p.segE p.a p.B ++ [])) = _
            rw [segE_yes (by omega) (.inr (by omega)), wy_busy (fun z => by have := (i1 _).mp z; omega), segE_yes (by omega) (.inl ((i1 _).mpr (by omega))), wy_out ((i1 _).mpr (by omega)),
              segE_yes (by omega) (.inr (by omega)), wy_busy (fun z => by have := (i1 _).mp z; omega), F0]
            simp

/-- what is kept, and cut at the last attempt -/
theorem keep_part : ∀ {E : List Ent} {s T : Nat}, Part p s E T → E.filter (fun e => decide (e.1 < T)) = E ∧ E.map (fun e => (e.1, min e.2.1 T, e.2.2)) = E
  | [], _, _, _ => ⟨rfl, rfl⟩
  | (l, h, w) :: r, s, T, q => by
    have h1 := q.1
    have h2 := q.2.1
    have h3 := Part.le q.2.2.2
    have ih := keep_part q.2.2.2
    rw [List.filter_cons, List.map_cons, ih.1, ih.2]
    rw [if_pos (by simp; omega)]
    exact ⟨rfl, by rw [show min h T = h by omega]⟩
theorem law_ents (O : p.Ok) {bs : List Int} (hs : bs.Pairwise (· < ·)) (hm : ∀ x, x ∈ bs ↔ x ∈ p.borders) :
    ((p.found2 bs).filter fun e => decide (e.1 < p.last2)).map (fun e => (e.1, min e.2.1 p.last2, e.2.2)) ++ [(p.last2, p.last2 + 1, .srv)] = p.ents := by
  obtain ⟨h1, h2⟩ := found_head O hs hm
  have h3 := keep_part (head_part O)
  rw [h1, h2, h3.1, h3.2, ents_head]

/-! ### counts -/
/-- how many attempts of i .. j - 1 lie in lo .. hi - 1 -/
def cnt (lo hi i j : Nat) : Nat := min j hi - max i lo
def wsum (w : Why) : List Ent → Nat
  | [] => 0
  | e :: r => (if e.2.2 = w then e.2.1 - e.1 else 0) + wsum w r
theorem wsum_app (w : Why) : ∀ E E' : List Ent, wsum w (E ++ E') = wsum w E + wsum w E'
  | [], E' => by simp [wsum]
  | e :: E, E' => by
    show (if e.2.2 = w then e.2.1 - e.1 else 0) + wsum w (E ++ E') = (if e.2.2 = w then e.2.1 - e.1 else 0) + wsum w E + wsum w E'
    rw [wsum_app w E E']
    omega
theorem wsum_opt (w w' : Why) (lo hi i j : Nat) : wsum w (cutE lo hi (optE i j w')) = if w' = w then cnt lo hi i j else 0 := by
  unfold optE
  split
  · rw [cutE_cons, cutE_nil, List.append_nil]
    show wsum w (if max i lo < min j hi then [(max i lo, min j hi, w')] else []) = _
    unfold cnt
    split
    · show (if w' = w then min j hi - max i lo else 0) + 0 = _
      omega
    · show 0 = _
      split <;> omega
  · rw [cutE_nil]
    show 0 = _
    unfold cnt
    split <;> omega
theorem wsum_one (w : Why) (lo hi k : Nat) (h : w ≠ .srv) : wsum w (cutE lo hi [(k, k + 1, .srv)]) = 0 := by
  rw [cutE_cons, cutE_nil, List.append_nil]
  show wsum w (if max k lo < min (k + 1) hi then [(max k lo, min (k + 1) hi, .srv)] else []) = _
  split
  · show (if Why.srv = w then _ else 0) + 0 = _
    rw [if_neg (fun e => h e.symm)]
  · rfl
theorem law_out (p : Par) (lo hi : Nat) : wsum .out (cutE lo hi p.ents) = cnt lo hi p.k1 p.k2 := by
  unfold Par.ents
  rw [cutE_app, cutE_app, cutE_app, wsum_app, wsum_app, wsum_app, wsum_opt, wsum_opt, wsum_opt, wsum_one _ _ _ _ (by decide)]
  rw [if_neg (by decide), if_pos rfl, if_neg (by decide)]
  omega
theorem law_busy (p : Par) (lo hi : Nat) : wsum .busy (cutE lo hi p.ents) = cnt lo hi 0 p.k1 + cnt lo hi p.k2 p.k3 := by
  unfold Par.ents
  rw [cutE_app, cutE_app, cutE_app, wsum_app, wsum_app, wsum_app, wsum_opt, wsum_opt, wsum_opt, wsum_one _ _ _ _ (by decide)]
  rw [if_pos rfl, if_neg (show ¬ Why.out = Why.busy by decide), if_pos rfl]
  omega

/-- the program's count of a window from x to y - 1: first attempts, cut at the range -/
noncomputable def Par.win (p : Par) (lo hi : Nat) (x y : Int) : Nat := cnt (min lo (min hi p.k3)) (min hi p.k3) (p.F (x - p.b)) (p.F (y - p.b))
/-- the parts of the service of client 0 outside the outage -/
def Par.parts (p : Par) : List (Int × Int) := (if 1 < p.f ∧ 1 < min p.f p.L then [(1, min p.f p.L)] else []) ++ (if max 1 p.a < p.L then [(max 1 p.a, p.L)] else [])
noncomputable def Par.winsum (p : Par) (lo hi : Nat) : List (Int × Int) → Nat
  | [] => 0
  | w :: r => p.win lo hi w.1 w.2 + p.winsum lo hi r

theorem prog_out (O : p.Ok) (lo hi : Nat) : p.win lo hi p.f p.a = cnt lo hi p.k1 p.k2 := by
  have hL := O.L1
  have hb := O.b1
  have hf := O.f1
  have hfa := O.fa
  have hB : p.B = max p.b p.L := rfl
  have S := shape O
  have h12 := S.h12
  have h23 := S.h23
  have mono := O.F_mono (show p.f - p.b ≤ p.a - p.b by omega)
  unfold Par.win cnt
  by_cases c1 : p.B < p.f
  · have e1 : p.k1 = p.F (p.B - p.b) := by unfold Par.k1; rw [if_pos c1]
    have e2 : p.k2 = p.k3 := by unfold Par.k2; rw [if_pos c1]
    have lh : p.F (p.B - p.b) ≤ p.F (p.f - p.b) := O.F_mono (by omega)
    by_cases c2 : p.F (p.B - p.b) = p.F (p.f - p.b)
    · have e3 : p.k3 = p.F (p.a - p.b) := by unfold Par.k3; rw [if_pos c1, if_pos c2]
      omega
    · have e3 : p.k3 = p.F (p.B - p.b) := by unfold Par.k3; rw [if_pos c1, if_neg c2]
      omega
  · have e1 : p.k1 = p.F (max p.b p.f - p.b) := by unfold Par.k1; rw [if_neg c1]
    have e1' : p.F (p.f - p.b) = p.k1 := by
      rw [e1]
      by_cases c : p.f ≤ p.b
      · rw [O.F_non (by omega), O.F_non (by omega)]
      · congr 1; omega
    by_cases c2 : p.B < p.a
    · have e3 : p.k3 = p.F (p.a - p.b) := by unfold Par.k3; rw [if_neg c1, if_pos c2]
      have e2 : p.k2 = p.F (p.a - p.b) := by unfold Par.k2; rw [if_neg c1, if_pos c2, e3]
      omega
    · have e2 : p.k2 = p.F (max p.b p.a - p.b) := by unfold Par.k2; rw [if_neg c1, if_neg c2]
      have e2' : p.F (p.a - p.b) = p.k2 := by
        rw [e2]
        by_cases c : p.a ≤ p.b
        · rw [O.F_non (by omega), O.F_non (by omega)]
        · congr 1; omega
      omega
theorem prog_busy (O : p.Ok) (lo hi : Nat) : p.winsum lo hi p.parts = cnt lo hi 0 p.k1 + cnt lo hi p.k2 p.k3 := by
  have hL := O.L1
  have hb := O.b1
  have hf := O.f1
  have hfa := O.fa
  have hB : p.B = max p.b p.L := rfl
  have S := shape O
  have h12 := S.h12
  have h23 := S.h23
  have F1 : p.F (1 - p.b) = 0 := O.F_non (by omega)
  -- the first window
  have w1 : p.winsum lo hi (if 1 < p.f ∧ 1 < min p.f p.L then [(1, min p.f p.L)] else []) = p.win lo hi 1 (min p.f p.L) := by
    split
    · show p.win lo hi 1 (min p.f p.L) + 0 = _
      omega
    · show 0 = _
      unfold Par.win cnt
      rw [F1, O.F_non (show min p.f p.L - p.b ≤ 0 by omega)]
      omega
  have w2 : p.winsum lo hi (if max 1 p.a < p.L then [(max 1 p.a, p.L)] else []) = if p.a < p.L then p.win lo hi p.a p.L else 0 := by
    rw [show max 1 p.a = p.a by omega]
    split
    · show p.win lo hi p.a p.L + 0 = _
      omega
    · rfl
  have ap : ∀ E E' : List (Int × Int), p.winsum lo hi (E ++ E') = p.winsum lo hi E + p.winsum lo hi E' := fun E => by
    induction E with
    | nil => intro E'; simp [Par.winsum]
    | cons e E ih =>
      intro E'
      show p.win lo hi e.1 e.2 + p.winsum lo hi (E ++ E') = p.win lo hi e.1 e.2 + p.winsum lo hi E + p.winsum lo hi E'
      rw [ih]
      omega
  unfold Par.parts
  rw [ap, w1, w2]
  unfold Par.win cnt
  rw [F1]
  by_cases c1 : p.B < p.f
  · have e1 : p.k1 = p.F (p.B - p.b) := by unfold Par.k1; rw [if_pos c1]
    have e2 : p.k2 = p.k3 := by unfold Par.k2; rw [if_pos c1]
    have e1' : p.F (min p.f p.L - p.b) = p.k1 := by
      rw [e1]
      by_cases c : p.L ≤ p.b
      · rw [O.F_non (by omega), O.F_non (by omega)]
      · congr 1; omega
    rw [if_neg (by omega)]
    omega
  · have e1 : p.k1 = p.F (max p.b p.f - p.b) := by unfold Par.k1; rw [if_neg c1]
    have e1' : p.F (min p.f p.L - p.b) = p.k1 := by
      rw [e1]
      by_cases c : p.f ≤ p.b
      · rw [O.F_non (by omega), O.F_non (by omega)]
      · congr 1; omega
    by_cases c2 : p.B < p.a
    · have e3 : p.k3 = p.F (p.a - p.b) := by unfold Par.k3; rw [if_neg c1, if_pos c2]
      have e2 : p.k2 = p.F (p.a - p.b) := by unfold Par.k2; rw [if_neg c1, if_pos c2, e3]
      rw [if_neg (by omega)]
      omega
    · have e2 : p.k2 = p.F (max p.b p.a - p.b) := by unfold Par.k2; rw [if_neg c1, if_neg c2]
      have e3 : p.k3 = p.F (p.B - p.b) := by unfold Par.k3; rw [if_neg c1, if_neg c2]
      by_cases c3 : p.a < p.L
      · have e2' : p.F (p.a - p.b) = p.k2 := by
          rw [e2]
          by_cases c : p.a ≤ p.b
          · rw [O.F_non (by omega), O.F_non (by omega)]
          · congr 1; omega
        have e3' : p.F (p.L - p.b) = p.k3 := by
          rw [e3]
          by_cases c : p.L ≤ p.b
          · rw [O.F_non (by omega), O.F_non (by omega)]
          · congr 1; omega
        rw [if_pos c3]
        omega
      · have e23 : p.k2 = p.k3 := by
          rw [e2, e3]
          congr 1
          omega
        rw [if_neg c3]
        omega
/-- nothing is left for a third reason -/
theorem prog_rest (O : p.Ok) (lo hi : Nat) : (min hi p.k3) - min lo (min hi p.k3) = cnt lo hi p.k1 p.k2 + (cnt lo hi 0 p.k1 + cnt lo hi p.k2 p.k3) := by
  have S := shape O
  have h12 := S.h12
  have h23 := S.h23
  unfold cnt
  omega
end
end RS
end

section
/-! RTxt: the text by places, the defs' scopes, the addresses and what the written part must hold (printed by txt.py) -/
namespace RK
open PySem L2
def topS (i : Nat) : Stmt := PySem.Challenge.pw_retryslots_k51_whole_long_outages_and_se.main.body.getD i (.Pass ⟨0, 0, 0, 0⟩)
abbrev s_is_integer : Stmt := topS 11
abbrev n_is_integer : List Str := ["value"]
theorem sc_is_integer : FnScope n_is_integer ["value"] (defScope s_is_integer) := ⟨rfl, rfl, rfl, by decide +kernel, rfl, by decide +kernel, by decide +kernel⟩
abbrev s_is_between : Stmt := topS 12
abbrev n_is_between : List Str := ["value", "low", "high"]
theorem sc_is_between : FnScope n_is_between ["value", "low", "high"] (defScope s_is_between) := ⟨rfl, rfl, rfl, by decide +kernel, rfl, by decide +kernel, by decide +kernel⟩
abbrev s_is_tail : Stmt := topS 19
abbrev n_is_tail : List Str := ["tail", "gap_count"]
theorem sc_is_tail : FnScope n_is_tail ["tail", "gap_count"] (defScope s_is_tail) := ⟨rfl, rfl, rfl, by decide +kernel, rfl, by decide +kernel, by decide +kernel⟩
abbrev s_Rule_init : Stmt := inClass (topS 20) 0
abbrev n_Rule_init : List Str := ["self", "gaps", "tail", "gap"]
theorem sc_Rule_init : FnScope n_Rule_init ["self", "gaps", "tail"] (defScope s_Rule_init) := ⟨rfl, rfl, rfl, by decide +kernel, rfl, by decide +kernel, by decide +kernel⟩
abbrev s_Rule_gaps : Stmt := inClass (topS 20) 2
abbrev n_Rule_gaps : List Str := ["self"]
theorem sc_Rule_gaps : FnScope n_Rule_gaps ["self"] (defScope s_Rule_gaps) := ⟨rfl, rfl, rfl, by decide +kernel, rfl, by decide +kernel, by decide +kernel⟩
abbrev s_Rule_tail : Stmt := inClass (topS 20) 3
abbrev n_Rule_tail : List Str := ["self"]
theorem sc_Rule_tail : FnScope n_Rule_tail ["self"] (defScope s_Rule_tail) := ⟨rfl, rfl, rfl, by decide +kernel, rfl, by decide +kernel, by decide +kernel⟩
abbrev s_Rule_attempts : Stmt := inClass (topS 20) 4
abbrev n_Rule_attempts : List Str := ["self"]
theorem sc_Rule_attempts : FnScope n_Rule_attempts ["self"] (defScope s_Rule_attempts) := ⟨rfl, rfl, rfl, by decide +kernel, rfl, by decide +kernel, by decide +kernel⟩
abbrev s_Rule_check_attempt : Stmt := inClass (topS 20) 5
abbrev n_Rule_check_attempt : List Str := ["self", "attempt"]
theorem sc_Rule_check_attempt : FnScope n_Rule_check_attempt ["self", "attempt"] (defScope s_Rule_check_attempt) := ⟨rfl, rfl, rfl, by decide +kernel, rfl, by decide +kernel, by decide +kernel⟩
abbrev s_Rule_offset : Stmt := inClass (topS 20) 7
abbrev n_Rule_offset : List Str := ["self", "attempt"]
theorem sc_Rule_offset : FnScope n_Rule_offset ["self", "attempt"] (defScope s_Rule_offset) := ⟨rfl, rfl, rfl, by decide +kernel, rfl, by decide +kernel, by decide +kernel⟩
abbrev s_Rule_offset_of : Stmt := inClass (topS 20) 8
abbrev n_Rule_offset_of : List Str := ["self", "attempt", "further", "count", "first", "partial", "factor"]
theorem sc_Rule_offset_of : FnScope n_Rule_offset_of ["self", "attempt"] (defScope s_Rule_offset_of) := ⟨rfl, rfl, rfl, by decide +kernel, rfl, by decide +kernel, by decide +kernel⟩
abbrev s_Rule_period : Stmt := inClass (topS 20) 9
abbrev n_Rule_period : List Str := ["self"]
theorem sc_Rule_period : FnScope n_Rule_period ["self"] (defScope s_Rule_period) := ⟨rfl, rfl, rfl, by decide +kernel, rfl, by decide +kernel, by decide +kernel⟩
abbrev s_Rule_first_from : Stmt := inClass (topS 20) 11
abbrev n_Rule_first_from : List Str := ["self", "distance", "attempt", "offset"]
theorem sc_Rule_first_from : FnScope n_Rule_first_from ["self", "distance"] (defScope s_Rule_first_from) := ⟨rfl, rfl, rfl, by decide +kernel, rfl, by decide +kernel, by decide +kernel⟩
abbrev s_Rule_attempt_at : Stmt := inClass (topS 20) 12
abbrev n_Rule_attempt_at : List Str := ["self", "distance", "attempt"]
theorem sc_Rule_attempt_at : FnScope n_Rule_attempt_at ["self", "distance"] (defScope s_Rule_attempt_at) := ⟨rfl, rfl, rfl, by decide +kernel, rfl, by decide +kernel, by decide +kernel⟩
abbrev s_check_starts : Stmt := topS 24
abbrev n_check_starts : List Str := ["starts", "at", "start"]
theorem sc_check_starts : FnScope n_check_starts ["starts"] (defScope s_check_starts) := ⟨rfl, rfl, rfl, by decide +kernel, rfl, by decide +kernel, by decide +kernel⟩
abbrev s_is_window : Stmt := topS 25
abbrev n_is_window : List Str := ["value"]
theorem sc_is_window : FnScope n_is_window ["value"] (defScope s_is_window) := ⟨rfl, rfl, rfl, by decide +kernel, rfl, by decide +kernel, by decide +kernel⟩
abbrev s_check_outages : Stmt := topS 26
abbrev n_check_outages : List Str := ["outages", "at", "outage"]
theorem sc_check_outages : FnScope n_check_outages ["outages"] (defScope s_check_outages) := ⟨rfl, rfl, rfl, by decide +kernel, rfl, by decide +kernel, by decide +kernel⟩
abbrev s_Scene_init : Stmt := inClass (topS 27) 0
abbrev n_Scene_init : List Str := ["self", "rule", "starts", "outages", "length", "windows"]
theorem sc_Scene_init : FnScope n_Scene_init ["self", "rule", "starts", "outages", "length"] (defScope s_Scene_init) := ⟨rfl, rfl, rfl, by decide +kernel, rfl, by decide +kernel, by decide +kernel⟩
abbrev s_Scene_rule : Stmt := inClass (topS 27) 3
abbrev n_Scene_rule : List Str := ["self"]
theorem sc_Scene_rule : FnScope n_Scene_rule ["self"] (defScope s_Scene_rule) := ⟨rfl, rfl, rfl, by decide +kernel, rfl, by decide +kernel, by decide +kernel⟩
abbrev s_Scene_starts : Stmt := inClass (topS 27) 4
abbrev n_Scene_starts : List Str := ["self"]
theorem sc_Scene_starts : FnScope n_Scene_starts ["self"] (defScope s_Scene_starts) := ⟨rfl, rfl, rfl, by decide +kernel, rfl, by decide +kernel, by decide +kernel⟩
abbrev s_Scene_outages : Stmt := inClass (topS 27) 5
abbrev n_Scene_outages : List Str := ["self"]
theorem sc_Scene_outages : FnScope n_Scene_outages ["self"] (defScope s_Scene_outages) := ⟨rfl, rfl, rfl, by decide +kernel, rfl, by decide +kernel, by decide +kernel⟩
abbrev s_Scene_length : Stmt := inClass (topS 27) 6
abbrev n_Scene_length : List Str := ["self"]
theorem sc_Scene_length : FnScope n_Scene_length ["self"] (defScope s_Scene_length) := ⟨rfl, rfl, rfl, by decide +kernel, rfl, by decide +kernel, by decide +kernel⟩
abbrev s_Scene_check_client : Stmt := inClass (topS 27) 7
abbrev n_Scene_check_client : List Str := ["self", "client"]
theorem sc_Scene_check_client : FnScope n_Scene_check_client ["self", "client"] (defScope s_Scene_check_client) := ⟨rfl, rfl, rfl, by decide +kernel, rfl, by decide +kernel, by decide +kernel⟩
abbrev s_Scene_slot_of : Stmt := inClass (topS 27) 8
abbrev n_Scene_slot_of : List Str := ["self", "client", "attempt"]
theorem sc_Scene_slot_of : FnScope n_Scene_slot_of ["self", "client", "attempt"] (defScope s_Scene_slot_of) := ⟨rfl, rfl, rfl, by decide +kernel, rfl, by decide +kernel, by decide +kernel⟩
abbrev s_Scene_attempt_in : Stmt := inClass (topS 27) 9
abbrev n_Scene_attempt_in : List Str := ["self", "client", "slot"]
theorem sc_Scene_attempt_in : FnScope n_Scene_attempt_in ["self", "client", "slot"] (defScope s_Scene_attempt_in) := ⟨rfl, rfl, rfl, by decide +kernel, rfl, by decide +kernel, by decide +kernel⟩
abbrev s_Scene_outage_at : Stmt := inClass (topS 27) 10
abbrev n_Scene_outage_at : List Str := ["self", "slot", "at", "outage"]
theorem sc_Scene_outage_at : FnScope n_Scene_outage_at ["self", "slot"] (defScope s_Scene_outage_at) := ⟨rfl, rfl, rfl, by decide +kernel, rfl, by decide +kernel, by decide +kernel⟩
abbrev s_Scene_listed_slots : Stmt := inClass (topS 27) 11
abbrev n_Scene_listed_slots : List Str := ["self", "client", "count", "attempt"]
theorem sc_Scene_listed_slots : FnScope n_Scene_listed_slots ["self", "client"] (defScope s_Scene_listed_slots) := ⟨rfl, rfl, rfl, by decide +kernel, rfl, by decide +kernel, by decide +kernel⟩
abbrev s_Scene_moments : Stmt := inClass (topS 27) 12
abbrev n_Scene_moments : List Str := ["self", "found", "outage", "client"]
theorem sc_Scene_moments : FnScope n_Scene_moments ["self"] (defScope s_Scene_moments) := ⟨rfl, rfl, rfl, by decide +kernel, rfl, by decide +kernel, by decide +kernel⟩
abbrev s_Run_init : Stmt := inClass (topS 29) 0
abbrev n_Run_init : List Str := ["self", "scene", "client", "start", "equal", "other", "its_start"]
theorem sc_Run_init : FnScope n_Run_init ["self", "scene"] (defScope s_Run_init) := ⟨rfl, rfl, rfl, by decide +kernel, rfl, by decide +kernel, by decide +kernel⟩
abbrev s_Run_advance : Stmt := inClass (topS 29) 1
abbrev n_Run_advance : List Str := ["self", "slots", "slot", "end", "client", "its", "its_slot"]
theorem sc_Run_advance : FnScope n_Run_advance ["self"] (defScope s_Run_advance) := ⟨rfl, rfl, rfl, by decide +kernel, rfl, by decide +kernel, by decide +kernel⟩
abbrev s_Run_failing_until : Stmt := inClass (topS 29) 2
abbrev n_Run_failing_until : List Str := ["self", "slot", "at"]
theorem sc_Run_failing_until : FnScope n_Run_failing_until ["self", "slot"] (defScope s_Run_failing_until) := ⟨rfl, rfl, rfl, by decide +kernel, rfl, by decide +kernel, by decide +kernel⟩
abbrev s_Run_skip_to : Stmt := inClass (topS 29) 3
abbrev n_Run_skip_to : List Str := ["self", "slot", "client", "attempt"]
theorem sc_Run_skip_to : FnScope n_Run_skip_to ["self", "slot"] (defScope s_Run_skip_to) := ⟨rfl, rfl, rfl, by decide +kernel, rfl, by decide +kernel, by decide +kernel⟩
abbrev s_Run_latest_moment : Stmt := inClass (topS 29) 4
abbrev n_Run_latest_moment : List Str := ["self", "slot", "moment"]
theorem sc_Run_latest_moment : FnScope n_Run_latest_moment ["self", "slot"] (defScope s_Run_latest_moment) := ⟨rfl, rfl, rfl, by decide +kernel, rfl, by decide +kernel, by decide +kernel⟩
abbrev s_Run_is_repeated : Stmt := inClass (topS 29) 5
abbrev n_Run_is_repeated : List Str := ["self", "slot", "period"]
theorem sc_Run_is_repeated : FnScope n_Run_is_repeated ["self", "slot"] (defScope s_Run_is_repeated) := ⟨rfl, rfl, rfl, by decide +kernel, rfl, by decide +kernel, by decide +kernel⟩
abbrev s_Run_decide : Stmt := inClass (topS 29) 7
abbrev n_Run_decide : List Str := ["self", "slot", "clients", "others", "client"]
theorem sc_Run_decide : FnScope n_Run_decide ["self", "slot", "clients"] (defScope s_Run_decide) := ⟨rfl, rfl, rfl, by decide +kernel, rfl, by decide +kernel, by decide +kernel⟩
abbrev s_Run_scene : Stmt := inClass (topS 29) 8
abbrev n_Run_scene : List Str := ["self"]
theorem sc_Run_scene : FnScope n_Run_scene ["self"] (defScope s_Run_scene) := ⟨rfl, rfl, rfl, by decide +kernel, rfl, by decide +kernel, by decide +kernel⟩
abbrev s_Run_outcome : Stmt := inClass (topS 29) 9
abbrev n_Run_outcome : List Str := ["self", "client", "attempt", "slot"]
theorem sc_Run_outcome : FnScope n_Run_outcome ["self", "client"] (defScope s_Run_outcome) := ⟨rfl, rfl, rfl, by decide +kernel, rfl, by decide +kernel, by decide +kernel⟩
abbrev s_Run_order : Stmt := inClass (topS 29) 11
abbrev n_Run_order : List Str := ["self", "client", "attempt", "slot"]
theorem sc_Run_order : FnScope n_Run_order ["self"] (defScope s_Run_order) := ⟨rfl, rfl, rfl, by decide +kernel, rfl, by decide +kernel, by decide +kernel⟩
abbrev s_Run_is_active : Stmt := inClass (topS 29) 12
abbrev n_Run_is_active : List Str := ["self", "client", "slot"]
theorem sc_Run_is_active : FnScope n_Run_is_active ["self", "client", "slot"] (defScope s_Run_is_active) := ⟨rfl, rfl, rfl, by decide +kernel, rfl, by decide +kernel, by decide +kernel⟩
abbrev s_Run_active : Stmt := inClass (topS 29) 13
abbrev n_Run_active : List Str := ["self", "slot", "client"]
theorem sc_Run_active : FnScope n_Run_active ["self", "slot"] (defScope s_Run_active) := ⟨rfl, rfl, rfl, by decide +kernel, rfl, by decide +kernel, by decide +kernel⟩
abbrev s_Run_attempting : Stmt := inClass (topS 29) 14
abbrev n_Run_attempting : List Str := ["self", "slot", "client"]
theorem sc_Run_attempting : FnScope n_Run_attempting ["self", "slot"] (defScope s_Run_attempting) := ⟨rfl, rfl, rfl, by decide +kernel, rfl, by decide +kernel, by decide +kernel⟩
abbrev s_Run_busy_with : Stmt := inClass (topS 29) 15
abbrev n_Run_busy_with : List Str := ["self", "slot", "length", "begin", "client"]
theorem sc_Run_busy_with : FnScope n_Run_busy_with ["self", "slot"] (defScope s_Run_busy_with) := ⟨rfl, rfl, rfl, by decide +kernel, rfl, by decide +kernel, by decide +kernel⟩
abbrev s_Run_event : Stmt := inClass (topS 29) 16
abbrev n_Run_event : List Str := ["self", "slot", "clients", "at", "client"]
theorem sc_Run_event : FnScope n_Run_event ["self", "slot"] (defScope s_Run_event) := ⟨rfl, rfl, rfl, by decide +kernel, rfl, by decide +kernel, by decide +kernel⟩
abbrev s_check_run : Stmt := topS 32
abbrev n_check_run : List Str := ["run"]
theorem sc_check_run : FnScope n_check_run ["run"] (defScope s_check_run) := ⟨rfl, rfl, rfl, by decide +kernel, rfl, by decide +kernel, by decide +kernel⟩
abbrev s_attempts_made : Stmt := topS 33
abbrev n_attempts_made : List Str := ["run", "client"]
theorem sc_attempts_made : FnScope n_attempts_made ["run", "client"] (defScope s_attempts_made) := ⟨rfl, rfl, rfl, by decide +kernel, rfl, by decide +kernel, by decide +kernel⟩
abbrev s_reason_of : Stmt := topS 34
abbrev n_reason_of : List Str := ["run", "client", "attempt", "found", "other"]
theorem sc_reason_of : FnScope n_reason_of ["run", "client", "attempt"] (defScope s_reason_of) := ⟨rfl, rfl, rfl, by decide +kernel, rfl, by decide +kernel, by decide +kernel⟩
abbrev s_reason : Stmt := topS 35
abbrev n_reason : List Str := ["run", "client", "attempt", "count"]
theorem sc_reason : FnScope n_reason ["run", "client", "attempt"] (defScope s_reason) := ⟨rfl, rfl, rfl, by decide +kernel, rfl, by decide +kernel, by decide +kernel⟩
abbrev s_end_of_window : Stmt := topS 36
abbrev n_end_of_window : List Str := ["run", "slot", "found", "windows", "begin", "outage"]
theorem sc_end_of_window : FnScope n_end_of_window ["run", "slot", "found"] (defScope s_end_of_window) := ⟨rfl, rfl, rfl, by decide +kernel, rfl, by decide +kernel, by decide +kernel⟩
abbrev s_first_attempt : Stmt := topS 37
abbrev n_first_attempt : List Str := ["run", "client", "slot", "attempt"]
theorem sc_first_attempt : FnScope n_first_attempt ["run", "client", "slot"] (defScope s_first_attempt) := ⟨rfl, rfl, rfl, by decide +kernel, rfl, by decide +kernel, by decide +kernel⟩
abbrev s_behind_window : Stmt := topS 38
abbrev n_behind_window : List Str := ["run", "client", "attempt", "found", "slot"]
theorem sc_behind_window : FnScope n_behind_window ["run", "client", "attempt", "found"] (defScope s_behind_window) := ⟨rfl, rfl, rfl, by decide +kernel, rfl, by decide +kernel, by decide +kernel⟩
abbrev s_check_bounds : Stmt := topS 39
abbrev n_check_bounds : List Str := ["first", "after"]
theorem sc_check_bounds : FnScope n_check_bounds ["first", "after"] (defScope s_check_bounds) := ⟨rfl, rfl, rfl, by decide +kernel, rfl, by decide +kernel, by decide +kernel⟩
abbrev s_history : Stmt := topS 40
abbrev n_history : List Str := ["run", "client", "first", "after", "count", "stop", "entries", "found", "following"]
theorem sc_history : FnScope n_history ["run", "client", "first", "after"] (defScope s_history) := ⟨rfl, rfl, rfl, by decide +kernel, rfl, by decide +kernel, by decide +kernel⟩
abbrev s_without_outages : Stmt := topS 41
abbrev n_without_outages : List Str := ["run", "begin", "end", "parts", "first", "after", "part"]
theorem sc_without_outages : FnScope n_without_outages ["run", "begin", "end"] (defScope s_without_outages) := ⟨rfl, rfl, rfl, by decide +kernel, rfl, by decide +kernel, by decide +kernel⟩
abbrev s_busy_windows : Stmt := topS 42
abbrev n_busy_windows : List Str := ["run", "client", "found", "slot", "other"]
theorem sc_busy_windows : FnScope n_busy_windows ["run", "client"] (defScope s_busy_windows) := ⟨rfl, rfl, rfl, by decide +kernel, rfl, by decide +kernel, by decide +kernel⟩
abbrev s_count_within : Stmt := topS 43
abbrev n_count_within : List Str := ["run", "client", "windows", "first", "stop", "total", "begin", "end", "low", "high"]
theorem sc_count_within : FnScope n_count_within ["run", "client", "windows", "first", "stop"] (defScope s_count_within) := ⟨rfl, rfl, rfl, by decide +kernel, rfl, by decide +kernel, by decide +kernel⟩
abbrev s_failure_counts : Stmt := topS 44
abbrev n_failure_counts : List Str := ["run", "client", "first", "after", "count", "stop", "outage", "busy"]
theorem sc_failure_counts : FnScope n_failure_counts ["run", "client", "first", "after"] (defScope s_failure_counts) := ⟨rfl, rfl, rfl, by decide +kernel, rfl, by decide +kernel, by decide +kernel⟩
abbrev s_law_mixed : Stmt := topS 46
abbrev n_law_mixed : List Str := ["_law_cell", "_law_k", "_law_number"]
theorem sc_law_mixed : FnScope n_law_mixed ["_law_cell", "_law_k"] (defScope s_law_mixed) := ⟨rfl, rfl, rfl, by decide +kernel, rfl, by decide +kernel, by decide +kernel⟩
abbrev s_law_well : Stmt := topS 47
abbrev n_law_well : List Str := ["_law_cell"]
theorem sc_law_well : FnScope n_law_well ["_law_cell"] (defScope s_law_well) := ⟨rfl, rfl, rfl, by decide +kernel, rfl, by decide +kernel, by decide +kernel⟩
abbrev s_law_draw : Stmt := topS 48
abbrev n_law_draw : List Str := ["_law_well_here", "_law_many", "_law_found"]
theorem sc_law_draw : FnScope n_law_draw ["_law_well_here", "_law_many"] (defScope s_law_draw) := ⟨rfl, rfl, rfl, by decide +kernel, rfl, by decide +kernel, by decide +kernel⟩
abbrev s_law_one : Stmt := topS 49
abbrev n_law_one : List Str := ["_law_well_here", "_law_some"]
theorem sc_law_one : FnScope n_law_one ["_law_well_here", "_law_some"] (defScope s_law_one) := ⟨rfl, rfl, rfl, by decide +kernel, rfl, by decide +kernel, by decide +kernel⟩
abbrev s_law_first : Stmt := topS 50
abbrev n_law_first : List Str := ["_law_steps", "_law_ending", "_law_distance", "_law_last", "_law_place_here", "_law_attempt", "_law_turns", "_law_at"]
theorem sc_law_first : FnScope n_law_first ["_law_steps", "_law_ending", "_law_distance"] (defScope s_law_first) := ⟨rfl, rfl, rfl, by decide +kernel, rfl, by decide +kernel, by decide +kernel⟩
abbrev s_law_place : Stmt := topS 51
abbrev n_law_place : List Str := ["_law_steps", "_law_ending", "_law_attempt", "_law_last", "_law_more", "_law_part"]
theorem sc_law_place : FnScope n_law_place ["_law_steps", "_law_ending", "_law_attempt"] (defScope s_law_place) := ⟨rfl, rfl, rfl, by decide +kernel, rfl, by decide +kernel, by decide +kernel⟩
abbrev s_law_entries : Stmt := topS 52
abbrev n_law_entries : List Str := ["_law_steps", "_law_ending", "_law_begin", "_law_window", "_law_long", "_law_first_here", "_law_after", "_law_borders", "_law_found", "_law_behind", "_law_low", "_law_high", "_law_last", "_law_kept", "_law_why", "_law_entry"]
theorem sc_law_entries : FnScope n_law_entries ["_law_steps", "_law_ending", "_law_begin", "_law_window", "_law_long"] (defScope s_law_entries) := ⟨rfl, rfl, rfl, by decide +kernel, rfl, by decide +kernel, by decide +kernel⟩
abbrev s_law_cut : Stmt := topS 53
abbrev n_law_cut : List Str := ["_law_entries_here", "_law_first_here", "_law_after", "_law_found", "_law_low", "_law_high", "_law_why", "_law_entry"]
theorem sc_law_cut : FnScope n_law_cut ["_law_entries_here", "_law_first_here", "_law_after"] (defScope s_law_cut) := ⟨rfl, rfl, rfl, by decide +kernel, rfl, by decide +kernel, by decide +kernel⟩
abbrev s_law_counts : Stmt := topS 54
abbrev n_law_counts : List Str := ["_law_entries_here", "_law_found", "_law_word", "_law_low", "_law_high", "_law_why"]
theorem sc_law_counts : FnScope n_law_counts ["_law_entries_here"] (defScope s_law_counts) := ⟨rfl, rfl, rfl, by decide +kernel, rfl, by decide +kernel, by decide +kernel⟩
abbrev s_law_right : Stmt := topS 55
abbrev n_law_right : List Str := ["_law_well_here", "_law_steps", "_law_ending", "_law_long", "_law_begin", "_law_first_here", "_law_window", "_law_gone", "_law_entries_here", "_law_last", "_law_slot", "_law_turn", "_law_low", "_law_high", "_law_why", "_law_cut_here", "_law_k"]
theorem sc_law_right : FnScope n_law_right ["_law_well_here"] (defScope s_law_right) := ⟨rfl, rfl, rfl, by decide +kernel, rfl, by decide +kernel, by decide +kernel⟩
abbrev s_law : Stmt := topS 56
abbrev n_law : List Str := ["_law_script", "_law_cell"]
theorem sc_law : FnScope n_law ["_law_script"] (defScope s_law) := ⟨rfl, rfl, rfl, by decide +kernel, rfl, by decide +kernel, by decide +kernel⟩
structure Ad where
  c_Rule : Addr
  c_Run : Addr
  c_Scene : Addr
  f_is_integer : Addr
  d_is_integer : FuncData
  f_is_between : Addr
  d_is_between : FuncData
  f_is_tail : Addr
  d_is_tail : FuncData
  f_Rule_init : Addr
  d_Rule_init : FuncData
  f_Rule_gaps : Addr
  d_Rule_gaps : FuncData
  f_Rule_tail : Addr
  d_Rule_tail : FuncData
  f_Rule_attempts : Addr
  d_Rule_attempts : FuncData
  f_Rule_check_attempt : Addr
  d_Rule_check_attempt : FuncData
  f_Rule_offset : Addr
  d_Rule_offset : FuncData
  f_Rule_offset_of : Addr
  d_Rule_offset_of : FuncData
  f_Rule_period : Addr
  d_Rule_period : FuncData
  f_Rule_first_from : Addr
  d_Rule_first_from : FuncData
  f_Rule_attempt_at : Addr
  d_Rule_attempt_at : FuncData
  f_check_starts : Addr
  d_check_starts : FuncData
  f_is_window : Addr
  d_is_window : FuncData
  f_check_outages : Addr
  d_check_outages : FuncData
  f_Scene_init : Addr
  d_Scene_init : FuncData
  f_Scene_rule : Addr
  d_Scene_rule : FuncData
  f_Scene_starts : Addr
  d_Scene_starts : FuncData
  f_Scene_outages : Addr
  d_Scene_outages : FuncData
  f_Scene_length : Addr
  d_Scene_length : FuncData
  f_Scene_check_client : Addr
  d_Scene_check_client : FuncData
  f_Scene_slot_of : Addr
  d_Scene_slot_of : FuncData
  f_Scene_attempt_in : Addr
  d_Scene_attempt_in : FuncData
  f_Scene_outage_at : Addr
  d_Scene_outage_at : FuncData
  f_Scene_listed_slots : Addr
  d_Scene_listed_slots : FuncData
  f_Scene_moments : Addr
  d_Scene_moments : FuncData
  f_Run_init : Addr
  d_Run_init : FuncData
  f_Run_advance : Addr
  d_Run_advance : FuncData
  f_Run_failing_until : Addr
  d_Run_failing_until : FuncData
  f_Run_skip_to : Addr
  d_Run_skip_to : FuncData
  f_Run_latest_moment : Addr
  d_Run_latest_moment : FuncData
  f_Run_is_repeated : Addr
  d_Run_is_repeated : FuncData
  f_Run_decide : Addr
  d_Run_decide : FuncData
  f_Run_scene : Addr
  d_Run_scene : FuncData
  f_Run_outcome : Addr
  d_Run_outcome : FuncData
  f_Run_order : Addr
  d_Run_order : FuncData
  f_Run_is_active : Addr
  d_Run_is_active : FuncData
  f_Run_active : Addr
  d_Run_active : FuncData
  f_Run_attempting : Addr
  d_Run_attempting : FuncData
  f_Run_busy_with : Addr
  d_Run_busy_with : FuncData
  f_Run_event : Addr
  d_Run_event : FuncData
  f_check_run : Addr
  d_check_run : FuncData
  f_attempts_made : Addr
  d_attempts_made : FuncData
  f_reason_of : Addr
  d_reason_of : FuncData
  f_reason : Addr
  d_reason : FuncData
  f_end_of_window : Addr
  d_end_of_window : FuncData
  f_first_attempt : Addr
  d_first_attempt : FuncData
  f_behind_window : Addr
  d_behind_window : FuncData
  f_check_bounds : Addr
  d_check_bounds : FuncData
  f_history : Addr
  d_history : FuncData
  f_without_outages : Addr
  d_without_outages : FuncData
  f_busy_windows : Addr
  d_busy_windows : FuncData
  f_count_within : Addr
  d_count_within : FuncData
  f_failure_counts : Addr
  d_failure_counts : FuncData
  f_law_mixed : Addr
  d_law_mixed : FuncData
  f_law_well : Addr
  d_law_well : FuncData
  f_law_draw : Addr
  d_law_draw : FuncData
  f_law_one : Addr
  d_law_one : FuncData
  f_law_first : Addr
  d_law_first : FuncData
  f_law_place : Addr
  d_law_place : FuncData
  f_law_entries : Addr
  d_law_entries : FuncData
  f_law_cut : Addr
  d_law_cut : FuncData
  f_law_counts : Addr
  d_law_counts : FuncData
  f_law_right : Addr
  d_law_right : FuncData
  f_law : Addr
  d_law : FuncData
  t_MOST_GAPS : Tok
  t_MOST_GAP : Tok
  t_MOST_FACTOR : Tok
  t_MOST_ATTEMPT : Tok
  t_MOST_CLIENTS : Tok
  t_MOST_OUTAGES : Tok
  t_MOST_ENTRIES : Tok
  gS : List Value → List Value → List Value
structure Txt (K : PySem.W.Frag) (mg : Str → Option Value) (A : Ad) : Prop where
  cl_Rule : Cls K A.c_Rule
  g_Rule : mg "Rule" = some (.ref A.c_Rule)
  mk_Rule : Mk K A.c_Rule A.f_Rule_init
  y1_Rule : PySem.W.findIn K (.ref A.c_Rule) "__class__" = some (some (.builtin "object.__class__"))
  y2_Rule : PySem.W.mroIn K A.c_Rule (.type "object") = some true
  kit_Rule : PySem.W.kitOne K (.ref A.c_Rule) (.ref A.c_Rule) = some true
  na_listed : NoAttr K A.c_Rule "listed"
  na_ending : NoAttr K A.c_Rule "ending"
  na_sums : NoAttr K A.c_Rule "sums"
  cl_Run : Cls K A.c_Run
  g_Run : mg "Run" = some (.ref A.c_Run)
  mk_Run : Mk K A.c_Run A.f_Run_init
  y1_Run : PySem.W.findIn K (.ref A.c_Run) "__class__" = some (some (.builtin "object.__class__"))
  y2_Run : PySem.W.mroIn K A.c_Run (.type "object") = some true
  kit_Run : PySem.W.kitOne K (.ref A.c_Run) (.ref A.c_Run) = some true
  na_its_scene : NoAttr K A.c_Run "its_scene"
  na_pattern : NoAttr K A.c_Run "pattern"
  na_begins : NoAttr K A.c_Run "begins"
  na_changes : NoAttr K A.c_Run "changes"
  na_services : NoAttr K A.c_Run "services"
  na_closed : NoAttr K A.c_Run "closed"
  na_waiting : NoAttr K A.c_Run "waiting"
  na_free_from : NoAttr K A.c_Run "free_from"
  cl_Scene : Cls K A.c_Scene
  g_Scene : mg "Scene" = some (.ref A.c_Scene)
  mk_Scene : Mk K A.c_Scene A.f_Scene_init
  y1_Scene : PySem.W.findIn K (.ref A.c_Scene) "__class__" = some (some (.builtin "object.__class__"))
  y2_Scene : PySem.W.mroIn K A.c_Scene (.type "object") = some true
  kit_Scene : PySem.W.kitOne K (.ref A.c_Scene) (.ref A.c_Scene) = some true
  na_its_rule : NoAttr K A.c_Scene "its_rule"
  na_its_starts : NoAttr K A.c_Scene "its_starts"
  na_windows : NoAttr K A.c_Scene "windows"
  na_its_length : NoAttr K A.c_Scene "its_length"
  y3 : PySem.W.specialIn K (.builtin "object.__class__") "__get__" = some (some (.builtin "getset_descriptor.__get__"))
  y4 : PySem.W.takesIn K (.builtin "object.__class__") = some true
  f_is_integer : Fun K "is_integer" "is_integer" s_is_integer A.f_is_integer A.d_is_integer
  b_is_integer : Binds K A.d_is_integer ["value"] []
  g_is_integer : mg "is_integer" = some (.ref A.f_is_integer)
  f_is_between : Fun K "is_between" "is_between" s_is_between A.f_is_between A.d_is_between
  b_is_between : Binds K A.d_is_between ["value", "low", "high"] []
  g_is_between : mg "is_between" = some (.ref A.f_is_between)
  f_is_tail : Fun K "is_tail" "is_tail" s_is_tail A.f_is_tail A.d_is_tail
  b_is_tail : Binds K A.d_is_tail ["tail", "gap_count"] []
  g_is_tail : mg "is_tail" = some (.ref A.f_is_tail)
  f_Rule_init : Fun K "__init__" "Rule.__init__" s_Rule_init A.f_Rule_init A.d_Rule_init
  b_Rule_init : Binds K A.d_Rule_init ["self", "gaps", "tail"] []
  f_Rule_gaps : Fun K "gaps" "Rule.gaps" s_Rule_gaps A.f_Rule_gaps A.d_Rule_gaps
  b_Rule_gaps : Binds K A.d_Rule_gaps ["self"] []
  m_Rule_gaps : Meth K A.c_Rule "gaps" A.f_Rule_gaps
  f_Rule_tail : Fun K "tail" "Rule.tail" s_Rule_tail A.f_Rule_tail A.d_Rule_tail
  b_Rule_tail : Binds K A.d_Rule_tail ["self"] []
  m_Rule_tail : Meth K A.c_Rule "tail" A.f_Rule_tail
  f_Rule_attempts : Fun K "attempts" "Rule.attempts" s_Rule_attempts A.f_Rule_attempts A.d_Rule_attempts
  b_Rule_attempts : Binds K A.d_Rule_attempts ["self"] []
  m_Rule_attempts : Meth K A.c_Rule "attempts" A.f_Rule_attempts
  f_Rule_check_attempt : Fun K "check_attempt" "Rule.check_attempt" s_Rule_check_attempt A.f_Rule_check_attempt A.d_Rule_check_attempt
  b_Rule_check_attempt : Binds K A.d_Rule_check_attempt ["self", "attempt"] []
  m_Rule_check_attempt : Meth K A.c_Rule "check_attempt" A.f_Rule_check_attempt
  f_Rule_offset : Fun K "offset" "Rule.offset" s_Rule_offset A.f_Rule_offset A.d_Rule_offset
  b_Rule_offset : Binds K A.d_Rule_offset ["self", "attempt"] []
  m_Rule_offset : Meth K A.c_Rule "offset" A.f_Rule_offset
  f_Rule_offset_of : Fun K "offset_of" "Rule.offset_of" s_Rule_offset_of A.f_Rule_offset_of A.d_Rule_offset_of
  b_Rule_offset_of : Binds K A.d_Rule_offset_of ["self", "attempt"] []
  m_Rule_offset_of : Meth K A.c_Rule "offset_of" A.f_Rule_offset_of
  f_Rule_period : Fun K "period" "Rule.period" s_Rule_period A.f_Rule_period A.d_Rule_period
  b_Rule_period : Binds K A.d_Rule_period ["self"] []
  m_Rule_period : Meth K A.c_Rule "period" A.f_Rule_period
  f_Rule_first_from : Fun K "first_from" "Rule.first_from" s_Rule_first_from A.f_Rule_first_from A.d_Rule_first_from
  b_Rule_first_from : Binds K A.d_Rule_first_from ["self", "distance"] []
  m_Rule_first_from : Meth K A.c_Rule "first_from" A.f_Rule_first_from
  f_Rule_attempt_at : Fun K "attempt_at" "Rule.attempt_at" s_Rule_attempt_at A.f_Rule_attempt_at A.d_Rule_attempt_at
  b_Rule_attempt_at : Binds K A.d_Rule_attempt_at ["self", "distance"] []
  m_Rule_attempt_at : Meth K A.c_Rule "attempt_at" A.f_Rule_attempt_at
  f_check_starts : Fun K "check_starts" "check_starts" s_check_starts A.f_check_starts A.d_check_starts
  b_check_starts : Binds K A.d_check_starts ["starts"] []
  g_check_starts : mg "check_starts" = some (.ref A.f_check_starts)
  f_is_window : Fun K "is_window" "is_window" s_is_window A.f_is_window A.d_is_window
  b_is_window : Binds K A.d_is_window ["value"] []
  g_is_window : mg "is_window" = some (.ref A.f_is_window)
  f_check_outages : Fun K "check_outages" "check_outages" s_check_outages A.f_check_outages A.d_check_outages
  b_check_outages : Binds K A.d_check_outages ["outages"] []
  g_check_outages : mg "check_outages" = some (.ref A.f_check_outages)
  f_Scene_init : FunD K "__init__" "Scene.__init__" (defArgs s_Scene_init) (defBody s_Scene_init) (defScope s_Scene_init) [] [("outages", .non), ("length", .int 1)] A.f_Scene_init A.d_Scene_init
  kb_Scene_init : KBn K A.d_Scene_init ["self", "rule", "starts", "outages", "length"] 3 ["outages", "length"] A.gS (fun vs zs => vs ++ zs)
  f_Scene_rule : Fun K "rule" "Scene.rule" s_Scene_rule A.f_Scene_rule A.d_Scene_rule
  b_Scene_rule : Binds K A.d_Scene_rule ["self"] []
  m_Scene_rule : Meth K A.c_Scene "rule" A.f_Scene_rule
  f_Scene_starts : Fun K "starts" "Scene.starts" s_Scene_starts A.f_Scene_starts A.d_Scene_starts
  b_Scene_starts : Binds K A.d_Scene_starts ["self"] []
  m_Scene_starts : Meth K A.c_Scene "starts" A.f_Scene_starts
  f_Scene_outages : Fun K "outages" "Scene.outages" s_Scene_outages A.f_Scene_outages A.d_Scene_outages
  b_Scene_outages : Binds K A.d_Scene_outages ["self"] []
  m_Scene_outages : Meth K A.c_Scene "outages" A.f_Scene_outages
  f_Scene_length : Fun K "length" "Scene.length" s_Scene_length A.f_Scene_length A.d_Scene_length
  b_Scene_length : Binds K A.d_Scene_length ["self"] []
  m_Scene_length : Meth K A.c_Scene "length" A.f_Scene_length
  f_Scene_check_client : Fun K "check_client" "Scene.check_client" s_Scene_check_client A.f_Scene_check_client A.d_Scene_check_client
  b_Scene_check_client : Binds K A.d_Scene_check_client ["self", "client"] []
  m_Scene_check_client : Meth K A.c_Scene "check_client" A.f_Scene_check_client
  f_Scene_slot_of : Fun K "slot_of" "Scene.slot_of" s_Scene_slot_of A.f_Scene_slot_of A.d_Scene_slot_of
  b_Scene_slot_of : Binds K A.d_Scene_slot_of ["self", "client", "attempt"] []
  m_Scene_slot_of : Meth K A.c_Scene "slot_of" A.f_Scene_slot_of
  f_Scene_attempt_in : Fun K "attempt_in" "Scene.attempt_in" s_Scene_attempt_in A.f_Scene_attempt_in A.d_Scene_attempt_in
  b_Scene_attempt_in : Binds K A.d_Scene_attempt_in ["self", "client", "slot"] []
  m_Scene_attempt_in : Meth K A.c_Scene "attempt_in" A.f_Scene_attempt_in
  f_Scene_outage_at : Fun K "outage_at" "Scene.outage_at" s_Scene_outage_at A.f_Scene_outage_at A.d_Scene_outage_at
  b_Scene_outage_at : Binds K A.d_Scene_outage_at ["self", "slot"] []
  m_Scene_outage_at : Meth K A.c_Scene "outage_at" A.f_Scene_outage_at
  f_Scene_listed_slots : Fun K "listed_slots" "Scene.listed_slots" s_Scene_listed_slots A.f_Scene_listed_slots A.d_Scene_listed_slots
  b_Scene_listed_slots : Binds K A.d_Scene_listed_slots ["self", "client"] []
  m_Scene_listed_slots : Meth K A.c_Scene "listed_slots" A.f_Scene_listed_slots
  f_Scene_moments : Fun K "moments" "Scene.moments" s_Scene_moments A.f_Scene_moments A.d_Scene_moments
  b_Scene_moments : Binds K A.d_Scene_moments ["self"] []
  m_Scene_moments : Meth K A.c_Scene "moments" A.f_Scene_moments
  f_Run_init : Fun K "__init__" "Run.__init__" s_Run_init A.f_Run_init A.d_Run_init
  b_Run_init : Binds K A.d_Run_init ["self", "scene"] []
  f_Run_advance : Fun K "advance" "Run.advance" s_Run_advance A.f_Run_advance A.d_Run_advance
  b_Run_advance : Binds K A.d_Run_advance ["self"] []
  m_Run_advance : Meth K A.c_Run "advance" A.f_Run_advance
  f_Run_failing_until : Fun K "failing_until" "Run.failing_until" s_Run_failing_until A.f_Run_failing_until A.d_Run_failing_until
  b_Run_failing_until : Binds K A.d_Run_failing_until ["self", "slot"] []
  m_Run_failing_until : Meth K A.c_Run "failing_until" A.f_Run_failing_until
  f_Run_skip_to : Fun K "skip_to" "Run.skip_to" s_Run_skip_to A.f_Run_skip_to A.d_Run_skip_to
  b_Run_skip_to : Binds K A.d_Run_skip_to ["self", "slot"] []
  m_Run_skip_to : Meth K A.c_Run "skip_to" A.f_Run_skip_to
  f_Run_latest_moment : Fun K "latest_moment" "Run.latest_moment" s_Run_latest_moment A.f_Run_latest_moment A.d_Run_latest_moment
  b_Run_latest_moment : Binds K A.d_Run_latest_moment ["self", "slot"] []
  m_Run_latest_moment : Meth K A.c_Run "latest_moment" A.f_Run_latest_moment
  f_Run_is_repeated : Fun K "is_repeated" "Run.is_repeated" s_Run_is_repeated A.f_Run_is_repeated A.d_Run_is_repeated
  b_Run_is_repeated : Binds K A.d_Run_is_repeated ["self", "slot"] []
  m_Run_is_repeated : Meth K A.c_Run "is_repeated" A.f_Run_is_repeated
  f_Run_decide : Fun K "decide" "Run.decide" s_Run_decide A.f_Run_decide A.d_Run_decide
  b_Run_decide : Binds K A.d_Run_decide ["self", "slot", "clients"] []
  m_Run_decide : Meth K A.c_Run "decide" A.f_Run_decide
  f_Run_scene : Fun K "scene" "Run.scene" s_Run_scene A.f_Run_scene A.d_Run_scene
  b_Run_scene : Binds K A.d_Run_scene ["self"] []
  m_Run_scene : Meth K A.c_Run "scene" A.f_Run_scene
  f_Run_outcome : Fun K "outcome" "Run.outcome" s_Run_outcome A.f_Run_outcome A.d_Run_outcome
  b_Run_outcome : Binds K A.d_Run_outcome ["self", "client"] []
  m_Run_outcome : Meth K A.c_Run "outcome" A.f_Run_outcome
  f_Run_order : Fun K "order" "Run.order" s_Run_order A.f_Run_order A.d_Run_order
  b_Run_order : Binds K A.d_Run_order ["self"] []
  m_Run_order : Meth K A.c_Run "order" A.f_Run_order
  f_Run_is_active : Fun K "is_active" "Run.is_active" s_Run_is_active A.f_Run_is_active A.d_Run_is_active
  b_Run_is_active : Binds K A.d_Run_is_active ["self", "client", "slot"] []
  m_Run_is_active : Meth K A.c_Run "is_active" A.f_Run_is_active
  f_Run_active : Fun K "active" "Run.active" s_Run_active A.f_Run_active A.d_Run_active
  b_Run_active : Binds K A.d_Run_active ["self", "slot"] []
  m_Run_active : Meth K A.c_Run "active" A.f_Run_active
  f_Run_attempting : Fun K "attempting" "Run.attempting" s_Run_attempting A.f_Run_attempting A.d_Run_attempting
  b_Run_attempting : Binds K A.d_Run_attempting ["self", "slot"] []
  m_Run_attempting : Meth K A.c_Run "attempting" A.f_Run_attempting
  f_Run_busy_with : Fun K "busy_with" "Run.busy_with" s_Run_busy_with A.f_Run_busy_with A.d_Run_busy_with
  b_Run_busy_with : Binds K A.d_Run_busy_with ["self", "slot"] []
  m_Run_busy_with : Meth K A.c_Run "busy_with" A.f_Run_busy_with
  f_Run_event : Fun K "event" "Run.event" s_Run_event A.f_Run_event A.d_Run_event
  b_Run_event : Binds K A.d_Run_event ["self", "slot"] []
  m_Run_event : Meth K A.c_Run "event" A.f_Run_event
  f_check_run : Fun K "check_run" "check_run" s_check_run A.f_check_run A.d_check_run
  b_check_run : Binds K A.d_check_run ["run"] []
  g_check_run : mg "check_run" = some (.ref A.f_check_run)
  f_attempts_made : Fun K "attempts_made" "attempts_made" s_attempts_made A.f_attempts_made A.d_attempts_made
  b_attempts_made : Binds K A.d_attempts_made ["run", "client"] []
  g_attempts_made : mg "attempts_made" = some (.ref A.f_attempts_made)
  f_reason_of : Fun K "reason_of" "reason_of" s_reason_of A.f_reason_of A.d_reason_of
  b_reason_of : Binds K A.d_reason_of ["run", "client", "attempt"] []
  g_reason_of : mg "reason_of" = some (.ref A.f_reason_of)
  f_reason : Fun K "reason" "reason" s_reason A.f_reason A.d_reason
  b_reason : Binds K A.d_reason ["run", "client", "attempt"] []
  g_reason : mg "reason" = some (.ref A.f_reason)
  f_end_of_window : Fun K "end_of_window" "end_of_window" s_end_of_window A.f_end_of_window A.d_end_of_window
  b_end_of_window : Binds K A.d_end_of_window ["run", "slot", "found"] []
  g_end_of_window : mg "end_of_window" = some (.ref A.f_end_of_window)
  f_first_attempt : Fun K "first_attempt" "first_attempt" s_first_attempt A.f_first_attempt A.d_first_attempt
  b_first_attempt : Binds K A.d_first_attempt ["run", "client", "slot"] []
  g_first_attempt : mg "first_attempt" = some (.ref A.f_first_attempt)
  f_behind_window : Fun K "behind_window" "behind_window" s_behind_window A.f_behind_window A.d_behind_window
  b_behind_window : Binds K A.d_behind_window ["run", "client", "attempt", "found"] []
  g_behind_window : mg "behind_window" = some (.ref A.f_behind_window)
  f_check_bounds : Fun K "check_bounds" "check_bounds" s_check_bounds A.f_check_bounds A.d_check_bounds
  b_check_bounds : Binds K A.d_check_bounds ["first", "after"] []
  g_check_bounds : mg "check_bounds" = some (.ref A.f_check_bounds)
  f_history : Fun K "history" "history" s_history A.f_history A.d_history
  b_history : Binds K A.d_history ["run", "client", "first", "after"] []
  g_history : mg "history" = some (.ref A.f_history)
  f_without_outages : Fun K "without_outages" "without_outages" s_without_outages A.f_without_outages A.d_without_outages
  b_without_outages : Binds K A.d_without_outages ["run", "begin", "end"] []
  g_without_outages : mg "without_outages" = some (.ref A.f_without_outages)
  f_busy_windows : Fun K "busy_windows" "busy_windows" s_busy_windows A.f_busy_windows A.d_busy_windows
  b_busy_windows : Binds K A.d_busy_windows ["run", "client"] []
  g_busy_windows : mg "busy_windows" = some (.ref A.f_busy_windows)
  f_count_within : Fun K "count_within" "count_within" s_count_within A.f_count_within A.d_count_within
  b_count_within : Binds K A.d_count_within ["run", "client", "windows", "first", "stop"] []
  g_count_within : mg "count_within" = some (.ref A.f_count_within)
  f_failure_counts : Fun K "failure_counts" "failure_counts" s_failure_counts A.f_failure_counts A.d_failure_counts
  b_failure_counts : Binds K A.d_failure_counts ["run", "client", "first", "after"] []
  g_failure_counts : mg "failure_counts" = some (.ref A.f_failure_counts)
  f_law_mixed : Fun K "_law_mixed" "_law_mixed" s_law_mixed A.f_law_mixed A.d_law_mixed
  b_law_mixed : Binds K A.d_law_mixed ["_law_cell", "_law_k"] []
  g_law_mixed : mg "_law_mixed" = some (.ref A.f_law_mixed)
  f_law_well : Fun K "_law_well" "_law_well" s_law_well A.f_law_well A.d_law_well
  b_law_well : Binds K A.d_law_well ["_law_cell"] []
  g_law_well : mg "_law_well" = some (.ref A.f_law_well)
  f_law_draw : Fun K "_law_draw" "_law_draw" s_law_draw A.f_law_draw A.d_law_draw
  b_law_draw : Binds K A.d_law_draw ["_law_well_here", "_law_many"] []
  g_law_draw : mg "_law_draw" = some (.ref A.f_law_draw)
  f_law_one : Fun K "_law_one" "_law_one" s_law_one A.f_law_one A.d_law_one
  b_law_one : Binds K A.d_law_one ["_law_well_here", "_law_some"] []
  g_law_one : mg "_law_one" = some (.ref A.f_law_one)
  f_law_first : Fun K "_law_first" "_law_first" s_law_first A.f_law_first A.d_law_first
  b_law_first : Binds K A.d_law_first ["_law_steps", "_law_ending", "_law_distance"] []
  g_law_first : mg "_law_first" = some (.ref A.f_law_first)
  f_law_place : Fun K "_law_place" "_law_place" s_law_place A.f_law_place A.d_law_place
  b_law_place : Binds K A.d_law_place ["_law_steps", "_law_ending", "_law_attempt"] []
  g_law_place : mg "_law_place" = some (.ref A.f_law_place)
  f_law_entries : Fun K "_law_entries" "_law_entries" s_law_entries A.f_law_entries A.d_law_entries
  b_law_entries : Binds K A.d_law_entries ["_law_steps", "_law_ending", "_law_begin", "_law_window", "_law_long"] []
  g_law_entries : mg "_law_entries" = some (.ref A.f_law_entries)
  f_law_cut : Fun K "_law_cut" "_law_cut" s_law_cut A.f_law_cut A.d_law_cut
  b_law_cut : Binds K A.d_law_cut ["_law_entries_here", "_law_first_here", "_law_after"] []
  g_law_cut : mg "_law_cut" = some (.ref A.f_law_cut)
  f_law_counts : Fun K "_law_counts" "_law_counts" s_law_counts A.f_law_counts A.d_law_counts
  b_law_counts : Binds K A.d_law_counts ["_law_entries_here"] []
  g_law_counts : mg "_law_counts" = some (.ref A.f_law_counts)
  f_law_right : Fun K "_law_right" "_law_right" s_law_right A.f_law_right A.d_law_right
  b_law_right : Binds K A.d_law_right ["_law_well_here"] []
  g_law_right : mg "_law_right" = some (.ref A.f_law_right)
  f_law : Fun K "law" "law" s_law A.f_law A.d_law
  b_law : Binds K A.d_law ["_law_script"] []
  g_law : mg "law" = some (.ref A.f_law)
  g_MOST_GAPS : mg "MOST_GAPS" = some (.int 20 A.t_MOST_GAPS)
  g_MOST_GAP : mg "MOST_GAP" = some (.int 1000000000000 A.t_MOST_GAP)
  g_MOST_FACTOR : mg "MOST_FACTOR" = some (.int 1000 A.t_MOST_FACTOR)
  g_MOST_ATTEMPT : mg "MOST_ATTEMPT" = some (.int 1000 A.t_MOST_ATTEMPT)
  g_MOST_CLIENTS : mg "MOST_CLIENTS" = some (.int 40 A.t_MOST_CLIENTS)
  g_MOST_OUTAGES : mg "MOST_OUTAGES" = some (.int 10 A.t_MOST_OUTAGES)
  g_MOST_ENTRIES : mg "MOST_ENTRIES" = some (.int 1000 A.t_MOST_ENTRIES)
  z_int : mg "int" = none
  z_bool : mg "bool" = none
  z_list : mg "list" = none
  z_tuple : mg "tuple" = none
  z_str : mg "str" = none
  z_len : mg "len" = none
  z_isinstance : mg "isinstance" = none
  z_all : mg "all" = none
  z_sum : mg "sum" = none
  z_max : mg "max" = none
  z_min : mg "min" = none
  z_sorted : mg "sorted" = none
  z_set : mg "set" = none
  z_enumerate : mg "enumerate" = none
  z_range : mg "range" = none
  z_zip : mg "zip" = none
end RK
end

section
/-! RPre: the objects of the program as they stand in the heap. -/
namespace RK
open PySem L2 RS

/-! ### places in lists -/
theorem atI_m1 {α : Type} {xs : List α} {v : α} (h : xs[xs.length - 1]? = some v) : atI xs (-1) = some v := by
  have hn : 0 < xs.length := by
    by_cases e : 0 < xs.length
    · exact e
    · rw [List.getElem?_eq_none (by omega)] at h; cases h
  unfold atI ixN
  rw [if_neg (by omega), if_pos (by omega)]
  show xs[((-1 : Int) + (xs.length : Int)).toNat]? = some v
  rw [show ((-1 : Int) + (xs.length : Int)).toNat = xs.length - 1 by omega]
  exact h
theorem at_map {xs : List Int} {z : Int} {j : Nat} {v : Int} (e : z = (j : Int)) (h : xs[j]? = some v) : atI (xs.map V.int) z = some (.int v) :=
  at_of e (by rw [List.getElem?_map, h]; rfl)
theorem at_map1 {xs : List Int} {v : Int} (h : xs[xs.length - 1]? = some v) : atI (xs.map V.int) (-1) = some (.int v) :=
  atI_m1 (by rw [List.length_map, List.getElem?_map, h]; rfl)

theorem cdivw {i j : Int} (h : 0 < j) (h2 : j < 2 ^ 64) : CDivW i j := wide_div (b := 64) h (by omega) (by decide) (by decide)
theorem cmulr {i j : Int} (h : 0 ≤ j) (h2 : j < 2 ^ 64) : CMul i j := .inr ⟨by omega, h2⟩
theorem cmull {i j : Int} (h : 0 ≤ i) (h2 : i < 2 ^ 64) : CMul i j := .inl ⟨by omega, h2⟩

/-! ### attributes -/
theorem lookup_no {fs : List (Str × V)} {m : Str} : (fs.map (·.1)).contains m = false → fs.lookup m = none := by
  induction fs with
  | nil => intro _; rfl
  | cons p r ih =>
    intro h
    obtain ⟨k, v⟩ := p
    rw [List.map_cons, List.contains_cons, Bool.or_eq_false_iff] at h
    rw [List.lookup_cons, h.1]
    exact ih h.2

/-! ### rules -/
def sumsL (g : List Int) : List Int := (List.range (g.length + 1)).map (ps g)
theorem sumsL_length (g : List Int) : (sumsL g).length = g.length + 1 := by unfold sumsL; rw [List.length_map, List.length_range]
theorem sumsL_at {g : List Int} {k : Nat} (h : k ≤ g.length) : (sumsL g)[k]? = some (ps g k) := by
  unfold sumsL
  rw [List.getElem?_map, List.getElem?_range (by omega)]
  rfl
def ruleF (l e s : Addr) : List (Str × V) := [("listed", .ref l), ("ending", .ref e), ("sums", .ref s)]
/-- a rule that repeats stands at r -/
structure RuleX (A : Ad) (H : Hp) (r : Addr) (g : List Int) (n : Nat) (dx l e s : Addr) : Prop where
  ok : Rok g n
  o : H r = some (.ins A.c_Rule dx (ruleF l e s))
  l : H l = some (.lst (g.map V.int))
  e : H e = some (.tup [.str "repeat", .int (n : Int)])
  s : H s = some (.lst ((sumsL g).map V.int))
def RuleAt (A : Ad) (H : Hp) (r : Addr) (g : List Int) (n : Nat) : Prop := ∃ dx l e s, RuleX A H r g n dx l e s
theorem rule_ex {A : Ad} {H H' : Hp} {r : Addr} {g : List Int} {n : Nat} (x : Ex H H') (h : RuleAt A H r g n) : RuleAt A H' r g n :=
  let ⟨dx, l, e, s, ⟨a, b, c, d, f⟩⟩ := h; ⟨dx, l, e, s, ⟨a, x _ _ b, x _ _ c, x _ _ d, x _ _ f⟩⟩
section
variable {K : PySem.W.Frag} {mg : Str → Option Value} {A : Ad} {H : Hp} {r dx l e s : Addr}
theorem has_listed (T : Txt K mg A) (h : H r = some (.ins A.c_Rule dx (ruleF l e s))) : Has K H r "listed" (.ref l) := ⟨_, dx, _, h, T.cl_Rule, T.na_listed, by kernel_rfl⟩
theorem has_ending (T : Txt K mg A) (h : H r = some (.ins A.c_Rule dx (ruleF l e s))) : Has K H r "ending" (.ref e) := ⟨_, dx, _, h, T.cl_Rule, T.na_ending, by kernel_rfl⟩
theorem has_sums (T : Txt K mg A) (h : H r = some (.ins A.c_Rule dx (ruleF l e s))) : Has K H r "sums" (.ref s) := ⟨_, dx, _, h, T.cl_Rule, T.na_sums, by kernel_rfl⟩
theorem obj_Rule {m : Str} (h : H r = some (.ins A.c_Rule dx (ruleF l e s))) (hm : (["listed", "ending", "sums"] : List Str).contains m = false) : IsO H A.c_Rule r m := ⟨dx, _, h, lookup_no hm⟩
theorem rule_obj {g : List Int} {n : Nat} {m : Str} (h : RuleAt A H r g n) (hm : (["listed", "ending", "sums"] : List Str).contains m = false) : IsO H A.c_Rule r m :=
  let ⟨_, _, _, _, x⟩ := h; obj_Rule x.o hm
end

/-! ### scenes -/
def sceneF (r st w : Addr) (L : Int) : List (Str × V) := [("its_rule", .ref r), ("its_starts", .ref st), ("windows", .ref w), ("its_length", .int L)]
structure SceneX (A : Ad) (H : Hp) (sc : Addr) (p : Par) (dx r st w t : Addr) : Prop where
  ok : p.Ok
  o : H sc = some (.ins A.c_Scene dx (sceneF r st w p.L))
  r : RuleAt A H r p.g p.n
  st : H st = some (.lst [.int 0, .int p.b])
  w : H w = some (.lst [.ref t])
  t : H t = some (.tup [.int p.f, .int p.a])
def SceneAt (A : Ad) (H : Hp) (sc : Addr) (p : Par) : Prop := ∃ dx r st w t, SceneX A H sc p dx r st w t
theorem scene_ex {A : Ad} {H H' : Hp} {sc : Addr} {p : Par} (x : Ex H H') (h : SceneAt A H sc p) : SceneAt A H' sc p :=
  let ⟨dx, r, st, w, t, ⟨a, b, c, d, e, f⟩⟩ := h; ⟨dx, r, st, w, t, ⟨a, x _ _ b, rule_ex x c, x _ _ d, x _ _ e, x _ _ f⟩⟩
section
variable {K : PySem.W.Frag} {mg : Str → Option Value} {A : Ad} {H : Hp} {sc dx r st w : Addr} {L : Int}
theorem has_its_rule (T : Txt K mg A) (h : H sc = some (.ins A.c_Scene dx (sceneF r st w L))) : Has K H sc "its_rule" (.ref r) := ⟨_, dx, _, h, T.cl_Scene, T.na_its_rule, by kernel_rfl⟩
theorem has_its_starts (T : Txt K mg A) (h : H sc = some (.ins A.c_Scene dx (sceneF r st w L))) : Has K H sc "its_starts" (.ref st) := ⟨_, dx, _, h, T.cl_Scene, T.na_its_starts, by kernel_rfl⟩
theorem has_windows (T : Txt K mg A) (h : H sc = some (.ins A.c_Scene dx (sceneF r st w L))) : Has K H sc "windows" (.ref w) := ⟨_, dx, _, h, T.cl_Scene, T.na_windows, by kernel_rfl⟩
theorem has_its_length (T : Txt K mg A) (h : H sc = some (.ins A.c_Scene dx (sceneF r st w L))) : Has K H sc "its_length" (.int L) := ⟨_, dx, _, h, T.cl_Scene, T.na_its_length, by kernel_rfl⟩
theorem scene_obj {p : Par} {m : Str} (h : SceneAt A H sc p) (hm : (["its_rule", "its_starts", "windows", "its_length"] : List Str).contains m = false) : IsO H A.c_Scene sc m :=
  let ⟨_, _, _, _, _, x⟩ := h; ⟨_, _, x.o, lookup_no hm⟩
end

/-! ### runs -/
def runF (sc r bg ch sv cl wt : Addr) (ff : Int) : List (Str × V) :=
  [("its_scene", .ref sc), ("pattern", .ref r), ("begins", .ref bg), ("changes", .ref ch), ("services", .ref sv), ("closed", .ref cl), ("waiting", .ref wt), ("free_from", .int ff)]
/-- a run that has come to its end stands at x; services: client 0 in slot 0, client 1 at its attempt k3 -/
structure RunX (A : Ad) (H : Hp) (x : Addr) (p : Par) (dx sc r bg ch sv cl wt s0 s1 : Addr) (ff : Int) : Prop where
  ok : p.Ok
  o : H x = some (.ins A.c_Run dx (runF sc r bg ch sv cl wt ff))
  sc : SceneAt A H sc p
  r : RuleAt A H r p.g p.n
  bg : H bg = some (.lst [.int 0, .int p.b])
  sv : H sv = some (.dK [(.inl 0, .ref s0), (.inl 1, .ref s1)])
  s0 : H s0 = some (.tup [.int 0, .int 0])
  s1 : H s1 = some (.tup [.int (p.k3 : Int), .int (p.t p.k3)])
def RunAt (A : Ad) (H : Hp) (x : Addr) (p : Par) : Prop := ∃ dx sc r bg ch sv cl wt s0 s1 ff, RunX A H x p dx sc r bg ch sv cl wt s0 s1 ff
theorem run_ex {A : Ad} {H H' : Hp} {x : Addr} {p : Par} (z : Ex H H') (h : RunAt A H x p) : RunAt A H' x p :=
  let ⟨dx, sc, r, bg, ch, sv, cl, wt, s0, s1, ff, ⟨a, b, c, d, e, f, g, i⟩⟩ := h
  ⟨dx, sc, r, bg, ch, sv, cl, wt, s0, s1, ff, ⟨a, z _ _ b, scene_ex z c, rule_ex z d, z _ _ e, z _ _ f, z _ _ g, z _ _ i⟩⟩
section
variable {K : PySem.W.Frag} {mg : Str → Option Value} {A : Ad} {H : Hp} {x dx sc r bg ch sv cl wt : Addr} {ff : Int}
theorem has_its_scene (T : Txt K mg A) (h : H x = some (.ins A.c_Run dx (runF sc r bg ch sv cl wt ff))) : Has K H x "its_scene" (.ref sc) := ⟨_, dx, _, h, T.cl_Run, T.na_its_scene, by kernel_rfl⟩
theorem has_pattern (T : Txt K mg A) (h : H x = some (.ins A.c_Run dx (runF sc r bg ch sv cl wt ff))) : Has K H x "pattern" (.ref r) := ⟨_, dx, _, h, T.cl_Run, T.na_pattern, by kernel_rfl⟩
theorem has_begins (T : Txt K mg A) (h : H x = some (.ins A.c_Run dx (runF sc r bg ch sv cl wt ff))) : Has K H x "begins" (.ref bg) := ⟨_, dx, _, h, T.cl_Run, T.na_begins, by kernel_rfl⟩
theorem has_changes (T : Txt K mg A) (h : H x = some (.ins A.c_Run dx (runF sc r bg ch sv cl wt ff))) : Has K H x "changes" (.ref ch) := ⟨_, dx, _, h, T.cl_Run, T.na_changes, by kernel_rfl⟩
theorem has_services (T : Txt K mg A) (h : H x = some (.ins A.c_Run dx (runF sc r bg ch sv cl wt ff))) : Has K H x "services" (.ref sv) := ⟨_, dx, _, h, T.cl_Run, T.na_services, by kernel_rfl⟩
theorem has_closed (T : Txt K mg A) (h : H x = some (.ins A.c_Run dx (runF sc r bg ch sv cl wt ff))) : Has K H x "closed" (.ref cl) := ⟨_, dx, _, h, T.cl_Run, T.na_closed, by kernel_rfl⟩
theorem has_waiting (T : Txt K mg A) (h : H x = some (.ins A.c_Run dx (runF sc r bg ch sv cl wt ff))) : Has K H x "waiting" (.ref wt) := ⟨_, dx, _, h, T.cl_Run, T.na_waiting, by kernel_rfl⟩
theorem has_free_from (T : Txt K mg A) (h : H x = some (.ins A.c_Run dx (runF sc r bg ch sv cl wt ff))) : Has K H x "free_from" (.int ff) := ⟨_, dx, _, h, T.cl_Run, T.na_free_from, by kernel_rfl⟩
theorem obj_Run {m : Str} (h : H x = some (.ins A.c_Run dx (runF sc r bg ch sv cl wt ff))) (hm : (["its_scene", "pattern", "begins", "changes", "services", "closed", "waiting", "free_from"] : List Str).contains m = false) : IsO H A.c_Run x m := ⟨_, _, h, lookup_no hm⟩
theorem run_obj {p : Par} {m : Str} (h : RunAt A H x p) (hm : (["its_scene", "pattern", "begins", "changes", "services", "closed", "waiting", "free_from"] : List Str).contains m = false) : IsO H A.c_Run x m :=
  let ⟨_, _, _, _, _, _, _, _, _, _, _, z⟩ := h; obj_Run z.o hm
theorem ty_ins {C a : Addr} {fs : List (Str × V)} (h : H a = some (.ins C dx fs)) (cl : Cls K C) (y1 : PySem.W.findIn K (.ref C) "__class__" = some (some (.builtin "object.__class__")))
    (T : Txt K mg A) (y2 : PySem.W.mroIn K C (.type "object") = some true) : TyOf K H (.ref a) (.ref C) := .ins h cl y1 T.y3 T.y4 y2
end
/-! ### isinstance -/
section
variable {K : PySem.W.Frag} {H : Hp} {Q : VK}
theorem isi_int {i : Int} (q : Q (.bl true) H) : rIsi K [.int i, .ty "int"] H Q := xIsi (.int i) (kit_ty (b := "int") (r := true) (by decide +kernel)) q
theorem isi_bool {i : Int} (q : Q (.bl false) H) : rIsi K [.int i, .ty "bool"] H Q := xIsi (.int i) (kit_ty (b := "bool") (r := false) (by decide +kernel)) q
theorem isi_str {z : Str} (q : Q (.bl true) H) : rIsi K [.str z, .ty "str"] H Q := xIsi (.str z) (kit_ty (b := "str") (r := true) (by decide +kernel)) q
theorem isi_list {a : Addr} {xs : List V} (h : H a = some (.lst xs)) (q : Q (.bl true) H) : rIsi K [.ref a, .ty "list"] H Q := xIsi (.lst h) (kit_ty (b := "list") (r := true) (by decide +kernel)) q
theorem isi_tup {a : Addr} {xs : List V} (h : H a = some (.tup xs)) (q : Q (.bl true) H) : rIsi K [.ref a, .ty "tuple"] H Q := xIsi (.tup h) (kit_ty (b := "tuple") (r := true) (by decide +kernel)) q
end
end RK
end

section
/-! RKit3a: readings of dicts; objects made. -/
namespace RK
open PySem L2 RS
section
variable {X : Cx} {K : PySem.W.Frag} {σ : St} {H : Hp} {D : Ends} {Q : VK} {x y v : V} {td ty tv te : TE} {tt : TT}
def nDPut (x y v : V) (D : Ends) (σ : St) (H : Hp) : Prop := ∃ a H4, x = .ref a ∧ DPut H a y v H4 ∧ D.nx σ H4
theorem xDPut (h : tv σ H fun v H1 => td σ H1 fun x H2 => ty σ H2 fun y H3 => nDPut x y v D σ H3) : sDPut td ty tv D σ H := h
theorem xPutK {a : Addr} {kvs : List (Key × V)} (k : Key) (e : y = kV k) (h : H a = some (.dK kvs)) (hl : kvs.length < 100000) (q : D.nx σ (upd H a (.dK (putK kvs k v)))) : nDPut (.ref a) y v D σ H :=
  ⟨a, _, rfl, by rw [e]; exact DPut.k h (Nat.lt_of_lt_of_le hl (by rw [sizeLine_eq]; decide)), q⟩
def nDGet (x y : V) (H : Hp) (Q : VK) : Prop := ∃ a v, x = .ref a ∧ DGet H a y (some v) ∧ Q v H
theorem xDGet (h : td σ H fun x H1 => ty σ H1 fun y H2 => nDGet x y H2 Q) : tDGet td ty σ H Q := h
theorem xGetK {a : Addr} {kvs : List (Key × V)} (k : Key) (e : y = kV k) (h : H a = some (.dK kvs)) (hv : valV kvs k = some v) (q : Q v H) : nDGet (.ref a) y H Q :=
  ⟨a, v, rfl, by rw [e, ← hv]; exact DGet.k h, q⟩
def nDIn (x y : V) (H : Hp) (Q : VK) : Prop := ∃ a o, x = .ref a ∧ DGet H a y o ∧ Q (.bl o.isSome) H
theorem xDIn (h : ty σ H fun y H1 => td σ H1 fun x H2 => nDIn x y H2 Q) : tDIn ty td σ H Q := h
theorem xInK {a : Addr} {kvs : List (Key × V)} (k : Key) (b : Bool) (e : y = kV k) (h : H a = some (.dK kvs)) (hv : (valV kvs k).isSome = b) (q : Q (.bl b) H) : nDIn (.ref a) y H Q :=
  ⟨a, _, rfl, by rw [e]; exact DGet.k h, by rw [hv]; exact q⟩
def nDPop (x : V) (ty : TE) (σ : St) (H : Hp) (Q : VK) : Prop := ∃ a, x = .ref a ∧ IsD H a ∧ ty σ H fun y H2 => ∃ kvs k v, H2 a = some (.dK kvs) ∧ y = kV k ∧ valV kvs k = some v ∧ Q v (upd H2 a (.dK (dropK kvs k)))
theorem xDPop (h : td σ H fun x H1 => nDPop x ty σ H1 Q) : tDPop1 td ty σ H Q := h
theorem xPopK {a : Addr} {kvs : List (Key × V)} (h : H a = some (.dK kvs)) (q : ty σ H fun y H2 => ∃ kvs k v, H2 a = some (.dK kvs) ∧ y = kV k ∧ valV kvs k = some v ∧ Q v (upd H2 a (.dK (dropK kvs k)))) : nDPop (.ref a) ty σ H Q :=
  ⟨a, rfl, .inl ⟨_, .inl h⟩, q⟩
theorem xDNew (q : ∀ p H1, H p = none → Ex H H1 → H1 p = some (.dK []) → Q (.ref p) H1) : tDNewK σ H Q := fun p hp => q p _ hp (ex_new hp) upd_same
theorem xListD {a : Addr} {kvs : List (Key × V)} (h : H a = some (.dK kvs)) (q : ∀ p H1, H p = none → Ex H H1 → H1 p = some (.lst (kvs.map fun kv => kV kv.1)) → Q (.ref p) H1) : rListD [.ref a] H Q :=
  ⟨a, kvs, rfl, h, fun p hp => q p _ hp (ex_new hp) upd_same⟩
def nVals (x : V) (H : Hp) (Q : VK) : Prop := ∃ d kvs, x = .ref d ∧ H d = some (.dK kvs) ∧ ∀ p, H p = none → Q (.ref p) (upd H p (ViewV p d))
theorem xValsV (h : td σ H fun x H1 => nVals x H1 Q) : tValsV td σ H Q := h
theorem xRetN' (h : D.rt .non H) : tRetN D σ H := h
/-- for i, x in enumerate(xs), the list stays -/
theorem xForEnum1 {a : Addr} {xs : List V} {g : TG} {tb : TS} (h : H a = some (.lst xs)) (Pv : Nat → St → Hp → Prop) (h0 : Pv 0 σ H) (hE : ∀ i σ' H', Pv i σ' H' → H' a = some (.lst xs))
    (turn : ∀ (i : Nat) x σ' H', xs[i]? = some x → Pv i σ' H' → ∀ T H2, Ex H' H2 → H2 T = some (.tup [.int (i : Int), x]) → g (.ref T) σ' H2 fun σ2 H3 => tb { D with nx := Pv (i + 1), ct := Pv (i + 1), bk := D.nx } σ2 H3)
    (done : ∀ σ' H', Pv xs.length σ' H' → D.nx σ' H') : wEnum K [.ref a] H fun J H1 => fGo J g tb D σ H1 :=
  ⟨a, xs, rfl, SqL.of h, fgo_walk walk_enum Pv h0 (fun i σ' H' _ p => SqL.of (hE i σ' H' p)) (fun i x σ' H' H2 hi p y => by
    obtain ⟨T, u, v, rfl, hT, rfl, e1, e2⟩ := y
    cases e1
    exact turn i v σ' H' e2 p T _ (ex_new hT) upd_same) done⟩
/-- a comprehension over the keys of an empty dict -/
theorem cgoKeys0 {d : Addr} {o : PySem.Obj} {g : TG} {vs : List Nat} (h : H d = some (.frz o (.dK []))) (k : ∀ p H1, H p = none → Ex H H1 → H1 p = some (.lst []) → Q (.ref p) H1) :
    wKeys (.ref d) H fun J H1 => cGo J g tt te vs σ Q H1 := by
  refine ⟨d, o, rfl, .inl ⟨[], h, cgo (n := 0) walk_keys (by decide) (fun i l _ => l = []) (fun H' e => e _ _ h) rfl (fun i x l D S H1 H2 Y1 N1 hi a1 a2 a3 a4 a5 y hy hN => absurd hi (by omega)) (fun p H1 l S hp e1 e2 _ hl e => k p H1 hp (e1.trans e2) ?_)⟩⟩
  rw [hl, e]
end
section
variable {K : PySem.W.Frag} {σ : St} {H : Hp} {Q : VK}
def nMake (C : Addr) (sp : Sp) (dvs : List V) (E : XK) (vs : List V) (H1 : Hp) (Q : VK) : Prop := ∀ x dx, H1 x = none → H1 dx = none → dx ≠ x → sp (.ref x :: (vs ++ dvs)) (upd (upd H1 dx (.own x)) x (.ins C dx [])) (fun v H2 => v = .non ∧ Q (.ref x) H2) E
theorem xMake {C : Addr} {sp : Sp} {dvs : List V} {E : XK} {t : TA} (h : t σ H fun vs H1 => nMake C sp dvs E vs H1 Q) : tMake C sp dvs E t σ H Q := h
def nMakeK (C : Addr) (n m : Nat) (sp : Sp) (gV : List V → List V → List V) (E : XK) (vs zs : List V) (H2 : Hp) (Q : VK) : Prop := vs.length = n ∧ zs.length = m ∧ ∀ x dx, H2 x = none → H2 dx = none → dx ≠ x →
  sp (gV (.ref x :: vs) zs) (upd (upd H2 dx (.own x)) x (.ins C dx [])) (fun v H3 => v = .non ∧ Q (.ref x) H3) E
theorem xMakeK {C : Addr} {n m : Nat} {sp : Sp} {gV : List V → List V → List V} {E : XK} {t tk : TA} (h : t σ H fun vs H1 => tk σ H1 fun zs H2 => nMakeK C n m sp gV E vs zs H2 Q) : tMakeK C n m sp gV E t tk σ H Q := h
end
end RK
end

/-- a fact of the heap at hand, looked for down the line of heaps -/
local macro_rules | `(tactic| walk_at "fact") => `(tactic| first
  | with_reducible assumption
  | (with_reducible refine' RK.ex_at ?he ?hh; (case he => with_reducible assumption); (case hh => walk_at "fact"))
  | (with_reducible refine' RK.has_ex ?he ?hh; (case he => with_reducible assumption); (case hh => walk_at "fact"))
  | (with_reducible refine' RK.obj_ex ?he ?hh; (case he => with_reducible assumption); (case hh => walk_at "fact"))
  | (with_reducible refine' RK.rule_ex ?he ?hh; (case he => with_reducible assumption); (case hh => walk_at "fact"))
  | (with_reducible refine' RK.scene_ex ?he ?hh; (case he => with_reducible assumption); (case hh => walk_at "fact"))
  | (with_reducible refine' RK.run_ex ?he ?hh; (case he => with_reducible assumption); (case hh => walk_at "fact"))
  | (with_reducible refine' RK.dp_ex ?he ?hh; (case he => with_reducible assumption); (case hh => walk_at "fact")))
local macro_rules | `(tactic| walk_at "has") => `(tactic| first
  | (with_reducible refine' RK.has_listed ?ht ?hh; (case ht => assumption); (case hh => walk_at "fact"))
  | (with_reducible refine' RK.has_ending ?ht ?hh; (case ht => assumption); (case hh => walk_at "fact"))
  | (with_reducible refine' RK.has_sums ?ht ?hh; (case ht => assumption); (case hh => walk_at "fact"))
  | (with_reducible refine' RK.has_its_rule ?ht ?hh; (case ht => assumption); (case hh => walk_at "fact"))
  | (with_reducible refine' RK.has_its_starts ?ht ?hh; (case ht => assumption); (case hh => walk_at "fact"))
  | (with_reducible refine' RK.has_windows ?ht ?hh; (case ht => assumption); (case hh => walk_at "fact"))
  | (with_reducible refine' RK.has_its_length ?ht ?hh; (case ht => assumption); (case hh => walk_at "fact"))
  | (with_reducible refine' RK.has_its_scene ?ht ?hh; (case ht => assumption); (case hh => walk_at "fact"))
  | (with_reducible refine' RK.has_pattern ?ht ?hh; (case ht => assumption); (case hh => walk_at "fact"))
  | (with_reducible refine' RK.has_begins ?ht ?hh; (case ht => assumption); (case hh => walk_at "fact"))
  | (with_reducible refine' RK.has_changes ?ht ?hh; (case ht => assumption); (case hh => walk_at "fact"))
  | (with_reducible refine' RK.has_services ?ht ?hh; (case ht => assumption); (case hh => walk_at "fact"))
  | (with_reducible refine' RK.has_closed ?ht ?hh; (case ht => assumption); (case hh => walk_at "fact"))
  | (with_reducible refine' RK.has_waiting ?ht ?hh; (case ht => assumption); (case hh => walk_at "fact"))
  | (with_reducible refine' RK.has_free_from ?ht ?hh; (case ht => assumption); (case hh => walk_at "fact"))
  | walk_at "fact")
local macro_rules | `(tactic| walk_at "obj") => `(tactic| first
  | (with_reducible refine' RK.rule_obj ?ho ?hm; (case ho => walk_at "fact"); (case hm => decide +kernel))
  | (with_reducible refine' RK.scene_obj ?ho ?hm; (case ho => walk_at "fact"); (case hm => decide +kernel))
  | (with_reducible refine' RK.run_obj ?ho ?hm; (case ho => walk_at "fact"); (case hm => decide +kernel))
  | (with_reducible refine' RK.obj_Run ?ho ?hm; (case ho => walk_at "fact"); (case hm => decide +kernel))
  | walk_at "fact")
/-- one step of a reading -/
local macro_rules | `(tactic| walk_at "x") => `(tactic| first
  | with_reducible refine RK.xSeq ?_
  | with_reducible refine RK.xDPut ?_
  | with_reducible refine RK.xValsV ?_
  | with_reducible refine RK.xDGet ?_
  | with_reducible refine RK.xDIn ?_
  | with_reducible refine RK.xDPop ?_
  | with_reducible refine RK.xAsg ?_
  | with_reducible refine RK.xName ?_
  | with_reducible refine RK.xRet ?_
  | with_reducible refine RK.xRetN ?_
  | with_reducible refine RK.xDrop ?_
  | with_reducible refine RK.xIfS ?_
  | with_reducible refine RK.xNext ?_
  | with_reducible refine RK.xOp ?_
  | (with_reducible refine' RK.xVar ?hx ?qx; (case hx => with_unfolding_all rfl))
  | with_reducible refine RK.xC ?_
  | with_reducible refine RK.xUn ?_
  | with_reducible refine RK.xU ?_
  | with_reducible refine RK.xI0 ?_
  | with_reducible refine RK.xEqI ?_
  | with_reducible refine RK.xNeI ?_
  | with_reducible refine RK.xChain ?_
  | with_reducible refine RK.xBl ?_
  | with_reducible refine RK.xIfE ?_
  | with_reducible refine RK.xAndV ?_
  | with_reducible refine RK.xOrV ?_
  | with_reducible refine RK.xNotV ?_
  | with_reducible refine RK.xTup ?_
  | with_reducible refine RK.xLst ?_
  | with_reducible refine RK.xNil ?_
  | with_reducible refine RK.xCons ?_
  | with_reducible refine RK.xCB ?_
  | with_reducible refine RK.xBM ?_
  | with_reducible refine RK.xCall ?_
  | with_reducible refine RK.xMake ?_
  | with_reducible refine RK.xMakeK ?_
  | with_reducible refine RK.xSl ?_
  | with_reducible refine RK.xNoPart ?_
  | with_reducible refine RK.xPart ?_
  | with_reducible refine RK.xInt ?_
  | with_reducible refine RK.xB ?_
  | with_reducible refine RK.xTest ?_
  | with_reducible refine RK.xAnd ?_
  | with_reducible refine RK.xOr ?_
  | with_reducible refine RK.xNot ?_
  | with_reducible refine RK.xYes ?_
  | with_reducible refine RK.itT ?_
  | with_reducible refine RK.itF ?_
  | with_reducible refine RK.itNT ?_
  | with_reducible refine RK.itNF ?_
  | with_reducible refine RK.xFld ?_
  | with_reducible refine RK.xMeth ?_
  | with_reducible refine RK.xPar ?_
  | with_reducible refine RK.xPar3 ?_
  | with_reducible refine RK.xTwo ?_
  | with_reducible refine RK.xThree ?_
  | (with_reducible refine' RK.xEqS (c := false) ?hd ?qd; (case hd => decide +kernel))
  | (with_reducible refine' RK.xEqS (c := true) ?hd ?qd; (case hd => decide +kernel))
  | (with_reducible refine' RK.xNeS (c := false) ?hd ?qd; (case hd => decide +kernel))
  | (with_reducible refine' RK.xNeS (c := true) ?hd ?qd; (case hd => decide +kernel))
  | (with_reducible refine' RK.xIxT ?hx ?ha ?qx; (case hx => walk_at "fact"); (case ha => with_unfolding_all rfl))
  | with_reducible refine RK.xIpI ?_
  | with_reducible refine RK.xFldS ?_
  | with_reducible refine RK.xFor ?_
  | with_reducible refine RK.xLc ?_
  | with_reducible refine RK.xDc ?_
  | with_reducible refine RK.xIList ?_
  | with_reducible refine RK.xITup ?_
  | with_reducible refine RK.xIEnum ?_
  | with_reducible refine RK.xIZip ?_
  | with_reducible refine RK.xIRng ?_
  | with_reducible refine RK.xIItems ?_
  | with_reducible refine RK.xIKeys ?_
  | with_reducible refine RK.xGCons ?_
  | with_reducible refine RK.xGNil ?_
  | with_reducible refine RK.xGSub ?_
  | with_reducible refine RK.xAug (by with_unfolding_all rfl) ?_
  | (with_reducible refine' RK.xGTup ?hx ?hn ?qx; (case hx => walk_at "fact"); (case hn => with_unfolding_all rfl))
  | with_reducible refine RK.xInt1 ?_
  | with_reducible refine RK.xIntB ?_
  | (with_reducible refine' RK.xHas ?hx ?qx; (case hx => walk_at "has"))
  | (with_reducible refine RK.xObj ?_ ?_; walk_at "obj")
  | (with_reducible refine' RK.xLenL ?hx ?qx; (case hx => walk_at "fact"))
  | (with_reducible refine' RK.xLenT ?hx ?qx; (case hx => walk_at "fact"))
  | with_reducible refine RK.isi_int ?_
  | with_reducible refine RK.isi_bool ?_
  | with_reducible refine RK.isi_str ?_
  | (with_reducible refine' RK.isi_list ?hx ?qx; (case hx => walk_at "fact"))
  | (with_reducible refine' RK.isi_tup ?hx ?qx; (case hx => walk_at "fact")))
local macro_rules | `(tactic| walk_at "xs") => `(tactic| repeat walk_at "x")
/-- the context's part put in -/
local macro_rules | `(tactic| walk_at "go") => `(tactic| ((try dsimp only [L2.cxOf]); walk_at "xs"))
/-- a test whose answer is known: by arithmetic -/
local macro_rules | `(tactic| walk_at "yes") => `(tactic| (refine RK.itY (by first | omega | decide | (simp; done) | (simp; omega)) ?_; walk_at "xs"))
local macro_rules | `(tactic| walk_at "no") => `(tactic| (refine RK.itN (by first | omega | decide | (simp; done) | (simp; omega)) ?_; walk_at "xs"))
/-- a test whose answer arithmetic decides -/
local macro_rules | `(tactic| walk_at "t") => `(tactic| (first
  | with_reducible refine RK.itY (by first | omega | decide | (simp; done) | (simp; omega)) ?_
  | with_reducible refine RK.itN (by first | omega | decide | (simp; done) | (simp; omega)) ?_
  | with_reducible refine RK.itNY (by first | omega | decide | (simp; done) | (simp; omega)) ?_
  | with_reducible refine RK.itNN (by first | omega | decide | (simp; done) | (simp; omega)) ?_); walk_at "xs")

section
namespace RK
open PySem L2 RS
variable {P : Program} {w : World} {K : PySem.W.Frag} {mg : Str → Option Value} {base : Heap} {A : Ad}

/-! ### integers -/
def sp_is_integer : Sp := fun vs H Q _ => ∃ i, vs = [.int i] ∧ Q (.bl true) H
theorem call_is_integer {i : Int} {H : Hp} {Q : VK} {E : XK} (q : Q (.bl true) H) : sp_is_integer ([.int i] ++ []) H Q E := ⟨i, rfl, q⟩
theorem ok_is_integer (T : Txt K mg A) : FnOk P w K mg base CX0 1 A.f_is_integer A.d_is_integer ["value"] sp_is_integer := by
  refine T.f_is_integer.ok sc_is_integer (fun vs H Q E h => ?_) (fun cdv AR outer s H vs Q E hr h => ?_)
  · obtain ⟨i, rfl, _⟩ := h; rfl
  · obtain ⟨i, rfl, q⟩ := h
    refine ⟨_, pss_one (ps_ret (pe_and (pe_callB (callIsi (K := K) (by rfl)) (by rfl) T.z_isinstance (by decide +kernel) (pa_cons (pv 0) (pa_cons (pe_bltn (v := .ty "int") (by rfl) T.z_int (by decide +kernel) rfl) pa_nil))) (pe_one (pe_not (pe_callB (callIsi (K := K) (by rfl)) (by rfl) T.z_isinstance (by decide +kernel) (pa_cons (pv 0) (pa_cons (pe_bltn (v := .ty "bool") (by rfl) T.z_bool (by decide +kernel) rfl) pa_nil))))))), ?_⟩
    walk_at "go"
    exact q
def sp_is_between : Sp := fun vs H Q _ => ∃ i a b, vs = [.int i, .int a, .int b] ∧ Q (.bl (decide (a ≤ i ∧ i ≤ b))) H
theorem call_is_between {i a b : Int} {H : Hp} {Q : VK} {E : XK} (q : Q (.bl (decide (a ≤ i ∧ i ≤ b))) H) : sp_is_between ([.int i, .int a, .int b] ++ []) H Q E := ⟨i, a, b, rfl, q⟩
theorem ok_is_between (T : Txt K mg A) : FnOk P w K mg base CX0 2 A.f_is_between A.d_is_between ["value", "low", "high"] sp_is_between := by
  refine T.f_is_between.ok sc_is_between (fun vs H Q E h => ?_) (fun cdv AR outer s H vs Q E hr h => ?_)
  · obtain ⟨i, a, b, rfl, _⟩ := h; rfl
  · obtain ⟨i, a, b, rfl, q⟩ := h
    refine ⟨_, pss_one (ps_ret (pe_and (pe_call (ok_is_integer T) (hr.mono (by decide)) (by rfl) T.g_is_integer T.f_is_integer.kp T.b_is_integer .nil pass0 (pa_cons (pv 0) pa_nil)) (pe_one (pe_chain op_le op_le (pv 1) (pv 0) (pv 2))))), ?_⟩
    walk_at "go"
    refine call_is_integer ?_
    walk_at "xs"
    refine itD (fun h1 => ?_) (fun h1 => ?_)
    · walk_at "xs"
      have e : decide (i ≤ b) = decide (a ≤ i ∧ i ≤ b) := by simp [h1]
      rw [e]
      exact q
    · have e : decide (a ≤ i ∧ i ≤ b) = false := decide_eq_false (fun z => h1 z.1)
      rw [e] at q
      exact q

/-! ### rules -/
def sp_Rule_gaps (A : Ad) : Sp := fun vs H Q _ => ∃ r g n, vs = [.ref r] ∧ RuleAt A H r g n ∧ ∀ p H1, H p = none → Ex H H1 → H1 p = some (.lst (g.map V.int)) → Q (.ref p) H1
theorem call_Rule_gaps {H : Hp} {r : Addr} {g : List Int} {n : Nat} {Q : VK} {E : XK} (h : RuleAt A H r g n) (q : ∀ p H1, H p = none → Ex H H1 → H1 p = some (.lst (g.map V.int)) → Q (.ref p) H1) : sp_Rule_gaps A (.ref r :: ([] ++ [])) H Q E := ⟨r, g, n, rfl, h, q⟩
theorem ok_Rule_gaps (T : Txt K mg A) : FnOk P w K mg base CX0 1 A.f_Rule_gaps A.d_Rule_gaps ["self"] (sp_Rule_gaps A) := by
  refine T.f_Rule_gaps.ok sc_Rule_gaps (fun vs H Q E h => ?_) (fun cdv AR outer s H vs Q E hr h => ?_)
  · obtain ⟨r, g, n, rfl, _⟩ := h; rfl
  · obtain ⟨r, g, n, rfl, ⟨dx, l, e, s, R⟩, q⟩ := h
    have ho := R.o
    refine ⟨_, pss_one (ps_ret (pe_callTy (callList (K := K) (by rfl)) (by rfl) T.z_list (by decide +kernel) (pa_cons (peFld (K := K) (by rfl) (pv 0) (by rfl)) pa_nil))), ?_⟩
    walk_at "go"
    exact xListOf R.l q
def sp_Rule_tail (A : Ad) : Sp := fun vs H Q _ => ∃ r g n, vs = [.ref r] ∧ RuleAt A H r g n ∧ ∀ e, H e = some (.tup [.str "repeat", .int (n : Int)]) → Q (.ref e) H
theorem call_Rule_tail {H : Hp} {r : Addr} {g : List Int} {n : Nat} {Q : VK} {E : XK} (h : RuleAt A H r g n) (q : ∀ e, H e = some (.tup [.str "repeat", .int (n : Int)]) → Q (.ref e) H) : sp_Rule_tail A (.ref r :: ([] ++ [])) H Q E := ⟨r, g, n, rfl, h, q⟩
theorem ok_Rule_tail (T : Txt K mg A) : FnOk P w K mg base CX0 1 A.f_Rule_tail A.d_Rule_tail ["self"] (sp_Rule_tail A) := by
  refine T.f_Rule_tail.ok sc_Rule_tail (fun vs H Q E h => ?_) (fun cdv AR outer s H vs Q E hr h => ?_)
  · obtain ⟨r, g, n, rfl, _⟩ := h; rfl
  · obtain ⟨r, g, n, rfl, ⟨dx, l, e, s, R⟩, q⟩ := h
    have ho := R.o
    refine ⟨_, pss_one (ps_ret (peFld (K := K) (by rfl) (pv 0) (by rfl))), ?_⟩
    walk_at "go"
    exact q _ R.e
def sp_Rule_attempts (A : Ad) : Sp := fun vs H Q _ => ∃ r g n, vs = [.ref r] ∧ RuleAt A H r g n ∧ Q .non H
theorem call_Rule_attempts {H : Hp} {r : Addr} {g : List Int} {n : Nat} {Q : VK} {E : XK} (h : RuleAt A H r g n) (q : Q .non H) : sp_Rule_attempts A (.ref r :: ([] ++ [])) H Q E := ⟨r, g, n, rfl, h, q⟩
theorem ok_Rule_attempts (T : Txt K mg A) : FnOk P w K mg base CX0 1 A.f_Rule_attempts A.d_Rule_attempts ["self"] (sp_Rule_attempts A) := by
  refine T.f_Rule_attempts.ok sc_Rule_attempts (fun vs H Q E h => ?_) (fun cdv AR outer s H vs Q E hr h => ?_)
  · obtain ⟨r, g, n, rfl, _⟩ := h; rfl
  · obtain ⟨r, g, n, rfl, ⟨dx, l, e, s, R⟩, q⟩ := h
    have ho := R.o
    have he := R.e
    refine ⟨_, pss_one (ps_ret (pe_ifExp (pt_cmpR op_eq (pe_ix (ixT (K := K) (by rfl)) (peFld (K := K) (by rfl) (pv 0) (by rfl)) pe_int (fun _ _ => rfl)) pe_str (nomark _)) (pe_callB (callLen (K := K) (by rfl)) (by rfl) T.z_len (by decide +kernel) (pa_cons (peFld (K := K) (by rfl) (pv 0) (by rfl)) pa_nil)) pe_non)), ?_⟩
    walk_at "go"
    exact q
def sp_Rule_period (A : Ad) : Sp := fun vs H Q _ => ∃ r g n, vs = [.ref r] ∧ RuleAt A H r g n ∧ Q (.int (per g n)) H
theorem call_Rule_period {H : Hp} {r : Addr} {g : List Int} {n : Nat} {Q : VK} {E : XK} (h : RuleAt A H r g n) (q : Q (.int (per g n)) H) : sp_Rule_period A (.ref r :: ([] ++ [])) H Q E := ⟨r, g, n, rfl, h, q⟩
theorem ok_Rule_period (T : Txt K mg A) : FnOk P w K mg base CX0 1 A.f_Rule_period A.d_Rule_period ["self"] (sp_Rule_period A) := by
  refine T.f_Rule_period.ok sc_Rule_period (fun vs H Q E h => ?_) (fun cdv AR outer s H vs Q E hr h => ?_)
  · obtain ⟨r, g, n, rfl, _⟩ := h; rfl
  · obtain ⟨r, g, n, rfl, ⟨dx, l, e, s, R⟩, q⟩ := h
    have ho := R.o
    have he := R.e
    have hl := R.l
    have n1 := R.ok.n1
    have nl := R.ok.nl
    refine ⟨_, pss_cons (ps_if (pt_cmpR op_ne (pe_ix (ixT (K := K) (by rfl)) (peFld (K := K) (by rfl) (pv 0) (by rfl)) pe_int (fun _ _ => rfl)) pe_str (nomark _)) (pss_one (ps_ret pe_non)) pss_nil) (
      pss_one (ps_ret (pe_op op_sub (pe_ix (ixL (K := K) (by rfl)) (peFld (K := K) (by rfl) (pv 0) (by rfl)) (pe_un un_neg pe_int) (fun _ _ => rfl)) (pe_ix (ixL (K := K) (by rfl)) (peFld (K := K) (by rfl) (pv 0) (by rfl)) (pe_op op_sub (pe_callB (callLen (K := K) (by rfl)) (by rfl) T.z_len (by decide +kernel) (pa_cons (peFld (K := K) (by rfl) (pv 0) (by rfl)) pa_nil)) (pe_ix (ixT (K := K) (by rfl)) (peFld (K := K) (by rfl) (pv 0) (by rfl)) pe_int (fun _ _ => rfl))) (fun _ _ => rfl))))), ?_⟩
    walk_at "go"
    refine xIxL R.s (at_map1 (v := ps g g.length) (by rw [sumsL_length]; exact sumsL_at (by omega))) ?_
    walk_at "xs"
    refine xIxL R.s (at_map (v := ps g (g.length - n)) (j := g.length - n) (by rw [List.length_map]; omega) (sumsL_at (by omega))) ?_
    walk_at "xs"
    exact q
def sp_Rule_offset_of (A : Ad) : Sp := fun vs H Q _ => ∃ r g n, ∃ k : Nat, vs = [.ref r, .int (k : Int)] ∧ RuleAt A H r g n ∧ Q (.int (off g n k)) H
theorem call_Rule_offset_of {H : Hp} {r : Addr} {g : List Int} {n k : Nat} {x : Int} {Q : VK} {E : XK} (h : RuleAt A H r g n) (e : x = (k : Int)) (q : Q (.int (off g n k)) H) : sp_Rule_offset_of A (.ref r :: ([.int x] ++ [])) H Q E := ⟨r, g, n, k, by rw [e]; rfl, h, q⟩
theorem ok_Rule_offset_of (T : Txt K mg A) : FnOk P w K mg base CX0 2 A.f_Rule_offset_of A.d_Rule_offset_of ["self", "attempt"] (sp_Rule_offset_of A) := by
  refine T.f_Rule_offset_of.ok sc_Rule_offset_of (fun vs H Q E h => ?_) (fun cdv AR outer s H vs Q E hr h => ?_)
  · obtain ⟨r, g, n, k, rfl, _⟩ := h; rfl
  · obtain ⟨r, g, n, k, rfl, RA, q⟩ := h
    obtain ⟨dx, l, e, s, R⟩ := id RA
    have ho := R.o
    have he := R.e
    have hl := R.l
    have hs := R.s
    have n1 := R.ok.n1
    have nl := R.ok.nl
    have l20 := R.ok.l20
    refine ⟨_, pss_cons (ps_if (pt_cmpR op_lt (pv 1) (pe_callB (callLen (K := K) (by rfl)) (by rfl) T.z_len (by decide +kernel) (pa_cons (peFld (K := K) (by rfl) (pv 0) (by rfl)) pa_nil)) (nomark _)) (pss_one (ps_ret (pe_ix (ixL (K := K) (by rfl)) (peFld (K := K) (by rfl) (pv 0) (by rfl)) (pv 1) (fun _ _ => rfl)))) pss_nil) (
      pss_cons (ps_set (i := 2) sc_Rule_offset_of.nd (by rfl) (by first | exact Or.inl rfl | exact Or.inr rfl) (pe_op op_sub (pv 1) (pe_callB (callLen (K := K) (by rfl)) (by rfl) T.z_len (by decide +kernel) (pa_cons (peFld (K := K) (by rfl) (pv 0) (by rfl)) pa_nil)))) (
      pss_cons (ps_if (pt_cmpR op_eq (pe_ix (ixT (K := K) (by rfl)) (peFld (K := K) (by rfl) (pv 0) (by rfl)) pe_int (fun _ _ => rfl)) pe_str (nomark _)) (pss_cons ps_never (pss_one ps_never)) pss_nil) (
      pss_cons (ps_set (i := 3) sc_Rule_offset_of.nd (by rfl) (by first | exact Or.inl rfl | exact Or.inr rfl) (pe_ix (ixT (K := K) (by rfl)) (peFld (K := K) (by rfl) (pv 0) (by rfl)) pe_int (fun _ _ => rfl))) (
      pss_cons (ps_set (i := 4) sc_Rule_offset_of.nd (by rfl) (by first | exact Or.inl rfl | exact Or.inr rfl) (pe_op op_sub (pe_callB (callLen (K := K) (by rfl)) (by rfl) T.z_len (by decide +kernel) (pa_cons (peFld (K := K) (by rfl) (pv 0) (by rfl)) pa_nil)) (pv 3))) (
      pss_cons (ps_set (i := 5) sc_Rule_offset_of.nd (by rfl) (by first | exact Or.inl rfl | exact Or.inr rfl) (pe_op op_sub (pe_ix (ixL (K := K) (by rfl)) (peFld (K := K) (by rfl) (pv 0) (by rfl)) (pe_op op_add (pv 4) (pe_op op_mod (pv 2) (pv 3))) (fun _ _ => rfl)) (pe_ix (ixL (K := K) (by rfl)) (peFld (K := K) (by rfl) (pv 0) (by rfl)) (pv 4) (fun _ _ => rfl)))) (
      pss_one (ps_ret (pe_op op_add (pe_op op_add (pe_ix (ixL (K := K) (by rfl)) (peFld (K := K) (by rfl) (pv 0) (by rfl)) (pe_un un_neg pe_int) (fun _ _ => rfl)) (pe_op op_mul (pe_op op_fdivW (pv 2) (pv 3)) (pe_meth0 (pv 0) T.cl_Rule T.m_Rule_period (ok_Rule_period T) (hr.mono (by decide)) T.b_Rule_period .nil pass0))) (pv 5))))))))), ?_⟩
    walk_at "go"
    rw [List.length_map, sumsL_length]
    refine itD (fun h1 => ?_) (fun h1 => ?_)
    · walk_at "xs"
      refine xIxL hs (at_map (v := ps g k) (j := k) rfl (sumsL_at (by omega))) ?_
      rw [off_le (by omega)] at q
      exact q
    · walk_at "xs"
      rw [List.length_map]
      refine xI (by show (0 : Int) < n; omega) ?_
      walk_at "xs"
      have h3 : ((k : Int) - (g.length : Int)) % (n : Int) = (((k - g.length) % n : Nat) : Int) := by
        rw [show (k : Int) - (g.length : Int) = ((k - g.length : Nat) : Int) by omega, ← Int.natCast_emod]
      have h4 : (k - g.length) % n < n := Nat.mod_lt _ (by omega)
      refine xIxL hs (at_map (v := ps g (g.length - n + (k - g.length) % n)) (j := g.length - n + (k - g.length) % n) (by rw [h3]; omega) (sumsL_at (by omega))) ?_
      walk_at "xs"
      refine xIxL hs (at_map (v := ps g (g.length - n)) (j := g.length - n) (by omega) (sumsL_at (by omega))) ?_
      walk_at "xs"
      refine xIxL hs (at_map1 (v := ps g g.length) (by rw [sumsL_length]; exact sumsL_at (by omega))) ?_
      walk_at "xs"
      refine xI (cdivw (by omega) (by omega)) ?_
      walk_at "xs"
      refine call_Rule_period RA ?_
      walk_at "xs"
      have p1 := per_pos R.ok
      have p2 := per_le R.ok
      refine xI (cmulr (by omega) (by omega)) ?_
      walk_at "xs"
      have h5 := off_closed R.ok (k - g.length)
      rw [show g.length + (k - g.length) = k by omega] at h5
      have h6 : ((k : Int) - (g.length : Int)) / (n : Int) = (((k - g.length) / n : Nat) : Int) := by
        rw [show (k : Int) - (g.length : Int) = ((k - g.length : Nat) : Int) by omega, ← Int.natCast_ediv]
      rw [h6, ← h5]
      exact q
def sp_Rule_check_attempt (A : Ad) : Sp := fun vs H Q _ => ∃ r g n, ∃ k : Nat, vs = [.ref r, .int (k : Int)] ∧ RuleAt A H r g n ∧ Q .non H
theorem call_Rule_check_attempt {H : Hp} {r : Addr} {g : List Int} {n k : Nat} {x : Int} {Q : VK} {E : XK} (h : RuleAt A H r g n) (e : x = (k : Int)) (q : Q .non H) : sp_Rule_check_attempt A (.ref r :: ([.int x] ++ [])) H Q E := ⟨r, g, n, k, by rw [e]; rfl, h, q⟩
theorem ok_Rule_check_attempt (T : Txt K mg A) : FnOk P w K mg base CX0 2 A.f_Rule_check_attempt A.d_Rule_check_attempt ["self", "attempt"] (sp_Rule_check_attempt A) := by
  refine T.f_Rule_check_attempt.ok sc_Rule_check_attempt (fun vs H Q E h => ?_) (fun cdv AR outer s H vs Q E hr h => ?_)
  · obtain ⟨r, g, n, k, rfl, _⟩ := h; rfl
  · obtain ⟨r, g, n, k, rfl, RA, q⟩ := h
    obtain ⟨dx, l, e, s, R⟩ := id RA
    have ho := R.o
    have he := R.e
    refine ⟨_, pss_cons (ps_if (PW.pt (pw_or (pt_not (pt_val (pe_call (ok_is_integer T) (hr.mono (by decide)) (by rfl) T.g_is_integer T.f_is_integer.kp T.b_is_integer .nil pass0 (pa_cons (pv 1) pa_nil)))) (pw_or1 (pt_cmpR op_lt (pv 1) pe_int (nomark _))))) (pss_one ps_never) pss_nil) (
      pss_cons (ps_if (PW.pt (pw_and (pt_cmpR op_eq (pe_ix (ixT (K := K) (by rfl)) (peFld (K := K) (by rfl) (pv 0) (by rfl)) pe_int (fun _ _ => rfl)) pe_str (nomark _)) (pw_and1 (pt_cmpR op_ge (pv 1) (pe_callB (callLen (K := K) (by rfl)) (by rfl) T.z_len (by decide +kernel) (pa_cons (peFld (K := K) (by rfl) (pv 0) (by rfl)) pa_nil)) (nomark _))))) (pss_one ps_never) pss_nil) (
      pss_one (ps_if (PW.pt (pw_and (pt_cmpR op_eq (pe_ix (ixT (K := K) (by rfl)) (peFld (K := K) (by rfl) (pv 0) (by rfl)) pe_int (fun _ _ => rfl)) pe_str (nomark _)) (pw_and1 (pt_cmpR op_gt (pv 1) (pe_glob (v := .int 1000) (by rfl) T.g_MOST_ATTEMPT ⟨_, rfl⟩) (nomark _))))) (pss_one ps_never) pss_nil))), ?_⟩
    walk_at "go"
    refine call_is_integer ?_
    walk_at "xs"
    refine itN (by omega) ?_
    walk_at "xs"
    exact q
def sp_Rule_offset (A : Ad) : Sp := fun vs H Q _ => ∃ r g n, ∃ k : Nat, vs = [.ref r, .int (k : Int)] ∧ RuleAt A H r g n ∧ Q (.int (off g n k)) H
theorem call_Rule_offset {H : Hp} {r : Addr} {g : List Int} {n k : Nat} {x : Int} {Q : VK} {E : XK} (h : RuleAt A H r g n) (e : x = (k : Int)) (q : Q (.int (off g n k)) H) : sp_Rule_offset A (.ref r :: ([.int x] ++ [])) H Q E := ⟨r, g, n, k, by rw [e]; rfl, h, q⟩
theorem ok_Rule_offset (T : Txt K mg A) : FnOk P w K mg base CX0 3 A.f_Rule_offset A.d_Rule_offset ["self", "attempt"] (sp_Rule_offset A) := by
  refine T.f_Rule_offset.ok sc_Rule_offset (fun vs H Q E h => ?_) (fun cdv AR outer s H vs Q E hr h => ?_)
  · obtain ⟨r, g, n, k, rfl, _⟩ := h; rfl
  · obtain ⟨r, g, n, k, rfl, RA, q⟩ := h
    refine ⟨_, pss_cons (ps_expr (pe_meth (pv 0) T.cl_Rule T.m_Rule_check_attempt (ok_Rule_check_attempt T) (hr.mono (by decide)) T.b_Rule_check_attempt .nil pass0 (pa_cons (pv 1) pa_nil))) (
      pss_one (ps_ret (pe_meth (pv 0) T.cl_Rule T.m_Rule_offset_of (ok_Rule_offset_of T) (hr.mono (by decide)) T.b_Rule_offset_of .nil pass0 (pa_cons (pv 1) pa_nil)))), ?_⟩
    walk_at "go"
    refine call_Rule_check_attempt RA rfl ?_
    walk_at "xs"
    refine call_Rule_offset_of RA rfl ?_
    walk_at "xs"
    exact q
def sp_Rule_first_from (A : Ad) : Sp := fun vs H Q _ => ∃ r g n, ∃ d : Int, vs = [.ref r, .int d] ∧ RuleAt A H r g n ∧ ∀ H1, Ex H H1 → Q (.int (fst g n d : Int)) H1
theorem call_Rule_first_from {H : Hp} {r : Addr} {g : List Int} {n : Nat} {d : Int} {Q : VK} {E : XK} (h : RuleAt A H r g n) (q : ∀ H1, Ex H H1 → Q (.int (fst g n d : Int)) H1) : sp_Rule_first_from A (.ref r :: ([.int d] ++ [])) H Q E := ⟨r, g, n, d, rfl, h, q⟩
theorem ok_Rule_first_from (T : Txt K mg A) : FnOk P w K mg base CX0 3 A.f_Rule_first_from A.d_Rule_first_from ["self", "distance"] (sp_Rule_first_from A) := by
  refine T.f_Rule_first_from.ok sc_Rule_first_from (fun vs H Q E h => ?_) (fun cdv AR outer s H vs Q E hr h => ?_)
  · obtain ⟨r, g, n, d, rfl, _⟩ := h; rfl
  · obtain ⟨r, g, n, d, rfl, RA, q⟩ := h
    obtain ⟨dx, l, e, s, R⟩ := id RA
    have ho := R.o
    have he := R.e
    have hl := R.l
    have hs := R.s
    have n1 := R.ok.n1
    have nl := R.ok.nl
    have l20 := R.ok.l20
    have p1 := per_pos R.ok
    have p2 := per_le R.ok
    refine ⟨_, pss_cons (ps_if (pt_not (pt_val (pe_call (ok_is_integer T) (hr.mono (by decide)) (by rfl) T.g_is_integer T.f_is_integer.kp T.b_is_integer .nil pass0 (pa_cons (pv 1) pa_nil)))) (pss_one ps_never) pss_nil) (
      pss_cons (ps_for PassesOwn.never (by rfl) (piEnum (K := K) (by rfl) (by rfl) T.z_enumerate (pa_cons (peFld (K := K) (by rfl) (pv 0) (by rfl)) pa_nil)) (pgTup (K := K) 2 (by rfl) (by rfl) (pgs_cons (pg_name (i := 2) sc_Rule_first_from.nd (by rfl) (by first | exact Or.inl rfl | exact Or.inr rfl)) (pgs_cons (pg_name (i := 3) sc_Rule_first_from.nd (by rfl) (by first | exact Or.inl rfl | exact Or.inr rfl)) pgs_nil))) (pss_one (ps_if (pt_cmpR op_ge (pv 3) (pv 1) (nomark _)) (pss_one (ps_ret (pv 2))) pss_nil))) (
      pss_cons (ps_if (pt_cmpR op_eq (pe_ix (ixT (K := K) (by rfl)) (peFld (K := K) (by rfl) (pv 0) (by rfl)) pe_int (fun _ _ => rfl)) pe_str (nomark _)) (pss_one (ps_ret pe_non)) pss_nil) (
      pss_cons (ps_set (i := 2) sc_Rule_first_from.nd (by rfl) (by first | exact Or.inl rfl | exact Or.inr rfl) (pe_callB (callLen (K := K) (by rfl)) (by rfl) T.z_len (by decide +kernel) (pa_cons (peFld (K := K) (by rfl) (pv 0) (by rfl)) pa_nil))) (
      pss_cons (ps_if (pt_cmpR op_eq (pe_ix (ixT (K := K) (by rfl)) (peFld (K := K) (by rfl) (pv 0) (by rfl)) pe_int (fun _ _ => rfl)) pe_str (nomark _)) (pss_one (ps_set (i := 2) sc_Rule_first_from.nd (by rfl) (by first | exact Or.inl rfl | exact Or.inr rfl) (pe_op op_add (pv 2) (pe_op op_mul (pe_op op_fdivW (pe_op op_sub (pv 1) (pe_ix (ixL (K := K) (by rfl)) (peFld (K := K) (by rfl) (pv 0) (by rfl)) (pe_un un_neg pe_int) (fun _ _ => rfl))) (pe_meth0 (pv 0) T.cl_Rule T.m_Rule_period (ok_Rule_period T) (hr.mono (by decide)) T.b_Rule_period .nil pass0)) (pe_ix (ixT (K := K) (by rfl)) (peFld (K := K) (by rfl) (pv 0) (by rfl)) pe_int (fun _ _ => rfl)))))) pss_nil) (
      pss_cons (ps_while PassesOwn.never (pt_cmpR op_lt (pe_meth (pv 0) T.cl_Rule T.m_Rule_offset_of (ok_Rule_offset_of T) (hr.mono (by decide)) T.b_Rule_offset_of .nil pass0 (pa_cons (pv 2) pa_nil)) (pv 1) (nomark _)) (pss_one (ps_set (i := 2) sc_Rule_first_from.nd (by rfl) (by first | exact Or.inl rfl | exact Or.inr rfl) (pe_op op_add (pv 2) pe_int)))) (
      pss_one (ps_ret (pv 2)))))))), ?_⟩
    walk_at "go"
    refine call_is_integer ?_
    walk_at "xs"
    refine xForEnum hs (fun i σ' H' => (∃ x y, σ' = [some (.ref r), some (.int d), x, y]) ∧ Ex H H' ∧ ∀ j, j < i → off g n j < d) ⟨⟨_, _, rfl⟩, ex_refl H, fun j hj => absurd hj (Nat.not_lt_zero j)⟩ (fun i σ' H' p => p.2.1) ?_ ?_
    · rintro i x σ' H' hi ⟨⟨x0, y0, rfl⟩, e1, hj⟩ T2 H2 e2 hT
      have hi2 : i < (sumsL g).length := by
        have z := (List.getElem?_eq_some_iff.mp hi).1
        rw [List.length_map] at z
        exact z
      rw [sumsL_length] at hi2
      have hx : x = .int (off g n i) := by
        rw [List.getElem?_map, sumsL_at (by omega)] at hi
        rw [off_le (by omega)]
        exact (Option.some.inj hi).symm
      subst hx
      walk_at "xs"
      refine itD (fun h1 => ?_) (fun h1 => ?_)
      · walk_at "xs"
        have f : fst g n d = i := fst_uniq R.ok h1 (by
          by_cases z : i = 0
          · exact .inl z
          · exact .inr (hj (i - 1) (by omega)))
        rw [f] at q
        exact q _ (e1.trans e2)
      · walk_at "xs"
        exact ⟨⟨_, _, rfl⟩, e1.trans e2, fun j hj2 => by
          by_cases z : j = i
          · subst z; omega
          · exact hj j (by omega)⟩
    · rintro σ' H' ⟨⟨x0, y0, rfl⟩, e1, hj⟩
      rw [List.length_map, sumsL_length] at hj
      walk_at "xs"
      refine xIxL (e1 _ _ hs) (at_map1 (v := ps g g.length) (by rw [sumsL_length]; exact sumsL_at (by omega))) ?_
      walk_at "xs"
      refine call_Rule_period (rule_ex e1 RA) ?_
      walk_at "xs"
      refine xI (cdivw (by omega) (by omega)) ?_
      walk_at "xs"
      refine xI (cmulr (by omega) (by omega)) ?_
      walk_at "xs"
      rw [List.length_map]
      have hS := hj g.length (by omega)
      rw [off_le (Nat.le_refl _)] at hS
      have hq0 : 0 ≤ (d - ps g g.length) / per g n := Int.ediv_nonneg (by omega) (by omega)
      obtain ⟨qn, hqn⟩ : ∃ qn : Nat, (d - ps g g.length) / per g n = (qn : Int) := ⟨((d - ps g g.length) / per g n).toNat, by omega⟩
      have ho2 : off g n (g.length + qn * n) = ps g g.length + (qn : Int) * per g n := by
        rw [off_perq R.ok (by omega), off_le (Nat.le_refl _)]
      have hle : (qn : Int) * per g n ≤ d - ps g g.length := by
        rw [← hqn]
        exact Int.ediv_mul_le _ (by omega)
      rw [hqn, show (g.length : Int) + (qn : Int) * (n : Int) = ((g.length + qn * n : Nat) : Int) by rw [Int.natCast_add, Int.natCast_mul]]
      generalize hA : g.length + qn * n = a0 at *
      refine xWhile (fun m σ' H' => ∃ k : Nat, σ' = [some (.ref r), some (.int d), some (.int (k : Int)), y0] ∧ H' = _ ∧ m = fst g n d - k ∧ k ≤ fst g n d) (fst g n d - a0) ⟨a0, rfl, rfl, rfl, ?_⟩ ?_
      · by_cases z : a0 ≤ fst g n d
        · exact z
        · exfalso
          have h1 := (fst_spec R.ok d).1
          have h2 := off_strict R.ok (show fst g n d < a0 by omega)
          omega
      · rintro m σ' H2 ⟨k, rfl, rfl, rfl, hk⟩
        walk_at "xs"
        refine call_Rule_offset_of (rule_ex e1 RA) rfl ?_
        walk_at "xs"
        refine itD (fun h1 => ?_) (fun h1 => ?_)
        · refine xTurn ?_
          walk_at "xs"
          have h2 := (lt_fst_iff R.ok).mpr h1
          exact ⟨fst g n d - (k + 1), by omega, k + 1, by simp, rfl, rfl, by omega⟩
        · walk_at "xs"
          have h2 := (fst_le_iff R.ok).mpr (show d ≤ off g n k by omega)
          rw [show k = fst g n d by omega]
          exact q _ e1
def sp_Rule_attempt_at (A : Ad) : Sp := fun vs H Q _ => ∃ r g n, ∃ d : Int, vs = [.ref r, .int d] ∧ RuleAt A H r g n ∧ ∀ H1, Ex H H1 → Q (if off g n (fst g n d) = d then .int (fst g n d : Int) else .non) H1
theorem call_Rule_attempt_at {H : Hp} {r : Addr} {g : List Int} {n : Nat} {d : Int} {Q : VK} {E : XK} (h : RuleAt A H r g n) (q : ∀ H1, Ex H H1 → Q (if off g n (fst g n d) = d then .int (fst g n d : Int) else .non) H1) : sp_Rule_attempt_at A (.ref r :: ([.int d] ++ [])) H Q E := ⟨r, g, n, d, rfl, h, q⟩
theorem ok_Rule_attempt_at (T : Txt K mg A) : FnOk P w K mg base CX0 4 A.f_Rule_attempt_at A.d_Rule_attempt_at ["self", "distance"] (sp_Rule_attempt_at A) := by
  refine T.f_Rule_attempt_at.ok sc_Rule_attempt_at (fun vs H Q E h => ?_) (fun cdv AR outer s H vs Q E hr h => ?_)
  · obtain ⟨r, g, n, d, rfl, _⟩ := h; rfl
  · obtain ⟨r, g, n, d, rfl, RA, q⟩ := h
    refine ⟨_, pss_cons (ps_set (i := 2) sc_Rule_attempt_at.nd (by rfl) (by first | exact Or.inl rfl | exact Or.inr rfl) (pe_meth (pv 0) T.cl_Rule T.m_Rule_first_from (ok_Rule_first_from T) (hr.mono (by decide)) T.b_Rule_first_from .nil pass0 (pa_cons (pv 1) pa_nil))) (
      pss_cons (ps_if (PW.pt (pw_or (pt_cmpR op_isN1 (pv 2) pe_non (nomark _)) (pw_or1 (pt_cmpR op_ne (pe_meth (pv 0) T.cl_Rule T.m_Rule_offset_of (ok_Rule_offset_of T) (hr.mono (by decide)) T.b_Rule_offset_of .nil pass0 (pa_cons (pv 2) pa_nil)) (pv 1) (nomark _))))) (pss_one (ps_ret pe_non)) pss_nil) (
      pss_one (ps_ret (pv 2)))), ?_⟩
    walk_at "go"
    refine call_Rule_first_from RA (fun H1 e1 => ?_)
    walk_at "xs"
    refine xIsN (c := false) (by rfl) ?_
    walk_at "xs"
    refine call_Rule_offset_of (rule_ex e1 RA) rfl ?_
    walk_at "xs"
    refine itD (fun h1 => ?_) (fun h1 => ?_)
    · walk_at "xs"
      rw [if_neg h1] at q
      exact q _ e1
    · walk_at "xs"
      rw [if_pos (Decidable.not_not.mp h1)] at q
      exact q _ e1
end RK
end

section
namespace RK
open PySem L2 RS
variable {P : Program} {w : World} {K : PySem.W.Frag} {mg : Str → Option Value} {base : Heap} {A : Ad}

def sp_is_tail : Sp := fun vs H Q _ => ∃ e, ∃ n m : Nat, vs = [.ref e, .int (m : Int)] ∧ H e = some (.tup [.str "repeat", .int (n : Int)]) ∧ 1 ≤ n ∧ n ≤ m ∧ Q (.bl true) H
theorem call_is_tail {H : Hp} {e : Addr} {n m : Nat} {x : Int} {Q : VK} {E : XK} (h : H e = some (.tup [.str "repeat", .int (n : Int)])) (h1 : 1 ≤ n) (h2 : n ≤ m) (hx : x = (m : Int)) (q : Q (.bl true) H) : sp_is_tail ([.ref e, .int x] ++ []) H Q E := ⟨e, n, m, by rw [hx]; rfl, h, h1, h2, q⟩
theorem ok_is_tail (T : Txt K mg A) : FnOk P w K mg base CX0 3 A.f_is_tail A.d_is_tail ["tail", "gap_count"] sp_is_tail := by
  refine T.f_is_tail.ok sc_is_tail (fun vs H Q E h => ?_) (fun cdv AR outer s H vs Q E hr h => ?_)
  · obtain ⟨e, n, m, rfl, _⟩ := h; rfl
  · obtain ⟨e, n, m, rfl, he, h1, h2, q⟩ := h
    refine ⟨_, pss_cons (ps_if (PW.pt (pw_or (pt_not (pt_val (pe_callB (callIsi (K := K) (by rfl)) (by rfl) T.z_isinstance (by decide +kernel) (pa_cons (pv 0) (pa_cons (pe_bltn (v := .ty "tuple") (by rfl) T.z_tuple (by decide +kernel) rfl) pa_nil))))) (pw_or (pt_cmpR op_eq (pe_callB (callLen (K := K) (by rfl)) (by rfl) T.z_len (by decide +kernel) (pa_cons (pv 0) pa_nil)) pe_int (nomark _)) (pw_or1 (pt_not (pt_val (pe_callB (callIsi (K := K) (by rfl)) (by rfl) T.z_isinstance (by decide +kernel) (pa_cons (pe_ix (ixT (K := K) (by rfl)) (pv 0) pe_int (fun _ _ => rfl)) (pa_cons (pe_bltn (v := .ty "str") (by rfl) T.z_str (by decide +kernel) rfl) pa_nil))))))))) (pss_one (ps_ret pe_bl)) pss_nil) (
      pss_cons (ps_if (pt_cmpR op_eq (pe_ix (ixT (K := K) (by rfl)) (pv 0) pe_int (fun _ _ => rfl)) pe_str (nomark _)) (pss_one (ps_ret (pe_cmpR op_eq (pe_callB (callLen (K := K) (by rfl)) (by rfl) T.z_len (by decide +kernel) (pa_cons (pv 0) pa_nil)) pe_int (nomark _)))) pss_nil) (
      pss_cons (ps_if (PW.pt (pw_or (pt_cmpR op_ne (pe_callB (callLen (K := K) (by rfl)) (by rfl) T.z_len (by decide +kernel) (pa_cons (pv 0) pa_nil)) pe_int (nomark _)) (pw_or1 (pt_cmpR op_eq (pv 1) pe_int (nomark _))))) (pss_one (ps_ret pe_bl)) pss_nil) (
      pss_cons (ps_if (pt_cmpR op_eq (pe_ix (ixT (K := K) (by rfl)) (pv 0) pe_int (fun _ _ => rfl)) pe_str (nomark _)) (pss_one (ps_ret (pe_call (ok_is_between T) (hr.mono (by decide)) (by rfl) T.g_is_between T.f_is_between.kp T.b_is_between .nil pass0 (pa_cons (pe_ix (ixT (K := K) (by rfl)) (pv 0) pe_int (fun _ _ => rfl)) (pa_cons pe_int (pa_cons (pe_glob (v := .int 1000) (by rfl) T.g_MOST_FACTOR ⟨_, rfl⟩) pa_nil)))))) pss_nil) (
      pss_one (ps_ret (pe_and (pe_cmpR op_eq (pe_ix (ixT (K := K) (by rfl)) (pv 0) pe_int (fun _ _ => rfl)) pe_str (nomark _)) (pe_one (pe_call (ok_is_between T) (hr.mono (by decide)) (by rfl) T.g_is_between T.f_is_between.kp T.b_is_between .nil pass0 (pa_cons (pe_ix (ixT (K := K) (by rfl)) (pv 0) pe_int (fun _ _ => rfl)) (pa_cons pe_int (pa_cons (pv 1) pa_nil))))))))))), ?_⟩
    walk_at "go"
    walk_at "no"
    walk_at "no"
    walk_at "no"
    refine call_is_between ?_
    walk_at "xs"
    rw [decide_eq_true (show (1 : Int) ≤ n ∧ (n : Int) ≤ m by omega)]
    exact q

theorem fm_const {α : Type} (v : V) : ∀ xs : List α, xs.filterMap (fun _ => some v) = xs.map fun _ => v
  | [] => rfl
  | _ :: r => by rw [List.filterMap_cons, List.map_cons, fm_const v r]
theorem pf_listed {v : V} : putF "listed" v [] = [(("listed" : Str), v)] := by kernel_rfl
theorem pf_ending {v a : V} : putF "ending" v [(("listed" : Str), a)] = [(("listed" : Str), a), (("ending" : Str), v)] := by kernel_rfl
theorem pf_sums {v a b : V} : putF "sums" v [(("listed" : Str), a), (("ending" : Str), b)] = [(("listed" : Str), a), (("ending" : Str), b), (("sums" : Str), v)] := by kernel_rfl

def sp_Rule_init (A : Ad) : Sp := fun vs H Q _ => ∃ x dx l e, ∃ g : List Int, ∃ n : Nat, vs = [.ref x, .ref l, .ref e] ∧ Rok g n ∧ H x = some (.ins A.c_Rule dx []) ∧ H l = some (.lst (g.map V.int)) ∧ H e = some (.tup [.str "repeat", .int (n : Int)]) ∧
  ∀ H', (∀ b o, b ≠ x → H b = some o → H' b = some o) → RuleAt A H' x g n → Q .non H'
theorem ok_Rule_init (T : Txt K mg A) : FnOk P w K mg base CX0 4 A.f_Rule_init A.d_Rule_init ["self", "gaps", "tail"] (sp_Rule_init A) := by
  refine T.f_Rule_init.ok sc_Rule_init (fun vs H Q E h => ?_) (fun cdv AR outer s H vs Q E hr h => ?_)
  · obtain ⟨x, dx, l, e, g, n, rfl, _⟩ := h; rfl
  · obtain ⟨x, dx, l, e, g, n, rfl, R, hx, hl, he, q⟩ := h
    have n1 := R.n1
    have nl := R.nl
    have l20 := R.l20
    have nlx : l ≠ x := ne_of hl hx (by intro z; cases z)
    have nex : e ≠ x := ne_of he hx (by intro z; cases z)
    refine ⟨_, pss_cons (ps_if (PW.pt (pw_or (pt_not (pt_val (pe_callB (callIsi (K := K) (by rfl)) (by rfl) T.z_isinstance (by decide +kernel) (pa_cons (pv 1) (pa_cons (pe_bltn (v := .ty "list") (by rfl) T.z_list (by decide +kernel) rfl) pa_nil))))) (pw_or1 (pt_cmpR op_gt (pe_callB (callLen (K := K) (by rfl)) (by rfl) T.z_len (by decide +kernel) (pa_cons (pv 1) pa_nil)) (pe_glob (v := .int 20) (by rfl) T.g_MOST_GAPS ⟨_, rfl⟩) (nomark _))))) (pss_one ps_never) pss_nil) (
      pss_cons (ps_if (pt_not (pt_val (pe_callB (callAll (K := K) (by rfl) (by rfl)) (by rfl) T.z_all (by decide +kernel) (pa_cons (pe_lc (own := [("gap", 3)]) (by rfl) sc_Rule_init.nd (piList (K := K) (by rfl) (pv 1)) (blkOk_by (own := [("gap", 3)]) (N := n_Rule_init) (sc := (defScope s_Rule_init)) (by decide +kernel)) (fun _ _ _ _ _ => (pg_name (i := 3) sc_Rule_init.nd (by rfl) (by first | exact Or.inl rfl | exact Or.inr rfl))) (fun _ _ _ _ _ => pts_nil) (fun _ _ _ _ _ => (pe_call (ok_is_between T) (hr.mono (by decide)) (by rfl) T.g_is_between T.f_is_between.kp T.b_is_between .nil pass0 (pa_cons (pv 3) (pa_cons pe_int (pa_cons (pe_glob (v := .int 1000000000000) (by rfl) T.g_MOST_GAP ⟨_, rfl⟩) pa_nil)))))) pa_nil)))) (pss_one ps_never) pss_nil) (
      pss_cons (ps_if (pt_not (pt_val (pe_call (ok_is_tail T) (hr.mono (by decide)) (by rfl) T.g_is_tail T.f_is_tail.kp T.b_is_tail .nil pass0 (pa_cons (pv 2) (pa_cons (pe_callB (callLen (K := K) (by rfl)) (by rfl) T.z_len (by decide +kernel) (pa_cons (pv 1) pa_nil)) pa_nil))))) (pss_one ps_never) pss_nil) (
      pss_cons (psFld (K := K) (by rfl) (pv 0) (pe_callTy (callList (K := K) (by rfl)) (by rfl) T.z_list (by decide +kernel) (pa_cons (pv 1) pa_nil)) (by rfl)) (
      pss_cons (psFld (K := K) (by rfl) (pv 0) (pv 2) (by rfl)) (
      pss_cons (psFld (K := K) (by rfl) (pv 0) (pe_lst (pa_cons pe_int pa_nil)) (by rfl)) (
      pss_one (ps_for PassesOwn.never (by rfl) (piList (K := K) (by rfl) (pv 1)) (pg_name (i := 3) sc_Rule_init.nd (by rfl) (by first | exact Or.inl rfl | exact Or.inr rfl)) (pss_one (ps_expr (peBm (K := K) (by rfl) PySem.F.plainAttrs_list PySem.F.slot_list_append PySem.F.type_list_append mt_append (peFld (K := K) (by rfl) (pv 0) (by rfl)) (pa_cons (pe_op op_add (pe_ix (ixL (K := K) (by rfl)) (peFld (K := K) (by rfl) (pv 0) (by rfl)) (pe_un un_neg pe_int) (fun _ _ => rfl)) (pv 3)) pa_nil))))))))))), ?_⟩
    walk_at "go"
    rw [List.length_map]
    refine itN (by omega) ?_
    walk_at "xs"
    -- all gaps are integers from 1 to 10 ** 12
    refine cgoList hl (by rw [List.length_map]; omega) (fun _ => some (.bl true)) ?_ ?_
    · intro i y H1 Y1 N1 hi e1 hY hN
      obtain ⟨z, hz, rfl⟩ : ∃ z, g[i]? = some z ∧ y = .int z := by
        rw [List.getElem?_map] at hi
        obtain ⟨z, h1, h2⟩ := Option.map_eq_some_iff.mp hi
        exact ⟨z, h1, h2.symm⟩
      have hm := List.mem_of_getElem? hz
      have g1 := R.pos _ hm
      have g2 := R.big _ hm
      walk_at "xs"
      refine ⟨rfl, ?_⟩
      walk_at "xs"
      refine call_is_between ?_
      rw [decide_eq_true (show (1 : Int) ≤ z ∧ z ≤ 1000000000000 by omega)]
      exact hY _ _ (ex_refl _) rfl
    · intro p H1 hp e1 h1
      have eb : (g.map V.int).filterMap (fun _ => some (V.bl true)) = (g.map fun _ => true).map V.bl := by
        rw [fm_const, List.map_map, List.map_map]
        rfl
      rw [eb] at h1
      walk_at "xs"
      refine xAll h1 ?_
      have ea : (g.map fun _ => true).all id = true := by simp
      rw [ea]
      walk_at "xs"
      refine call_is_tail (e1 _ _ he) n1 nl (by rw [List.length_map]) ?_
      walk_at "xs"
      refine xListOf (e1 _ _ hl) (fun p2 H2 hp2 e2 h2 => ?_)
      walk_at "xs"
      have hx2 : H2 x = some (.ins A.c_Rule dx []) := e2 _ _ (e1 _ _ hx)
      refine xPutF hx2 T.cl_Rule T.na_listed (by simp) pf_listed ?_
      have np2 : p2 ≠ x := (ne_of_none (e1 _ _ hx) hp2).symm
      walk_at "xs"
      have hx3 : upd H2 x (.ins A.c_Rule dx [(("listed" : Str), .ref p2)]) x = some (.ins A.c_Rule dx [(("listed" : Str), .ref p2)]) := upd_same
      refine xPutF hx3 T.cl_Rule T.na_ending (by simp) pf_ending ?_
      rw [upd_upd]
      walk_at "xs"
      refine xNewL (by decide) (fun p3 H3 hp3 e3 h3 => ?_)
      walk_at "xs"
      have hx4 : H3 x = some (.ins A.c_Rule dx [(("listed" : Str), .ref p2), (("ending" : Str), .ref e)]) := e3 _ _ upd_same
      have hl4 : H3 p2 = some (.lst (g.map V.int)) := e3 _ _ (by rw [upd_ne np2]; exact h2)
      have np3 : p3 ≠ x := (ne_of_none (H := upd H2 x _) upd_same hp3).symm
      have np32 : p3 ≠ p2 := (ne_of_none (H := upd H2 x _) (by rw [upd_ne np2]; exact h2) hp3).symm
      have fr3 : ∀ b o, b ≠ x → H b = some o → H3 b = some o := fun b o nb hb => e3 _ _ (by rw [upd_ne nb]; exact e2 _ _ (e1 _ _ hb))
      have fr3s : ∀ b o, H b = some o → b ≠ p3 := fun b o hb z => by
        subst z
        by_cases nb : b = x
        · exact np3 nb
        · rw [upd_ne nb, e2 _ _ (e1 _ _ hb)] at hp3; cases hp3
      refine xPutF hx4 T.cl_Rule T.na_sums (by simp) pf_sums ?_
      generalize hH4 : upd H3 x (.ins A.c_Rule dx [(("listed" : Str), .ref p2), (("ending" : Str), .ref e), (("sums" : Str), .ref p3)]) = H4
      have k1 : H4 x = some (.ins A.c_Rule dx (ruleF p2 e p3)) := by rw [← hH4]; exact upd_same
      have k2 : H4 p2 = some (.lst (g.map V.int)) := by rw [← hH4, upd_ne np2]; exact hl4
      have k3 : H4 p3 = some (.lst [.int 0]) := by rw [← hH4, upd_ne np3]; exact h3
      have k4 : ∀ b o, b ≠ x → H b = some o → H4 b = some o := fun b o nb hb => by rw [← hH4, upd_ne nb]; exact fr3 b o nb hb
      walk_at "xs"
      refine xForList (k4 _ _ nlx hl) (fun i σ' H' => (∃ y, σ' = [some (.ref x), some (.ref l), some (.ref e), y]) ∧ H' x = some (.ins A.c_Rule dx (ruleF p2 e p3)) ∧ H' p2 = some (.lst (g.map V.int)) ∧
        H' p3 = some (.lst (((List.range (i + 1)).map (ps g)).map V.int)) ∧ ∀ b o, b ≠ x → H b = some o → H' b = some o)
        ⟨⟨_, rfl⟩, k1, k2, by rw [k3]; simp [ps_zero], k4⟩ (fun i σ' H' p => p.2.2.2.2 _ _ nlx hl) ?_ ?_
      · rintro i y σ' H' hi ⟨⟨y0, rfl⟩, a1, a2, a3, a4⟩
        obtain ⟨z, hz, rfl⟩ : ∃ z, g[i]? = some z ∧ y = .int z := by
          rw [List.getElem?_map] at hi
          obtain ⟨z, h1, h2⟩ := Option.map_eq_some_iff.mp hi
          exact ⟨z, h1, h2.symm⟩
        have hig := (List.getElem?_eq_some_iff.mp hz).1
        walk_at "xs"
        refine ⟨tyL a3, ?_⟩
        walk_at "xs"
        refine xIxL a3 (at_map1 (v := ps g i) (by rw [List.length_map, List.length_range, show i + 1 - 1 = i by omega, List.getElem?_map, List.getElem?_range (by omega)]; rfl)) ?_
        walk_at "xs"
        refine xApp1 a3 (by rw [List.length_map, List.length_map, List.length_range]; omega) ?_
        have n31 : x ≠ p3 := np3.symm
        refine ⟨⟨_, rfl⟩, by rw [upd_ne n31]; exact a1, by rw [upd_ne np32.symm]; exact a2, ?_, fun b o nb hb => by rw [upd_ne (fr3s b o hb)]; exact a4 b o nb hb⟩
        rw [upd_same, List.range_succ (n := i + 1), List.map_append, List.map_append]
        have e5 : ps g (i + 1) = ps g i + z := by
          rw [ps_succ hig, List.getD_eq_getElem?_getD, hz]
          rfl
        simp [e5]
      · rintro σ' H' ⟨⟨y0, rfl⟩, a1, a2, a3, a4⟩
        rw [List.length_map] at a3
        refine q H' a4 ⟨dx, p2, e, p3, R, a1, a2, a4 _ _ nex he, a3⟩
end RK
end

section
namespace RK
open PySem L2 RS
variable {P : Program} {w : World} {K : PySem.W.Frag} {mg : Str → Option Value} {base : Heap} {A : Ad}

theorem int_at {ns : List Int} {i : Nat} {x : V} (h : (ns.map V.int)[i]? = some x) : ∃ z, ns[i]? = some z ∧ x = .int z := by
  rw [List.getElem?_map] at h
  obtain ⟨z, h1, h2⟩ := Option.map_eq_some_iff.mp h
  exact ⟨z, h1, h2.symm⟩
def sp_check_starts : Sp := fun vs H Q _ => ∃ a, ∃ ns : List Int, vs = [.ref a] ∧ H a = some (.lst (ns.map V.int)) ∧ 1 ≤ ns.length ∧ ns.length ≤ 40 ∧ ∀ H1, Ex H H1 → Q .non H1
theorem call_check_starts {H : Hp} {a : Addr} {ns : List Int} {Q : VK} {E : XK} (h : H a = some (.lst (ns.map V.int))) (h1 : 1 ≤ ns.length) (h2 : ns.length ≤ 40) (q : ∀ H1, Ex H H1 → Q .non H1) : sp_check_starts ([.ref a] ++ []) H Q E := ⟨a, ns, rfl, h, h1, h2, q⟩
theorem ok_check_starts (T : Txt K mg A) : FnOk P w K mg base CX0 2 A.f_check_starts A.d_check_starts ["starts"] sp_check_starts := by
  refine T.f_check_starts.ok sc_check_starts (fun vs H Q E h => ?_) (fun cdv AR outer s H vs Q E hr h => ?_)
  · obtain ⟨a, ns, rfl, _⟩ := h; rfl
  · obtain ⟨a, ns, rfl, ha, n1, n2, q⟩ := h
    refine ⟨_, pss_cons (ps_if (PW.pt (pw_or (pt_not (pt_val (pe_callB (callIsi (K := K) (by rfl)) (by rfl) T.z_isinstance (by decide +kernel) (pa_cons (pv 0) (pa_cons (pe_bltn (v := .ty "list") (by rfl) T.z_list (by decide +kernel) rfl) pa_nil))))) (pw_or1 (pt_not (pt_chain op_le op_le pe_int (pe_callB (callLen (K := K) (by rfl)) (by rfl) T.z_len (by decide +kernel) (pa_cons (pv 0) pa_nil)) (pe_glob (v := .int 40) (by rfl) T.g_MOST_CLIENTS ⟨_, rfl⟩)))))) (pss_one ps_never) pss_nil) (
      pss_one (ps_for PassesOwn.never (by rfl) (piEnum (K := K) (by rfl) (by rfl) T.z_enumerate (pa_cons (pv 0) pa_nil)) (pgTup (K := K) 2 (by rfl) (by rfl) (pgs_cons (pg_name (i := 1) sc_check_starts.nd (by rfl) (by first | exact Or.inl rfl | exact Or.inr rfl)) (pgs_cons (pg_name (i := 2) sc_check_starts.nd (by rfl) (by first | exact Or.inl rfl | exact Or.inr rfl)) pgs_nil))) (pss_one (ps_if (pt_not (pt_val (pe_call (ok_is_integer T) (hr.mono (by decide)) (by rfl) T.g_is_integer T.f_is_integer.kp T.b_is_integer .nil pass0 (pa_cons (pv 2) pa_nil)))) (pss_one ps_never) pss_nil)))), ?_⟩
    walk_at "go"
    rw [List.length_map]
    walk_at "t"
    walk_at "t"
    refine xForEnum ha (fun i σ' H' => (∃ x y, σ' = [some (.ref a), x, y]) ∧ Ex H H') ⟨⟨_, _, rfl⟩, ex_refl H⟩ (fun i σ' H' p => p.2) ?_ ?_
    · rintro i x σ' H' hi ⟨⟨x0, y0, rfl⟩, e1⟩ T2 H2 e2 hT
      obtain ⟨z, hz, rfl⟩ := int_at hi
      walk_at "xs"
      refine call_is_integer ?_
      walk_at "xs"
      exact ⟨⟨_, _, rfl⟩, e1.trans e2⟩
    · rintro σ' H' ⟨_, e1⟩
      exact q _ e1
def sp_is_window : Sp := fun vs H Q _ => ∃ t, ∃ f a : Int, vs = [.ref t] ∧ H t = some (.tup [.int f, .int a]) ∧ Q (.bl (decide (f < a))) H
theorem call_is_window {H : Hp} {t : Addr} {f a : Int} {Q : VK} {E : XK} (h : H t = some (.tup [.int f, .int a])) (q : Q (.bl (decide (f < a))) H) : sp_is_window ([.ref t] ++ []) H Q E := ⟨t, f, a, rfl, h, q⟩
theorem ok_is_window (T : Txt K mg A) : FnOk P w K mg base CX0 2 A.f_is_window A.d_is_window ["value"] sp_is_window := by
  refine T.f_is_window.ok sc_is_window (fun vs H Q E h => ?_) (fun cdv AR outer s H vs Q E hr h => ?_)
  · obtain ⟨t, f, a, rfl, _⟩ := h; rfl
  · obtain ⟨t, f, a, rfl, ht, q⟩ := h
    refine ⟨_, pss_cons (ps_if (PW.pt (pw_or (pt_not (pt_val (pe_callB (callIsi (K := K) (by rfl)) (by rfl) T.z_isinstance (by decide +kernel) (pa_cons (pv 0) (pa_cons (pe_bltn (v := .ty "tuple") (by rfl) T.z_tuple (by decide +kernel) rfl) pa_nil))))) (pw_or1 (pt_cmpR op_ne (pe_callB (callLen (K := K) (by rfl)) (by rfl) T.z_len (by decide +kernel) (pa_cons (pv 0) pa_nil)) pe_int (nomark _))))) (pss_one (ps_ret pe_bl)) pss_nil) (
      pss_one (ps_ret (pe_and (pe_call (ok_is_integer T) (hr.mono (by decide)) (by rfl) T.g_is_integer T.f_is_integer.kp T.b_is_integer .nil pass0 (pa_cons (pe_ix (ixT (K := K) (by rfl)) (pv 0) pe_int (fun _ _ => rfl)) pa_nil)) (pe_and (pe_call (ok_is_integer T) (hr.mono (by decide)) (by rfl) T.g_is_integer T.f_is_integer.kp T.b_is_integer .nil pass0 (pa_cons (pe_ix (ixT (K := K) (by rfl)) (pv 0) pe_int (fun _ _ => rfl)) pa_nil)) (pe_one (pe_cmpR op_lt (pe_ix (ixT (K := K) (by rfl)) (pv 0) pe_int (fun _ _ => rfl)) (pe_ix (ixT (K := K) (by rfl)) (pv 0) pe_int (fun _ _ => rfl)) (nomark _))))))), ?_⟩
    walk_at "go"
    walk_at "t"
    refine call_is_integer ?_
    walk_at "xs"
    refine call_is_integer ?_
    walk_at "xs"
    exact q
def sp_check_outages : Sp := fun vs H Q _ => ∃ l t, ∃ f a : Int, vs = [.ref l] ∧ H l = some (.lst [.ref t]) ∧ H t = some (.tup [.int f, .int a]) ∧ f < a ∧ ∀ H1, Ex H H1 → Q .non H1
theorem call_check_outages {H : Hp} {l t : Addr} {f a : Int} {Q : VK} {E : XK} (hl : H l = some (.lst [.ref t])) (h : H t = some (.tup [.int f, .int a])) (hf : f < a) (q : ∀ H1, Ex H H1 → Q .non H1) : sp_check_outages ([.ref l] ++ []) H Q E := ⟨l, t, f, a, rfl, hl, h, hf, q⟩
theorem ok_check_outages (T : Txt K mg A) : FnOk P w K mg base CX0 3 A.f_check_outages A.d_check_outages ["outages"] sp_check_outages := by
  refine T.f_check_outages.ok sc_check_outages (fun vs H Q E h => ?_) (fun cdv AR outer s H vs Q E hr h => ?_)
  · obtain ⟨l, t, f, a, rfl, _⟩ := h; rfl
  · obtain ⟨l, t, f, a, rfl, hl, ht, hf, q⟩ := h
    refine ⟨_, pss_cons (ps_if (PW.pt (pw_or (pt_not (pt_val (pe_callB (callIsi (K := K) (by rfl)) (by rfl) T.z_isinstance (by decide +kernel) (pa_cons (pv 0) (pa_cons (pe_bltn (v := .ty "list") (by rfl) T.z_list (by decide +kernel) rfl) pa_nil))))) (pw_or1 (pt_cmpR op_gt (pe_callB (callLen (K := K) (by rfl)) (by rfl) T.z_len (by decide +kernel) (pa_cons (pv 0) pa_nil)) (pe_glob (v := .int 10) (by rfl) T.g_MOST_OUTAGES ⟨_, rfl⟩) (nomark _))))) (pss_one ps_never) pss_nil) (
      pss_one (ps_for PassesOwn.never (by rfl) (piEnum (K := K) (by rfl) (by rfl) T.z_enumerate (pa_cons (pv 0) pa_nil)) (pgTup (K := K) 2 (by rfl) (by rfl) (pgs_cons (pg_name (i := 1) sc_check_outages.nd (by rfl) (by first | exact Or.inl rfl | exact Or.inr rfl)) (pgs_cons (pg_name (i := 2) sc_check_outages.nd (by rfl) (by first | exact Or.inl rfl | exact Or.inr rfl)) pgs_nil))) (pss_one (ps_if (PW.pt (pw_or (pt_not (pt_val (pe_call (ok_is_window T) (hr.mono (by decide)) (by rfl) T.g_is_window T.f_is_window.kp T.b_is_window .nil pass0 (pa_cons (pv 2) pa_nil)))) (pw_or1 (PW.pt (pw_and (pt_cmpR op_gt (pv 1) pe_int (nomark _)) (pw_and1 (pt_cmpR op_lt (pe_ix (ixT (K := K) (by rfl)) (pv 2) pe_int (fun _ _ => rfl)) (pe_ix (ixT (K := K) (by rfl)) (pe_ix (ixL (K := K) (by rfl)) (pv 0) (pe_op op_sub (pv 1) pe_int) (fun _ _ => rfl)) pe_int (fun _ _ => rfl)) (nomark _)))))))) (pss_one ps_never) pss_nil)))), ?_⟩
    walk_at "go"
    walk_at "t"
    refine xForEnum hl (fun i σ' H' => (∃ x y, σ' = [some (.ref l), x, y]) ∧ Ex H H') ⟨⟨_, _, rfl⟩, ex_refl H⟩ (fun i σ' H' p => p.2) ?_ ?_
    · rintro i x σ' H' hi ⟨⟨x0, y0, rfl⟩, e1⟩ T2 H2 e2 hT
      obtain ⟨rfl, rfl⟩ : i = 0 ∧ x = .ref t := by
        cases i with
        | zero => exact ⟨rfl, (Option.some.inj hi).symm⟩
        | succ i => cases hi
      walk_at "xs"
      refine call_is_window (e2 _ _ (e1 _ _ ht)) ?_
      walk_at "xs"
      refine itNY hf ?_
      walk_at "xs"
      walk_at "t"
      exact ⟨⟨_, _, rfl⟩, e1.trans e2⟩
    · rintro σ' H' ⟨_, e1⟩
      exact q _ e1

/-! ### a scene is made -/
theorem pf_its_rule {v : V} : putF "its_rule" v [] = [(("its_rule" : Str), v)] := by kernel_rfl
theorem pf_its_starts {v a : V} : putF "its_starts" v [(("its_rule" : Str), a)] = [(("its_rule" : Str), a), (("its_starts" : Str), v)] := by kernel_rfl
theorem pf_windows {v a b : V} : putF "windows" v [(("its_rule" : Str), a), (("its_starts" : Str), b)] = [(("its_rule" : Str), a), (("its_starts" : Str), b), (("windows" : Str), v)] := by kernel_rfl
theorem pf_its_length {v a b c : V} : putF "its_length" v [(("its_rule" : Str), a), (("its_starts" : Str), b), (("windows" : Str), c)] = [(("its_rule" : Str), a), (("its_starts" : Str), b), (("windows" : Str), c), (("its_length" : Str), v)] := by kernel_rfl
def sp_Scene_init (A : Ad) : Sp := fun vs H Q _ => ∃ x dx r st l t, ∃ p : Par, vs = [.ref x, .ref r, .ref st, .ref l, .int p.L] ∧ p.Ok ∧ H x = some (.ins A.c_Scene dx []) ∧ RuleAt A H r p.g p.n ∧ H st = some (.lst [.int 0, .int p.b]) ∧
  H l = some (.lst [.ref t]) ∧ H t = some (.tup [.int p.f, .int p.a]) ∧ ∀ H', (∀ b o, b ≠ x → H b = some o → H' b = some o) → SceneAt A H' x p → Q .non H'
theorem ok_Scene_init (T : Txt K mg A) : FnOk P w K mg base CX0 4 A.f_Scene_init A.d_Scene_init ["self", "rule", "starts", "outages", "length"] (sp_Scene_init A) := by
  refine T.f_Scene_init.ok sc_Scene_init (fun vs H Q E h => ?_) (fun cdv AR outer s H vs Q E hr h => ?_)
  · obtain ⟨x, dx, r, st, l, t, p, rfl, _⟩ := h; rfl
  · obtain ⟨x, dx, r, st, l, t, p, rfl, O, hx, RA, hst, hl, ht, q⟩ := h
    obtain ⟨dxr, lr, er, sr, R⟩ := id RA
    have hL := O.L1
    refine ⟨_, pss_cons (ps_if (pt_not (pt_val (pe_callB (callIsi (K := K) (by rfl)) (by rfl) T.z_isinstance (by decide +kernel) (pa_cons (pv 1) (pa_cons (pe_glob (v := .ref A.c_Rule) (by rfl) T.g_Rule rfl) pa_nil))))) (pss_one ps_never) pss_nil) (
      pss_cons (ps_expr (pe_call (ok_check_starts T) (hr.mono (by decide)) (by rfl) T.g_check_starts T.f_check_starts.kp T.b_check_starts .nil pass0 (pa_cons (pv 2) pa_nil))) (
      pss_cons (ps_set (i := 5) sc_Scene_init.nd (by rfl) (by first | exact Or.inl rfl | exact Or.inr rfl) (pe_ifExp (pt_cmpR op_isN1 (pv 3) pe_non (nomark _)) (pe_lst pa_nil) (pv 3))) (
      pss_cons (ps_expr (pe_call (ok_check_outages T) (hr.mono (by decide)) (by rfl) T.g_check_outages T.f_check_outages.kp T.b_check_outages .nil pass0 (pa_cons (pv 5) pa_nil))) (
      pss_cons (ps_if (PW.pt (pw_or (pt_not (pt_val (pe_call (ok_is_integer T) (hr.mono (by decide)) (by rfl) T.g_is_integer T.f_is_integer.kp T.b_is_integer .nil pass0 (pa_cons (pv 4) pa_nil)))) (pw_or1 (pt_cmpR op_lt (pv 4) pe_int (nomark _))))) (pss_one ps_never) pss_nil) (
      pss_cons (psFld (K := K) (by rfl) (pv 0) (pv 1) (by rfl)) (
      pss_cons (psFld (K := K) (by rfl) (pv 0) (pe_callTy (callList (K := K) (by rfl)) (by rfl) T.z_list (by decide +kernel) (pa_cons (pv 2) pa_nil)) (by rfl)) (
      pss_cons (psFld (K := K) (by rfl) (pv 0) (pe_callTy (callList (K := K) (by rfl)) (by rfl) T.z_list (by decide +kernel) (pa_cons (pv 5) pa_nil)) (by rfl)) (
      pss_one (psFld (K := K) (by rfl) (pv 0) (pv 4) (by rfl)))))))))), ?_⟩
    walk_at "go"
    refine xIsiC (ty_ins R.o T.cl_Rule T.y1_Rule T T.y2_Rule) T.kit_Rule ?_
    walk_at "xs"
    refine call_check_starts (ns := [0, p.b]) hst (by simp) (by simp) (fun H1 e1 => ?_)
    walk_at "xs"
    refine xIsN (c := false) (by rfl) ?_
    walk_at "xs"
    refine call_check_outages (e1 _ _ hl) (e1 _ _ ht) O.fa (fun H2 e2 => ?_)
    walk_at "xs"
    refine call_is_integer ?_
    walk_at "xs"
    walk_at "t"
    have hx2 : H2 x = some (.ins A.c_Scene dx []) := e2 _ _ (e1 _ _ hx)
    have f2 : ∀ b o, b ≠ x → H b = some o → H2 b = some o := fun b o _ hb => e2 _ _ (e1 _ _ hb)
    refine xPutF hx2 T.cl_Scene T.na_its_rule (by simp) pf_its_rule ?_
    generalize hH3 : upd H2 x (.ins A.c_Scene dx [(("its_rule" : Str), .ref r)]) = H3
    have hx3 : H3 x = some (.ins A.c_Scene dx [(("its_rule" : Str), .ref r)]) := by rw [← hH3]; exact upd_same
    have f3 : ∀ b o, b ≠ x → H b = some o → H3 b = some o := fun b o nb hb => by rw [← hH3, upd_ne nb]; exact f2 b o nb hb
    have nst : st ≠ x := ne_of hst hx (by intro z; cases z)
    have nl : l ≠ x := ne_of hl hx (by intro z; cases z)
    have nt : t ≠ x := ne_of ht hx (by intro z; cases z)
    walk_at "xs"
    refine xListOf (f3 _ _ nst hst) (fun p1 H4 hp1 e4 h4 => ?_)
    walk_at "xs"
    have np1 : p1 ≠ x := (ne_of_none hx3 hp1).symm
    refine xPutF (e4 _ _ hx3) T.cl_Scene T.na_its_starts (by simp) pf_its_starts ?_
    generalize hH5 : upd H4 x (.ins A.c_Scene dx [(("its_rule" : Str), .ref r), (("its_starts" : Str), .ref p1)]) = H5
    have hx5 : H5 x = some (.ins A.c_Scene dx [(("its_rule" : Str), .ref r), (("its_starts" : Str), .ref p1)]) := by rw [← hH5]; exact upd_same
    have f5 : ∀ b o, b ≠ x → H b = some o → H5 b = some o := fun b o nb hb => by rw [← hH5, upd_ne nb]; exact e4 _ _ (f3 b o nb hb)
    have g5 : H5 p1 = some (.lst [.int 0, .int p.b]) := by rw [← hH5, upd_ne np1]; exact h4
    walk_at "xs"
    refine xListOf (f5 _ _ nl hl) (fun p2 H6 hp2 e6 h6 => ?_)
    walk_at "xs"
    have np2 : p2 ≠ x := (ne_of_none hx5 hp2).symm
    refine xPutF (e6 _ _ hx5) T.cl_Scene T.na_windows (by simp) pf_windows ?_
    generalize hH7 : upd H6 x (.ins A.c_Scene dx [(("its_rule" : Str), .ref r), (("its_starts" : Str), .ref p1), (("windows" : Str), .ref p2)]) = H7
    have hx7 : H7 x = some (.ins A.c_Scene dx [(("its_rule" : Str), .ref r), (("its_starts" : Str), .ref p1), (("windows" : Str), .ref p2)]) := by rw [← hH7]; exact upd_same
    have f7 : ∀ b o, b ≠ x → H b = some o → H7 b = some o := fun b o nb hb => by rw [← hH7, upd_ne nb]; exact e6 _ _ (f5 b o nb hb)
    have g7 : H7 p1 = some (.lst [.int 0, .int p.b]) := by rw [← hH7, upd_ne np1]; exact e6 _ _ g5
    have i7 : H7 p2 = some (.lst [.ref t]) := by rw [← hH7, upd_ne np2]; exact h6
    walk_at "xs"
    refine xPutF hx7 T.cl_Scene T.na_its_length (by simp) pf_its_length ?_
    generalize hH8 : upd H7 x (.ins A.c_Scene dx [(("its_rule" : Str), .ref r), (("its_starts" : Str), .ref p1), (("windows" : Str), .ref p2), (("its_length" : Str), .int p.L)]) = H8
    have f8 : ∀ b o, b ≠ x → H b = some o → H8 b = some o := fun b o nb hb => by rw [← hH8, upd_ne nb]; exact f7 b o nb hb
    have fx : ∀ b o, H b = some o → o ≠ .ins A.c_Scene dx [] → H8 b = some o := fun b o hb ne => f8 b o (ne_of hb hx ne) hb
    have nr : r ≠ x := ne_of R.o hx (fun z => by have z3 := (HO.ins.inj z).2.2; cases z3)
    have RA8 : RuleAt A H8 r p.g p.n := ⟨dxr, lr, er, sr, R.ok, f8 _ _ nr R.o, fx _ _ R.l (by intro z; cases z), fx _ _ R.e (by intro z; cases z), fx _ _ R.s (by intro z; cases z)⟩
    exact q H8 f8 ⟨dx, r, p1, p2, t, O, by rw [← hH8]; exact upd_same, RA8, by rw [← hH8, upd_ne np1]; exact g7, by rw [← hH8, upd_ne np2]; exact i7, f8 _ _ nt ht⟩
end RK
end

section
namespace RK
open PySem L2 RS
variable {P : Program} {w : World} {K : PySem.W.Frag} {mg : Str → Option Value} {base : Heap} {A : Ad}

/-- the start of a client -/
def stt (p : Par) (c : Nat) : Int := if c = 0 then 0 else p.b
theorem stt_at {p : Par} {c : Nat} (h : c ≤ 1) : ([V.int 0, V.int p.b] : List V)[c]? = some (.int (stt p c)) := by
  match c, h with
  | 0, _ => rfl
  | 1, _ => rfl
def sp_Scene_rule (A : Ad) : Sp := fun vs H Q _ => ∃ sc p, vs = [.ref sc] ∧ SceneAt A H sc p ∧ ∀ r, RuleAt A H r p.g p.n → Q (.ref r) H
theorem call_Scene_rule {H : Hp} {sc : Addr} {p : Par} {Q : VK} {E : XK} (h : SceneAt A H sc p) (q : ∀ r, RuleAt A H r p.g p.n → Q (.ref r) H) : sp_Scene_rule A (.ref sc :: ([] ++ [])) H Q E := ⟨sc, p, rfl, h, q⟩
theorem ok_Scene_rule (T : Txt K mg A) : FnOk P w K mg base CX0 1 A.f_Scene_rule A.d_Scene_rule ["self"] (sp_Scene_rule A) := by
  refine T.f_Scene_rule.ok sc_Scene_rule (fun vs H Q E h => ?_) (fun cdv AR outer s H vs Q E hr h => ?_)
  · obtain ⟨sc, p, rfl, _⟩ := h; rfl
  · obtain ⟨sc, p, rfl, ⟨dx, r, st, l, t, S⟩, q⟩ := h
    have ho := S.o
    refine ⟨_, pss_one (ps_ret (peFld (K := K) (by rfl) (pv 0) (by rfl))), ?_⟩
    walk_at "go"
    exact q _ S.r
def sp_Scene_starts (A : Ad) : Sp := fun vs H Q _ => ∃ sc p, vs = [.ref sc] ∧ SceneAt A H sc p ∧ ∀ y H1, H y = none → Ex H H1 → H1 y = some (.lst [.int 0, .int p.b]) → Q (.ref y) H1
theorem call_Scene_starts {H : Hp} {sc : Addr} {p : Par} {Q : VK} {E : XK} (h : SceneAt A H sc p) (q : ∀ y H1, H y = none → Ex H H1 → H1 y = some (.lst [.int 0, .int p.b]) → Q (.ref y) H1) : sp_Scene_starts A (.ref sc :: ([] ++ [])) H Q E := ⟨sc, p, rfl, h, q⟩
theorem ok_Scene_starts (T : Txt K mg A) : FnOk P w K mg base CX0 1 A.f_Scene_starts A.d_Scene_starts ["self"] (sp_Scene_starts A) := by
  refine T.f_Scene_starts.ok sc_Scene_starts (fun vs H Q E h => ?_) (fun cdv AR outer s H vs Q E hr h => ?_)
  · obtain ⟨sc, p, rfl, _⟩ := h; rfl
  · obtain ⟨sc, p, rfl, ⟨dx, r, st, l, t, S⟩, q⟩ := h
    have ho := S.o
    refine ⟨_, pss_one (ps_ret (pe_callTy (callList (K := K) (by rfl)) (by rfl) T.z_list (by decide +kernel) (pa_cons (peFld (K := K) (by rfl) (pv 0) (by rfl)) pa_nil))), ?_⟩
    walk_at "go"
    exact xListOf S.st q
def sp_Scene_outages (A : Ad) : Sp := fun vs H Q _ => ∃ sc p, vs = [.ref sc] ∧ SceneAt A H sc p ∧ ∀ y t H1, H y = none → Ex H H1 → H1 y = some (.lst [.ref t]) → H1 t = some (.tup [.int p.f, .int p.a]) → Q (.ref y) H1
theorem call_Scene_outages {H : Hp} {sc : Addr} {p : Par} {Q : VK} {E : XK} (h : SceneAt A H sc p) (q : ∀ y t H1, H y = none → Ex H H1 → H1 y = some (.lst [.ref t]) → H1 t = some (.tup [.int p.f, .int p.a]) → Q (.ref y) H1) : sp_Scene_outages A (.ref sc :: ([] ++ [])) H Q E := ⟨sc, p, rfl, h, q⟩
theorem ok_Scene_outages (T : Txt K mg A) : FnOk P w K mg base CX0 1 A.f_Scene_outages A.d_Scene_outages ["self"] (sp_Scene_outages A) := by
  refine T.f_Scene_outages.ok sc_Scene_outages (fun vs H Q E h => ?_) (fun cdv AR outer s H vs Q E hr h => ?_)
  · obtain ⟨sc, p, rfl, _⟩ := h; rfl
  · obtain ⟨sc, p, rfl, ⟨dx, r, st, l, t, S⟩, q⟩ := h
    have ho := S.o
    refine ⟨_, pss_one (ps_ret (pe_callTy (callList (K := K) (by rfl)) (by rfl) T.z_list (by decide +kernel) (pa_cons (peFld (K := K) (by rfl) (pv 0) (by rfl)) pa_nil))), ?_⟩
    walk_at "go"
    exact xListOf S.w (fun y H1 hy e1 h1 => q y t H1 hy e1 h1 (e1 _ _ S.t))
def sp_Scene_length (A : Ad) : Sp := fun vs H Q _ => ∃ sc p, vs = [.ref sc] ∧ SceneAt A H sc p ∧ Q (.int p.L) H
theorem call_Scene_length {H : Hp} {sc : Addr} {p : Par} {Q : VK} {E : XK} (h : SceneAt A H sc p) (q : Q (.int p.L) H) : sp_Scene_length A (.ref sc :: ([] ++ [])) H Q E := ⟨sc, p, rfl, h, q⟩
theorem ok_Scene_length (T : Txt K mg A) : FnOk P w K mg base CX0 1 A.f_Scene_length A.d_Scene_length ["self"] (sp_Scene_length A) := by
  refine T.f_Scene_length.ok sc_Scene_length (fun vs H Q E h => ?_) (fun cdv AR outer s H vs Q E hr h => ?_)
  · obtain ⟨sc, p, rfl, _⟩ := h; rfl
  · obtain ⟨sc, p, rfl, ⟨dx, r, st, l, t, S⟩, q⟩ := h
    have ho := S.o
    refine ⟨_, pss_one (ps_ret (peFld (K := K) (by rfl) (pv 0) (by rfl))), ?_⟩
    walk_at "go"
    exact q
def sp_Scene_check_client (A : Ad) : Sp := fun vs H Q _ => ∃ sc p, ∃ c : Nat, vs = [.ref sc, .int (c : Int)] ∧ SceneAt A H sc p ∧ c ≤ 1 ∧ Q .non H
theorem call_Scene_check_client {H : Hp} {sc : Addr} {p : Par} {c : Nat} {x : Int} {Q : VK} {E : XK} (h : SceneAt A H sc p) (e : x = (c : Int)) (hc : c ≤ 1) (q : Q .non H) : sp_Scene_check_client A (.ref sc :: ([.int x] ++ [])) H Q E := ⟨sc, p, c, by rw [e]; rfl, h, hc, q⟩
theorem ok_Scene_check_client (T : Txt K mg A) : FnOk P w K mg base CX0 3 A.f_Scene_check_client A.d_Scene_check_client ["self", "client"] (sp_Scene_check_client A) := by
  refine T.f_Scene_check_client.ok sc_Scene_check_client (fun vs H Q E h => ?_) (fun cdv AR outer s H vs Q E hr h => ?_)
  · obtain ⟨sc, p, c, rfl, _⟩ := h; rfl
  · obtain ⟨sc, p, c, rfl, ⟨dx, r, st, l, t, S⟩, hc, q⟩ := h
    have ho := S.o
    have hst := S.st
    refine ⟨_, pss_one (ps_if (pt_not (pt_val (pe_call (ok_is_between T) (hr.mono (by decide)) (by rfl) T.g_is_between T.f_is_between.kp T.b_is_between .nil pass0 (pa_cons (pv 1) (pa_cons pe_int (pa_cons (pe_op op_sub (pe_callB (callLen (K := K) (by rfl)) (by rfl) T.z_len (by decide +kernel) (pa_cons (peFld (K := K) (by rfl) (pv 0) (by rfl)) pa_nil)) pe_int) pa_nil)))))) (pss_one ps_never) pss_nil), ?_⟩
    walk_at "go"
    refine call_is_between ?_
    walk_at "xs"
    walk_at "t"
    exact q
def sp_Scene_slot_of (A : Ad) : Sp := fun vs H Q _ => ∃ sc p, ∃ c k : Nat, vs = [.ref sc, .int (c : Int), .int (k : Int)] ∧ SceneAt A H sc p ∧ c ≤ 1 ∧ Q (.int (stt p c + p.o k)) H
theorem call_Scene_slot_of {H : Hp} {sc : Addr} {p : Par} {c k : Nat} {x y : Int} {Q : VK} {E : XK} (h : SceneAt A H sc p) (e : x = (c : Int)) (e2 : y = (k : Int)) (hc : c ≤ 1) (q : Q (.int (stt p c + p.o k)) H) : sp_Scene_slot_of A (.ref sc :: ([.int x, .int y] ++ [])) H Q E :=
  ⟨sc, p, c, k, by rw [e, e2]; rfl, h, hc, q⟩
theorem ok_Scene_slot_of (T : Txt K mg A) : FnOk P w K mg base CX0 4 A.f_Scene_slot_of A.d_Scene_slot_of ["self", "client", "attempt"] (sp_Scene_slot_of A) := by
  refine T.f_Scene_slot_of.ok sc_Scene_slot_of (fun vs H Q E h => ?_) (fun cdv AR outer s H vs Q E hr h => ?_)
  · obtain ⟨sc, p, c, k, rfl, _⟩ := h; rfl
  · obtain ⟨sc, p, c, k, rfl, SA, hc, q⟩ := h
    obtain ⟨dx, r, st, l, t, S⟩ := id SA
    have ho := S.o
    have hst := S.st
    have hR := S.r
    refine ⟨_, pss_cons (ps_expr (pe_meth (pv 0) T.cl_Scene T.m_Scene_check_client (ok_Scene_check_client T) (hr.mono (by decide)) T.b_Scene_check_client .nil pass0 (pa_cons (pv 1) pa_nil))) (
      pss_one (ps_ret (pe_op op_add (pe_ix (ixL (K := K) (by rfl)) (peFld (K := K) (by rfl) (pv 0) (by rfl)) (pv 1) (fun _ _ => rfl)) (pe_meth (peFld (K := K) (by rfl) (pv 0) (by rfl)) T.cl_Rule T.m_Rule_offset (ok_Rule_offset T) (hr.mono (by decide)) T.b_Rule_offset .nil pass0 (pa_cons (pv 2) pa_nil))))), ?_⟩
    walk_at "go"
    refine call_Scene_check_client SA rfl hc ?_
    walk_at "xs"
    refine xIxL hst (at_of rfl (stt_at hc)) ?_
    walk_at "xs"
    refine call_Rule_offset hR rfl ?_
    walk_at "xs"
    exact q
def sp_Scene_attempt_in (A : Ad) : Sp := fun vs H Q _ => ∃ sc p, ∃ c : Nat, ∃ s : Int, vs = [.ref sc, .int (c : Int), .int s] ∧ SceneAt A H sc p ∧ c ≤ 1 ∧ ∀ H1, Ex H H1 → Q (if p.o (p.F (s - stt p c)) = s - stt p c then .int (p.F (s - stt p c) : Int) else .non) H1
theorem call_Scene_attempt_in {H : Hp} {sc : Addr} {p : Par} {c : Nat} {x s : Int} {Q : VK} {E : XK} (h : SceneAt A H sc p) (e : x = (c : Int)) (hc : c ≤ 1)
    (q : ∀ H1, Ex H H1 → Q (if p.o (p.F (s - stt p c)) = s - stt p c then .int (p.F (s - stt p c) : Int) else .non) H1) : sp_Scene_attempt_in A (.ref sc :: ([.int x, .int s] ++ [])) H Q E :=
  ⟨sc, p, c, s, by rw [e]; rfl, h, hc, q⟩
theorem ok_Scene_attempt_in (T : Txt K mg A) : FnOk P w K mg base CX0 5 A.f_Scene_attempt_in A.d_Scene_attempt_in ["self", "client", "slot"] (sp_Scene_attempt_in A) := by
  refine T.f_Scene_attempt_in.ok sc_Scene_attempt_in (fun vs H Q E h => ?_) (fun cdv AR outer s H vs Q E hr h => ?_)
  · obtain ⟨sc, p, c, k, rfl, _⟩ := h; rfl
  · obtain ⟨sc, p, c, k, rfl, SA, hc, q⟩ := h
    obtain ⟨dx, r, st, l, t, S⟩ := id SA
    have ho := S.o
    have hst := S.st
    have hR := S.r
    refine ⟨_, pss_cons (ps_expr (pe_meth (pv 0) T.cl_Scene T.m_Scene_check_client (ok_Scene_check_client T) (hr.mono (by decide)) T.b_Scene_check_client .nil pass0 (pa_cons (pv 1) pa_nil))) (
      pss_cons (ps_if (pt_not (pt_val (pe_call (ok_is_integer T) (hr.mono (by decide)) (by rfl) T.g_is_integer T.f_is_integer.kp T.b_is_integer .nil pass0 (pa_cons (pv 2) pa_nil)))) (pss_one ps_never) pss_nil) (
      pss_one (ps_ret (pe_meth (peFld (K := K) (by rfl) (pv 0) (by rfl)) T.cl_Rule T.m_Rule_attempt_at (ok_Rule_attempt_at T) (hr.mono (by decide)) T.b_Rule_attempt_at .nil pass0 (pa_cons (pe_op op_sub (pv 2) (pe_ix (ixL (K := K) (by rfl)) (peFld (K := K) (by rfl) (pv 0) (by rfl)) (pv 1) (fun _ _ => rfl))) pa_nil))))), ?_⟩
    walk_at "go"
    refine call_Scene_check_client SA rfl hc ?_
    walk_at "xs"
    refine call_is_integer ?_
    walk_at "xs"
    refine xIxL hst (at_of rfl (stt_at hc)) ?_
    walk_at "xs"
    exact call_Rule_attempt_at hR q
def sp_Scene_outage_at (A : Ad) : Sp := fun vs H Q _ => ∃ sc p, ∃ s : Int, vs = [.ref sc, .int s] ∧ SceneAt A H sc p ∧ ∀ H1, Ex H H1 → Q (if p.f ≤ s ∧ s < p.a then .int 0 else .non) H1
theorem call_Scene_outage_at {H : Hp} {sc : Addr} {p : Par} {s : Int} {Q : VK} {E : XK} (h : SceneAt A H sc p) (q : ∀ H1, Ex H H1 → Q (if p.f ≤ s ∧ s < p.a then .int 0 else .non) H1) : sp_Scene_outage_at A (.ref sc :: ([.int s] ++ [])) H Q E :=
  ⟨sc, p, s, rfl, h, q⟩
theorem ok_Scene_outage_at (T : Txt K mg A) : FnOk P w K mg base CX0 2 A.f_Scene_outage_at A.d_Scene_outage_at ["self", "slot"] (sp_Scene_outage_at A) := by
  refine T.f_Scene_outage_at.ok sc_Scene_outage_at (fun vs H Q E h => ?_) (fun cdv AR outer s H vs Q E hr h => ?_)
  · obtain ⟨sc, p, z, rfl, _⟩ := h; rfl
  · obtain ⟨sc, p, z, rfl, SA, q⟩ := h
    obtain ⟨dx, r, st, l, t, S⟩ := id SA
    have ho := S.o
    have hw := S.w
    have ht := S.t
    refine ⟨_, pss_cons (ps_if (pt_not (pt_val (pe_call (ok_is_integer T) (hr.mono (by decide)) (by rfl) T.g_is_integer T.f_is_integer.kp T.b_is_integer .nil pass0 (pa_cons (pv 1) pa_nil)))) (pss_one ps_never) pss_nil) (
      pss_one (ps_ret (pe_ix (ixL (K := K) (by rfl)) (pe_op op_cat (pe_lc (own := [("at", 2), ("outage", 3)]) (by rfl) sc_Scene_outage_at.nd (piEnum (K := K) (by rfl) (by rfl) T.z_enumerate (pa_cons (peFld (K := K) (by rfl) (pv 0) (by rfl)) pa_nil)) (blkOk_by (own := [("at", 2), ("outage", 3)]) (N := n_Scene_outage_at) (sc := (defScope s_Scene_outage_at)) (by decide +kernel)) (fun _ _ _ _ _ => (pgTup (K := K) 2 (by rfl) (by rfl) (pgs_cons (pg_name (i := 2) sc_Scene_outage_at.nd (by rfl) (by first | exact Or.inl rfl | exact Or.inr rfl)) (pgs_cons (pg_name (i := 3) sc_Scene_outage_at.nd (by rfl) (by first | exact Or.inl rfl | exact Or.inr rfl)) pgs_nil)))) (fun _ _ _ _ _ => (pts_one (pt_chain op_le op_lt (pe_ix (ixT (K := K) (by rfl)) (pv 3) pe_int (fun _ _ => rfl)) (pv 1) (pe_ix (ixT (K := K) (by rfl)) (pv 3) pe_int (fun _ _ => rfl))))) (fun _ _ _ _ _ => (pv 2))) (pe_lst (pa_cons pe_non pa_nil))) pe_int (fun _ _ => rfl)))), ?_⟩
    walk_at "go"
    refine call_is_integer ?_
    walk_at "xs"
    refine cgoEnum hw (by simp) (fun i _ => if p.f ≤ z ∧ z < p.a then some (.int (i : Int)) else none) ?_ ?_
    · intro i x T2 H1 Y1 N1 hi e1 hT hY hN
      obtain ⟨rfl, rfl⟩ : i = 0 ∧ x = .ref t := by
        cases i with
        | zero => exact ⟨rfl, (Option.some.inj hi).symm⟩
        | succ i => cases hi
      walk_at "xs"
      refine ⟨rfl, ?_⟩
      walk_at "xs"
      refine itD (fun h1 => ?_) (fun h1 => ?_)
      · walk_at "xs"
        refine itD (fun h2 => ?_) (fun h2 => ?_)
        · walk_at "xs"
          exact hY _ _ (ex_refl _) (if_pos ⟨h1, h2⟩)
        · exact hN _ (ex_refl _) (if_neg fun q => h2 q.2)
      · walk_at "xs"
        exact hN _ (ex_refl _) (if_neg fun q => h1 q.1)
    · intro y H1 hy e1 h1
      walk_at "xs"
      have eb : (List.range ([V.ref t] : List V).length).filterMap (fun (i : Nat) => ([V.ref t] : List V)[i]?.bind fun _ => if p.f ≤ z ∧ z < p.a then some (V.int (i : Int)) else none) = if p.f ≤ z ∧ z < p.a then [.int 0] else [] := by
        by_cases c : p.f ≤ z ∧ z < p.a
        · simp [c, List.range_succ]
        · simp [c, List.range_succ]
      rw [eb] at h1
      refine xNewL (by simp) (fun y2 H2 hy2 e2 h2 => ?_)
      refine xCat (e2 _ _ h1) h2 (by split <;> simp) (fun y3 H3 hy3 e3 h3 => ?_)
      walk_at "xs"
      have q3 := q H3 ((e1.trans e2).trans e3)
      by_cases c : p.f ≤ z ∧ z < p.a
      · rw [if_pos c] at h3 q3
        exact xIxL h3 rfl q3
      · rw [if_neg c] at h3 q3
        exact xIxL h3 rfl q3
/-- the listed slots of a client -/
def lsl (p : Par) (c : Nat) : List Int := (List.range (p.g.length - p.n + 1)).map fun k => stt p c + p.o k
def sp_Scene_listed_slots (A : Ad) : Sp := fun vs H Q _ => ∃ sc p, ∃ c : Nat, vs = [.ref sc, .int (c : Int)] ∧ SceneAt A H sc p ∧ c ≤ 1 ∧ ∀ y H1, H y = none → Ex H H1 → H1 y = some (.lst ((lsl p c).map V.int)) → Q (.ref y) H1
theorem call_Scene_listed_slots {H : Hp} {sc : Addr} {p : Par} {c : Nat} {x : Int} {Q : VK} {E : XK} (h : SceneAt A H sc p) (e : x = (c : Int)) (hc : c ≤ 1) (q : ∀ y H1, H y = none → Ex H H1 → H1 y = some (.lst ((lsl p c).map V.int)) → Q (.ref y) H1) :
    sp_Scene_listed_slots A (.ref sc :: ([.int x] ++ [])) H Q E := ⟨sc, p, c, by rw [e]; rfl, h, hc, q⟩
theorem ok_Scene_listed_slots (T : Txt K mg A) : FnOk P w K mg base CX0 3 A.f_Scene_listed_slots A.d_Scene_listed_slots ["self", "client"] (sp_Scene_listed_slots A) := by
  refine T.f_Scene_listed_slots.ok sc_Scene_listed_slots (fun vs H Q E h => ?_) (fun cdv AR outer s H vs Q E hr h => ?_)
  · obtain ⟨sc, p, c, rfl, _⟩ := h; rfl
  · obtain ⟨sc, p, c, rfl, SA, hc, q⟩ := h
    obtain ⟨dx, r, st, l, t, S⟩ := id SA
    have ho := S.o
    have hst := S.st
    have hR := S.r
    have n1 := S.ok.rok.n1
    have nl := S.ok.rok.nl
    have l20 := S.ok.rok.l20
    refine ⟨_, pss_cons (ps_set (i := 2) sc_Scene_listed_slots.nd (by rfl) (by first | exact Or.inl rfl | exact Or.inr rfl) (pe_op op_sub (pe_callB (callLen (K := K) (by rfl)) (by rfl) T.z_len (by decide +kernel) (pa_cons (pe_meth0 (peFld (K := K) (by rfl) (pv 0) (by rfl)) T.cl_Rule T.m_Rule_gaps (ok_Rule_gaps T) (hr.mono (by decide)) T.b_Rule_gaps .nil pass0) pa_nil)) (pe_ix (ixT (K := K) (by rfl)) (pe_meth0 (peFld (K := K) (by rfl) (pv 0) (by rfl)) T.cl_Rule T.m_Rule_tail (ok_Rule_tail T) (hr.mono (by decide)) T.b_Rule_tail .nil pass0) pe_int (fun _ _ => rfl)))) (
      pss_one (ps_ret (pe_lc (own := [("attempt", 3)]) (by rfl) sc_Scene_listed_slots.nd (pi_range1 (by rfl) T.z_range (pa_cons (pe_op op_add (pv 2) pe_int) pa_nil)) (blkOk_by (own := [("attempt", 3)]) (N := n_Scene_listed_slots) (sc := (defScope s_Scene_listed_slots)) (by decide +kernel)) (fun _ _ _ _ _ => (pg_name (i := 3) sc_Scene_listed_slots.nd (by rfl) (by first | exact Or.inl rfl | exact Or.inr rfl))) (fun _ _ _ _ _ => pts_nil) (fun _ _ _ _ _ => (pe_op op_add (pe_ix (ixL (K := K) (by rfl)) (peFld (K := K) (by rfl) (pv 0) (by rfl)) (pv 1) (fun _ _ => rfl)) (pe_meth (peFld (K := K) (by rfl) (pv 0) (by rfl)) T.cl_Rule T.m_Rule_offset_of (ok_Rule_offset_of T) (hr.mono (by decide)) T.b_Rule_offset_of .nil pass0 (pa_cons (pv 3) pa_nil))))))), ?_⟩
    walk_at "go"
    refine call_Rule_gaps hR (fun y1 H1 hy1 e1 h1 => ?_)
    walk_at "xs"
    refine call_Rule_tail (rule_ex e1 hR) (fun e he => ?_)
    walk_at "xs"
    rw [List.length_map, show (p.g.length : Int) - (p.n : Int) + 1 = ((p.g.length - p.n + 1 : Nat) : Int) by omega]
    refine cgoRng (by omega) (fun k => some (.int (stt p c + p.o k))) ?_ ?_
    · intro k H2 Y1 N1 hk e2 hY hN
      walk_at "xs"
      refine ⟨rfl, ?_⟩
      walk_at "xs"
      refine xIxL (e2 _ _ (e1 _ _ hst)) (at_of rfl (stt_at hc)) ?_
      walk_at "xs"
      refine call_Rule_offset_of (rule_ex e2 (rule_ex e1 hR)) rfl ?_
      walk_at "xs"
      exact hY _ _ (ex_refl _) rfl
    · intro y H2 hy e2 h2
      refine q y H2 (ex_free e1 hy) (e1.trans e2) ?_
      rw [h2, lsl, List.map_map, ← List.filterMap_eq_map]
      rfl
end RK
end

section
namespace RK
open PySem L2 RS
variable {P : Program} {w : World} {K : PySem.W.Frag} {mg : Str → Option Value} {base : Heap} {A : Ad}

/-- the moments of a scene -/
def mom (p : Par) : List Int := [0, p.b] ++ [p.f, p.a] ++ (lsl p 0 ++ lsl p 1)
theorem lsl_length (p : Par) (c : Nat) : (lsl p c).length = p.g.length - p.n + 1 := by unfold lsl; rw [List.length_map, List.length_range]
theorem mom_length {p : Par} (O : p.Ok) : (mom p).length < 64 := by
  have h := O.rok.l20
  unfold mom
  simp only [List.length_append, lsl_length, List.length_cons, List.length_nil]
  omega
theorem mom_nn {p : Par} (O : p.Ok) : ∀ x, x ∈ mom p → 0 ≤ x := by
  intro x hx
  have h1 := O.b1
  have h2 := O.f1
  have h3 := O.fa
  unfold mom lsl at hx
  simp only [List.mem_append, List.mem_cons, List.mem_map, List.not_mem_nil, or_false] at hx
  rcases hx with ((rfl | rfl) | (rfl | rfl)) | (⟨k, _, rfl⟩ | ⟨k, _, rfl⟩)
  · omega
  · omega
  · omega
  · omega
  · have := O.o_nn k
    show 0 ≤ (0 : Int) + p.o k
    omega
  · have := O.o_nn k
    show 0 ≤ p.b + p.o k
    omega
theorem mom_0 {p : Par} : (0 : Int) ∈ mom p := by unfold mom; simp
theorem mom_b {p : Par} : p.b ∈ mom p := by unfold mom; simp
theorem mom_a {p : Par} : p.a ∈ mom p := by unfold mom; simp
theorem mom_t {p : Par} {k : Nat} (h : k ≤ p.g.length - p.n) : p.t k ∈ mom p := by
  refine List.mem_append_right _ (List.mem_append_right _ ?_)
  exact List.mem_map.mpr ⟨k, List.mem_range.mpr (by omega), rfl⟩

def sp_Scene_moments (A : Ad) : Sp := fun vs H Q _ => ∃ sc p, vs = [.ref sc] ∧ SceneAt A H sc p ∧ ∀ y (ns : List Int) H1, H y = none → Ex H H1 → ns.Perm (mom p) → ns.Pairwise (· ≤ ·) → H1 y = some (.lst (ns.map V.int)) → Q (.ref y) H1
theorem call_Scene_moments {H : Hp} {sc : Addr} {p : Par} {Q : VK} {E : XK} (h : SceneAt A H sc p) (q : ∀ y (ns : List Int) H1, H y = none → Ex H H1 → ns.Perm (mom p) → ns.Pairwise (· ≤ ·) → H1 y = some (.lst (ns.map V.int)) → Q (.ref y) H1) :
    sp_Scene_moments A (.ref sc :: ([] ++ [])) H Q E := ⟨sc, p, rfl, h, q⟩
theorem ok_Scene_moments (T : Txt K mg A) : FnOk P w K mg base CX0 4 A.f_Scene_moments A.d_Scene_moments ["self"] (sp_Scene_moments A) := by
  refine T.f_Scene_moments.ok sc_Scene_moments (fun vs H Q E h => ?_) (fun cdv AR outer s H vs Q E hr h => ?_)
  · obtain ⟨sc, p, rfl, _⟩ := h; rfl
  · obtain ⟨sc, p, rfl, SA, q⟩ := h
    obtain ⟨dx, r, st, l, t, S⟩ := id SA
    have ho := S.o
    have hst := S.st
    have hw := S.w
    have ht := S.t
    have hR := S.r
    have l20 := S.ok.rok.l20
    have sz : sizeLine = 16777216 := sizeLine_eq
    refine ⟨_, pss_cons (ps_set (i := 1) sc_Scene_moments.nd (by rfl) (by first | exact Or.inl rfl | exact Or.inr rfl) (pe_callTy (callList (K := K) (by rfl)) (by rfl) T.z_list (by decide +kernel) (pa_cons (peFld (K := K) (by rfl) (pv 0) (by rfl)) pa_nil))) (
      pss_cons (ps_for PassesOwn.never (by rfl) (piList (K := K) (by rfl) (peFld (K := K) (by rfl) (pv 0) (by rfl))) (pg_name (i := 2) sc_Scene_moments.nd (by rfl) (by first | exact Or.inl rfl | exact Or.inr rfl)) (pss_one (ps_expr (peBm (K := K) (by rfl) PySem.F.plainAttrs_list PySem.F.slot_list_extend PySem.F.type_list_extend mt_extendT (pv 1) (pa_cons (pv 2) pa_nil))))) (
      pss_cons (ps_if (pt_cmpR op_notN1 (pe_meth0 (peFld (K := K) (by rfl) (pv 0) (by rfl)) T.cl_Rule T.m_Rule_period (ok_Rule_period T) (hr.mono (by decide)) T.b_Rule_period .nil pass0) pe_non (nomark _)) (pss_one (ps_for PassesOwn.never (by rfl) (pi_range1 (by rfl) T.z_range (pa_cons (pe_callB (callLen (K := K) (by rfl)) (by rfl) T.z_len (by decide +kernel) (pa_cons (peFld (K := K) (by rfl) (pv 0) (by rfl)) pa_nil)) pa_nil)) (pg_name (i := 3) sc_Scene_moments.nd (by rfl) (by first | exact Or.inl rfl | exact Or.inr rfl)) (pss_one (ps_expr (peBm (K := K) (by rfl) PySem.F.plainAttrs_list PySem.F.slot_list_extend PySem.F.type_list_extend mt_extend (pv 1) (pa_cons (pe_meth (pv 0) T.cl_Scene T.m_Scene_listed_slots (ok_Scene_listed_slots T) (hr.mono (by decide)) T.b_Scene_listed_slots .nil pass0 (pa_cons (pv 3) pa_nil)) pa_nil)))))) pss_nil) (
      pss_one (ps_ret (pe_callB (callSorted (K := K) (by rfl)) (by rfl) T.z_sorted (by decide +kernel) (pa_cons (pv 1) pa_nil)))))), ?_⟩
    walk_at "go"
    refine xListOf hst (fun y1 H1 hy1 e1 h1 => ?_)
    walk_at "xs"
    refine xForList (e1 _ _ hw) (fun i σ' H' => (∃ y, σ' = [some (.ref sc), some (.ref y1), y, none]) ∧ Ex H H' ∧ H' y1 = some (.lst (([0, p.b] ++ if i = 0 then [] else [p.f, p.a]).map V.int)))
      ⟨⟨_, rfl⟩, e1, by rw [h1]; rfl⟩ (fun i σ' H' q => q.2.1 _ _ hw) ?_ ?_
    · rintro i x σ' H' hi ⟨⟨y0, rfl⟩, e2, h2⟩
      obtain ⟨rfl, rfl⟩ : i = 0 ∧ x = .ref t := by
        cases i with
        | zero => exact ⟨rfl, (Option.some.inj hi).symm⟩
        | succ i => cases hi
      walk_at "xs"
      refine ⟨tyL h2, ?_⟩
      walk_at "xs"
      refine ⟨y1, t, _, _, rfl, rfl, h2, e2 _ _ ht, by simp, ?_⟩
      exact ⟨⟨_, rfl⟩, ex_mut e2 hy1, upd_same⟩
    · rintro σ' H' ⟨⟨y0, rfl⟩, e2, h2⟩
      have hR2 := rule_ex e2 hR
      walk_at "xs"
      refine call_Rule_period hR2 ?_
      walk_at "xs"
      refine xNotN (c := true) (by rfl) ?_
      walk_at "xs"
      refine xForRng (n := 2) (by decide) (fun i σ' H' => (∃ y z, σ' = [some (.ref sc), some (.ref y1), y, z]) ∧ Ex H H' ∧
        H' y1 = some (.lst (([0, p.b] ++ [p.f, p.a] ++ ((if i = 0 then [] else lsl p 0) ++ if i ≤ 1 then [] else lsl p 1)).map V.int))) ⟨⟨_, _, rfl⟩, e2, by rw [h2]; rfl⟩ ?_ ?_
      · rintro i σ' H3 hi ⟨⟨y2, y3, rfl⟩, e3, h3⟩
        walk_at "xs"
        refine ⟨tyL h3, ?_⟩
        walk_at "xs"
        refine call_Scene_listed_slots (scene_ex e3 SA) rfl (by omega) (fun y4 H4 hy4 e4 h4 => ?_)
        walk_at "xs"
        refine ⟨y1, y4, _, _, rfl, rfl, e4 _ _ h3, h4, ?_, ?_⟩
        · have := lsl_length p 0
          have := lsl_length p 1
          have := lsl_length p i
          rw [List.length_map, List.length_map]
          match i, hi with
          | 0, _ => simp only [List.length_append, List.length_cons, List.length_nil]; simp; omega
          | 1, _ => simp only [List.length_append, List.length_cons, List.length_nil]; simp; omega
        · refine ⟨⟨_, _, rfl⟩, ex_mut (e3.trans e4) hy1, ?_⟩
          rw [upd_same, ← List.map_append]
          match i, hi with
          | 0, _ => simp
          | 1, _ => simp
      · rintro σ' H3 ⟨⟨y2, y3, rfl⟩, e3, h3⟩
        walk_at "xs"
        refine ⟨y1, mom p, rfl, SqL.of h3, mom_length S.ok, fun ns y hp hs hy => ?_⟩
        exact q y ns _ (ex_free e3 hy) (e3.trans (ex_new hy)) hp hs upd_same
end RK
end

section
/-! RKit3: the state of a run while it is made. -/
namespace RK
open PySem L2 RS
/-! ### the state of a run while it is made -/
structure Rd where
  dx : Addr
  sc : Addr
  r : Addr
  bg : Addr
  ch : Addr
  sv : Addr
  cl : Addr
  wt : Addr
  ns : List Int
structure RunS (A : Ad) (H : Hp) (x : Addr) (p : Par) (d : Rd) (svs wts : List (Key × V)) (ff : Int) : Prop where
  ok : p.Ok
  o : H x = some (.ins A.c_Run d.dx (runF d.sc d.r d.bg d.ch d.sv d.cl d.wt ff))
  sc : SceneAt A H d.sc p
  r : RuleAt A H d.r p.g p.n
  bg : H d.bg = some (.lst [.int 0, .int p.b])
  ch : H d.ch = some (.lst (d.ns.map V.int))
  pm : d.ns.Perm (mom p)
  sv : H d.sv = some (.dK svs)
  cl : H d.cl = some (.dK [])
  wt : H d.wt = some (.dK wts)
  d1 : d.sv ≠ d.wt
  d2 : d.cl ≠ d.wt
  d3 : d.cl ≠ d.sv
/-- all stands but at the three places that a run writes -/
def Fr (x a b : Addr) (H H' : Hp) : Prop := ∀ c o, c ≠ x → c ≠ a → c ≠ b → H c = some o → H' c = some o
theorem fr_ex {x a b : Addr} {H H' : Hp} (e : Ex H H') : Fr x a b H H' := fun c o _ _ _ h => e c o h
theorem Fr.trans {x a b : Addr} {H H1 H2 : Hp} (f : Fr x a b H H1) (g : Fr x a b H1 H2) : Fr x a b H H2 := fun c o h1 h2 h3 h => g c o h1 h2 h3 (f c o h1 h2 h3 h)
theorem fr_x {x a b : Addr} {H : Hp} {o : HO} : Fr x a b H (upd H x o) := fun c _ h1 _ _ h => by rw [upd_ne h1]; exact h
theorem fr_a {x a b : Addr} {H : Hp} {o : HO} : Fr x a b H (upd H a o) := fun c _ _ h1 _ h => by rw [upd_ne h1]; exact h
theorem fr_b {x a b : Addr} {H : Hp} {o : HO} : Fr x a b H (upd H b o) := fun c _ _ _ h1 h => by rw [upd_ne h1]; exact h
/-- what no run writes: neither a dict nor an object of eight fields -/
def Calm (o : HO) : Prop := (∀ k, o ≠ .dK k) ∧ ∀ C dx fs, o = .ins C dx fs → fs.length ≠ 8
theorem calm_lst {xs : List V} : Calm (.lst xs) := ⟨fun _ z => (by cases z), fun _ _ _ z => (by cases z)⟩
theorem calm_tup {xs : List V} : Calm (.tup xs) := ⟨fun _ z => (by cases z), fun _ _ _ z => (by cases z)⟩
theorem calm_rule {C dx l e s : Addr} : Calm (.ins C dx (ruleF l e s)) := ⟨fun _ z => (by cases z), fun _ _ _ z => (by cases z; exact fun q => absurd (show (3 : Nat) = 8 from q) (by decide))⟩
theorem calm_scene {C dx r st w : Addr} {L : Int} : Calm (.ins C dx (sceneF r st w L)) := ⟨fun _ z => (by cases z), fun _ _ _ z => (by cases z; exact fun q => absurd (show (4 : Nat) = 8 from q) (by decide))⟩
section
variable {A : Ad} {H H' : Hp} {x : Addr} {p : Par} {d : Rd} {svs wts svs' wts' : List (Key × V)} {ff ff' : Int}
/-- what stands at calm places stays -/
def Keeps (H H' : Hp) : Prop := ∀ b o, Calm o → H b = some o → H' b = some o
theorem keeps_ex (e : Ex H H') : Keeps H H' := fun b o _ h => e b o h
theorem Keeps.trans {H1 H2 : Hp} (f : Keeps H H1) (g : Keeps H1 H2) : Keeps H H2 := fun b o c h => g b o c (f b o c h)
theorem keeps_rule {r : Addr} {g : List Int} {n : Nat} (f : Keeps H H') (h : RuleAt A H r g n) : RuleAt A H' r g n :=
  let ⟨dx, l, e, s, ⟨a, b, c, k, m⟩⟩ := h; ⟨dx, l, e, s, ⟨a, f _ _ calm_rule b, f _ _ calm_lst c, f _ _ calm_tup k, f _ _ calm_lst m⟩⟩
theorem keeps_scene {sc : Addr} (f : Keeps H H') (h : SceneAt A H sc p) : SceneAt A H' sc p :=
  let ⟨dx, r, st, w, t, ⟨a, b, c, k, e, m⟩⟩ := h; ⟨dx, r, st, w, t, ⟨a, f _ _ calm_scene b, keeps_rule f c, f _ _ calm_lst k, f _ _ calm_lst e, f _ _ calm_tup m⟩⟩
theorem RunS.keeps (S : RunS A H x p d svs wts ff) (f : Fr x d.sv d.wt H H') : Keeps H H' := fun b o c h => by
  refine f b o (fun z => ?_) (fun z => ?_) (fun z => ?_) h
  · subst z; rw [S.o] at h; cases h; exact c.2 _ _ _ rfl (by rfl)
  · subst z; rw [S.sv] at h; cases h; exact c.1 _ rfl
  · subst z; rw [S.wt] at h; cases h; exact c.1 _ rfl
theorem RunS.put (S : RunS A H x p d svs wts ff) (f : Fr x d.sv d.wt H H') (o : H' x = some (.ins A.c_Run d.dx (runF d.sc d.r d.bg d.ch d.sv d.cl d.wt ff'))) (sv : H' d.sv = some (.dK svs')) (wt : H' d.wt = some (.dK wts')) :
    RunS A H' x p d svs' wts' ff' where
  ok := S.ok
  o := o
  sc := keeps_scene (S.keeps f) S.sc
  r := keeps_rule (S.keeps f) S.r
  bg := S.keeps f _ _ calm_lst S.bg
  ch := S.keeps f _ _ calm_lst S.ch
  pm := S.pm
  sv := sv
  cl := f _ _ (ne_of S.cl S.o (by intro z; cases z)) S.d3 S.d2 S.cl
  wt := wt
  d1 := S.d1
  d2 := S.d2
  d3 := S.d3
theorem RunS.ex (S : RunS A H x p d svs wts ff) (e : Ex H H') : RunS A H' x p d svs wts ff := S.put (fr_ex e) (e _ _ S.o) (e _ _ S.sv) (e _ _ S.wt)
theorem RunS.nxs (S : RunS A H x p d svs wts ff) : x ≠ d.sv := ne_of S.o S.sv (by intro z; cases z)
theorem RunS.nxw (S : RunS A H x p d svs wts ff) : x ≠ d.wt := ne_of S.o S.wt (by intro z; cases z)
theorem RunS.nxc (S : RunS A H x p d svs wts ff) : x ≠ d.cl := ne_of S.o S.cl (by intro z; cases z)
theorem RunS.setW (S : RunS A H x p d svs wts ff) : RunS A (upd H d.wt (.dK wts')) x p d svs wts' ff :=
  S.put fr_b (by rw [upd_ne S.nxw]; exact S.o) (by rw [upd_ne S.d1]; exact S.sv) upd_same
theorem RunS.setS (S : RunS A H x p d svs wts ff) : RunS A (upd H d.sv (.dK svs')) x p d svs' wts ff :=
  S.put fr_a (by rw [upd_ne S.nxs]; exact S.o) upd_same (by rw [upd_ne S.d1.symm]; exact S.wt)
theorem RunS.setF (S : RunS A H x p d svs wts ff) : RunS A (upd H x (.ins A.c_Run d.dx (runF d.sc d.r d.bg d.ch d.sv d.cl d.wt ff'))) x p d svs wts ff' :=
  S.put fr_x upd_same (by rw [upd_ne S.nxs.symm]; exact S.sv) (by rw [upd_ne S.nxw.symm]; exact S.wt)
end
theorem pf_ff {a b c d e f g : Addr} {i j : Int} : putF "free_from" (.int j) (runF a b c d e f g i) = runF a b c d e f g j := by kernel_rfl
end RK
end

section
/-! RSRun: the phases of client 1 while the run is made. -/
namespace RS
open RK
variable {p : Par}
/-- how far client 1 still has to go -/
def ms (p : Par) (k : Nat) : Nat := if p.t k < p.L then 3 else if p.f ≤ p.t k ∧ p.t k < p.a then 2 else 1
def Good (p : Par) (k : Nat) : Prop := (∀ j, j < k → p.why j ≠ .srv) ∧ (k = 0 ∨ ∃ E, (E = p.L ∨ E = p.a) ∧ k = p.F (E - p.b))
theorem t_eq (k : Nat) : p.t k = p.b + p.o k := rfl
theorem t_mono (O : p.Ok) {j k : Nat} (h : j ≤ k) : p.t j ≤ p.t k := by
  have : p.o j ≤ p.o k := off_mono O.rok h
  rw [t_eq, t_eq]
  omega
theorem good_0 : Good p 0 := ⟨fun j h => by omega, .inl rfl⟩
theorem t_F (O : p.Ok) (E : Int) : E ≤ p.t (p.F (E - p.b)) := by
  have := O.o_F (E - p.b)
  rw [t_eq]
  omega
theorem lt_t (O : p.Ok) {E : Int} {j : Nat} (h : j < p.F (E - p.b)) : p.t j < E := by
  have := O.lt_F.mp h
  rw [t_eq]
  omega
theorem t_le_F (O : p.Ok) {E : Int} {k : Nat} (h : p.t k < E) : k < p.F (E - p.b) := by
  refine O.lt_F.mpr ?_
  rw [t_eq] at h
  omega
theorem good_L (O : p.Ok) {k : Nat} (G : Good p k) (h : p.t k < p.L) : Good p (p.F (p.L - p.b)) ∧ ms p (p.F (p.L - p.b)) < ms p k := by
  have h1 := t_F O p.L
  refine ⟨⟨fun j hj => ?_, .inr ⟨_, .inl rfl, rfl⟩⟩, ?_⟩
  · have h2 := lt_t O hj
    unfold Par.why Par.whyS
    by_cases c : p.f ≤ p.t j ∧ p.t j < p.a
    · rw [if_pos c]; decide
    · rw [if_neg c, if_pos h2]; decide
  · unfold ms
    rw [if_pos h, if_neg (by omega)]
    split <;> omega
theorem good_a (O : p.Ok) {k : Nat} (G : Good p k) (h : ¬ p.t k < p.L) (h2 : p.f ≤ p.t k ∧ p.t k < p.a) : Good p (p.F (p.a - p.b)) ∧ ms p (p.F (p.a - p.b)) < ms p k := by
  have h1 := t_F O p.a
  refine ⟨⟨fun j hj => ?_, .inr ⟨_, .inr rfl, rfl⟩⟩, ?_⟩
  · by_cases c : j < k
    · exact G.1 j c
    · have h3 := lt_t O hj
      have h4 := t_mono O (show k ≤ j by omega)
      unfold Par.why Par.whyS
      rw [if_pos ⟨by omega, h3⟩]; decide
  · unfold ms
    rw [if_neg h, if_pos h2, if_neg (by omega), if_neg (by omega)]
    omega
theorem good_end (O : p.Ok) {k : Nat} (G : Good p k) (h : ¬ p.t k < p.L) (h2 : ¬ (p.f ≤ p.t k ∧ p.t k < p.a)) : k = p.k3 := by
  refine k3_uniq O ?_ G.1
  exact why_srv h2 h
theorem good_rep (O : p.Ok) {k : Nat} (G : Good p k) (h : ¬ p.t k < p.L) : ∃ y, (y ∈ mom p ∨ y = p.L) ∧ y ≤ p.t k ∧ p.t k - y ≤ per p.g p.n := by
  have hp := per_pos O.rok
  by_cases c : k ≤ p.g.length - p.n
  · exact ⟨p.t k, .inl (mom_t c), by omega, by omega⟩
  · rcases G.2 with rfl | ⟨E, hE, hk⟩
    · omega
    · have h1 : E ≤ p.t k := by rw [hk]; exact t_F O E
      have h2 : p.t (k - 1) < E := lt_t O (show k - 1 < p.F (E - p.b) by omega)
      have h3 : gapF p.g p.n (k - 1) ≤ per p.g p.n := gap_le_per O.rok (by omega)
      have h4 : off p.g p.n k = off p.g p.n (k - 1) + gapF p.g p.n (k - 1) := by
        obtain ⟨j, rfl⟩ : ∃ j, k = j + 1 := ⟨k - 1, by omega⟩
        rfl
      have h5 : p.t k = p.b + off p.g p.n k := rfl
      have h6 : p.t (k - 1) = p.b + off p.g p.n (k - 1) := rfl
      refine ⟨E, ?_, h1, by omega⟩
      rcases hE with rfl | rfl
      · exact .inr rfl
      · exact .inl mom_a
end RS
end

section
namespace RK
open PySem L2 RS
variable {P : Program} {w : World} {K : PySem.W.Frag} {mg : Str → Option Value} {base : Heap} {A : Ad}

def sp_Run_failing_until (A : Ad) : Sp := fun vs H Q _ => ∃ x p d svs wts ff, ∃ s : Int, vs = [.ref x, .int s] ∧ RunS A H x p d svs wts ff ∧ ∀ H1, Ex H H1 → Q (.int (if s < ff then ff else if p.f ≤ s ∧ s < p.a then p.a else s)) H1
theorem call_Run_failing_until {H : Hp} {x : Addr} {p : Par} {d : Rd} {svs wts : List (Key × V)} {ff s : Int} {Q : VK} {E : XK} (S : RunS A H x p d svs wts ff) (q : ∀ H1, Ex H H1 → Q (.int (if s < ff then ff else if p.f ≤ s ∧ s < p.a then p.a else s)) H1) :
    sp_Run_failing_until A (.ref x :: ([.int s] ++ [])) H Q E := ⟨x, p, d, svs, wts, ff, s, rfl, S, q⟩
theorem ok_Run_failing_until (T : Txt K mg A) : FnOk P w K mg base CX0 3 A.f_Run_failing_until A.d_Run_failing_until ["self", "slot"] (sp_Run_failing_until A) := by
  refine T.f_Run_failing_until.ok sc_Run_failing_until (fun vs H Q E h => ?_) (fun cdv AR outer s H vs Q E hr h => ?_)
  · obtain ⟨x, p, d, svs, wts, ff, s, rfl, _⟩ := h; rfl
  · obtain ⟨x, p, d, svs, wts, ff, z, rfl, S, q⟩ := h
    have ho := S.o
    have hsc := S.sc
    refine ⟨_, pss_cons (ps_if (pt_cmpR op_lt (pv 1) (peFld (K := K) (by rfl) (pv 0) (by rfl)) (nomark _)) (pss_one (ps_ret (peFld (K := K) (by rfl) (pv 0) (by rfl)))) pss_nil) (
      pss_cons (ps_set (i := 2) sc_Run_failing_until.nd (by rfl) (by first | exact Or.inl rfl | exact Or.inr rfl) (pe_meth (peFld (K := K) (by rfl) (pv 0) (by rfl)) T.cl_Scene T.m_Scene_outage_at (ok_Scene_outage_at T) (hr.mono (by decide)) T.b_Scene_outage_at .nil pass0 (pa_cons (pv 1) pa_nil))) (
      pss_one (ps_ret (pe_ifExp (pt_cmpR op_isN1 (pv 2) pe_non (nomark _)) (pv 1) (pe_ix (ixT (K := K) (by rfl)) (pe_ix (ixL (K := K) (by rfl)) (pe_meth0 (peFld (K := K) (by rfl) (pv 0) (by rfl)) T.cl_Scene T.m_Scene_outages (ok_Scene_outages T) (hr.mono (by decide)) T.b_Scene_outages .nil pass0) (pv 2) (fun _ _ => rfl)) pe_int (fun _ _ => rfl)))))), ?_⟩
    walk_at "go"
    refine itD (fun h1 => ?_) (fun h1 => ?_)
    · walk_at "xs"
      have q0 := q H (ex_refl _)
      rw [if_pos h1] at q0
      exact q0
    · walk_at "xs"
      refine call_Scene_outage_at hsc (fun H1 e1 => ?_)
      walk_at "xs"
      by_cases h2 : p.f ≤ z ∧ z < p.a
      · rw [if_pos h2]
        refine xIsN (c := false) (by rfl) ?_
        walk_at "xs"
        refine call_Scene_outages (scene_ex e1 hsc) (fun y t H2 hy e2 h2' ht => ?_)
        walk_at "xs"
        refine xIxL h2' rfl ?_
        walk_at "xs"
        have q0 := q H2 (e1.trans e2)
        rw [if_neg h1, if_pos h2] at q0
        exact q0
      · rw [if_neg h2]
        refine xIsN (c := true) (by rfl) ?_
        walk_at "xs"
        have q0 := q H1 e1
        rw [if_neg h1, if_neg h2] at q0
        exact q0

def sp_Run_latest_moment (A : Ad) : Sp := fun vs H Q _ => ∃ x p d svs wts ff, ∃ s : Int, vs = [.ref x, .int s] ∧ RunS A H x p d svs wts ff ∧ 0 ≤ s ∧ ∀ (m : Int) H1, Ex H H1 → (∀ y, y ∈ mom p ∨ y = ff → y ≤ s → y ≤ m) → Q (.int m) H1
theorem call_Run_latest_moment {H : Hp} {x : Addr} {p : Par} {d : Rd} {svs wts : List (Key × V)} {ff s : Int} {Q : VK} {E : XK} (S : RunS A H x p d svs wts ff) (h : 0 ≤ s) (q : ∀ (m : Int) H1, Ex H H1 → (∀ y, y ∈ mom p ∨ y = ff → y ≤ s → y ≤ m) → Q (.int m) H1) :
    sp_Run_latest_moment A (.ref x :: ([.int s] ++ [])) H Q E := ⟨x, p, d, svs, wts, ff, s, rfl, S, h, q⟩
theorem ok_Run_latest_moment (T : Txt K mg A) : FnOk P w K mg base CX0 1 A.f_Run_latest_moment A.d_Run_latest_moment ["self", "slot"] (sp_Run_latest_moment A) := by
  refine T.f_Run_latest_moment.ok sc_Run_latest_moment (fun vs H Q E h => ?_) (fun cdv AR outer s H vs Q E hr h => ?_)
  · obtain ⟨x, p, d, svs, wts, ff, s, rfl, _⟩ := h; rfl
  · obtain ⟨x, p, d, svs, wts, ff, z, rfl, S, h0, q⟩ := h
    have ho := S.o
    have hch := S.ch
    have hl : d.ns.length < 64 := by rw [S.pm.length_eq]; exact mom_length S.ok
    refine ⟨_, pss_one (ps_ret (pe_callB (callMaxL (K := K) (by rfl) (by rfl)) (by rfl) T.z_max (by decide +kernel) (pa_cons (pe_lc (own := [("moment", 2)]) (by rfl) sc_Run_latest_moment.nd (piList (K := K) (by rfl) (pe_op op_cat (peFld (K := K) (by rfl) (pv 0) (by rfl)) (pe_lst (pa_cons (peFld (K := K) (by rfl) (pv 0) (by rfl)) pa_nil)))) (blkOk_by (own := [("moment", 2)]) (N := n_Run_latest_moment) (sc := (defScope s_Run_latest_moment)) (by decide +kernel)) (fun _ _ _ _ _ => (pg_name (i := 2) sc_Run_latest_moment.nd (by rfl) (by first | exact Or.inl rfl | exact Or.inr rfl))) (fun _ _ _ _ _ => (pts_one (pt_cmpR op_le (pv 2) (pv 1) (nomark _)))) (fun _ _ _ _ _ => (pv 2))) pa_nil))), ?_⟩
    walk_at "go"
    refine xNewL (by simp) (fun y1 H1 hy1 e1 h1 => ?_)
    refine xCat (e1 _ _ hch) h1 (by rw [List.length_map]; simp; omega) (fun y2 H2 hy2 e2 h2 => ?_)
    walk_at "xs"
    have em : d.ns.map V.int ++ [.int ff] = (d.ns ++ [ff]).map V.int := by rw [List.map_append]; rfl
    rw [em] at h2
    refine cgoList h2 (by rw [List.length_map, List.length_append]; simp; omega) (fun v => match v with | .int y => if y ≤ z then some (.int y) else none | _ => none) ?_ ?_
    · intro i v H3 Y1 N1 hi e3 hY hN
      obtain ⟨y, hy, rfl⟩ : ∃ y, (d.ns ++ [ff])[i]? = some y ∧ v = .int y := by
        rw [List.getElem?_map] at hi
        obtain ⟨y, a1, a2⟩ := Option.map_eq_some_iff.mp hi
        exact ⟨y, a1, a2.symm⟩
      walk_at "xs"
      refine ⟨rfl, ?_⟩
      walk_at "xs"
      refine itD (fun a1 => ?_) (fun a1 => ?_)
      · walk_at "xs"
        exact hY _ _ (ex_refl _) (if_pos a1)
      · exact hN _ (ex_refl _) (if_neg a1)
    · intro y3 H3 hy3 e3 h3
      have ef : ((d.ns ++ [ff]).map V.int).filterMap (fun v => match v with | .int y => if y ≤ z then some (V.int y) else none | _ => none) = ((d.ns ++ [ff]).filter fun y => decide (y ≤ z)).map V.int := by
        generalize d.ns ++ [ff] = l
        induction l with
        | nil => rfl
        | cons a l ih =>
          rw [List.map_cons, List.filterMap_cons, List.filter_cons]
          by_cases c : a ≤ z
          · simp only [if_pos c, decide_eq_true c]
            rw [ih]
            rfl
          · simp only [if_neg c, decide_eq_false c]
            rw [ih]
            rfl
      rw [ef] at h3
      walk_at "xs"
      have mem : ∀ y, y ∈ mom p ∨ y = ff → y ≤ z → y ∈ (d.ns ++ [ff]).filter fun y => decide (y ≤ z) := fun y hy hz => by
        refine List.mem_filter.mpr ⟨?_, decide_eq_true hz⟩
        rcases hy with hy | hy
        · exact List.mem_append_left _ (S.pm.mem_iff.mpr hy)
        · exact List.mem_append_right _ (by rw [hy]; exact List.mem_singleton.mpr rfl)
      refine xMax h3 (List.length_pos_of_mem (mem 0 (.inl mom_0) h0)) (fun m _ hm => ?_)
      exact q m H3 ((e1.trans e2).trans e3) (fun y hy hz => hm y (mem y hy hz))

def sp_Run_is_repeated (A : Ad) : Sp := fun vs H Q _ => ∃ x p d svs wts ff, ∃ s : Int, vs = [.ref x, .int s] ∧ RunS A H x p d svs wts ff ∧ 0 ≤ s ∧ (∃ y, (y ∈ mom p ∨ y = ff) ∧ y ≤ s ∧ s - y ≤ per p.g p.n) ∧ ∀ H1, Ex H H1 → Q (.bl false) H1
theorem call_Run_is_repeated {H : Hp} {x : Addr} {p : Par} {d : Rd} {svs wts : List (Key × V)} {ff s : Int} {Q : VK} {E : XK} (S : RunS A H x p d svs wts ff) (h : 0 ≤ s) (h2 : ∃ y, (y ∈ mom p ∨ y = ff) ∧ y ≤ s ∧ s - y ≤ per p.g p.n) (q : ∀ H1, Ex H H1 → Q (.bl false) H1) :
    sp_Run_is_repeated A (.ref x :: ([.int s] ++ [])) H Q E := ⟨x, p, d, svs, wts, ff, s, rfl, S, h, h2, q⟩
theorem ok_Run_is_repeated (T : Txt K mg A) : FnOk P w K mg base CX0 2 A.f_Run_is_repeated A.d_Run_is_repeated ["self", "slot"] (sp_Run_is_repeated A) := by
  refine T.f_Run_is_repeated.ok sc_Run_is_repeated (fun vs H Q E h => ?_) (fun cdv AR outer s H vs Q E hr h => ?_)
  · obtain ⟨x, p, d, svs, wts, ff, s, rfl, _⟩ := h; rfl
  · obtain ⟨x, p, d, svs, wts, ff, z, rfl, S, h0, ⟨y, hy, y1, y2⟩, q⟩ := h
    have ho := S.o
    have hr' := S.r
    refine ⟨_, pss_cons (ps_set (i := 2) sc_Run_is_repeated.nd (by rfl) (by first | exact Or.inl rfl | exact Or.inr rfl) (pe_meth0 (peFld (K := K) (by rfl) (pv 0) (by rfl)) T.cl_Rule T.m_Rule_period (ok_Rule_period T) (hr.mono (by decide)) T.b_Rule_period .nil pass0)) (
      pss_one (ps_ret (pe_and (pe_cmpR op_notN1 (pv 2) pe_non (nomark _)) (pe_one (pe_cmpR op_gt (pe_op op_sub (pv 1) (pe_meth (pv 0) T.cl_Run T.m_Run_latest_moment (ok_Run_latest_moment T) (hr.mono (by decide)) T.b_Run_latest_moment .nil pass0 (pa_cons (pv 1) pa_nil))) (pv 2) (nomark _)))))), ?_⟩
    walk_at "go"
    refine call_Rule_period hr' ?_
    walk_at "xs"
    refine xNotN (c := true) (by rfl) ?_
    walk_at "xs"
    refine call_Run_latest_moment S h0 (fun m H1 e1 hm => ?_)
    walk_at "xs"
    have hm1 := hm y hy y1
    have e : decide (z - m > per p.g p.n) = false := decide_eq_false (by omega)
    rw [e]
    exact q H1 e1

def sp_Run_skip_to (A : Ad) : Sp := fun vs H Q _ => ∃ x p d svs ff, ∃ k : Nat, ∃ s : Int, vs = [.ref x, .int s] ∧ RunS A H x p d svs [(.inl 1, .int (k : Int))] ff ∧
  ∀ H', Fr x d.sv d.wt H H' → RunS A H' x p d svs [(.inl 1, .int (p.F (s - p.b) : Int))] ff → Q .non H'
theorem call_Run_skip_to {H : Hp} {x : Addr} {p : Par} {d : Rd} {svs : List (Key × V)} {k : Nat} {ff s : Int} {Q : VK} {E : XK} (S : RunS A H x p d svs [(.inl 1, .int (k : Int))] ff)
    (q : ∀ H', Fr x d.sv d.wt H H' → RunS A H' x p d svs [(.inl 1, .int (p.F (s - p.b) : Int))] ff → Q .non H') : sp_Run_skip_to A (.ref x :: ([.int s] ++ [])) H Q E := ⟨x, p, d, svs, ff, k, s, rfl, S, q⟩
theorem ok_Run_skip_to (T : Txt K mg A) : FnOk P w K mg base CX0 4 A.f_Run_skip_to A.d_Run_skip_to ["self", "slot"] (sp_Run_skip_to A) := by
  refine T.f_Run_skip_to.ok sc_Run_skip_to (fun vs H Q E h => ?_) (fun cdv AR outer s H vs Q E hr h => ?_)
  · obtain ⟨x, p, d, svs, ff, k, s, rfl, _⟩ := h; rfl
  · obtain ⟨x, p, d, svs, ff, k, z, rfl, S, q⟩ := h
    have ho := S.o
    refine ⟨_, pss_one (ps_for PassesOwn.never (by rfl) (piList (K := K) (by rfl) (pe_callTy (call_list_dK (by rfl)) (by rfl) T.z_list (by decide +kernel) (pa_cons (peFld (K := K) (by rfl) (pv 0) (by rfl)) pa_nil))) (pg_name (i := 2) sc_Run_skip_to.nd (by rfl) (by first | exact Or.inl rfl | exact Or.inr rfl)) (pss_cons (ps_set (i := 3) sc_Run_skip_to.nd (by rfl) (by first | exact Or.inl rfl | exact Or.inr rfl) (pe_meth (peFld (K := K) (by rfl) (pv 0) (by rfl)) T.cl_Rule T.m_Rule_first_from (ok_Rule_first_from T) (hr.mono (by decide)) T.b_Rule_first_from .nil pass0 (pa_cons (pe_op op_sub (pv 1) (pe_ix (ixL (K := K) (by rfl)) (peFld (K := K) (by rfl) (pv 0) (by rfl)) (pv 2) (fun _ _ => rfl))) pa_nil))) (pss_one (ps_if (pt_cmpR op_isN1 (pv 3) pe_non (nomark _)) (pss_one ps_never) (pss_one (ps_dput (hu_of hr) (peFld (K := K) (by rfl) (pv 0) (by rfl)) (pv 2) (pv 3) (by rfl))))))), ?_⟩
    walk_at "go"
    refine xListD S.wt (fun y1 H1 hy1 e1 h1 => ?_)
    walk_at "xs"
    have nw : y1 ≠ d.wt := (ne_of_none S.wt hy1).symm
    refine xForList h1 (fun i σ' H' => (∃ a b, σ' = [some (.ref x), some (.int z), a, b]) ∧ Fr x d.sv d.wt H H' ∧ H' y1 = some (.lst [.int 1]) ∧ RunS A H' x p d svs [(.inl 1, .int ((if i = 0 then k else p.F (z - p.b) : Nat) : Int))] ff)
      ⟨⟨_, _, rfl⟩, fr_ex e1, h1, S.ex e1⟩ (fun i σ' H' q => q.2.2.1) ?_ ?_
    · rintro i v σ' H' hi ⟨⟨a, b, rfl⟩, f, hy, S2⟩
      obtain ⟨rfl, rfl⟩ : i = 0 ∧ v = .int 1 := by
        cases i with
        | zero => exact ⟨rfl, (Option.some.inj hi).symm⟩
        | succ i => cases hi
      have ho2 := S2.o
      have hbg := S2.bg
      have hr2 := S2.r
      walk_at "xs"
      refine xIxL hbg (at_of (j := 1) rfl rfl) ?_
      walk_at "xs"
      refine call_Rule_first_from S2.r (fun H2 e2 => ?_)
      have S3 := S2.ex e2
      walk_at "xs"
      refine xIsN (c := false) (by rfl) ?_
      walk_at "xs"
      refine xPutK (.inl 1) rfl S3.wt (by simp) ?_
      refine ⟨⟨_, _, rfl⟩, f.trans ((fr_ex e2).trans fr_b), by rw [upd_ne nw]; exact e2 _ _ hy, ?_⟩
      exact S3.setW
    · rintro σ' H' ⟨⟨a, b, rfl⟩, f, hy, S2⟩
      exact q H' f S2

def sp_Run_decide (A : Ad) : Sp := fun vs H Q _ => ∃ x p d svs wts ff c k s cs, vs = [.ref x, .int s, .ref cs] ∧ RunS A H x p d svs ((.inl c, .int k) :: wts) ff ∧ H cs = some (.lst [.int c]) ∧ (.inl c) ∉ svs.map (·.1) ∧ (.inl c) ∉ wts.map (·.1) ∧ svs.length < 10 ∧
  ∀ H' t, Fr x d.sv d.wt H H' → H' t = some (.tup [.int k, .int s]) → RunS A H' x p d (svs ++ [(.inl c, .ref t)]) wts (s + p.L) → Q .non H'
theorem call_Run_decide {H : Hp} {x cs : Addr} {p : Par} {d : Rd} {svs wts : List (Key × V)} {c k ff s : Int} {Q : VK} {E : XK} (S : RunS A H x p d svs ((.inl c, .int k) :: wts) ff) (hc : H cs = some (.lst [.int c])) (h1 : (.inl c) ∉ svs.map (·.1)) (h2 : (.inl c) ∉ wts.map (·.1)) (h3 : svs.length < 10)
    (q : ∀ H' t, Fr x d.sv d.wt H H' → H' t = some (.tup [.int k, .int s]) → RunS A H' x p d (svs ++ [(.inl c, .ref t)]) wts (s + p.L) → Q .non H') :
    sp_Run_decide A (.ref x :: ([.int s, .ref cs] ++ [])) H Q E := ⟨x, p, d, svs, wts, ff, c, k, s, cs, rfl, S, hc, h1, h2, h3, q⟩
theorem ok_Run_decide (T : Txt K mg A) : FnOk P w K mg base CX0 5 A.f_Run_decide A.d_Run_decide ["self", "slot", "clients"] (sp_Run_decide A) := by
  refine T.f_Run_decide.ok sc_Run_decide (fun vs H Q E h => ?_) (fun cdv AR outer s H vs Q E hr h => ?_)
  · obtain ⟨x, p, d, svs, wts, ff, c, k, s, cs, rfl, _⟩ := h; rfl
  · obtain ⟨x, p, d, svs, wts, ff, c, k, z, cs, rfl, S, hc, g1, g2, g3, q⟩ := h
    have ho := S.o
    refine ⟨_, pss_cons (ps_lock (ps_setLc (i := 3) (own := [("client", 4)]) (by rfl) sc_Run_decide.nd (by rfl) (by rfl) (sw_true (by rfl) (by rfl) (by rfl) (by decide +kernel)) (pi_keys (peFld (K := K) (by rfl) (pv 0) (by rfl))) (blkOk_by (own := [("client", 4)]) (N := n_Run_decide) (sc := (defScope s_Run_decide)) (by decide +kernel)) (fun _ _ _ _ _ => (pg_name (i := 4) sc_Run_decide.nd (by rfl) (by first | exact Or.inl rfl | exact Or.inr rfl))) (fun _ _ _ _ _ => (pts_one (pt_cmpR op_notN1 (pe_meth (peFld (K := K) (by rfl) (pv 0) (by rfl)) T.cl_Rule T.m_Rule_attempt_at (ok_Rule_attempt_at T) (hr.mono (by decide)) T.b_Rule_attempt_at .nil pass0 (pa_cons (pe_op op_sub (pv 1) (pe_ix (ixL (K := K) (by rfl)) (peFld (K := K) (by rfl) (pv 0) (by rfl)) (pv 4) (fun _ _ => rfl))) pa_nil)) pe_non (nomark _)))) (fun _ _ _ _ _ => (pv 4)))) (
      pss_cons (ps_if (pt_cmpR op_eq (pe_callB (callLen (K := K) (by rfl)) (by rfl) T.z_len (by decide +kernel) (pa_cons (pe_op op_cat (pv 2) (pv 3)) pa_nil)) pe_int (nomark _)) (pss_cons (ps_dput (hu_of hr) (peFld (K := K) (by rfl) (pv 0) (by rfl)) (pe_ix (ixL (K := K) (by rfl)) (pv 2) pe_int (fun _ _ => rfl)) (pe_tup (pa_cons (pe_dpop1 (peFld (K := K) (by rfl) (pv 0) (by rfl)) (pe_ix (ixL (K := K) (by rfl)) (pv 2) pe_int (fun _ _ => rfl)) ⟨by rfl, by rfl, by rfl, by rfl⟩) (pa_cons (pv 1) pa_nil))) (by rfl)) (pss_cons (psFld (K := K) (by rfl) (pv 0) (pe_op op_add (pv 1) (pe_meth0 (peFld (K := K) (by rfl) (pv 0) (by rfl)) T.cl_Scene T.m_Scene_length (ok_Scene_length T) (hr.mono (by decide)) T.b_Scene_length .nil pass0)) (by rfl)) (pss_one ps_retN))) pss_nil) (
      pss_one ps_never)), ?_⟩
    walk_at "go"
    refine xLock S.cl trivial (fun od H1 f1 h1 => ?_)
    have ho1 : H1 x = some (.ins A.c_Run d.dx (runF d.sc d.r d.bg d.ch d.sv d.cl d.wt ff)) := f1 _ _ S.nxc ho
    walk_at "xs"
    refine cgoKeys0 h1 (fun y1 H2 hy1 e2 h2 => ?_)
    refine ⟨e2 _ _ h1, ?_⟩
    have e3 : Ex H (upd H2 d.cl (.dK [])) := unlock_ex (od := od) S.cl f1 e2
    have n1 : y1 ≠ d.cl := (ne_of_none h1 hy1).symm
    have h3 : upd H2 d.cl (.dK []) y1 = some (.lst []) := by rw [upd_ne n1]; exact h2
    generalize upd H2 d.cl (.dK []) = H3 at e3 h3 ⊢
    have S3 := S.ex e3
    have hc3 := e3 _ _ hc
    walk_at "xs"
    refine xCat hc3 h3 (by simp) (fun y4 H4 hy4 e4 h4 => ?_)
    walk_at "xs"
    walk_at "t"
    have S4 := S3.ex e4
    have ho4 := S4.o
    have hc4 := e4 _ _ hc3
    refine xPopK S4.wt ?_
    walk_at "xs"
    refine xIxL hc4 rfl ?_
    have ev : valV ((Sum.inl c, V.int k) :: wts : List (Key × V)) (.inl c) = some (.int k) := valV_pos rfl
    have ed : dropK ((Sum.inl c, V.int k) :: wts : List (Key × V)) (.inl c) = wts := by
      unfold dropK
      rw [List.filter_cons]
      simp only [ne_eq, not_true_eq_false, decide_false, Bool.false_eq_true, if_false]
      refine List.filter_eq_self.mpr (fun q hq => decide_eq_true (fun e => g2 ?_))
      rw [← e]
      exact List.mem_map_of_mem hq
    refine ⟨_, .inl c, _, S4.wt, rfl, ev, ?_⟩
    rw [ed]
    have S5 := S4.setW (wts' := wts)
    have f5 : Fr x d.sv d.wt H (upd H4 d.wt (.dK wts)) := (fr_ex (e3.trans e4)).trans fr_b
    have hc5 : upd H4 d.wt (.dK wts) cs = some (.lst [.int c]) := S4.keeps fr_b _ _ calm_lst hc4
    generalize upd H4 d.wt (.dK wts) = H5 at S5 f5 hc5 ⊢
    have ho5 := S5.o
    walk_at "xs"
    refine xNewT (by simp) (fun t H6 ht e6 h6 => ?_)
    have S6 := S5.ex e6
    have ho6 := S6.o
    have hc6 := e6 _ _ hc5
    walk_at "xs"
    refine xIxL hc6 rfl ?_
    refine xPutK (.inl c) rfl S6.sv (by omega) ?_
    rw [putK_new _ (val_none g1)]
    have S7 := S6.setS (svs' := svs ++ [(.inl c, .ref t)])
    have h7 : upd H6 d.sv (.dK (svs ++ [(.inl c, .ref t)])) t = some (.tup [.int k, .int z]) := S6.keeps fr_a _ _ calm_tup h6
    have f7 : Fr x d.sv d.wt H (upd H6 d.sv (.dK (svs ++ [(.inl c, .ref t)]))) := (f5.trans (fr_ex e6)).trans fr_a
    generalize upd H6 d.sv (.dK (svs ++ [(.inl c, .ref t)])) = H7 at S7 h7 f7 ⊢
    have ho7 := S7.o
    have hsc7 := S7.sc
    walk_at "xs"
    refine call_Scene_length S7.sc ?_
    walk_at "xs"
    refine xPutF ho7 T.cl_Run T.na_free_from (show (8 : Nat) < 1000 by decide) pf_ff ?_
    walk_at "xs"
    exact q _ t (f7.trans fr_x) (S7.keeps fr_x _ _ calm_tup h7) S7.setF
end RK
end

section
namespace RK
open PySem L2 RS
variable {P : Program} {w : World} {K : PySem.W.Frag} {mg : Str → Option Value} {base : Heap} {A : Ad}

/-- the phase of a run: how far it still has to go -/
def wk (q : Nat × Nat) : Key × V := (.inl (q.1 : Int), .int (q.2 : Int))
inductive Ph (H : Hp) (p : Par) : List (Key × V) → List (Nat × Nat) → Int → Nat → Prop where
  | first : Ph H p [] [(0, 0), (1, 0)] 0 4
  | turn (k : Nat) (s0 : Addr) : Good p k → H s0 = some (.tup [.int 0, .int 0]) → Ph H p [(.inl 0, .ref s0)] [(1, k)] p.L (ms p k)
  | last (s0 s1 : Addr) (ff : Int) : H s0 = some (.tup [.int 0, .int 0]) → H s1 = some (.tup [.int (p.k3 : Int), .int (p.t p.k3)]) → Ph H p [(.inl 0, .ref s0), (.inl 1, .ref s1)] [] ff 0
/-- the slots of those who wait -/
def slt (p : Par) (q : Nat × Nat) : Key × Int := (.inl (q.1 : Int), stt p q.1 + p.o q.2)
def sltV (p : Par) : Key → V → V := fun key v => match key, v with | .inl c, .int k => .int (stt p c.toNat + p.o k.toNat) | _, _ => .non

theorem ph_keeps {H H' : Hp} {p : Par} {svs : List (Key × V)} {ws : List (Nat × Nat)} {ff : Int} {m : Nat} (f : Keeps H H') (h : Ph H p svs ws ff m) : Ph H' p svs ws ff m := by
  cases h with
  | first => exact .first
  | turn k s0 g h => exact .turn k s0 g (f _ _ calm_tup h)
  | last s0 s1 ff h1 h2 => exact .last s0 s1 ff (f _ _ calm_tup h1) (f _ _ calm_tup h2)
theorem ph_fr {A : Ad} {H H' : Hp} {x : Addr} {p : Par} {d : Rd} {svs' svs wts : List (Key × V)} {ws : List (Nat × Nat)} {ff ff' : Int} {m : Nat} (S : RunS A H x p d svs' wts ff') (f : Fr x d.sv d.wt H H') (h : Ph H p svs ws ff m) : Ph H' p svs ws ff m := ph_keeps (S.keeps f) h

def sp_Run_advance (A : Ad) : Sp := fun vs H Q _ => ∃ x p d svs ws ff m, vs = [.ref x] ∧ RunS A H x p d svs (ws.map wk) ff ∧ Ph H p svs ws ff m ∧ 0 < m ∧
  ∀ H' svs' ws' ff' m', Fr x d.sv d.wt H H' → RunS A H' x p d svs' (ws'.map wk) ff' → Ph H' p svs' ws' ff' m' → m' < m → Q .non H'
theorem call_Run_advance {H : Hp} {x : Addr} {p : Par} {d : Rd} {svs : List (Key × V)} {ws : List (Nat × Nat)} {ff : Int} {m : Nat} {Q : VK} {E : XK} (S : RunS A H x p d svs (ws.map wk) ff) (h : Ph H p svs ws ff m) (h0 : 0 < m)
    (q : ∀ H' svs' ws' ff' m', Fr x d.sv d.wt H H' → RunS A H' x p d svs' (ws'.map wk) ff' → Ph H' p svs' ws' ff' m' → m' < m → Q .non H') : sp_Run_advance A (.ref x :: ([] ++ [])) H Q E := ⟨x, p, d, svs, ws, ff, m, rfl, S, h, h0, q⟩
theorem ok_Run_advance (T : Txt K mg A) : FnOk P w K mg base CX0 6 A.f_Run_advance A.d_Run_advance ["self"] (sp_Run_advance A) := by
  refine T.f_Run_advance.ok sc_Run_advance (fun vs H Q E h => ?_) (fun cdv AR outer s H vs Q E hr h => ?_)
  · obtain ⟨x, p, d, svs, ws, ff, m, rfl, _⟩ := h; rfl
  · obtain ⟨x, p, d, svs, ws, ff, m, rfl, S, ph, h0, q⟩ := h
    have ho := S.o
    have hws : (∀ q ∈ ws, q.1 ≤ 1) ∧ (ws.map Prod.fst).Nodup ∧ 0 < ws.length ∧ ws.length ≤ 2 := by
      cases ph with
      | first => exact ⟨by simp, by decide, by decide, by decide⟩
      | turn k s0 g h => exact ⟨by simp, by simp, by simp, by simp⟩
      | last => omega
    have nd : ((ws.map wk).map (·.1)).Nodup := by
      rw [List.map_map]
      have : (ws.map Prod.fst).map (fun n : Nat => (Sum.inl (n : Int) : Key)) = ws.map ((fun x => x.1) ∘ wk) := by rw [List.map_map]; rfl
      rw [← this]
      refine List.Pairwise.map _ (fun a b hab e => hab ?_) hws.2.1
      have := Sum.inl.inj e
      omega
    refine ⟨_, pss_cons (ps_lock (ps_setDc (i := 1) (own := [("client", 4), ("its", 5)]) (by rfl) sc_Run_advance.nd (by rfl) (by rfl) (sw_trueD (by rfl) (by rfl) (by rfl) (by decide +kernel)) (pi_items (peFld (K := K) (by rfl) (pv 0) (by rfl))) (blkOk_by (own := [("client", 4), ("its", 5)]) (N := n_Run_advance) (sc := (defScope s_Run_advance)) (by decide +kernel)) (fun _ _ _ _ _ => (pgTup (K := K) 2 (by rfl) (by rfl) (pgs_cons (pg_name (i := 4) sc_Run_advance.nd (by rfl) (by first | exact Or.inl rfl | exact Or.inr rfl)) (pgs_cons (pg_name (i := 5) sc_Run_advance.nd (by rfl) (by first | exact Or.inl rfl | exact Or.inr rfl)) pgs_nil)))) (fun _ _ _ _ _ => pts_nil) (fun _ _ _ _ _ => (pv 4)) (fun _ _ _ _ _ => (pe_op op_add (pe_ix (ixL (K := K) (by rfl)) (peFld (K := K) (by rfl) (pv 0) (by rfl)) (pv 4) (fun _ _ => rfl)) (pe_meth (peFld (K := K) (by rfl) (pv 0) (by rfl)) T.cl_Rule T.m_Rule_offset_of (ok_Rule_offset_of T) (hr.mono (by decide)) T.b_Rule_offset_of .nil pass0 (pa_cons (pv 5) pa_nil)))))) (
      pss_cons (ps_set (i := 2) sc_Run_advance.nd (by rfl) (by first | exact Or.inl rfl | exact Or.inr rfl) (pe_callB (call_minV (by rfl)) (by rfl) T.z_min (by decide +kernel) (pa_cons (pe_valuesV (pv 1)) pa_nil))) (
      pss_cons (ps_set (i := 3) sc_Run_advance.nd (by rfl) (by first | exact Or.inl rfl | exact Or.inr rfl) (pe_meth (pv 0) T.cl_Run T.m_Run_failing_until (ok_Run_failing_until T) (hr.mono (by decide)) T.b_Run_failing_until .nil pass0 (pa_cons (pv 2) pa_nil))) (
      pss_one (ps_if (pt_cmpR op_gt (pv 3) (pv 2) (nomark _)) (pss_one (ps_expr (pe_meth (pv 0) T.cl_Run T.m_Run_skip_to (ok_Run_skip_to T) (hr.mono (by decide)) T.b_Run_skip_to .nil pass0 (pa_cons (pv 3) pa_nil)))) (pss_one (ps_if (pt_val (pe_meth (pv 0) T.cl_Run T.m_Run_is_repeated (ok_Run_is_repeated T) (hr.mono (by decide)) T.b_Run_is_repeated .nil pass0 (pa_cons (pv 2) pa_nil))) (pss_one ps_never) (pss_one (ps_expr (pe_meth (pv 0) T.cl_Run T.m_Run_decide (ok_Run_decide T) (hr.mono (by decide)) T.b_Run_decide .nil pass0 (pa_cons (pv 2) (pa_cons (pe_lock (pe_lc (own := [("client", 4), ("its_slot", 6)]) (by rfl) sc_Run_advance.nd (pi_items (pv 1)) (blkOk_by (own := [("client", 4), ("its_slot", 6)]) (N := n_Run_advance) (sc := (defScope s_Run_advance)) (by decide +kernel)) (fun _ _ _ _ _ => (pgTup (K := K) 2 (by rfl) (by rfl) (pgs_cons (pg_name (i := 4) sc_Run_advance.nd (by rfl) (by first | exact Or.inl rfl | exact Or.inr rfl)) (pgs_cons (pg_name (i := 6) sc_Run_advance.nd (by rfl) (by first | exact Or.inl rfl | exact Or.inr rfl)) pgs_nil)))) (fun _ _ _ _ _ => (pts_one (pt_cmpR op_eq (pv 6) (pv 2) (nomark _)))) (fun _ _ _ _ _ => (pv 4)))) pa_nil))))))))))), ?_⟩
    walk_at "go"
    refine xLock S.wt trivial (fun od H1 f1 h1 => ?_)
    have ho1 : H1 x = some (.ins A.c_Run d.dx (runF d.sc d.r d.bg d.ch d.sv d.cl d.wt ff)) := f1 _ _ S.nxw ho
    have k1 : Keeps H H1 := fun b o c h => f1 b o (fun z => by subst z; rw [S.wt] at h; cases h; exact c.1 _ rfl) h
    have hR1 := keeps_rule k1 S.r
    have hb1 := k1 _ _ calm_lst S.bg
    walk_at "xs"
    refine dgoItems h1 (by rw [List.length_map]; omega) nd (sltV p) ?_ ?_
    · intro i kk v T2 H2 Y1 N1 hi e2 hT hY
      obtain ⟨c, k, hc, rfl, rfl⟩ : ∃ c k : Nat, c ≤ 1 ∧ kk = .inl (c : Int) ∧ v = .int (k : Int) := by
        rw [List.getElem?_map] at hi
        obtain ⟨⟨c, k⟩, a1, a2⟩ := Option.map_eq_some_iff.mp hi
        cases a2
        exact ⟨c, k, hws.1 _ (List.mem_of_getElem? a1), rfl, rfl⟩
      walk_at "xs"
      refine ⟨rfl, ?_⟩
      walk_at "xs"
      refine xIxL (e2 _ _ hb1) (at_of rfl (stt_at hc)) ?_
      walk_at "xs"
      refine call_Rule_offset_of (rule_ex e2 hR1) rfl ?_
      walk_at "xs"
      exact hY _ (ex_refl _)
    · intro y1 H2 hy1 e2 h2
      walk_at "xs"
      refine ⟨e2 _ _ h1, ?_⟩
      have e3 : Ex H (upd H2 d.wt (.dK (ws.map wk))) := unlock_ex (od := od) S.wt f1 e2
      have n1 : y1 ≠ d.wt := (ne_of_none h1 hy1).symm
      have h3 : upd H2 d.wt (.dK (ws.map wk)) y1 = some (.dK ((ws.map (slt p)).map fun k => (k.1, V.int k.2))) := by
        rw [upd_ne n1, h2, List.map_map, List.map_map]
        rfl
      generalize upd H2 d.wt (.dK (ws.map wk)) = H3 at e3 h3 ⊢
      have S3 := S.ex e3
      have ho3 := S3.o
      have ph3 := ph_keeps (keeps_ex e3) ph
      walk_at "xs"
      refine ⟨y1, _, rfl, h3, fun pv hpv => ?_⟩
      have e4 : Ex H3 (upd H3 pv (ViewV pv y1)) := ex_new hpv
      have h4 : upd H3 pv (ViewV pv y1) pv = some (ViewV pv y1) := upd_same
      generalize upd H3 pv (ViewV pv y1) = H4 at e4 h4 ⊢
      have h4d := e4 _ _ h3
      have S4 := S3.ex e4
      have ph4 := ph_keeps (keeps_ex e4) ph3
      walk_at "xs"
      refine ⟨pv, y1, ws.map (slt p), rfl, h4, h4d, by rw [List.length_map]; omega, fun mn hm1 hm2 => ?_⟩
      walk_at "xs"
      refine call_Run_failing_until S4 (fun H5 e5 => ?_)
      have S5 := S4.ex e5
      have h5d := e5 _ _ h4d
      have ho5 := S5.o
      have e35 : Ex H H5 := (e3.trans e4).trans e5
      have ph5 := ph_keeps (keeps_ex e5) ph4
      walk_at "xs"
      clear ph ph3 ph4 hws nd S S3 S4 ho1 k1 hR1 hb1 e2 h2 h1 f1 hy1 e3 h3 e4 h4 h4d e5
      cases ph5 with
      | last => omega
      | first =>
        have o00 : p.o 0 = 0 := rfl
        obtain rfl : mn = 0 := by
          have a := hm2 (stt p 0 + p.o 0) (by simp [slt])
          have b1 := S5.ok.b1
          simp [slt, stt, o00] at hm1
          simp [stt, o00] at a
          omega
        have f1 := S5.ok.f1
        rw [if_neg (show ¬ (0 : Int) < 0 by omega), if_neg (show ¬ (p.f ≤ 0 ∧ 0 < p.a) by omega)]
        walk_at "t"
        refine call_Run_is_repeated S5 (by omega) ⟨0, .inl mom_0, by omega, by have := per_pos S5.ok.rok; omega⟩ (fun H6 e6 => ?_)
        have S6 := S5.ex e6
        have ho6 := S6.o
        have h6d := e6 _ _ h5d
        walk_at "xs"
        refine xLockE h6d trivial (fun od7 H7 f7 h7 => ?_)
        walk_at "xs"
        refine cgoItems h7 (by simp) (fun i l _ => l = if i = 0 then [] else [.int 0]) rfl ?_ ?_
        · intro i kk v l D2 T2 S2 H8 Y1 N1 hi a1 a2 a3 a4 a5 hT hY hN
          match i, hi with
          | 0, hi =>
            cases hi
            walk_at "xs"
            refine ⟨rfl, ?_⟩
            walk_at "xs"
            refine itY (by simp [slt, stt, o00]) ?_
            walk_at "xs"
            exact hY _ _ (ex_refl _) (by rw [a5]; rfl)
          | 1, hi =>
            cases hi
            walk_at "xs"
            refine ⟨rfl, ?_⟩
            walk_at "xs"
            have b1 := S5.ok.b1
            refine itN (by simp [slt, stt, o00]; omega) ?_
            exact hN _ (ex_refl _) (by rw [a5]; rfl)
          | i + 2, hi => cases hi
        · intro y2 H8 l S8 hy2 e8 e8' hs8 h8 hl
          refine ⟨e8' _ _ (e8 _ _ h7), ?_⟩
          have e9 := unlock_ex (od := od7) h6d f7 (e8.trans e8')
          have n2 : y2 ≠ y1 := (ne_of_none h7 hy2).symm
          have h9 : upd H8 y1 (.dK (([(0, 0), (1, 0)].map (slt p)).map fun k => (k.1, V.int k.2))) y2 = some (.lst [.int 0]) := by rw [upd_ne n2, h8, hl]; rfl
          generalize upd H8 y1 (.dK (([(0, 0), (1, 0)].map (slt p)).map fun k => (k.1, V.int k.2))) = H9 at e9 h9 ⊢
          have S9 := S6.ex e9
          walk_at "xs"
          refine call_Run_decide (wts := [wk (1, 0)]) S9 h9 (by simp) (by simp [wk]) (by simp) (fun H' t f ht S' => ?_)
          walk_at "xs"
          refine q H' _ [(1, 0)] _ (ms p 0) ((fr_ex (e35.trans (e6.trans e9))).trans f) ?_ (Ph.turn 0 t good_0 ht) ?_
          · have z : (0 : Int) + p.L = p.L := by omega
            rw [z] at S'
            exact S'
          · unfold ms; split
            · omega
            · split <;> omega
      | turn k s0 G hs0 =>
        obtain rfl : mn = p.t k := by
          simpa [slt, stt, Par.t] using hm1
        by_cases c1 : p.t k < p.L
        · rw [if_pos c1]
          walk_at "t"
          refine call_Run_skip_to (k := k) S5 (fun H' f S' => ?_)
          walk_at "xs"
          have g := good_L S5.ok G c1
          exact q H' _ [(1, _)] _ _ ((fr_ex e35).trans f) S' (ph_fr S5 f (Ph.turn _ s0 g.1 hs0)) g.2
        · rw [if_neg c1]
          by_cases c2 : p.f ≤ p.t k ∧ p.t k < p.a
          · rw [if_pos c2]
            walk_at "t"
            refine call_Run_skip_to (k := k) S5 (fun H' f S' => ?_)
            walk_at "xs"
            have g := good_a S5.ok G c1 c2
            exact q H' _ [(1, _)] _ _ ((fr_ex e35).trans f) S' (ph_fr S5 f (Ph.turn _ s0 g.1 hs0)) g.2
          · rw [if_neg c2]
            walk_at "t"
            have hk3 := good_end S5.ok G c1 c2
            refine call_Run_is_repeated S5 (by have := S5.ok.L1; omega) (good_rep S5.ok G c1) (fun H6 e6 => ?_)
            have S6 := S5.ex e6
            have ho6 := S6.o
            have h6d := e6 _ _ h5d
            walk_at "xs"
            refine xLockE h6d trivial (fun od7 H7 f7 h7 => ?_)
            walk_at "xs"
            refine cgoItems h7 (by simp) (fun i l _ => l = if i = 0 then [] else [.int 1]) rfl ?_ ?_
            · intro i kk v l D2 T2 S2 H8 Y1 N1 hi a1 a2 a3 a4 a5 hT hY hN
              match i, hi with
              | 0, hi =>
                cases hi
                walk_at "xs"
                refine ⟨rfl, ?_⟩
                walk_at "xs"
                refine itY rfl ?_
                walk_at "xs"
                exact hY _ _ (ex_refl _) (by rw [a5]; rfl)
              | i + 1, hi => cases hi
            · intro y2 H8 l S8 hy2 e8 e8' hs8 h8 hl
              refine ⟨e8' _ _ (e8 _ _ h7), ?_⟩
              have e9 := unlock_ex (od := od7) h6d f7 (e8.trans e8')
              have n2 : y2 ≠ y1 := (ne_of_none h7 hy2).symm
              have h9 : upd H8 y1 (.dK (([(1, k)].map (slt p)).map fun k => (k.1, V.int k.2))) y2 = some (.lst [.int 1]) := by rw [upd_ne n2, h8, hl]; rfl
              generalize upd H8 y1 (.dK (([(1, k)].map (slt p)).map fun k => (k.1, V.int k.2))) = H9 at e9 h9 ⊢
              have S9 := S6.ex e9
              walk_at "xs"
              refine call_Run_decide (wts := []) S9 h9 (by simp) (by simp) (by simp) (fun H' t f ht S' => ?_)
              walk_at "xs"
              refine q H' _ [] _ 0 ((fr_ex (e35.trans (e6.trans e9))).trans f) S' (Ph.last s0 t _ (S9.keeps f _ _ calm_tup (e9 _ _ (e6 _ _ hs0))) ?_) ?_
              · rw [← hk3]; exact ht
              · exact h0
end RK
end

section
namespace RK
open PySem L2 RS
variable {P : Program} {w : World} {K : PySem.W.Frag} {mg : Str → Option Value} {base : Heap} {A : Ad}

/-! ### a run is made -/
theorem pf_r0 {v : V} : putF "its_scene" v [] = [(("its_scene" : Str), v)] := by kernel_rfl
theorem pf_r1 {v a0 : V} : putF "pattern" v [(("its_scene" : Str), a0)] = [(("its_scene" : Str), a0), (("pattern" : Str), v)] := by kernel_rfl
theorem pf_r2 {v a0 a1 : V} : putF "begins" v [(("its_scene" : Str), a0), (("pattern" : Str), a1)] = [(("its_scene" : Str), a0), (("pattern" : Str), a1), (("begins" : Str), v)] := by kernel_rfl
theorem pf_r3 {v a0 a1 a2 : V} : putF "changes" v [(("its_scene" : Str), a0), (("pattern" : Str), a1), (("begins" : Str), a2)] = [(("its_scene" : Str), a0), (("pattern" : Str), a1), (("begins" : Str), a2), (("changes" : Str), v)] := by kernel_rfl
theorem pf_r4 {v a0 a1 a2 a3 : V} : putF "services" v [(("its_scene" : Str), a0), (("pattern" : Str), a1), (("begins" : Str), a2), (("changes" : Str), a3)] = [(("its_scene" : Str), a0), (("pattern" : Str), a1), (("begins" : Str), a2), (("changes" : Str), a3), (("services" : Str), v)] := by kernel_rfl
theorem pf_r5 {v a0 a1 a2 a3 a4 : V} : putF "closed" v [(("its_scene" : Str), a0), (("pattern" : Str), a1), (("begins" : Str), a2), (("changes" : Str), a3), (("services" : Str), a4)] = [(("its_scene" : Str), a0), (("pattern" : Str), a1), (("begins" : Str), a2), (("changes" : Str), a3), (("services" : Str), a4), (("closed" : Str), v)] := by kernel_rfl
theorem pf_r6 {v a0 a1 a2 a3 a4 a5 : V} : putF "waiting" v [(("its_scene" : Str), a0), (("pattern" : Str), a1), (("begins" : Str), a2), (("changes" : Str), a3), (("services" : Str), a4), (("closed" : Str), a5)] = [(("its_scene" : Str), a0), (("pattern" : Str), a1), (("begins" : Str), a2), (("changes" : Str), a3), (("services" : Str), a4), (("closed" : Str), a5), (("waiting" : Str), v)] := by kernel_rfl
theorem pf_r7 {v a0 a1 a2 a3 a4 a5 a6 : V} : putF "free_from" v [(("its_scene" : Str), a0), (("pattern" : Str), a1), (("begins" : Str), a2), (("changes" : Str), a3), (("services" : Str), a4), (("closed" : Str), a5), (("waiting" : Str), a6)] = [(("its_scene" : Str), a0), (("pattern" : Str), a1), (("begins" : Str), a2), (("changes" : Str), a3), (("services" : Str), a4), (("closed" : Str), a5), (("waiting" : Str), a6), (("free_from" : Str), v)] := by kernel_rfl
/-- all stands but at x -/
def Nx (x : Addr) (H H' : Hp) : Prop := ∀ b o, b ≠ x → H b = some o → H' b = some o
theorem nx_ex {x : Addr} {H H' : Hp} (e : Ex H H') : Nx x H H' := fun b o _ h => e b o h
theorem Nx.trans {x : Addr} {H H1 H2 : Hp} (f : Nx x H H1) (g : Nx x H1 H2) : Nx x H H2 := fun b o n h => g b o n (f b o n h)
theorem nx_upd {x : Addr} {H : Hp} {o : HO} : Nx x H (upd H x o) := fun b u n h => by rw [upd_ne n]; exact h
theorem nx_none {x p : Addr} {H H' : Hp} (f : Nx x H H') (n : p ≠ x) (h : H' p = none) : H p = none := by
  cases e : H p with
  | none => rfl
  | some o => rw [f _ _ n e] at h; cases h
theorem nx_ne {x : Addr} {H H' : Hp} {fs : List (Str × V)} {C dx : Addr} (f : Nx x H H') (hx : H x = some (.ins C dx [])) : ∀ b o, Calm o → o ≠ .ins C dx [] → H b = some o → H' b = some o := fun b o _ ne h => f b o (ne_of h hx ne) h
theorem nx_rule {x r : Addr} {H H' : Hp} {g : List Int} {n : Nat} {C dx : Addr} (f : Nx x H H') (hx : H x = some (.ins C dx [])) (h : RuleAt A H r g n) : RuleAt A H' r g n :=
  let ⟨d, l, e, s, ⟨a, b, c, k, m⟩⟩ := h
  ⟨d, l, e, s, ⟨a, f _ _ (ne_of b hx (fun z => by have z3 := (HO.ins.inj z).2.2; cases z3)) b, f _ _ (ne_of c hx (fun z => by cases z)) c, f _ _ (ne_of k hx (fun z => by cases z)) k, f _ _ (ne_of m hx (fun z => by cases z)) m⟩⟩
theorem nx_scene {x sc : Addr} {H H' : Hp} {p : Par} {C dx : Addr} (f : Nx x H H') (hx : H x = some (.ins C dx [])) (h : SceneAt A H sc p) : SceneAt A H' sc p :=
  let ⟨d, r, st, w, t, ⟨a, b, c, k, e, m⟩⟩ := h
  ⟨d, r, st, w, t, ⟨a, f _ _ (ne_of b hx (fun z => by have z3 := (HO.ins.inj z).2.2; cases z3)) b, nx_rule f hx c, f _ _ (ne_of k hx (fun z => by cases z)) k, f _ _ (ne_of e hx (fun z => by cases z)) e, f _ _ (ne_of m hx (fun z => by cases z)) m⟩⟩

theorem run_end {H : Hp} {x : Addr} {p : Par} {d : Rd} {svs : List (Key × V)} {ws : List (Nat × Nat)} {ff : Int} {m : Nat} (S : RunS A H x p d svs (ws.map wk) ff) (h : Ph H p svs ws ff m) (e : ws = []) : RunAt A H x p := by
  cases h with
  | first => cases e
  | turn => cases e
  | last s0 s1 ff h0 h1 => exact ⟨d.dx, d.sc, d.r, d.bg, d.ch, d.sv, d.cl, d.wt, s0, s1, ff, ⟨S.ok, S.o, S.sc, S.r, S.bg, S.sv, h0, h1⟩⟩
def sp_Run_init (A : Ad) : Sp := fun vs H Q _ => ∃ x dx sc p, vs = [.ref x, .ref sc] ∧ H x = some (.ins A.c_Run dx []) ∧ SceneAt A H sc p ∧ ∀ H', (∀ b o, b ≠ x → H b = some o → H' b = some o) → RunAt A H' x p → Q .non H'
theorem ok_Run_init (T : Txt K mg A) : FnOk P w K mg base CX0 7 A.f_Run_init A.d_Run_init ["self", "scene"] (sp_Run_init A) := by
  refine T.f_Run_init.ok sc_Run_init (fun vs H Q E h => ?_) (fun cdv AR outer s H vs Q E hr h => ?_)
  · obtain ⟨x, dx, sc, p, rfl, _⟩ := h; rfl
  · obtain ⟨x, dx, sc, p, rfl, hx, SA, q⟩ := h
    obtain ⟨dxs, rs, sts, ls, ts, SX⟩ := id SA
    have hso := SX.o
    have O := SX.ok
    refine ⟨_, pss_cons (ps_if (pt_not (pt_val (pe_callB (callIsi (K := K) (by rfl)) (by rfl) T.z_isinstance (by decide +kernel) (pa_cons (pv 1) (pa_cons (pe_glob (v := .ref A.c_Scene) (by rfl) T.g_Scene rfl) pa_nil))))) (pss_one ps_never) pss_nil) (
      pss_cons (psFld (K := K) (by rfl) (pv 0) (pv 1) (by rfl)) (
      pss_cons (psFld (K := K) (by rfl) (pv 0) (pe_meth0 (pv 1) T.cl_Scene T.m_Scene_rule (ok_Scene_rule T) (hr.mono (by decide)) T.b_Scene_rule .nil pass0) (by rfl)) (
      pss_cons (psFld (K := K) (by rfl) (pv 0) (pe_meth0 (pv 1) T.cl_Scene T.m_Scene_starts (ok_Scene_starts T) (hr.mono (by decide)) T.b_Scene_starts .nil pass0) (by rfl)) (
      pss_cons (psFld (K := K) (by rfl) (pv 0) (pe_meth0 (pv 1) T.cl_Scene T.m_Scene_moments (ok_Scene_moments T) (hr.mono (by decide)) T.b_Scene_moments .nil pass0) (by rfl)) (
      pss_cons (psFld (K := K) (by rfl) (pv 0) pe_dnewK (by rfl)) (
      pss_cons (psFld (K := K) (by rfl) (pv 0) pe_dnewK (by rfl)) (
      pss_cons (psFld (K := K) (by rfl) (pv 0) pe_dnewK (by rfl)) (
      pss_cons (psFld (K := K) (by rfl) (pv 0) (pe_ix (ixL (K := K) (by rfl)) (peFld (K := K) (by rfl) (pv 0) (by rfl)) pe_int (fun _ _ => rfl)) (by rfl)) (
      pss_cons (ps_for PassesOwn.never (by rfl) (piEnum (K := K) (by rfl) (by rfl) T.z_enumerate (pa_cons (peFld (K := K) (by rfl) (pv 0) (by rfl)) pa_nil)) (pgTup (K := K) 2 (by rfl) (by rfl) (pgs_cons (pg_name (i := 2) sc_Run_init.nd (by rfl) (by first | exact Or.inl rfl | exact Or.inr rfl)) (pgs_cons (pg_name (i := 3) sc_Run_init.nd (by rfl) (by first | exact Or.inl rfl | exact Or.inr rfl)) pgs_nil))) (pss_cons (ps_setLc (i := 4) (own := [("other", 5), ("its_start", 6)]) (by rfl) sc_Run_init.nd (by rfl) (by rfl) (sw_true (by rfl) (by rfl) (by rfl) (by decide +kernel)) (piEnum (K := K) (by rfl) (by rfl) T.z_enumerate (pa_cons (peFld (K := K) (by rfl) (pv 0) (by rfl)) pa_nil)) (blkOk_by (own := [("other", 5), ("its_start", 6)]) (N := n_Run_init) (sc := (defScope s_Run_init)) (by decide +kernel)) (fun _ _ _ _ _ => (pgTup (K := K) 2 (by rfl) (by rfl) (pgs_cons (pg_name (i := 5) sc_Run_init.nd (by rfl) (by first | exact Or.inl rfl | exact Or.inr rfl)) (pgs_cons (pg_name (i := 6) sc_Run_init.nd (by rfl) (by first | exact Or.inl rfl | exact Or.inr rfl)) pgs_nil)))) (fun _ _ _ _ _ => (pts_one (pt_cmpR op_eq (pv 6) (pv 3) (nomark _)))) (fun _ _ _ _ _ => (pv 5))) (pss_one (ps_if (pt_cmpR op_gt (pe_callB (callLen (K := K) (by rfl)) (by rfl) T.z_len (by decide +kernel) (pa_cons (pv 4) pa_nil)) pe_int (nomark _)) (pss_one ps_never) (pss_one (ps_dput (hu_of hr) (peFld (K := K) (by rfl) (pv 0) (by rfl)) (pv 2) pe_int (by rfl))))))) (
      pss_one (ps_while PassesOwn.never (pt_cmpR (op_ne_dE hr.units0) (peFld (K := K) (by rfl) (pv 0) (by rfl)) pe_dnewK (nomark _)) (pss_one (ps_expr (pe_meth0 (pv 0) T.cl_Run T.m_Run_advance (ok_Run_advance T) (hr.mono (by decide)) T.b_Run_advance .nil pass0)))))))))))))), ?_⟩
    walk_at "go"
    refine xIsiC (ty_ins SX.o T.cl_Scene T.y1_Scene T T.y2_Scene) T.kit_Scene ?_
    walk_at "xs"
    refine xPutF hx T.cl_Run T.na_its_scene (by simp) pf_r0 ?_
    have f1 : Nx x H (upd H x (.ins A.c_Run dx [(("its_scene" : Str), V.ref sc)])) := nx_upd
    have hx1 : upd H x (.ins A.c_Run dx [(("its_scene" : Str), V.ref sc)]) x = some (.ins A.c_Run dx [(("its_scene" : Str), V.ref sc)]) := upd_same
    generalize upd H x (.ins A.c_Run dx [(("its_scene" : Str), V.ref sc)]) = H1 at f1 hx1 ⊢
    have SA1 := nx_scene f1 hx SA
    walk_at "xs"
    refine call_Scene_rule SA1 (fun r hR1 => ?_)
    walk_at "xs"
    refine xPutF hx1 T.cl_Run T.na_pattern (by simp) pf_r1 ?_
    have nr : ∀ {Ha Hb : Hp} {fs : List (Str × V)}, fs.length ≤ 2 → Ha x = some (.ins A.c_Run dx fs) → Nx x Ha Hb → RuleAt A Ha r p.g p.n → RuleAt A Hb r p.g p.n := fun {Ha Hb fs} hl hxa f hR => by
      obtain ⟨d, l, e, s, ⟨a, b, c, k, m⟩⟩ := hR
      exact ⟨d, l, e, s, ⟨a, f _ _ (ne_of b hxa (fun z => by have z3 := congrArg List.length (HO.ins.inj z).2.2; have z4 : (3 : Nat) = fs.length := z3; omega)) b, f _ _ (ne_of c hxa (fun z => by cases z)) c, f _ _ (ne_of k hxa (fun z => by cases z)) k, f _ _ (ne_of m hxa (fun z => by cases z)) m⟩⟩
    have g2 : Nx x H1 (upd H1 x (.ins A.c_Run dx [(("its_scene" : Str), V.ref sc), (("pattern" : Str), V.ref r)])) := nx_upd
    have hx2 : upd H1 x (.ins A.c_Run dx [(("its_scene" : Str), V.ref sc), (("pattern" : Str), V.ref r)]) x = some (.ins A.c_Run dx [(("its_scene" : Str), V.ref sc), (("pattern" : Str), V.ref r)]) := upd_same
    generalize upd H1 x (.ins A.c_Run dx [(("its_scene" : Str), V.ref sc), (("pattern" : Str), V.ref r)]) = H2 at g2 hx2 ⊢
    have f2 := f1.trans g2
    have hR2 := nr (by simp) hx1 g2 hR1
    have SA2 := nx_scene f2 hx SA
    walk_at "xs"
    refine call_Scene_starts SA2 (fun bg H3 hbg e3 hbgv => ?_)
    have nbg : bg ≠ x := (ne_of_none hx2 hbg).symm
    walk_at "xs"
    refine xPutF (e3 _ _ hx2) T.cl_Run T.na_begins (by simp) pf_r2 ?_
    have g3 : Nx x H3 (upd H3 x (.ins A.c_Run dx [(("its_scene" : Str), V.ref sc), (("pattern" : Str), V.ref r), (("begins" : Str), V.ref bg)])) := nx_upd
    have hx4 : upd H3 x (.ins A.c_Run dx [(("its_scene" : Str), V.ref sc), (("pattern" : Str), V.ref r), (("begins" : Str), V.ref bg)]) x = some (.ins A.c_Run dx [(("its_scene" : Str), V.ref sc), (("pattern" : Str), V.ref r), (("begins" : Str), V.ref bg)]) := upd_same
    generalize upd H3 x (.ins A.c_Run dx [(("its_scene" : Str), V.ref sc), (("pattern" : Str), V.ref r), (("begins" : Str), V.ref bg)]) = H4 at g3 hx4 ⊢
    have f4 := (f2.trans (nx_ex e3)).trans g3
    have hb4 := g3 _ _ nbg hbgv
    have hR4 := nr (by simp) hx2 ((nx_ex e3).trans g3) hR2
    have SA4 := nx_scene f4 hx SA
    walk_at "xs"
    refine call_Scene_moments SA4 (fun ch ns H5 hch e5 hpm hso5 hchv => ?_)
    have nch : ch ≠ x := (ne_of_none hx4 hch).symm
    walk_at "xs"
    refine xPutF (e5 _ _ hx4) T.cl_Run T.na_changes (by simp) pf_r3 ?_
    have g5 : Nx x H5 (upd H5 x (.ins A.c_Run dx [(("its_scene" : Str), V.ref sc), (("pattern" : Str), V.ref r), (("begins" : Str), V.ref bg), (("changes" : Str), V.ref ch)])) := nx_upd
    have hx6 : upd H5 x (.ins A.c_Run dx [(("its_scene" : Str), V.ref sc), (("pattern" : Str), V.ref r), (("begins" : Str), V.ref bg), (("changes" : Str), V.ref ch)]) x = some (.ins A.c_Run dx [(("its_scene" : Str), V.ref sc), (("pattern" : Str), V.ref r), (("begins" : Str), V.ref bg), (("changes" : Str), V.ref ch)]) := upd_same
    generalize upd H5 x (.ins A.c_Run dx [(("its_scene" : Str), V.ref sc), (("pattern" : Str), V.ref r), (("begins" : Str), V.ref bg), (("changes" : Str), V.ref ch)]) = H6 at g5 hx6 ⊢
    have g46 : Nx x H4 H6 := (nx_ex e5).trans g5
    have f6 := f4.trans g46
    have hb6 := g46 _ _ nbg hb4
    have hc6 := g5 _ _ nch hchv
    have nr2 : ∀ {Ha Hb : Hp} {fs : List (Str × V)}, fs.length ≠ 3 → Ha x = some (.ins A.c_Run dx fs) → Nx x Ha Hb → RuleAt A Ha r p.g p.n → RuleAt A Hb r p.g p.n := fun {Ha Hb fs} hl hxa f hR => by
      obtain ⟨d, l, e, s, ⟨a, b, c, k, m⟩⟩ := hR
      exact ⟨d, l, e, s, ⟨a, f _ _ (ne_of b hxa (fun z => by have z3 := congrArg List.length (HO.ins.inj z).2.2; have z4 : (3 : Nat) = fs.length := z3; omega)) b, f _ _ (ne_of c hxa (fun z => by cases z)) c, f _ _ (ne_of k hxa (fun z => by cases z)) k, f _ _ (ne_of m hxa (fun z => by cases z)) m⟩⟩
    have nrx : r ≠ x := by
      obtain ⟨d, l, e, s, ⟨a, b, c, k, m⟩⟩ := hR2
      exact ne_of b hx2 (fun z => by have z3 := congrArg List.length (HO.ins.inj z).2.2; have z4 : (3 : Nat) = 2 := z3; omega)
    have nr3 : ∀ {Ha Hb : Hp}, (∃ fs, Ha x = some (.ins A.c_Run dx fs)) → Nx x Ha Hb → RuleAt A Ha r p.g p.n → RuleAt A Hb r p.g p.n := fun {Ha Hb} hxa f hR => by
      obtain ⟨fs, hxa⟩ := hxa
      obtain ⟨d, l, e, s, ⟨a, b, c, k, m⟩⟩ := hR
      exact ⟨d, l, e, s, ⟨a, f _ _ nrx b, f _ _ (ne_of c hxa (fun z => by cases z)) c, f _ _ (ne_of k hxa (fun z => by cases z)) k, f _ _ (ne_of m hxa (fun z => by cases z)) m⟩⟩
    have hR6 := nr3 ⟨_, hx4⟩ g46 hR4
    walk_at "xs"
    refine xDNew (fun sv H7 hsv e7 hsvv => ?_)
    have nsv : sv ≠ x := (ne_of_none hx6 hsv).symm
    walk_at "xs"
    refine xPutF (e7 _ _ hx6) T.cl_Run T.na_services (by simp) pf_r4 ?_
    have g7 : Nx x H7 (upd H7 x (.ins A.c_Run dx [(("its_scene" : Str), V.ref sc), (("pattern" : Str), V.ref r), (("begins" : Str), V.ref bg), (("changes" : Str), V.ref ch), (("services" : Str), V.ref sv)])) := nx_upd
    have hx8 : upd H7 x (.ins A.c_Run dx [(("its_scene" : Str), V.ref sc), (("pattern" : Str), V.ref r), (("begins" : Str), V.ref bg), (("changes" : Str), V.ref ch), (("services" : Str), V.ref sv)]) x = some (.ins A.c_Run dx [(("its_scene" : Str), V.ref sc), (("pattern" : Str), V.ref r), (("begins" : Str), V.ref bg), (("changes" : Str), V.ref ch), (("services" : Str), V.ref sv)]) := upd_same
    generalize upd H7 x (.ins A.c_Run dx [(("its_scene" : Str), V.ref sc), (("pattern" : Str), V.ref r), (("begins" : Str), V.ref bg), (("changes" : Str), V.ref ch), (("services" : Str), V.ref sv)]) = H8 at g7 hx8 ⊢
    have g68 : Nx x H6 H8 := (nx_ex e7).trans g7
    have f8 := f6.trans g68
    have hs8 := g7 _ _ nsv hsvv
    walk_at "xs"
    refine xDNew (fun cl H9 hcl e9 hclv => ?_)
    have ncl : cl ≠ x := (ne_of_none hx8 hcl).symm
    have ncs : cl ≠ sv := (ne_of_none hs8 hcl).symm
    walk_at "xs"
    refine xPutF (e9 _ _ hx8) T.cl_Run T.na_closed (by simp) pf_r5 ?_
    have g9 : Nx x H9 (upd H9 x (.ins A.c_Run dx [(("its_scene" : Str), V.ref sc), (("pattern" : Str), V.ref r), (("begins" : Str), V.ref bg), (("changes" : Str), V.ref ch), (("services" : Str), V.ref sv), (("closed" : Str), V.ref cl)])) := nx_upd
    have hx10 : upd H9 x (.ins A.c_Run dx [(("its_scene" : Str), V.ref sc), (("pattern" : Str), V.ref r), (("begins" : Str), V.ref bg), (("changes" : Str), V.ref ch), (("services" : Str), V.ref sv), (("closed" : Str), V.ref cl)]) x = some (.ins A.c_Run dx [(("its_scene" : Str), V.ref sc), (("pattern" : Str), V.ref r), (("begins" : Str), V.ref bg), (("changes" : Str), V.ref ch), (("services" : Str), V.ref sv), (("closed" : Str), V.ref cl)]) := upd_same
    generalize upd H9 x (.ins A.c_Run dx [(("its_scene" : Str), V.ref sc), (("pattern" : Str), V.ref r), (("begins" : Str), V.ref bg), (("changes" : Str), V.ref ch), (("services" : Str), V.ref sv), (("closed" : Str), V.ref cl)]) = H10 at g9 hx10 ⊢
    have g810 : Nx x H8 H10 := (nx_ex e9).trans g9
    have f10 := f8.trans g810
    have hs10 := g810 _ _ nsv hs8
    have hc10 := g9 _ _ ncl hclv
    walk_at "xs"
    refine xDNew (fun wt H11 hwt e11 hwtv => ?_)
    have nwt : wt ≠ x := (ne_of_none hx10 hwt).symm
    have nsw : sv ≠ wt := ne_of_none hs10 hwt
    have ncw : cl ≠ wt := ne_of_none hc10 hwt
    walk_at "xs"
    refine xPutF (e11 _ _ hx10) T.cl_Run T.na_waiting (by simp) pf_r6 ?_
    have g11 : Nx x H11 (upd H11 x (.ins A.c_Run dx [(("its_scene" : Str), V.ref sc), (("pattern" : Str), V.ref r), (("begins" : Str), V.ref bg), (("changes" : Str), V.ref ch), (("services" : Str), V.ref sv), (("closed" : Str), V.ref cl), (("waiting" : Str), V.ref wt)])) := nx_upd
    have hx12 : upd H11 x (.ins A.c_Run dx [(("its_scene" : Str), V.ref sc), (("pattern" : Str), V.ref r), (("begins" : Str), V.ref bg), (("changes" : Str), V.ref ch), (("services" : Str), V.ref sv), (("closed" : Str), V.ref cl), (("waiting" : Str), V.ref wt)]) x = some (.ins A.c_Run dx [(("its_scene" : Str), V.ref sc), (("pattern" : Str), V.ref r), (("begins" : Str), V.ref bg), (("changes" : Str), V.ref ch), (("services" : Str), V.ref sv), (("closed" : Str), V.ref cl), (("waiting" : Str), V.ref wt)]) := upd_same
    generalize upd H11 x (.ins A.c_Run dx [(("its_scene" : Str), V.ref sc), (("pattern" : Str), V.ref r), (("begins" : Str), V.ref bg), (("changes" : Str), V.ref ch), (("services" : Str), V.ref sv), (("closed" : Str), V.ref cl), (("waiting" : Str), V.ref wt)]) = H12 at g11 hx12 ⊢
    have g1012 : Nx x H10 H12 := (nx_ex e11).trans g11
    have f12 := f10.trans g1012
    have g612 : Nx x H6 H12 := (g68.trans g810).trans g1012
    have hch12 := g612 _ _ nch hc6
    obtain ⟨ns', rfl⟩ : ∃ ns', ns = 0 :: ns' := by
      cases ns with
      | nil => exact absurd hpm.length_eq (by simp [mom])
      | cons a l =>
        have h1 : (0 : Int) ∈ a :: l := hpm.mem_iff.mpr mom_0
        have h2 : 0 ≤ a := mom_nn O a (hpm.mem_iff.mp (List.mem_cons_self ..))
        rcases List.mem_cons.mp h1 with h1 | h1
        · exact ⟨l, by rw [h1]⟩
        · have h3 := (List.pairwise_cons.mp hso5).1 0 h1
          exact ⟨l, by rw [show a = 0 by omega]⟩
    walk_at "xs"
    refine xHas (v := .ref ch) ⟨_, dx, _, hx12, T.cl_Run, T.na_changes, by kernel_rfl⟩ ?_
    walk_at "xs"
    refine xIxL hch12 (at_of (j := 0) rfl rfl) ?_
    walk_at "xs"
    refine xPutF hx12 T.cl_Run T.na_free_from (by simp) pf_r7 ?_
    have g12 : Nx x H12 (upd H12 x (.ins A.c_Run dx [(("its_scene" : Str), V.ref sc), (("pattern" : Str), V.ref r), (("begins" : Str), V.ref bg), (("changes" : Str), V.ref ch), (("services" : Str), V.ref sv), (("closed" : Str), V.ref cl), (("waiting" : Str), V.ref wt), (("free_from" : Str), V.int 0)])) := nx_upd
    have hx13 : upd H12 x (.ins A.c_Run dx [(("its_scene" : Str), V.ref sc), (("pattern" : Str), V.ref r), (("begins" : Str), V.ref bg), (("changes" : Str), V.ref ch), (("services" : Str), V.ref sv), (("closed" : Str), V.ref cl), (("waiting" : Str), V.ref wt), (("free_from" : Str), V.int 0)]) x = some (.ins A.c_Run dx [(("its_scene" : Str), V.ref sc), (("pattern" : Str), V.ref r), (("begins" : Str), V.ref bg), (("changes" : Str), V.ref ch), (("services" : Str), V.ref sv), (("closed" : Str), V.ref cl), (("waiting" : Str), V.ref wt), (("free_from" : Str), V.int 0)]) := upd_same
    generalize upd H12 x (.ins A.c_Run dx [(("its_scene" : Str), V.ref sc), (("pattern" : Str), V.ref r), (("begins" : Str), V.ref bg), (("changes" : Str), V.ref ch), (("services" : Str), V.ref sv), (("closed" : Str), V.ref cl), (("waiting" : Str), V.ref wt), (("free_from" : Str), V.int 0)]) = H13 at g12 hx13 ⊢
    have g613 := g612.trans g12
    have f13 := f12.trans g12
    have S : RunS A H13 x p ⟨dx, sc, r, bg, ch, sv, cl, wt, 0 :: ns'⟩ [] [] 0 :=
      ⟨O, hx13, nx_scene f13 hx SA, nr3 ⟨_, hx6⟩ g613 hR6, g613 _ _ nbg hb6, g613 _ _ nch hc6, hpm, (g1012.trans g12) _ _ nsv hs10, (g1012.trans g12) _ _ ncl hc10, (g11.trans g12) _ _ nwt hwtv, nsw, ncw, ncs⟩
    have hfin : ∀ H', Fr x sv wt H13 H' → ∀ b o, b ≠ x → H b = some o → H' b = some o := fun H' f b o nb hb => by
      refine f b o nb (fun z => ?_) (fun z => ?_) (f13 b o nb hb)
      · subst z; rw [f6 _ _ nb hb] at hsv; cases hsv
      · subst z; rw [f10 _ _ nb hb] at hwt; cases hwt
    clear SA1 SA2 SA4 f1 hx1 nr hR1 g2 hx2 f2 hR2 e3 hbgv g3 hx4 f4 hb4 hR4 hchv g5 hx6 g46 f6 hb6 hc6 nr2 nr3 hR6 g7 hx8 g68 f8 hs8 g9 hx10 g810 f10 hs10 hc10 g11 hx12 g1012 f12 g612 hch12 g12 hx13 g613 f13 hso5 e5 e7 e9 e11
    generalize hd : (⟨dx, sc, r, bg, ch, sv, cl, wt, 0 :: ns'⟩ : Rd) = d at S
    have ds : d.sv = sv := by rw [← hd]
    have dw : d.wt = wt := by rw [← hd]
    rw [← ds, ← dw] at hfin
    have ho := S.o
    walk_at "xs"
    refine xForEnum1 S.bg (fun i σ' H' => (∃ a b c e f, σ' = [some (.ref x), some (.ref sc), a, b, c, e, f]) ∧ Fr x d.sv d.wt H13 H' ∧ RunS A H' x p d [] (((List.range i).map fun c => (c, 0)).map wk) 0)
      ⟨⟨_, _, _, _, _, rfl⟩, fr_ex (ex_refl _), S⟩ (fun i σ' H' q => q.2.2.bg) ?_ ?_
    · rintro i v σ' H' hi ⟨⟨a, b, c, e, f, rfl⟩, fr, S2⟩ T2 H2 e2 hT
      have hi2 : i ≤ 1 := by
        have := (List.getElem?_eq_some_iff.mp hi).1
        simp at this
        omega
      obtain rfl : v = .int (stt p i) := Option.some.inj (hi.symm.trans (stt_at hi2))
      have S3 := S2.ex e2
      have ho3 := S3.o
      have hb3 := S3.bg
      walk_at "xs"
      refine cgoEnum hb3 (by simp) (fun j u => if j = i then some (.int (i : Int)) else none) ?_ ?_
      · intro j u T4 H4 Y1 N1 hj e4 hT4 hY hN
        have hj2 : j ≤ 1 := by
          have := (List.getElem?_eq_some_iff.mp hj).1
          simp at this
          omega
        obtain rfl : u = .int (stt p j) := Option.some.inj (hj.symm.trans (stt_at hj2))
        walk_at "xs"
        refine ⟨rfl, ?_⟩
        walk_at "xs"
        have b1 := O.b1
        have st : stt p j = stt p i ↔ j = i := by
          unfold stt
          constructor
          · intro h
            by_cases c0 : j = 0
            · rw [if_pos c0] at h
              by_cases c1 : i = 0
              · omega
              · rw [if_neg c1] at h; omega
            · rw [if_neg c0] at h
              by_cases c1 : i = 0
              · rw [if_pos c1] at h; omega
              · omega
          · intro h; rw [h]
        refine itD (fun h1 => ?_) (fun h1 => ?_)
        · walk_at "xs"
          exact hY _ _ (ex_refl _) (by rw [if_pos (st.mp h1), st.mp h1])
        · exact hN _ (ex_refl _) (if_neg fun z => h1 (st.mpr z))
      · intro y4 H4 hy4 e4 h4
        have ee : (List.range ([V.int 0, V.int p.b] : List V).length).filterMap (fun (j : Nat) => ([V.int 0, V.int p.b] : List V)[j]?.bind fun _ => if j = i then some (V.int (i : Int)) else none) = [.int (i : Int)] := by
          match i, hi2 with
          | 0, _ => rfl
          | 1, _ => rfl
        rw [ee] at h4
        have S4 := S3.ex e4
        have ho4 := S4.o
        walk_at "xs"
        walk_at "t"
        refine xPutK (.inl (i : Int)) rfl S4.wt (by simp; omega) ?_
        refine ⟨⟨_, _, _, _, _, rfl⟩, fr.trans ((fr_ex (e2.trans e4)).trans fr_b), ?_⟩
        have ep : putK ((((List.range i).map fun c => (c, 0)).map wk)) (.inl (i : Int)) (.int 0) = (((List.range (i + 1)).map fun c => (c, 0)).map wk) := by
          match i, hi2 with
          | 0, _ => rfl
          | 1, _ => rfl
        rw [ep]
        exact S4.setW
    · rintro σ' H' ⟨⟨a, b, c, e, f, rfl⟩, fr, S2⟩
      walk_at "xs"
      refine xWhile (fun m σ3 H3 => (∃ a b c e f, σ3 = [some (.ref x), some (.ref sc), a, b, c, e, f]) ∧ Fr x d.sv d.wt H13 H3 ∧ ∃ svs ws ff, RunS A H3 x p d svs (ws.map wk) ff ∧ Ph H3 p svs ws ff m) 4
        ⟨⟨_, _, _, _, _, rfl⟩, fr, [], [(0, 0), (1, 0)], 0, S2, .first⟩ ?_
      rintro m σ3 H3 ⟨⟨a, b, c, e, f, rfl⟩, fr3, svs, ws, ff, S3, ph⟩
      have ho3 := S3.o
      walk_at "xs"
      refine xDNew (fun e0 H4 he0 e4 h4 => ?_)
      have S4 := S3.ex e4
      have ho4 := S4.o
      have ph4 := ph_keeps (keeps_ex e4) ph
      refine ⟨_, _, _, rfl, rfl, S4.wt, h4, ?_⟩
      walk_at "xs"
      cases hws : ws with
      | nil =>
        rw [if_neg (by simp)]
        walk_at "xs"
        exact q H4 (hfin H4 (fr3.trans (fr_ex e4))) (run_end S4 ph4 hws)
      | cons u us =>
        rw [if_pos (by simp)]
        refine xTurn ?_
        have h0 : 0 < m := by
          cases ph4 with
          | first => omega
          | turn => unfold ms; split; omega; split <;> omega
          | last => cases hws
        walk_at "xs"
        refine call_Run_advance S4 ph4 h0 (fun H5 svs5 ws5 ff5 m5 f5 S5 ph5 lt5 => ?_)
        walk_at "xs"
        exact ⟨m5, lt5, ⟨_, _, _, _, _, rfl⟩, fr3.trans ((fr_ex e4).trans f5), svs5, ws5, ff5, S5, ph5⟩
end RK
end

section
namespace RK
open PySem L2 RS
variable {P : Program} {w : World} {K : PySem.W.Frag} {mg : Str → Option Value} {base : Heap} {A : Ad}

/-! ### a run is read -/
def sp_Run_scene (A : Ad) : Sp := fun vs H Q _ => ∃ x p, vs = [.ref x] ∧ RunAt A H x p ∧ ∀ sc, SceneAt A H sc p → Q (.ref sc) H
theorem call_Run_scene {H : Hp} {x : Addr} {p : Par} {Q : VK} {E : XK} (h : RunAt A H x p) (q : ∀ sc, SceneAt A H sc p → Q (.ref sc) H) : sp_Run_scene A (.ref x :: ([] ++ [])) H Q E := ⟨x, p, rfl, h, q⟩
theorem ok_Run_scene (T : Txt K mg A) : FnOk P w K mg base CX0 1 A.f_Run_scene A.d_Run_scene ["self"] (sp_Run_scene A) := by
  refine T.f_Run_scene.ok sc_Run_scene (fun vs H Q E h => ?_) (fun cdv AR outer s H vs Q E hr h => ?_)
  · obtain ⟨x, p, rfl, _⟩ := h; rfl
  · obtain ⟨x, p, rfl, ⟨dx, sc, r, bg, ch, sv, cl, wt, s0, s1, ff, R⟩, q⟩ := h
    have ho := R.o
    refine ⟨_, pss_one (ps_ret (peFld (K := K) (by rfl) (pv 0) (by rfl))), ?_⟩
    walk_at "go"
    exact q _ R.sc
def sp_Run_outcome (A : Ad) : Sp := fun vs H Q _ => ∃ x p, vs = [.ref x, .int 1] ∧ RunAt A H x p ∧ ∀ y H1, H y = none → Ex H H1 → H1 y = some (.tup [.str "served", .int (p.k3 : Int), .int (p.t p.k3)]) → Q (.ref y) H1
theorem call_Run_outcome {H : Hp} {x : Addr} {p : Par} {Q : VK} {E : XK} (h : RunAt A H x p) (q : ∀ y H1, H y = none → Ex H H1 → H1 y = some (.tup [.str "served", .int (p.k3 : Int), .int (p.t p.k3)]) → Q (.ref y) H1) : sp_Run_outcome A (.ref x :: ([.int 1] ++ [])) H Q E := ⟨x, p, rfl, h, q⟩
theorem ok_Run_outcome (T : Txt K mg A) : FnOk P w K mg base CX0 4 A.f_Run_outcome A.d_Run_outcome ["self", "client"] (sp_Run_outcome A) := by
  refine T.f_Run_outcome.ok sc_Run_outcome (fun vs H Q E h => ?_) (fun cdv AR outer s H vs Q E hr h => ?_)
  · obtain ⟨x, p, rfl, _⟩ := h; rfl
  · obtain ⟨x, p, rfl, ⟨dx, sc, r, bg, ch, sv, cl, wt, s0, s1, ff, R⟩, q⟩ := h
    have ho := R.o
    have hsc := R.sc
    have h1 := R.s1
    refine ⟨_, pss_cons (ps_expr (pe_meth (peFld (K := K) (by rfl) (pv 0) (by rfl)) T.cl_Scene T.m_Scene_check_client (ok_Scene_check_client T) (hr.mono (by decide)) T.b_Scene_check_client .nil pass0 (pa_cons (pv 1) pa_nil))) (
      pss_cons (ps_if (pt_cmp (pc_din (hu_of hr) (pv 1) (peFld (K := K) (by rfl) (pv 0) (by rfl)))) (pss_cons (ps_asg (pe_dget (hu_of hr) (peFld (K := K) (by rfl) (pv 0) (by rfl)) (pv 1) (fun _ _ => rfl)) (pgTup (K := K) 2 (by rfl) (by rfl) (pgs_cons (pg_name (i := 2) sc_Run_outcome.nd (by rfl) (by first | exact Or.inl rfl | exact Or.inr rfl)) (pgs_cons (pg_name (i := 3) sc_Run_outcome.nd (by rfl) (by first | exact Or.inl rfl | exact Or.inr rfl)) pgs_nil)))) (pss_one (ps_ret (pe_tup (pa_cons pe_str (pa_cons (pv 2) (pa_cons (pv 3) pa_nil))))))) pss_nil) (
      pss_one ps_never)), ?_⟩
    walk_at "go"
    refine call_Scene_check_client (c := 1) hsc rfl (by omega) ?_
    walk_at "xs"
    refine xInK (.inl 1) true rfl R.sv (by rfl) ?_
    walk_at "xs"
    refine xGetK (.inl 1) rfl R.sv (by rfl) ?_
    walk_at "xs"
    exact xNewT (by simp) q
def sp_Run_order (A : Ad) : Sp := fun vs H Q _ => ∃ x p, vs = [.ref x] ∧ RunAt A H x p ∧ ∀ y a b H1, H y = none → Ex H H1 → H1 y = some (.lst [.ref a, .ref b]) → H1 a = some (.tup [.int 0, .int 0]) → H1 b = some (.tup [.int (p.t p.k3), .int 1]) → Q (.ref y) H1
theorem call_Run_order {H : Hp} {x : Addr} {p : Par} {Q : VK} {E : XK} (h : RunAt A H x p) (q : ∀ y a b H1, H y = none → Ex H H1 → H1 y = some (.lst [.ref a, .ref b]) → H1 a = some (.tup [.int 0, .int 0]) → H1 b = some (.tup [.int (p.t p.k3), .int 1]) → Q (.ref y) H1) :
    sp_Run_order A (.ref x :: ([] ++ [])) H Q E := ⟨x, p, rfl, h, q⟩
theorem t_pos {p : Par} (O : p.Ok) (k : Nat) : 1 ≤ p.t k := by
  have h1 := O.b1
  have h2 := O.o_nn k
  rw [t_eq]
  omega
theorem ok_Run_order (T : Txt K mg A) : FnOk P w K mg base CX0 1 A.f_Run_order A.d_Run_order ["self"] (sp_Run_order A) := by
  refine T.f_Run_order.ok sc_Run_order (fun vs H Q E h => ?_) (fun cdv AR outer s H vs Q E hr h => ?_)
  · obtain ⟨x, p, rfl, _⟩ := h; rfl
  · obtain ⟨x, p, rfl, ⟨dx, sc, r, bg, ch, sv, cl, wt, s0, s1, ff, R⟩, q⟩ := h
    have ho := R.o
    have tp := t_pos R.ok p.k3
    refine ⟨_, pss_one (ps_ret (pe_callB (callSortedP (K := K) (by rfl)) (by rfl) T.z_sorted (by decide +kernel) (pa_cons (pe_lock (pe_lc (own := [("client", 1), ("attempt", 2), ("slot", 3)]) (by rfl) sc_Run_order.nd (pi_items (peFld (K := K) (by rfl) (pv 0) (by rfl))) (blkOk_by (own := [("client", 1), ("attempt", 2), ("slot", 3)]) (N := n_Run_order) (sc := (defScope s_Run_order)) (by decide +kernel)) (fun _ _ _ _ _ => (pgTup (K := K) 2 (by rfl) (by rfl) (pgs_cons (pg_name (i := 1) sc_Run_order.nd (by rfl) (by first | exact Or.inl rfl | exact Or.inr rfl)) (pgs_cons (pgTup (K := K) 2 (by rfl) (by rfl) (pgs_cons (pg_name (i := 2) sc_Run_order.nd (by rfl) (by first | exact Or.inl rfl | exact Or.inr rfl)) (pgs_cons (pg_name (i := 3) sc_Run_order.nd (by rfl) (by first | exact Or.inl rfl | exact Or.inr rfl)) pgs_nil))) pgs_nil)))) (fun _ _ _ _ _ => pts_nil) (fun _ _ _ _ _ => (pe_tup (pa_cons (pv 3) (pa_cons (pv 1) pa_nil)))))) pa_nil))), ?_⟩
    walk_at "go"
    refine xLockE R.sv trivial (fun od H1 f1 h1 => ?_)
    have ho1 : H1 x = some (.ins A.c_Run dx (runF sc r bg ch sv cl wt ff)) := f1 _ _ (ne_of ho R.sv (by intro z; cases z)) ho
    have t0 : H1 s0 = some (.tup [.int 0, .int 0]) := f1 _ _ (ne_of R.s0 R.sv (by intro z; cases z)) R.s0
    have t1 : H1 s1 = some (.tup [.int (p.k3 : Int), .int (p.t p.k3)]) := f1 _ _ (ne_of R.s1 R.sv (by intro z; cases z)) R.s1
    walk_at "xs"
    refine cgoItems h1 (by simp) (fun i l S => (i = 0 ∧ l = []) ∨ (i = 1 ∧ ∃ a, l = [.ref a] ∧ S a = some (.tup [.int 0, .int 0])) ∨ (i = 2 ∧ ∃ a b, l = [.ref a, .ref b] ∧ S a = some (.tup [.int 0, .int 0]) ∧ S b = some (.tup [.int (p.t p.k3), .int 1]))) (.inl ⟨rfl, rfl⟩) ?_ ?_
    · intro i kk v l D2 T2 S2 H8 Y1 N1 hi a1 a2 a3 a4 a5 hT hY hN
      match i, hi with
      | 0, hi =>
        cases hi
        have t08 := a3 _ _ (a2 _ _ t0)
        walk_at "xs"
        refine ⟨rfl, ?_⟩
        walk_at "xs"
        refine xNewT (by simp) (fun a H9 ha e9 h9 => ?_)
        rcases a5 with ⟨_, rfl⟩ | ⟨z, _⟩ | ⟨z, _⟩
        · exact hY _ _ e9 (.inr (.inl ⟨rfl, a, rfl, era_at h9 (ne_of_none a4 ha).symm⟩))
        · omega
        · omega
      | 1, hi =>
        cases hi
        have t18 := a3 _ _ (a2 _ _ t1)
        walk_at "xs"
        refine ⟨rfl, ?_⟩
        walk_at "xs"
        refine xNewT (by simp) (fun b H9 hb e9 h9 => ?_)
        rcases a5 with ⟨z, _⟩ | ⟨_, a, rfl, h⟩ | ⟨z, _⟩
        · omega
        · exact hY _ _ e9 (.inr (.inr ⟨rfl, a, b, rfl, era_at (e9 _ _ (a3 _ _ h)) (ne_of_none h a1), era_at h9 (ne_of_none a4 hb).symm⟩))
        · omega
      | i + 2, hi => cases hi
    · intro y2 H8 l S8 hy2 e8 e8' hs8 h8 hl
      refine ⟨e8' _ _ (e8 _ _ h1), ?_⟩
      obtain ⟨a, b, rfl, ha, hb⟩ : ∃ a b, l = [.ref a, .ref b] ∧ S8 a = some (.tup [.int 0, .int 0]) ∧ S8 b = some (.tup [.int (p.t p.k3), .int 1]) := by
        rcases hl with ⟨z, _⟩ | ⟨z, _⟩ | ⟨_, h⟩
        · cases z
        · cases z
        · exact h
      have e9 := unlock_ex (od := od) R.sv f1 (e8.trans e8')
      have n2 : y2 ≠ sv := (ne_of_none h1 hy2).symm
      have ha8 := e8' _ _ ha
      have hb8 := e8' _ _ hb
      have h88 := e8' _ _ (e8 _ _ h1)
      have h9 : upd H8 sv (.dK [(.inl 0, .ref s0), (.inl 1, .ref s1)]) y2 = some (.lst [.ref a, .ref b]) := by rw [upd_ne n2, h8]
      have ha9 : upd H8 sv (.dK [(.inl 0, .ref s0), (.inl 1, .ref s1)]) a = some (.tup [.int 0, .int 0]) := by rw [upd_ne (ne_of ha8 h88 (by intro z; cases z))]; exact ha8
      have hb9 : upd H8 sv (.dK [(.inl 0, .ref s0), (.inl 1, .ref s1)]) b = some (.tup [.int (p.t p.k3), .int 1]) := by rw [upd_ne (ne_of hb8 h88 (by intro z; cases z))]; exact hb8
      generalize upd H8 sv (.dK [(.inl 0, .ref s0), (.inl 1, .ref s1)]) = H9 at e9 h9 ha9 hb9 ⊢
      have nab : b ≠ a := ne_of hb9 ha9 (by intro z; have z2 := HO.tup.inj z; simp at z2)
      walk_at "xs"
      let k : V → Int × Int := fun v => if v = .ref a then (0, 0) else (p.t p.k3, 1)
      have ka : k (.ref a) = (0, 0) := if_pos rfl
      have kb : k (.ref b) = (p.t p.k3, 1) := if_neg (fun z => nab (V.ref.inj z))
      refine ⟨y2, [.ref a, .ref b], k, rfl, SqL.of h9, ?_, fun ys py hs hb hp => ?_⟩
      · intro v hv
        rcases List.mem_cons.mp hv with rfl | hv
        · exact ⟨a, rfl, by rw [ka]; exact ha9⟩
        · rw [List.mem_singleton.mp hv]
          exact ⟨b, rfl, by rw [kb]; exact hb9⟩
      · have hsx : SrtO.Srtd (ltP k) [.ref a, .ref b] := by
          refine List.pairwise_cons.mpr ⟨fun v hv => ?_, List.pairwise_singleton _ _⟩
          rw [List.mem_singleton.mp hv]
          show SrtO.lexB (k (.ref b)) (k (.ref a)) = false
          rw [ka, kb]
          refine SrtO.lexB_no.mpr ?_
          show _
          simp
          omega
        have e := SrtO.stb_uniq (ltP_swo k) hs hsx hb
        subst e
        exact q py a b _ (ex_free e9 hp) (e9.trans (ex_new hp)) upd_same (ex_new hp _ _ ha9) (ex_new hp _ _ hb9)

def sp_Run_is_active (A : Ad) : Sp := fun vs H Q _ => ∃ x p, ∃ c k : Nat, vs = [.ref x, .int (c : Int), .int (p.t k)] ∧ RunAt A H x p ∧ c ≤ 1 ∧ k ≤ p.k3 ∧ ∀ H1, Ex H H1 → Q (.bl (decide (c = 1))) H1
theorem call_Run_is_active {H : Hp} {x : Addr} {p : Par} {c k : Nat} {y z : Int} {Q : VK} {E : XK} (h : RunAt A H x p) (e : y = (c : Int)) (e2 : z = p.t k) (hc : c ≤ 1) (hk : k ≤ p.k3) (q : ∀ H1, Ex H H1 → Q (.bl (decide (c = 1))) H1) :
    sp_Run_is_active A (.ref x :: ([.int y, .int z] ++ [])) H Q E := ⟨x, p, c, k, by rw [e, e2]; rfl, h, hc, hk, q⟩
theorem ok_Run_is_active (T : Txt K mg A) : FnOk P w K mg base CX0 4 A.f_Run_is_active A.d_Run_is_active ["self", "client", "slot"] (sp_Run_is_active A) := by
  refine T.f_Run_is_active.ok sc_Run_is_active (fun vs H Q E h => ?_) (fun cdv AR outer s H vs Q E hr h => ?_)
  · obtain ⟨x, p, c, k, rfl, _⟩ := h; rfl
  · obtain ⟨x, p, c, k, rfl, ⟨dx, sc, r, bg, ch, sv, cl, wt, s0, s1, ff, R⟩, hc, hk, q⟩ := h
    have ho := R.o
    have hr2 := R.r
    have hs0 := R.s0
    have hs1 := R.s1
    have tp := t_pos R.ok k
    have tb : p.b ≤ p.t k := by have := R.ok.o_nn k; rw [t_eq]; omega
    have tm := t_mono R.ok hk
    refine ⟨_, pss_cons (ps_if (PW.pt (pw_or (pt_cmpR op_gt (pe_ix (ixL (K := K) (by rfl)) (peFld (K := K) (by rfl) (pv 0) (by rfl)) (pv 1) (fun _ _ => rfl)) (pv 2) (nomark _)) (pw_or1 (PW.pt (pw_and (pt_cmp (pc_din (hu_of hr) (pv 1) (peFld (K := K) (by rfl) (pv 0) (by rfl)))) (pw_and1 (pt_cmpR op_lt (pe_ix (ixT (K := K) (by rfl)) (pe_dget (hu_of hr) (peFld (K := K) (by rfl) (pv 0) (by rfl)) (pv 1) (fun _ _ => rfl)) pe_int (fun _ _ => rfl)) (pv 2) (nomark _)))))))) (pss_one (ps_ret pe_bl)) pss_nil) (
      pss_one (ps_ret (pe_cmpR op_notN1 (pe_meth (peFld (K := K) (by rfl) (pv 0) (by rfl)) T.cl_Rule T.m_Rule_first_from (ok_Rule_first_from T) (hr.mono (by decide)) T.b_Rule_first_from .nil pass0 (pa_cons (pe_op op_sub (pv 2) (pe_ix (ixL (K := K) (by rfl)) (peFld (K := K) (by rfl) (pv 0) (by rfl)) (pv 1) (fun _ _ => rfl))) pa_nil)) pe_non (nomark _)))), ?_⟩
    walk_at "go"
    refine xIxL R.bg (at_of rfl (stt_at hc)) ?_
    walk_at "xs"
    match c, hc with
    | 0, _ =>
      refine itN (show ¬ p.t k < (0 : Int) by omega) ?_
      walk_at "xs"
      refine xInK (.inl 0) true rfl R.sv (by rfl) ?_
      walk_at "xs"
      refine xGetK (.inl 0) rfl R.sv (by rfl) ?_
      walk_at "xs"
      walk_at "t"
      exact q H (ex_refl _)
    | 1, _ =>
      refine itN (show ¬ p.t k < p.b by omega) ?_
      walk_at "xs"
      refine xInK (.inl 1) true rfl R.sv (by rfl) ?_
      walk_at "xs"
      refine xGetK (.inl 1) rfl R.sv (by rfl) ?_
      walk_at "xs"
      refine itN (show ¬ p.t p.k3 < p.t k by omega) ?_
      walk_at "xs"
      refine xIxL R.bg (at_of (j := 1) rfl rfl) ?_
      walk_at "xs"
      refine call_Rule_first_from hr2 (fun H1 e1 => ?_)
      walk_at "xs"
      refine xNotN (c := true) (by rfl) ?_
      exact q H1 e1
def sp_Run_active (A : Ad) : Sp := fun vs H Q _ => ∃ x p, ∃ k : Nat, vs = [.ref x, .int (p.t k)] ∧ RunAt A H x p ∧ k ≤ p.k3 ∧ ∀ y H1, H y = none → Ex H H1 → H1 y = some (.lst [.int 1]) → Q (.ref y) H1
theorem call_Run_active {H : Hp} {x : Addr} {p : Par} {k : Nat} {z : Int} {Q : VK} {E : XK} (h : RunAt A H x p) (e2 : z = p.t k) (hk : k ≤ p.k3) (q : ∀ y H1, H y = none → Ex H H1 → H1 y = some (.lst [.int 1]) → Q (.ref y) H1) :
    sp_Run_active A (.ref x :: ([.int z] ++ [])) H Q E := ⟨x, p, k, by rw [e2]; rfl, h, hk, q⟩
theorem ok_Run_active (T : Txt K mg A) : FnOk P w K mg base CX0 5 A.f_Run_active A.d_Run_active ["self", "slot"] (sp_Run_active A) := by
  refine T.f_Run_active.ok sc_Run_active (fun vs H Q E h => ?_) (fun cdv AR outer s H vs Q E hr h => ?_)
  · obtain ⟨x, p, k, rfl, _⟩ := h; rfl
  · obtain ⟨x, p, k, rfl, RA, hk, q⟩ := h
    obtain ⟨dx, sc, r, bg, ch, sv, cl, wt, s0, s1, ff, R⟩ := id RA
    have ho := R.o
    have hbg := R.bg
    refine ⟨_, pss_cons (ps_if (pt_not (pt_val (pe_call (ok_is_integer T) (hr.mono (by decide)) (by rfl) T.g_is_integer T.f_is_integer.kp T.b_is_integer .nil pass0 (pa_cons (pv 1) pa_nil)))) (pss_one ps_never) pss_nil) (
      pss_one (ps_ret (pe_lc (own := [("client", 2)]) (by rfl) sc_Run_active.nd (pi_range1 (by rfl) T.z_range (pa_cons (pe_callB (callLen (K := K) (by rfl)) (by rfl) T.z_len (by decide +kernel) (pa_cons (peFld (K := K) (by rfl) (pv 0) (by rfl)) pa_nil)) pa_nil)) (blkOk_by (own := [("client", 2)]) (N := n_Run_active) (sc := (defScope s_Run_active)) (by decide +kernel)) (fun _ _ _ _ _ => (pg_name (i := 2) sc_Run_active.nd (by rfl) (by first | exact Or.inl rfl | exact Or.inr rfl))) (fun _ _ _ _ _ => (pts_one (pt_val (pe_meth (pv 0) T.cl_Run T.m_Run_is_active (ok_Run_is_active T) (hr.mono (by decide)) T.b_Run_is_active .nil pass0 (pa_cons (pv 2) (pa_cons (pv 1) pa_nil)))))) (fun _ _ _ _ _ => (pv 2))))), ?_⟩
    walk_at "go"
    refine call_is_integer ?_
    walk_at "xs"
    refine cgoRng (n := 2) (by omega) (fun c => if c = 1 then some (.int 1) else none) ?_ ?_
    · intro c H2 Y1 N1 hc e2 hY hN
      walk_at "xs"
      refine ⟨rfl, ?_⟩
      walk_at "xs"
      refine call_Run_is_active (run_ex e2 RA) rfl rfl (by omega) hk (fun H3 e3 => ?_)
      walk_at "xs"
      refine itD (fun h1 => ?_) (fun h1 => ?_)
      · walk_at "xs"
        subst h1
        exact hY _ _ e3 (if_pos rfl)
      · exact hN _ e3 (if_neg h1)
    · intro y H2 hy e2 h2
      exact q y H2 hy e2 h2
def sp_Run_attempting (A : Ad) : Sp := fun vs H Q _ => ∃ x p, ∃ k : Nat, vs = [.ref x, .int (p.t k)] ∧ RunAt A H x p ∧ k ≤ p.k3 ∧ ∀ y H1, H y = none → Ex H H1 → H1 y = some (.lst [.int 1]) → Q (.ref y) H1
theorem call_Run_attempting {H : Hp} {x : Addr} {p : Par} {k : Nat} {z : Int} {Q : VK} {E : XK} (h : RunAt A H x p) (e2 : z = p.t k) (hk : k ≤ p.k3) (q : ∀ y H1, H y = none → Ex H H1 → H1 y = some (.lst [.int 1]) → Q (.ref y) H1) :
    sp_Run_attempting A (.ref x :: ([.int z] ++ [])) H Q E := ⟨x, p, k, by rw [e2]; rfl, h, hk, q⟩
theorem F_o {p : Par} (O : p.Ok) (k : Nat) : p.F (p.o k) = k := fst_off O.rok k
theorem ok_Run_attempting (T : Txt K mg A) : FnOk P w K mg base CX0 6 A.f_Run_attempting A.d_Run_attempting ["self", "slot"] (sp_Run_attempting A) := by
  refine T.f_Run_attempting.ok sc_Run_attempting (fun vs H Q E h => ?_) (fun cdv AR outer s H vs Q E hr h => ?_)
  · obtain ⟨x, p, k, rfl, _⟩ := h; rfl
  · obtain ⟨x, p, k, rfl, RA, hk, q⟩ := h
    obtain ⟨dx, sc, r, bg, ch, sv, cl, wt, s0, s1, ff, R⟩ := id RA
    have ho := R.o
    have hsc := R.sc
    refine ⟨_, pss_one (ps_ret (pe_lc (own := [("client", 2)]) (by rfl) sc_Run_attempting.nd (piList (K := K) (by rfl) (pe_meth (pv 0) T.cl_Run T.m_Run_active (ok_Run_active T) (hr.mono (by decide)) T.b_Run_active .nil pass0 (pa_cons (pv 1) pa_nil))) (blkOk_by (own := [("client", 2)]) (N := n_Run_attempting) (sc := (defScope s_Run_attempting)) (by decide +kernel)) (fun _ _ _ _ _ => (pg_name (i := 2) sc_Run_attempting.nd (by rfl) (by first | exact Or.inl rfl | exact Or.inr rfl))) (fun _ _ _ _ _ => (pts_one (pt_cmpR op_notN1 (pe_meth (peFld (K := K) (by rfl) (pv 0) (by rfl)) T.cl_Scene T.m_Scene_attempt_in (ok_Scene_attempt_in T) (hr.mono (by decide)) T.b_Scene_attempt_in .nil pass0 (pa_cons (pv 2) (pa_cons (pv 1) pa_nil))) pe_non (nomark _)))) (fun _ _ _ _ _ => (pv 2)))), ?_⟩
    walk_at "go"
    refine call_Run_active RA rfl hk (fun y1 H1 hy1 e1 h1 => ?_)
    walk_at "xs"
    refine cgoList h1 (by simp) (fun _ => some (.int 1)) ?_ ?_
    · intro i v H2 Y1 N1 hi e2 hY hN
      obtain ⟨rfl, rfl⟩ : i = 0 ∧ v = .int 1 := by
        cases i with
        | zero => exact ⟨rfl, (Option.some.inj hi).symm⟩
        | succ i => cases hi
      walk_at "xs"
      refine ⟨rfl, ?_⟩
      walk_at "xs"
      refine call_Scene_attempt_in (c := 1) (scene_ex e2 (scene_ex e1 hsc)) rfl (by omega) (fun H3 e3 => ?_)
      have es : p.t k - stt p 1 = p.o k := by show p.b + p.o k - p.b = p.o k; omega
      rw [es, F_o R.ok, if_pos rfl]
      walk_at "xs"
      refine xNotN (c := true) (by rfl) ?_
      walk_at "xs"
      exact hY _ _ e3 rfl
    · intro y H2 hy e2 h2
      exact q y H2 (ex_free e1 hy) (e1.trans e2) h2
def sp_Run_busy_with (A : Ad) : Sp := fun vs H Q _ => ∃ x p, ∃ k : Nat, vs = [.ref x, .int (p.t k)] ∧ RunAt A H x p ∧ k ≤ p.k3 ∧ ∀ H1, Ex H H1 → Q (if p.t k < p.L then .int 0 else .non) H1
theorem call_Run_busy_with {H : Hp} {x : Addr} {p : Par} {k : Nat} {z : Int} {Q : VK} {E : XK} (h : RunAt A H x p) (e2 : z = p.t k) (hk : k ≤ p.k3) (q : ∀ H1, Ex H H1 → Q (if p.t k < p.L then .int 0 else .non) H1) :
    sp_Run_busy_with A (.ref x :: ([.int z] ++ [])) H Q E := ⟨x, p, k, by rw [e2]; rfl, h, hk, q⟩
theorem ok_Run_busy_with (T : Txt K mg A) : FnOk P w K mg base CX0 2 A.f_Run_busy_with A.d_Run_busy_with ["self", "slot"] (sp_Run_busy_with A) := by
  refine T.f_Run_busy_with.ok sc_Run_busy_with (fun vs H Q E h => ?_) (fun cdv AR outer s H vs Q E hr h => ?_)
  · obtain ⟨x, p, k, rfl, _⟩ := h; rfl
  · obtain ⟨x, p, k, rfl, RA, hk, q⟩ := h
    obtain ⟨dx, sc, r, bg, ch, sv, cl, wt, s0, s1, ff, R⟩ := id RA
    have ho := R.o
    have hsc := R.sc
    have tp := t_pos R.ok k
    have tm := t_mono R.ok hk
    have L1 := R.ok.L1
    refine ⟨_, pss_cons (ps_set (i := 2) sc_Run_busy_with.nd (by rfl) (by first | exact Or.inl rfl | exact Or.inr rfl) (pe_meth0 (peFld (K := K) (by rfl) (pv 0) (by rfl)) T.cl_Scene T.m_Scene_length (ok_Scene_length T) (hr.mono (by decide)) T.b_Scene_length .nil pass0)) (
      pss_one (ps_ret (pe_ix (ixL (K := K) (by rfl)) (pe_op op_cat (pe_lc (own := [("begin", 3), ("client", 4)]) (by rfl) sc_Run_busy_with.nd (piList (K := K) (by rfl) (pe_meth0 (pv 0) T.cl_Run T.m_Run_order (ok_Run_order T) (hr.mono (by decide)) T.b_Run_order .nil pass0)) (blkOk_by (own := [("begin", 3), ("client", 4)]) (N := n_Run_busy_with) (sc := (defScope s_Run_busy_with)) (by decide +kernel)) (fun _ _ _ _ _ => (pgTup (K := K) 2 (by rfl) (by rfl) (pgs_cons (pg_name (i := 3) sc_Run_busy_with.nd (by rfl) (by first | exact Or.inl rfl | exact Or.inr rfl)) (pgs_cons (pg_name (i := 4) sc_Run_busy_with.nd (by rfl) (by first | exact Or.inl rfl | exact Or.inr rfl)) pgs_nil)))) (fun _ _ _ _ _ => (pts_one (pt_chain op_lt op_lt (pv 3) (pv 1) (pe_op op_add (pv 3) (pv 2))))) (fun _ _ _ _ _ => (pv 4))) (pe_lst (pa_cons pe_non pa_nil))) pe_int (fun _ _ => rfl)))), ?_⟩
    walk_at "go"
    refine call_Scene_length hsc ?_
    walk_at "xs"
    refine call_Run_order RA (fun y1 a b H1 hy1 e1 h1 ha hb => ?_)
    have nab : b ≠ a := ne_of hb ha (by intro z; have z2 := HO.tup.inj z; simp at z2)
    walk_at "xs"
    refine cgoList h1 (by simp) (fun v => if v = .ref a then (if p.t k < p.L then some (.int 0) else none) else none) ?_ ?_
    · intro i v H2 Y1 N1 hi e2 hY hN
      match i, hi with
      | 0, hi =>
        obtain rfl : v = .ref a := (Option.some.inj hi).symm
        have ha2 := e2 _ _ ha
        walk_at "xs"
        refine ⟨rfl, ?_⟩
        walk_at "xs"
        walk_at "t"
        refine itD (fun h1 => ?_) (fun h1 => ?_)
        · walk_at "xs"
          exact hY _ _ (ex_refl _) (by rw [if_pos rfl, if_pos (by omega)])
        · exact hN _ (ex_refl _) (by rw [if_pos rfl, if_neg (by omega)])
      | 1, hi =>
        obtain rfl : v = .ref b := (Option.some.inj hi).symm
        have hb2 := e2 _ _ hb
        walk_at "xs"
        refine ⟨rfl, ?_⟩
        walk_at "xs"
        refine itN (show ¬ p.t p.k3 < p.t k by omega) ?_
        walk_at "xs"
        exact hN _ (ex_refl _) (if_neg fun z => nab (V.ref.inj z))
      | i + 2, hi => cases hi
    · intro y H2 hy e2 h2
      have eb : ([.ref a, .ref b] : List V).filterMap (fun v => if v = .ref a then (if p.t k < p.L then some (V.int 0) else none) else none) = if p.t k < p.L then [.int 0] else [] := by
        have nz : ¬ (V.ref b = V.ref a) := fun z => nab (V.ref.inj z)
        by_cases c : p.t k < p.L
        · simp [c, nab]
        · simp [c]
      rw [eb] at h2
      walk_at "xs"
      refine xNewL (by simp) (fun y2 H3 hy2 e3 h3 => ?_)
      refine xCat (e3 _ _ h2) h3 (by split <;> simp) (fun y4 H4 hy4 e4 h4 => ?_)
      walk_at "xs"
      have q4 := q H4 (e1.trans (e2.trans (e3.trans e4)))
      by_cases c : p.t k < p.L
      · rw [if_pos c] at h4 q4
        exact xIxL h4 rfl q4
      · rw [if_neg c] at h4 q4
        exact xIxL h4 rfl q4
/-- what an event says: the word and its number -/
def evT (cl : Addr) : Why → List V
  | .out => [.str "outage", .int 0, .ref cl]
  | .busy => [.str "busy", .int 0, .ref cl]
  | .srv => [.str "served", .int 1]
def sp_Run_event (A : Ad) : Sp := fun vs H Q _ => ∃ x p, ∃ k : Nat, vs = [.ref x, .int (p.t k)] ∧ RunAt A H x p ∧ k ≤ p.k3 ∧ ∀ y cl H1, H y = none → Ex H H1 → H1 y = some (.tup (evT cl (p.why k))) → Q (.ref y) H1
theorem call_Run_event {H : Hp} {x : Addr} {p : Par} {k : Nat} {z : Int} {Q : VK} {E : XK} (h : RunAt A H x p) (e2 : z = p.t k) (hk : k ≤ p.k3) (q : ∀ y cl H1, H y = none → Ex H H1 → H1 y = some (.tup (evT cl (p.why k))) → Q (.ref y) H1) :
    sp_Run_event A (.ref x :: ([.int z] ++ [])) H Q E := ⟨x, p, k, by rw [e2]; rfl, h, hk, q⟩
theorem ok_Run_event (T : Txt K mg A) : FnOk P w K mg base CX0 7 A.f_Run_event A.d_Run_event ["self", "slot"] (sp_Run_event A) := by
  refine T.f_Run_event.ok sc_Run_event (fun vs H Q E h => ?_) (fun cdv AR outer s H vs Q E hr h => ?_)
  · obtain ⟨x, p, k, rfl, _⟩ := h; rfl
  · obtain ⟨x, p, k, rfl, RA, hk, q⟩ := h
    obtain ⟨dx, sc, r, bg, ch, sv, cl, wt, s0, s1, ff, R⟩ := id RA
    have ho := R.o
    have hsc := R.sc
    refine ⟨_, pss_cons (ps_set (i := 2) sc_Run_event.nd (by rfl) (by first | exact Or.inl rfl | exact Or.inr rfl) (pe_meth (pv 0) T.cl_Run T.m_Run_attempting (ok_Run_attempting T) (hr.mono (by decide)) T.b_Run_attempting .nil pass0 (pa_cons (pv 1) pa_nil))) (
      pss_cons (ps_par (i := 3) (j := 4) (by rfl) sc_Run_event.nd (by rfl) (by rfl) (by decide) (by rfl) (by rfl) (pa_cons (pe_meth (peFld (K := K) (by rfl) (pv 0) (by rfl)) T.cl_Scene T.m_Scene_outage_at (ok_Scene_outage_at T) (hr.mono (by decide)) T.b_Scene_outage_at .nil pass0 (pa_cons (pv 1) pa_nil)) (pa_cons (pe_meth (pv 0) T.cl_Run T.m_Run_busy_with (ok_Run_busy_with T) (hr.mono (by decide)) T.b_Run_busy_with .nil pass0 (pa_cons (pv 1) pa_nil)) pa_nil)) (by rfl)) (
      pss_cons (ps_if (pt_cmpR op_notN1 (pv 3) pe_non (nomark _)) (pss_one (ps_ret (pe_tup (pa_cons pe_str (pa_cons (pv 3) (pa_cons (pv 2) pa_nil)))))) pss_nil) (
      pss_cons (ps_if (pt_cmpR op_notN1 (pv 4) pe_non (nomark _)) (pss_one (ps_ret (pe_tup (pa_cons pe_str (pa_cons (pv 4) (pa_cons (pv 2) pa_nil)))))) pss_nil) (
      pss_cons (ps_if (pt_cmpR op_gt (pe_callB (callLen (K := K) (by rfl)) (by rfl) T.z_len (by decide +kernel) (pa_cons (pv 2) pa_nil)) pe_int (nomark _)) (pss_one ps_never) pss_nil) (
      pss_one (ps_ret (pe_ifExp (pt_cmpR (opNeD (K := K) (by rfl) hr.units) (pv 2) (pe_lst pa_nil) (nomark _)) (pe_tup (pa_cons pe_str (pa_cons (pe_ix (ixL (K := K) (by rfl)) (pv 2) pe_int (fun _ _ => rfl)) pa_nil))) (pe_tup (pa_cons pe_str pa_nil))))))))), ?_⟩
    walk_at "go"
    refine call_Run_attempting RA rfl hk (fun y1 H1 hy1 e1 h1 => ?_)
    walk_at "xs"
    refine call_Scene_outage_at (scene_ex e1 hsc) (fun H2 e2 => ?_)
    walk_at "xs"
    refine call_Run_busy_with (run_ex e2 (run_ex e1 RA)) rfl hk (fun H3 e3 => ?_)
    have h3 := e3 _ _ (e2 _ _ h1)
    have e13 := e1.trans (e2.trans e3)
    walk_at "xs"
    by_cases c : p.f ≤ p.t k ∧ p.t k < p.a
    · rw [if_pos c]
      refine xNotN (c := true) (by rfl) ?_
      walk_at "xs"
      refine xNewT (by simp) (fun y H4 hy e4 h4 => ?_)
      exact q y y1 H4 (ex_free e13 hy) (e13.trans e4) (by rw [why_out c.1 c.2]; exact h4)
    · rw [if_neg c]
      refine xNotN (c := false) (by rfl) ?_
      walk_at "xs"
      by_cases c2 : p.t k < p.L
      · rw [if_pos c2]
        refine xNotN (c := true) (by rfl) ?_
        walk_at "xs"
        refine xNewT (by simp) (fun y H4 hy e4 h4 => ?_)
        exact q y y1 H4 (ex_free e13 hy) (e13.trans e4) (by rw [why_busy c c2]; exact h4)
      · rw [if_neg c2]
        refine xNotN (c := false) (by rfl) ?_
        walk_at "xs"
        walk_at "t"
        refine xNewL (by simp) (fun y2 H4 hy2 e4 h4 => ?_)
        refine ⟨.list [.int 1], .list [], .lst (SqL.of (e4 _ _ h3)) (.cons (.int 1) .nil), .lst (SqL.of h4) .nil, by rfl, by rfl, ?_⟩
        walk_at "xs"
        rw [if_pos (by rfl)]
        have h5 := e4 _ _ h3
        walk_at "xs"
        refine xIxL h5 rfl ?_
        refine xNewT (by simp) (fun y H5 hy e5 h5 => ?_)
        exact q y y1 H5 (ex_free (e13.trans e4) hy) ((e13.trans e4).trans e5) (by rw [why_srv c c2]; exact h5)
end RK
end

section
/-! RKit4: lists of tuples; entries, windows and reasons as they stand in the heap. -/
namespace RK
open PySem L2 RS
section
variable {X : Cx} {K : PySem.W.Frag} {σ : St} {H : Hp} {D : Ends} {Q : VK}
theorem xSlT {a : Addr} {xs : List V} {lo hi : Option Int} (n : Nat) (h : H a = some (.tup xs)) (hn : xs.length = n) (hw : ¬ (HT.sIx n 0 lo = 0 ∧ HT.sIx n n hi = n)) (q : ∀ p H1, H p = none → Ex H H1 → H1 p = some (.tup (cutV xs lo hi)) → Q (.ref p) H1) : rSlT K (.ref a) lo hi H Q :=
  ⟨a, xs, rfl, SqT.of h, by rw [hn]; exact hw, xNew0 (P := Q) q⟩
theorem xNotInT {a : Addr} {x : V} {xs : List V} {b : Bool} (h : H a = some (.tup xs)) (hx : flatV x = true) (hs : xs.all flatV = true) (e : (!inV x xs) = b) (q : Q (.bl b) H) : rIn K true x (.ref a) H Q :=
  ⟨a, xs, rfl, .inr (SqT.of h), hx, hs, by rw [if_pos rfl, e]; exact q⟩
end
/-- two lists, item by item -/
def All2 {α : Type} (R : V → α → Prop) : List V → List α → Prop
  | [], [] => True
  | v :: vs, a :: as => R v a ∧ All2 R vs as
  | _, _ => False
section
variable {α : Type} {R S : V → α → Prop}
theorem All2.mono (h : ∀ v a, R v a → S v a) : ∀ {vs : List V} {as : List α}, All2 R vs as → All2 S vs as
  | [], [], _ => trivial
  | v :: vs, a :: as, q => ⟨h _ _ q.1, All2.mono h q.2⟩
  | [], _ :: _, q => q.elim
  | _ :: _, [], q => q.elim
theorem All2.app : ∀ {vs ws : List V} {as bs : List α}, All2 R vs as → All2 R ws bs → All2 R (vs ++ ws) (as ++ bs)
  | [], _, [], _, _, q => q
  | v :: vs, _, a :: as, _, h, q => ⟨h.1, All2.app h.2 q⟩
  | [], _, _ :: _, _, h, _ => h.elim
  | _ :: _, _, [], _, h, _ => h.elim
theorem All2.one {v : V} {a : α} (h : R v a) : All2 R [v] [a] := ⟨h, trivial⟩
theorem All2.len : ∀ {vs : List V} {as : List α}, All2 R vs as → vs.length = as.length
  | [], [], _ => rfl
  | v :: vs, a :: as, q => by rw [List.length_cons, List.length_cons, All2.len q.2]
  | [], _ :: _, q => q.elim
  | _ :: _, [], q => q.elim
theorem All2.at : ∀ {vs : List V} {as : List α} {i : Nat} {v : V}, All2 R vs as → vs[i]? = some v → ∃ a, as[i]? = some a ∧ R v a
  | v :: vs, a :: as, 0, u, q, h => ⟨a, rfl, by cases h; exact q.1⟩
  | v :: vs, a :: as, i + 1, u, q, h => All2.at (vs := vs) (as := as) q.2 h
  | [], [], _, _, _, h => by cases h
  | [], _ :: _, _, _, q, _ => q.elim
  | _ :: _, [], _, _, q, _ => q.elim
theorem All2.get : ∀ {vs : List V} {as : List α} {i : Nat} {a : α}, All2 R vs as → as[i]? = some a → ∃ v, vs[i]? = some v ∧ R v a
  | v :: vs, a :: as, 0, u, q, h => ⟨v, rfl, by cases h; exact q.1⟩
  | v :: vs, a :: as, i + 1, u, q, h => All2.get (vs := vs) (as := as) q.2 h
  | [], [], _, _, _, h => by cases h
  | [], _ :: _, _, _, q, _ => q.elim
  | _ :: _, [], _, _, q, _ => q.elim
end
/-- a window -/
def PairAt (H : Hp) (v : V) (w : Int × Int) : Prop := ∃ t, v = .ref t ∧ H t = some (.tup [.int w.1, .int w.2])
theorem pair_ex {H H' : Hp} (e : Ex H H') (v : V) (w : Int × Int) (h : PairAt H v w) : PairAt H' v w := let ⟨t, a, b⟩ := h; ⟨t, a, e _ _ b⟩
theorem pair_keeps {H H' : Hp} (e : Keeps H H') (v : V) (w : Int × Int) (h : PairAt H v w) : PairAt H' v w := let ⟨t, a, b⟩ := h; ⟨t, a, e _ _ calm_tup b⟩
/-- a reason -/
def whyT : Why → List V
  | .out => [.str "outage", .int 0]
  | .busy => [.str "busy", .int 0]
  | .srv => [.str "served"]
def whyD : Why → PyData
  | .out => .tuple [.str "outage", .int 0]
  | .busy => .tuple [.str "busy", .int 0]
  | .srv => .tuple [.str "served"]
def EntAt (H : Hp) (v : V) (e : Ent) : Prop := ∃ t u, v = .ref t ∧ H t = some (.tup [.int (e.1 : Int), .int (e.2.1 : Int), .ref u]) ∧ H u = some (.tup (whyT e.2.2))
theorem ent_ex {H H' : Hp} (x : Ex H H') (v : V) (e : Ent) (h : EntAt H v e) : EntAt H' v e := let ⟨t, u, a, b, c⟩ := h; ⟨t, u, a, x _ _ b, x _ _ c⟩
theorem ent_keeps {H H' : Hp} (x : Keeps H H') (v : V) (e : Ent) (h : EntAt H v e) : EntAt H' v e := let ⟨t, u, a, b, c⟩ := h; ⟨t, u, a, x _ _ calm_tup b, x _ _ calm_tup c⟩
def entD (e : Ent) : PyData := .tuple [.int (e.1 : Int), .int (e.2.1 : Int), whyD e.2.2]
theorem why_dp {K : PySem.W.Frag} {H : Hp} {u : Addr} {c : Why} (h : H u = some (.tup (whyT c))) : Dp K H (.ref u) (whyD c) := by
  cases c with
  | out => exact .tup (SqT.of h) (.cons (.str _) (.cons (.int 0) .nil))
  | busy => exact .tup (SqT.of h) (.cons (.str _) (.cons (.int 0) .nil))
  | srv => exact .tup (SqT.of h) (.cons (.str _) .nil)
theorem ent_dp {K : PySem.W.Frag} {H : Hp} {v : V} {e : Ent} (h : EntAt H v e) : Dp K H v (entD e) := by
  obtain ⟨t, u, rfl, a, b⟩ := h
  exact .tup (SqT.of a) (.cons (.int _) (.cons (.int _) (.cons (why_dp b) .nil)))
theorem ents_dp {K : PySem.W.Frag} {H : Hp} : ∀ {vs : List V} {E : List Ent}, All2 (EntAt H) vs E → DpAll K H vs (E.map entD)
  | [], [], _ => .nil
  | v :: vs, e :: E, q => .cons (ent_dp q.1) (ents_dp q.2)
  | [], _ :: _, q => q.elim
  | _ :: _, [], q => q.elim
/-- setting the place of a list keeps what stands at tuples -/
theorem keeps_lst {H : Hp} {y : Addr} {xs ys : List V} (h : H y = some (.lst xs)) : ∀ t zs, H t = some (.tup zs) → upd H y (.lst ys) t = some (.tup zs) := fun t zs ht => by
  rw [upd_ne (ne_of ht h (by intro z; cases z))]
  exact ht
theorem pair_upd {H : Hp} {y : Addr} {xs ys : List V} (h : H y = some (.lst xs)) (v : V) (w : Int × Int) (q : PairAt H v w) : PairAt (upd H y (.lst ys)) v w := let ⟨t, a, b⟩ := q; ⟨t, a, keeps_lst h _ _ b⟩
theorem ent_upd {H : Hp} {y : Addr} {xs ys : List V} (h : H y = some (.lst xs)) (v : V) (e : Ent) (q : EntAt H v e) : EntAt (upd H y (.lst ys)) v e := let ⟨t, u, a, b, c⟩ := q; ⟨t, u, a, keeps_lst h _ _ b, keeps_lst h _ _ c⟩
end RK
end

section
namespace RK
open PySem L2 RS
variable {P : Program} {w : World} {K : PySem.W.Frag} {mg : Str → Option Value} {base : Heap} {A : Ad}

/-! ### reasons -/
def sp_check_run (A : Ad) : Sp := fun vs H Q _ => ∃ x p, vs = [.ref x] ∧ RunAt A H x p ∧ Q .non H
theorem call_check_run {H : Hp} {x : Addr} {p : Par} {Q : VK} {E : XK} (h : RunAt A H x p) (q : Q .non H) : sp_check_run A ([.ref x] ++ []) H Q E := ⟨x, p, rfl, h, q⟩
theorem ok_check_run (T : Txt K mg A) : FnOk P w K mg base CX0 1 A.f_check_run A.d_check_run ["run"] (sp_check_run A) := by
  refine T.f_check_run.ok sc_check_run (fun vs H Q E h => ?_) (fun cdv AR outer s H vs Q E hr h => ?_)
  · obtain ⟨x, p, rfl, _⟩ := h; rfl
  · obtain ⟨x, p, rfl, ⟨dx, sc, r, bg, ch, sv, cl, wt, s0, s1, ff, R⟩, q⟩ := h
    refine ⟨_, pss_one (ps_if (pt_not (pt_val (pe_callB (callIsi (K := K) (by rfl)) (by rfl) T.z_isinstance (by decide +kernel) (pa_cons (pv 0) (pa_cons (pe_glob (v := .ref A.c_Run) (by rfl) T.g_Run rfl) pa_nil))))) (pss_one ps_never) pss_nil), ?_⟩
    walk_at "go"
    refine xIsiC (ty_ins R.o T.cl_Run T.y1_Run T T.y2_Run) T.kit_Run ?_
    walk_at "xs"
    exact q
/-- the attempts that a client makes -/
noncomputable def am (p : Par) (c : Nat) : Nat := if c = 0 then 1 else p.k3 + 1
def sp_attempts_made (A : Ad) : Sp := fun vs H Q _ => ∃ x p, ∃ c : Nat, vs = [.ref x, .int (c : Int)] ∧ RunAt A H x p ∧ c ≤ 1 ∧ Q (.int (am p c : Int)) H
theorem call_attempts_made {H : Hp} {x : Addr} {p : Par} {c : Nat} {y : Int} {Q : VK} {E : XK} (h : RunAt A H x p) (e : y = (c : Int)) (hc : c ≤ 1) (q : Q (.int (am p c : Int)) H) : sp_attempts_made A ([.ref x, .int y] ++ []) H Q E := ⟨x, p, c, by rw [e]; rfl, h, hc, q⟩
theorem ok_attempts_made (T : Txt K mg A) : FnOk P w K mg base CX0 1 A.f_attempts_made A.d_attempts_made ["run", "client"] (sp_attempts_made A) := by
  refine T.f_attempts_made.ok sc_attempts_made (fun vs H Q E h => ?_) (fun cdv AR outer s H vs Q E hr h => ?_)
  · obtain ⟨x, p, c, rfl, _⟩ := h; rfl
  · obtain ⟨x, p, c, rfl, ⟨dx, sc, r, bg, ch, sv, cl, wt, s0, s1, ff, R⟩, hc, q⟩ := h
    have ho := R.o
    have hs0 := R.s0
    have hs1 := R.s1
    refine ⟨_, pss_cons (ps_if (pt_cmp (pc_din (hu_of hr) (pv 1) (peFld (K := K) (by rfl) (pv 0) (by rfl)))) (pss_one (ps_ret (pe_op op_add (pe_ix (ixT (K := K) (by rfl)) (pe_dget (hu_of hr) (peFld (K := K) (by rfl) (pv 0) (by rfl)) (pv 1) (fun _ _ => rfl)) pe_int (fun _ _ => rfl)) pe_int))) pss_nil) (
      pss_one ps_never), ?_⟩
    walk_at "go"
    match c, hc with
    | 0, _ =>
      refine xInK (.inl 0) true rfl R.sv (by rfl) ?_
      walk_at "xs"
      refine xGetK (.inl 0) rfl R.sv (by rfl) ?_
      walk_at "xs"
      exact q
    | 1, _ =>
      refine xInK (.inl 1) true rfl R.sv (by rfl) ?_
      walk_at "xs"
      refine xGetK (.inl 1) rfl R.sv (by rfl) ?_
      walk_at "xs"
      exact q
def sp_reason_of (A : Ad) : Sp := fun vs H Q _ => ∃ x p, ∃ k : Nat, vs = [.ref x, .int 1, .int (k : Int)] ∧ RunAt A H x p ∧ k ≤ p.k3 ∧ ∀ y H1, H y = none → Ex H H1 → H1 y = some (.tup (whyT (p.why k))) → Q (.ref y) H1
theorem call_reason_of {H : Hp} {x : Addr} {p : Par} {k : Nat} {z : Int} {Q : VK} {E : XK} (h : RunAt A H x p) (e : z = (k : Int)) (hk : k ≤ p.k3) (q : ∀ y H1, H y = none → Ex H H1 → H1 y = some (.tup (whyT (p.why k))) → Q (.ref y) H1) :
    sp_reason_of A ([.ref x, .int 1, .int z] ++ []) H Q E := ⟨x, p, k, by rw [e]; rfl, h, hk, q⟩
theorem ok_reason_of (T : Txt K mg A) : FnOk P w K mg base CX0 8 A.f_reason_of A.d_reason_of ["run", "client", "attempt"] (sp_reason_of A) := by
  refine T.f_reason_of.ok sc_reason_of (fun vs H Q E h => ?_) (fun cdv AR outer s H vs Q E hr h => ?_)
  · obtain ⟨x, p, k, rfl, _⟩ := h; rfl
  · obtain ⟨x, p, k, rfl, RA, hk, q⟩ := h
    obtain ⟨dx, sc, r, bg, ch, sv, cl, wt, s0, s1, ff, R⟩ := id RA
    have ho := R.o
    have hr2 := R.r
    refine ⟨_, pss_cons (ps_set (i := 3) sc_reason_of.nd (by rfl) (by first | exact Or.inl rfl | exact Or.inr rfl) (pe_meth (pv 0) T.cl_Run T.m_Run_event (ok_Run_event T) (hr.mono (by decide)) T.b_Run_event .nil pass0 (pa_cons (pe_op op_add (pe_ix (ixL (K := K) (by rfl)) (peFld (K := K) (by rfl) (pv 0) (by rfl)) (pv 1) (fun _ _ => rfl)) (pe_meth (peFld (K := K) (by rfl) (pv 0) (by rfl)) T.cl_Rule T.m_Rule_offset_of (ok_Rule_offset_of T) (hr.mono (by decide)) T.b_Rule_offset_of .nil pass0 (pa_cons (pv 2) pa_nil))) pa_nil))) (
      pss_cons (ps_if (pt_cmpR op_eq (pe_ix (ixT (K := K) (by rfl)) (pv 3) pe_int (fun _ _ => rfl)) pe_str (nomark _)) (pss_one ps_never) pss_nil) (
      pss_one (ps_ret (pe_ifExp (pt_cmpR op_eq (pe_ix (ixT (K := K) (by rfl)) (pv 3) pe_int (fun _ _ => rfl)) pe_str (nomark _)) (pe_slice (slT (K := K) (by rfl)) (pv 3) po_none (po_some pe_int)) (pe_slice (slT (K := K) (by rfl)) (pv 3) po_none (po_some pe_int)))))), ?_⟩
    walk_at "go"
    refine xIxL R.bg (at_of (j := 1) rfl rfl) ?_
    walk_at "xs"
    refine call_Rule_offset_of hr2 rfl ?_
    walk_at "xs"
    refine call_Run_event RA rfl hk (fun y1 cc H1 hy1 e1 h1 => ?_)
    cases hw : p.why k with
    | out =>
      have h2 : H1 y1 = some (.tup [.str "outage", .int 0, .ref cc]) := by rw [h1, hw]; rfl
      walk_at "xs"
      refine xSlT 3 h2 rfl (by decide) (fun y H2 hy e2 h3 => ?_)
      exact q y H2 (ex_free e1 hy) (e1.trans e2) (by rw [h3, hw]; rfl)
    | busy =>
      have h2 : H1 y1 = some (.tup [.str "busy", .int 0, .ref cc]) := by rw [h1, hw]; rfl
      walk_at "xs"
      refine xSlT 3 h2 rfl (by decide) (fun y H2 hy e2 h3 => ?_)
      exact q y H2 (ex_free e1 hy) (e1.trans e2) (by rw [h3, hw]; rfl)
    | srv =>
      have h2 : H1 y1 = some (.tup [.str "served", .int 1]) := by rw [h1, hw]; rfl
      walk_at "xs"
      refine xSlT 2 h2 rfl (by decide) (fun y H2 hy e2 h3 => ?_)
      exact q y H2 (ex_free e1 hy) (e1.trans e2) (by rw [h3, hw]; rfl)
def sp_reason (A : Ad) : Sp := fun vs H Q _ => ∃ x p, ∃ k : Nat, vs = [.ref x, .int 1, .int (k : Int)] ∧ RunAt A H x p ∧ (k ≤ p.k3 → ∀ y H1, H y = none → Ex H H1 → H1 y = some (.tup (whyT (p.why k))) → Q (.ref y) H1) ∧ (p.k3 < k → Q .non H)
theorem call_reason {H : Hp} {x : Addr} {p : Par} {k : Nat} {z : Int} {Q : VK} {E : XK} (h : RunAt A H x p) (e : z = (k : Int)) (q : k ≤ p.k3 → ∀ y H1, H y = none → Ex H H1 → H1 y = some (.tup (whyT (p.why k))) → Q (.ref y) H1) (q2 : p.k3 < k → Q .non H) :
    sp_reason A ([.ref x, .int 1, .int z] ++ []) H Q E := ⟨x, p, k, by rw [e]; rfl, h, q, q2⟩
theorem ok_reason (T : Txt K mg A) : FnOk P w K mg base CX0 9 A.f_reason A.d_reason ["run", "client", "attempt"] (sp_reason A) := by
  refine T.f_reason.ok sc_reason (fun vs H Q E h => ?_) (fun cdv AR outer s H vs Q E hr h => ?_)
  · obtain ⟨x, p, k, rfl, _⟩ := h; rfl
  · obtain ⟨x, p, k, rfl, RA, q, q2⟩ := h
    refine ⟨_, pss_cons (ps_expr (pe_call (ok_check_run T) (hr.mono (by decide)) (by rfl) T.g_check_run T.f_check_run.kp T.b_check_run .nil pass0 (pa_cons (pv 0) pa_nil))) (
      pss_cons (ps_expr (pe_meth (pe_meth0 (pv 0) T.cl_Run T.m_Run_scene (ok_Run_scene T) (hr.mono (by decide)) T.b_Run_scene .nil pass0) T.cl_Scene T.m_Scene_slot_of (ok_Scene_slot_of T) (hr.mono (by decide)) T.b_Scene_slot_of .nil pass0 (pa_cons (pv 1) (pa_cons (pv 2) pa_nil)))) (
      pss_cons (ps_set (i := 3) sc_reason.nd (by rfl) (by first | exact Or.inl rfl | exact Or.inr rfl) (pe_call (ok_attempts_made T) (hr.mono (by decide)) (by rfl) T.g_attempts_made T.f_attempts_made.kp T.b_attempts_made .nil pass0 (pa_cons (pv 0) (pa_cons (pv 1) pa_nil)))) (
      pss_one (ps_ret (pe_ifExp (PW.pt (pw_and (pt_cmpR op_notN1 (pv 3) pe_non (nomark _)) (pw_and1 (pt_cmpR op_ge (pv 2) (pv 3) (nomark _))))) pe_non (pe_call (ok_reason_of T) (hr.mono (by decide)) (by rfl) T.g_reason_of T.f_reason_of.kp T.b_reason_of .nil pass0 (pa_cons (pv 0) (pa_cons (pv 1) (pa_cons (pv 2) pa_nil))))))))), ?_⟩
    walk_at "go"
    refine call_check_run RA ?_
    walk_at "xs"
    refine call_Run_scene RA (fun sc hsc => ?_)
    walk_at "xs"
    refine call_Scene_slot_of (c := 1) hsc rfl rfl (by omega) ?_
    walk_at "xs"
    refine call_attempts_made (c := 1) RA rfl (by omega) ?_
    walk_at "xs"
    refine xNotN (c := true) (by rfl) ?_
    walk_at "xs"
    show if decide ((k : Int) ≥ ((p.k3 + 1 : Nat) : Int)) = true then _ else _
    refine itD (fun h1 => ?_) (fun h1 => ?_)
    · walk_at "xs"
      exact q2 (by omega)
    · walk_at "xs"
      exact call_reason_of RA rfl (by omega) (q (by omega))
def sp_end_of_window (A : Ad) : Sp := fun vs H Q _ => ∃ x p, ∃ k : Nat, ∃ fd, vs = [.ref x, .int (p.t k), .ref fd] ∧ RunAt A H x p ∧ H fd = some (.tup (whyT (p.why k))) ∧ p.why k ≠ .srv ∧ ∀ H1, Ex H H1 → Q (.int (p.endS (p.t k))) H1
theorem call_end_of_window {H : Hp} {x fd : Addr} {p : Par} {k : Nat} {z : Int} {Q : VK} {E : XK} (h : RunAt A H x p) (e : z = p.t k) (hf : H fd = some (.tup (whyT (p.why k)))) (hw : p.why k ≠ .srv) (q : ∀ H1, Ex H H1 → Q (.int (p.endS (p.t k))) H1) :
    sp_end_of_window A ([.ref x, .int z, .ref fd] ++ []) H Q E := ⟨x, p, k, fd, by rw [e]; rfl, h, hf, hw, q⟩
theorem why_of {p : Par} {k : Nat} : (p.why k = .out → p.f ≤ p.t k ∧ p.t k < p.a) ∧ (p.why k = .busy → ¬ (p.f ≤ p.t k ∧ p.t k < p.a) ∧ p.t k < p.L) := by
  unfold Par.why Par.whyS
  constructor
  · intro h
    split at h
    · assumption
    · split at h <;> cases h
  · intro h
    split at h
    · cases h
    · rename_i h1
      split at h
      · rename_i h2; exact ⟨h1, h2⟩
      · cases h
theorem ok_end_of_window (T : Txt K mg A) : FnOk P w K mg base CX0 2 A.f_end_of_window A.d_end_of_window ["run", "slot", "found"] (sp_end_of_window A) := by
  refine T.f_end_of_window.ok sc_end_of_window (fun vs H Q E h => ?_) (fun cdv AR outer s H vs Q E hr h => ?_)
  · obtain ⟨x, p, k, fd, rfl, _⟩ := h; rfl
  · obtain ⟨x, p, k, fd, rfl, RA, hf, hw, q⟩ := h
    obtain ⟨dx, sc, r, bg, ch, sv, cl, wt, s0, s1, ff, R⟩ := id RA
    have ho := R.o
    have hs0 := R.s0
    refine ⟨_, pss_cons (ps_set (i := 3) sc_end_of_window.nd (by rfl) (by first | exact Or.inl rfl | exact Or.inr rfl) (pe_meth0 (pe_meth0 (pv 0) T.cl_Run T.m_Run_scene (ok_Run_scene T) (hr.mono (by decide)) T.b_Run_scene .nil pass0) T.cl_Scene T.m_Scene_outages (ok_Scene_outages T) (hr.mono (by decide)) T.b_Scene_outages .nil pass0)) (
      pss_cons (ps_if (pt_cmpR op_eq (pe_ix (ixT (K := K) (by rfl)) (pv 2) pe_int (fun _ _ => rfl)) pe_str (nomark _)) (pss_one (ps_ret (pe_ix (ixT (K := K) (by rfl)) (pe_ix (ixL (K := K) (by rfl)) (pv 3) (pe_ix (ixT (K := K) (by rfl)) (pv 2) pe_int (fun _ _ => rfl)) (fun _ _ => rfl)) pe_int (fun _ _ => rfl)))) pss_nil) (
      pss_cons (ps_set (i := 4) sc_end_of_window.nd (by rfl) (by first | exact Or.inl rfl | exact Or.inr rfl) (pe_ix (ixT (K := K) (by rfl)) (pe_dget (hu_of hr) (peFld (K := K) (by rfl) (pv 0) (by rfl)) (pe_ix (ixT (K := K) (by rfl)) (pv 2) pe_int (fun _ _ => rfl)) (fun _ _ => rfl)) pe_int (fun _ _ => rfl))) (
      pss_one (ps_ret (pe_callB (callMinL (K := K) (by rfl) (by rfl)) (by rfl) T.z_min (by decide +kernel) (pa_cons (pe_op op_cat (pe_lst (pa_cons (pe_op op_add (pv 4) (pe_meth0 (pe_meth0 (pv 0) T.cl_Run T.m_Run_scene (ok_Run_scene T) (hr.mono (by decide)) T.b_Run_scene .nil pass0) T.cl_Scene T.m_Scene_length (ok_Scene_length T) (hr.mono (by decide)) T.b_Scene_length .nil pass0)) pa_nil)) (pe_lc (own := [("outage", 5)]) (by rfl) sc_end_of_window.nd (piList (K := K) (by rfl) (pv 3)) (blkOk_by (own := [("outage", 5)]) (N := n_end_of_window) (sc := (defScope s_end_of_window)) (by decide +kernel)) (fun _ _ _ _ _ => (pg_name (i := 5) sc_end_of_window.nd (by rfl) (by first | exact Or.inl rfl | exact Or.inr rfl))) (fun _ _ _ _ _ => (pts_one (pt_cmpR op_gt (pe_ix (ixT (K := K) (by rfl)) (pv 5) pe_int (fun _ _ => rfl)) (pv 1) (nomark _)))) (fun _ _ _ _ _ => (pe_ix (ixT (K := K) (by rfl)) (pv 5) pe_int (fun _ _ => rfl))))) pa_nil)))))), ?_⟩
    walk_at "go"
    refine call_Run_scene RA (fun sc1 hsc => ?_)
    walk_at "xs"
    refine call_Scene_outages hsc (fun y1 t1 H1 hy1 e1 h1 ht1 => ?_)
    walk_at "xs"
    cases hk : p.why k with
    | srv => exact absurd hk hw
    | out =>
      have h2 : H fd = some (.tup [.str "outage", .int 0]) := by rw [hf, hk]; rfl
      have hx := why_of.1 hk
      walk_at "xs"
      refine xIxL h1 rfl ?_
      walk_at "xs"
      have q1 := q H1 e1
      unfold Par.endS at q1
      rw [if_pos hx] at q1
      exact q1
    | busy =>
      have h2 : H fd = some (.tup [.str "busy", .int 0]) := by rw [hf, hk]; rfl
      have hx := why_of.2 hk
      walk_at "xs"
      refine xGetK (.inl 0) rfl (e1 _ _ R.sv) (by rfl) ?_
      walk_at "xs"
      refine call_Run_scene (run_ex e1 RA) (fun sc2 hsc2 => ?_)
      walk_at "xs"
      refine call_Scene_length hsc2 ?_
      walk_at "xs"
      refine xNewL (by simp) (fun y2 H2 hy2 e2 h2' => ?_)
      have h12 := e2 _ _ h1
      have ht12 := e2 _ _ ht1
      walk_at "xs"
      refine cgoList h12 (by simp) (fun _ => if p.f > p.t k then some (.int p.f) else none) ?_ ?_
      · intro i v H3 Y1 N1 hi e3 hY hN
        obtain ⟨rfl, rfl⟩ : i = 0 ∧ v = .ref t1 := by
          cases i with
          | zero => exact ⟨rfl, (Option.some.inj hi).symm⟩
          | succ i => cases hi
        have ht3 := e3 _ _ ht12
        walk_at "xs"
        refine ⟨rfl, ?_⟩
        walk_at "xs"
        refine itD (fun a1 => ?_) (fun a1 => ?_)
        · walk_at "xs"
          exact hY _ _ (ex_refl _) (if_pos a1)
        · exact hN _ (ex_refl _) (if_neg a1)
      · intro y3 H3 hy3 e3 h3
        have eb : ([.ref t1] : List V).filterMap (fun _ => if p.f > p.t k then some (V.int p.f) else none) = if p.f > p.t k then [.int p.f] else [] := by
          by_cases c : p.f > p.t k
          · simp [c]
          · simp [c]
        rw [eb] at h3
        refine xCat (e3 _ _ h2') h3 (by split <;> simp) (fun y4 H4 hy4 e4 h4 => ?_)
        walk_at "xs"
        have q4 := q H4 (e1.trans (e2.trans (e3.trans e4)))
        unfold Par.endS at q4
        rw [if_neg hx.1] at q4
        by_cases c : p.f > p.t k
        · rw [if_pos c] at h4
          rw [if_pos (by omega)] at q4
          refine xMin (ns := [0 + p.L, p.f]) h4 (by simp) (fun m hm1 hm2 => ?_)
          have a1 := hm2 (0 + p.L) (by simp)
          have a2 := hm2 p.f (by simp)
          have e : m = min p.L p.f := by
            simp at hm1
            omega
          rw [e]
          exact q4
        · rw [if_neg c] at h4
          rw [if_neg (by omega)] at q4
          refine xMin (ns := [0 + p.L]) h4 (by simp) (fun m hm1 hm2 => ?_)
          have e : m = p.L := by
            simp at hm1
            omega
          rw [e]
          exact q4
def sp_first_attempt (A : Ad) : Sp := fun vs H Q _ => ∃ x p, ∃ c : Nat, ∃ s : Int, vs = [.ref x, .int (c : Int), .int s] ∧ RunAt A H x p ∧ c ≤ 1 ∧ ∀ H1, Ex H H1 → Q (.int (p.F (s - stt p c) : Int)) H1
theorem call_first_attempt {H : Hp} {x : Addr} {p : Par} {c : Nat} {s y : Int} {Q : VK} {E : XK} (h : RunAt A H x p) (e : y = (c : Int)) (hc : c ≤ 1) (q : ∀ H1, Ex H H1 → Q (.int (p.F (s - stt p c) : Int)) H1) :
    sp_first_attempt A ([.ref x, .int y, .int s] ++ []) H Q E := ⟨x, p, c, s, by rw [e]; rfl, h, hc, q⟩
theorem ok_first_attempt (T : Txt K mg A) : FnOk P w K mg base CX0 4 A.f_first_attempt A.d_first_attempt ["run", "client", "slot"] (sp_first_attempt A) := by
  refine T.f_first_attempt.ok sc_first_attempt (fun vs H Q E h => ?_) (fun cdv AR outer s H vs Q E hr h => ?_)
  · obtain ⟨x, p, c, z, rfl, _⟩ := h; rfl
  · obtain ⟨x, p, c, z, rfl, RA, hc, q⟩ := h
    obtain ⟨dx, sc, r, bg, ch, sv, cl, wt, s0, s1, ff, R⟩ := id RA
    have ho := R.o
    have hr2 := R.r
    refine ⟨_, pss_cons (ps_set (i := 3) sc_first_attempt.nd (by rfl) (by first | exact Or.inl rfl | exact Or.inr rfl) (pe_meth (peFld (K := K) (by rfl) (pv 0) (by rfl)) T.cl_Rule T.m_Rule_first_from (ok_Rule_first_from T) (hr.mono (by decide)) T.b_Rule_first_from .nil pass0 (pa_cons (pe_op op_sub (pv 2) (pe_ix (ixL (K := K) (by rfl)) (peFld (K := K) (by rfl) (pv 0) (by rfl)) (pv 1) (fun _ _ => rfl))) pa_nil))) (
      pss_one (ps_ret (pe_ifExp (pt_cmpR op_isN1 (pv 3) pe_non (nomark _)) (pe_meth0 (peFld (K := K) (by rfl) (pv 0) (by rfl)) T.cl_Rule T.m_Rule_attempts (ok_Rule_attempts T) (hr.mono (by decide)) T.b_Rule_attempts .nil pass0) (pv 3)))), ?_⟩
    walk_at "go"
    refine xIxL R.bg (at_of rfl (stt_at hc)) ?_
    walk_at "xs"
    refine call_Rule_first_from hr2 (fun H1 e1 => ?_)
    walk_at "xs"
    refine xIsN (c := false) (by rfl) ?_
    walk_at "xs"
    exact q H1 e1
def sp_behind_window (A : Ad) : Sp := fun vs H Q _ => ∃ x p, ∃ k : Nat, ∃ fd, vs = [.ref x, .int 1, .int (k : Int), .ref fd] ∧ RunAt A H x p ∧ H fd = some (.tup (whyT (p.why k))) ∧ ∀ H1, Ex H H1 → Q (.int (p.beh k : Int)) H1
theorem call_behind_window {H : Hp} {x fd : Addr} {p : Par} {k : Nat} {z : Int} {Q : VK} {E : XK} (h : RunAt A H x p) (e : z = (k : Int)) (hf : H fd = some (.tup (whyT (p.why k)))) (q : ∀ H1, Ex H H1 → Q (.int (p.beh k : Int)) H1) :
    sp_behind_window A ([.ref x, .int 1, .int z, .ref fd] ++ []) H Q E := ⟨x, p, k, fd, by rw [e]; rfl, h, hf, q⟩
theorem ok_behind_window (T : Txt K mg A) : FnOk P w K mg base CX0 5 A.f_behind_window A.d_behind_window ["run", "client", "attempt", "found"] (sp_behind_window A) := by
  refine T.f_behind_window.ok sc_behind_window (fun vs H Q E h => ?_) (fun cdv AR outer s H vs Q E hr h => ?_)
  · obtain ⟨x, p, k, fd, rfl, _⟩ := h; rfl
  · obtain ⟨x, p, k, fd, rfl, RA, hf, q⟩ := h
    obtain ⟨dx, sc, r, bg, ch, sv, cl, wt, s0, s1, ff, R⟩ := id RA
    have ho := R.o
    have hr2 := R.r
    have fin : p.why k ≠ .srv → p.beh k = p.F (p.endS (p.t k) - stt p 1) := fun n => by
      unfold Par.beh
      rw [if_neg n]
      rfl
    refine ⟨_, pss_cons (ps_if (pt_cmpR (opNotIn (K := K) (by rfl)) (pe_ix (ixT (K := K) (by rfl)) (pv 3) pe_int (fun _ _ => rfl)) (pe_tup (pa_cons pe_str (pa_cons pe_str pa_nil))) (by rfl)) (pss_one (ps_ret (pe_op op_add (pv 2) pe_int))) pss_nil) (
      pss_cons (ps_set (i := 4) sc_behind_window.nd (by rfl) (by first | exact Or.inl rfl | exact Or.inr rfl) (pe_op op_add (pe_ix (ixL (K := K) (by rfl)) (peFld (K := K) (by rfl) (pv 0) (by rfl)) (pv 1) (fun _ _ => rfl)) (pe_meth (peFld (K := K) (by rfl) (pv 0) (by rfl)) T.cl_Rule T.m_Rule_offset_of (ok_Rule_offset_of T) (hr.mono (by decide)) T.b_Rule_offset_of .nil pass0 (pa_cons (pv 2) pa_nil)))) (
      pss_one (ps_ret (pe_call (ok_first_attempt T) (hr.mono (by decide)) (by rfl) T.g_first_attempt T.f_first_attempt.kp T.b_first_attempt .nil pass0 (pa_cons (pv 0) (pa_cons (pv 1) (pa_cons (pe_call (ok_end_of_window T) (hr.mono (by decide)) (by rfl) T.g_end_of_window T.f_end_of_window.kp T.b_end_of_window .nil pass0 (pa_cons (pv 0) (pa_cons (pv 4) (pa_cons (pv 3) pa_nil)))) pa_nil))))))), ?_⟩
    walk_at "go"
    cases hk : p.why k with
    | srv =>
      have h2 : H fd = some (.tup [.str "served"]) := by rw [hf, hk]; rfl
      walk_at "xs"
      refine xNewT (by simp) (fun y1 H1 hy1 e1 h1 => ?_)
      refine xNotInT (b := true) h1 (by rfl) (by rfl) (by decide +kernel) ?_
      walk_at "xs"
      have q1 := q H1 e1
      unfold Par.beh at q1
      rw [if_pos hk] at q1
      exact q1
    | out =>
      have h2 : H fd = some (.tup [.str "outage", .int 0]) := by rw [hf, hk]; rfl
      walk_at "xs"
      refine xNewT (by simp) (fun y1 H1 hy1 e1 h1 => ?_)
      refine xNotInT (b := false) h1 (by rfl) (by rfl) (by decide +kernel) ?_
      walk_at "xs"
      refine xIxL (e1 _ _ R.bg) (at_of (j := 1) rfl rfl) ?_
      walk_at "xs"
      refine call_Rule_offset_of (rule_ex e1 hr2) rfl ?_
      walk_at "xs"
      refine call_end_of_window (k := k) (run_ex e1 RA) rfl (e1 _ _ hf) (by rw [hk]; decide) (fun H2 e2 => ?_)
      walk_at "xs"
      refine call_first_attempt (c := 1) (run_ex e2 (run_ex e1 RA)) rfl (by omega) (fun H3 e3 => ?_)
      have q1 := q H3 (e1.trans (e2.trans e3))
      rw [fin (by rw [hk]; decide)] at q1
      exact q1
    | busy =>
      have h2 : H fd = some (.tup [.str "busy", .int 0]) := by rw [hf, hk]; rfl
      walk_at "xs"
      refine xNewT (by simp) (fun y1 H1 hy1 e1 h1 => ?_)
      refine xNotInT (b := false) h1 (by rfl) (by rfl) (by decide +kernel) ?_
      walk_at "xs"
      refine xIxL (e1 _ _ R.bg) (at_of (j := 1) rfl rfl) ?_
      walk_at "xs"
      refine call_Rule_offset_of (rule_ex e1 hr2) rfl ?_
      walk_at "xs"
      refine call_end_of_window (k := k) (run_ex e1 RA) rfl (e1 _ _ hf) (by rw [hk]; decide) (fun H2 e2 => ?_)
      walk_at "xs"
      refine call_first_attempt (c := 1) (run_ex e2 (run_ex e1 RA)) rfl (by omega) (fun H3 e3 => ?_)
      have q1 := q H3 (e1.trans (e2.trans e3))
      rw [fin (by rw [hk]; decide)] at q1
      exact q1
def sp_check_bounds : Sp := fun vs H Q _ => ∃ lo hi : Nat, vs = [.int (lo : Int), .int (hi : Int)] ∧ lo ≤ hi ∧ Q .non H
theorem call_check_bounds {H : Hp} {lo hi : Nat} {x y : Int} {Q : VK} {E : XK} (e : x = (lo : Int)) (e2 : y = (hi : Int)) (h : lo ≤ hi) (q : Q .non H) : sp_check_bounds ([.int x, .int y] ++ []) H Q E := ⟨lo, hi, by rw [e, e2]; rfl, h, q⟩
theorem ok_check_bounds (T : Txt K mg A) : FnOk P w K mg base CX0 2 A.f_check_bounds A.d_check_bounds ["first", "after"] sp_check_bounds := by
  refine T.f_check_bounds.ok sc_check_bounds (fun vs H Q E h => ?_) (fun cdv AR outer s H vs Q E hr h => ?_)
  · obtain ⟨lo, hi, rfl, _⟩ := h; rfl
  · obtain ⟨lo, hi, rfl, hl, q⟩ := h
    refine ⟨_, pss_cons (ps_if (PW.pt (pw_or (pt_not (pt_val (pe_call (ok_is_integer T) (hr.mono (by decide)) (by rfl) T.g_is_integer T.f_is_integer.kp T.b_is_integer .nil pass0 (pa_cons (pv 0) pa_nil)))) (pw_or1 (pt_cmpR op_lt (pv 0) pe_int (nomark _))))) (pss_one ps_never) pss_nil) (
      pss_one (ps_if (PW.pt (pw_or (pt_not (pt_val (pe_call (ok_is_integer T) (hr.mono (by decide)) (by rfl) T.g_is_integer T.f_is_integer.kp T.b_is_integer .nil pass0 (pa_cons (pv 1) pa_nil)))) (pw_or1 (pt_cmpR op_lt (pv 1) (pv 0) (nomark _))))) (pss_one ps_never) pss_nil)), ?_⟩
    walk_at "go"
    refine call_is_integer ?_
    walk_at "xs"
    walk_at "t"
    refine call_is_integer ?_
    walk_at "xs"
    walk_at "t"
    exact q
end RK
end

section
namespace RK
open PySem L2 RS
variable {P : Program} {w : World} {K : PySem.W.Frag} {mg : Str → Option Value} {base : Heap} {A : Ad}

theorem beh_gt1 {p : Par} : ∀ {E : List Ent} {s T c : Nat}, Part p s E T → s ≤ c → c < T → c < p.beh c
  | [], s, T, c, q, _, _ => by
    have e : s = T := q
    omega
  | (l, h, w) :: r, s, T, c, q, hs, hc => by
    by_cases k : c < h
    · have := (q.2.2.1 c (by have := q.1; omega) k).2
      omega
    · exact beh_gt1 q.2.2.2 (by omega) hc
def sp_history (A : Ad) : Sp := fun vs H Q _ => ∃ x p, ∃ lo hi : Nat, vs = [.ref x, .int 1, .int (lo : Int), .int (hi : Int)] ∧ RunAt A H x p ∧ lo ≤ hi ∧ ∀ y xs H1, H y = none → Ex H H1 → H1 y = some (.lst xs) → All2 (EntAt H1) xs (cutE lo hi p.ents) → Q (.ref y) H1
theorem call_history {H : Hp} {x : Addr} {p : Par} {lo hi : Nat} {a b : Int} {Q : VK} {E : XK} (h : RunAt A H x p) (e : a = (lo : Int)) (e2 : b = (hi : Int)) (hl : lo ≤ hi) (q : ∀ y xs H1, H y = none → Ex H H1 → H1 y = some (.lst xs) → All2 (EntAt H1) xs (cutE lo hi p.ents) → Q (.ref y) H1) :
    sp_history A ([.ref x, .int 1, .int a, .int b] ++ []) H Q E := ⟨x, p, lo, hi, by rw [e, e2]; rfl, h, hl, q⟩
theorem ok_history (T : Txt K mg A) : FnOk P w K mg base CX0 9 A.f_history A.d_history ["run", "client", "first", "after"] (sp_history A) := by
  refine T.f_history.ok sc_history (fun vs H Q E h => ?_) (fun cdv AR outer s H vs Q E hr h => ?_)
  · obtain ⟨x, p, lo, hi, rfl, _⟩ := h; rfl
  · obtain ⟨x, p, lo, hi, rfl, RA, hl, q⟩ := h
    obtain ⟨dx, sc, r, bg, ch, sv, cl, wt, s0, s1, ff, R⟩ := id RA
    have ho := R.o
    have hr2 := R.r
    have O := R.ok
    have PT := ents_part O
    refine ⟨_, pss_cons (ps_expr (pe_call (ok_check_run T) (hr.mono (by decide)) (by rfl) T.g_check_run T.f_check_run.kp T.b_check_run .nil pass0 (pa_cons (pv 0) pa_nil))) (
      pss_cons (ps_expr (pe_meth (pe_meth0 (pv 0) T.cl_Run T.m_Run_scene (ok_Run_scene T) (hr.mono (by decide)) T.b_Run_scene .nil pass0) T.cl_Scene T.m_Scene_check_client (ok_Scene_check_client T) (hr.mono (by decide)) T.b_Scene_check_client .nil pass0 (pa_cons (pv 1) pa_nil))) (
      pss_cons (ps_expr (pe_call (ok_check_bounds T) (hr.mono (by decide)) (by rfl) T.g_check_bounds T.f_check_bounds.kp T.b_check_bounds .nil pass0 (pa_cons (pv 2) (pa_cons (pv 3) pa_nil)))) (
      pss_cons (ps_set (i := 4) sc_history.nd (by rfl) (by first | exact Or.inl rfl | exact Or.inr rfl) (pe_call (ok_attempts_made T) (hr.mono (by decide)) (by rfl) T.g_attempts_made T.f_attempts_made.kp T.b_attempts_made .nil pass0 (pa_cons (pv 0) (pa_cons (pv 1) pa_nil)))) (
      pss_cons (ps_set (i := 5) sc_history.nd (by rfl) (by first | exact Or.inl rfl | exact Or.inr rfl) (pe_ifExp (pt_cmpR op_isN1 (pv 4) pe_non (nomark _)) (pv 3) (pe_callB (call_min (by rfl)) (by rfl) T.z_min (by decide +kernel) (pa_cons (pv 3) (pa_cons (pv 4) pa_nil))))) (
      pss_cons (ps_if (PW.pt (pw_and (pt_cmpR op_eq (pe_ix (ixT (K := K) (by rfl)) (pe_meth0 (peFld (K := K) (by rfl) (pv 0) (by rfl)) T.cl_Rule T.m_Rule_tail (ok_Rule_tail T) (hr.mono (by decide)) T.b_Rule_tail .nil pass0) pe_int (fun _ _ => rfl)) pe_str (nomark _)) (pw_and (pt_cmpR op_lt (pv 2) (pv 5) (nomark _)) (pw_and1 (pt_cmpR op_gt (pe_op op_sub (pv 5) pe_int) (pe_glob (v := .int 1000) (by rfl) T.g_MOST_ENTRIES ⟨_, rfl⟩) (nomark _)))))) (pss_one ps_never) pss_nil) (
      pss_cons (ps_set (i := 6) sc_history.nd (by rfl) (by first | exact Or.inl rfl | exact Or.inr rfl) (pe_lst pa_nil)) (
      pss_cons (ps_while PassesOwn.never (pt_cmpR op_lt (pv 2) (pv 5) (nomark _)) (pss_cons (ps_if (pt_cmpR op_eq (pe_callB (callLen (K := K) (by rfl)) (by rfl) T.z_len (by decide +kernel) (pa_cons (pv 6) pa_nil)) (pe_glob (v := .int 1000) (by rfl) T.g_MOST_ENTRIES ⟨_, rfl⟩) (nomark _)) (pss_one ps_never) pss_nil) (pss_cons (ps_set (i := 7) sc_history.nd (by rfl) (by first | exact Or.inl rfl | exact Or.inr rfl) (pe_call (ok_reason_of T) (hr.mono (by decide)) (by rfl) T.g_reason_of T.f_reason_of.kp T.b_reason_of .nil pass0 (pa_cons (pv 0) (pa_cons (pv 1) (pa_cons (pv 2) pa_nil))))) (pss_cons (ps_set (i := 8) sc_history.nd (by rfl) (by first | exact Or.inl rfl | exact Or.inr rfl) (pe_callB (call_min (by rfl)) (by rfl) T.z_min (by decide +kernel) (pa_cons (pv 5) (pa_cons (pe_call (ok_behind_window T) (hr.mono (by decide)) (by rfl) T.g_behind_window T.f_behind_window.kp T.b_behind_window .nil pass0 (pa_cons (pv 0) (pa_cons (pv 1) (pa_cons (pv 2) (pa_cons (pv 7) pa_nil))))) pa_nil)))) (pss_cons (ps_expr (peBm (K := K) (by rfl) PySem.F.plainAttrs_list PySem.F.slot_list_append PySem.F.type_list_append mt_append (pv 6) (pa_cons (pe_tup (pa_cons (pv 2) (pa_cons (pv 8) (pa_cons (pv 7) pa_nil)))) pa_nil))) (pss_one (ps_set (i := 2) sc_history.nd (by rfl) (by first | exact Or.inl rfl | exact Or.inr rfl) (pv 8)))))))) (
      pss_one (ps_ret (pv 6)))))))))), ?_⟩
    walk_at "go"
    refine call_check_run RA ?_
    walk_at "xs"
    refine call_Run_scene RA (fun sc1 hsc => ?_)
    walk_at "xs"
    refine call_Scene_check_client (c := 1) hsc rfl (by omega) ?_
    walk_at "xs"
    refine call_check_bounds rfl rfl hl ?_
    walk_at "xs"
    refine call_attempts_made (c := 1) RA rfl (by omega) ?_
    walk_at "xs"
    refine xIsN (c := false) (by rfl) ?_
    walk_at "xs"
    refine xMin2 (c := ((min hi (p.k3 + 1) : Nat) : Int)) (by show _ = min (hi : Int) ((p.k3 + 1 : Nat) : Int); omega) ?_
    walk_at "xs"
    refine call_Rule_tail hr2 (fun e he => ?_)
    walk_at "xs"
    refine xNewL (by simp) (fun y H1 hy e1 h1 => ?_)
    walk_at "xs"
    refine xWhile (fun m σ' H' => ∃ (c : Nat) (E1 : List Ent) (xs : List V) (a b : Option V), σ' = [some (.ref x), some (.int 1), some (.int (c : Int)), some (.int (hi : Int)), some (.int (am p 1 : Int)), some (.int ((min hi (p.k3 + 1) : Nat) : Int)), some (.ref y), a, b] ∧
      m = min hi (p.k3 + 1) - c ∧ Ex H H' ∧ H' y = some (.lst xs) ∧ All2 (EntAt H') xs E1 ∧ E1 ++ cutE c hi p.ents = cutE lo hi p.ents) _ ⟨lo, [], [], _, _, rfl, rfl, e1, h1, trivial, rfl⟩ ?_
    rintro m σ' H2 ⟨c, E1, xs, a, b, rfl, rfl, e2, h2, al, hcut⟩
    walk_at "xs"
    refine itD (fun lt => ?_) (fun nlt => ?_)
    · refine xTurn ?_
      have hc : c < min hi (p.k3 + 1) := by omega
      have hck : c ≤ p.k3 := by omega
      have stp := cutE_step PT (Nat.zero_le c) hc
      have bgt : c < p.beh c := beh_gt1 PT (Nat.zero_le c) (by omega)
      have hlen : E1.length ≤ 4 := by
        have h3 := congrArg List.length hcut
        rw [List.length_append] at h3
        have h4 := cutE_length lo hi p.ents
        have h5 := ents_length p
        omega
      have hxl := al.len
      walk_at "xs"
      refine itN (by omega) ?_
      walk_at "xs"
      refine call_reason_of (run_ex e2 RA) rfl hck (fun fd H3 hfd e3 h3 => ?_)
      walk_at "xs"
      refine call_behind_window (k := c) (run_ex e3 (run_ex e2 RA)) rfl h3 (fun H4 e4 => ?_)
      walk_at "xs"
      refine xMin2 (c := ((min (min hi (p.k3 + 1)) (p.beh c) : Nat) : Int)) (by omega) ?_
      walk_at "xs"
      refine ⟨tyL (e4 _ _ (e3 _ _ h2)), ?_⟩
      walk_at "xs"
      refine xNewT (by simp) (fun t H5 ht e5 h5 => ?_)
      walk_at "xs"
      have h25 := e5 _ _ (e4 _ _ (e3 _ _ h2))
      refine xApp1 h25 (by omega) ?_
      walk_at "xs"
      have e35 := e3.trans (e4.trans e5)
      refine ⟨_, ?_, min (min hi (p.k3 + 1)) (p.beh c), E1 ++ [(c, min (min hi (p.k3 + 1)) (p.beh c), p.why c)], _, _, _, rfl, rfl, ?_, upd_same, ?_, ?_⟩
      · omega
      · exact ex_mut (e2.trans e35) hy
      · refine All2.app (All2.mono (fun v e' h => ent_upd h25 v e' (ent_ex e35 v e' h)) al) (All2.one ?_)
        refine ent_upd h25 _ _ ⟨t, fd, rfl, h5, e5 _ _ (e4 _ _ h3)⟩
      · rw [List.append_assoc, ← hcut, stp]
        rfl
    · have hcut0 : cutE c hi p.ents = [] := cutE_none PT (by omega)
      rw [hcut0, List.append_nil] at hcut
      walk_at "xs"
      exact q y xs H2 hy e2 h2 (by rw [← hcut]; exact al)

/-- the parts of a window outside the outage -/
def wp (p : Par) (b e : Int) : List (Int × Int) := (if b < p.f ∧ b < min p.f e then [(b, min p.f e)] else []) ++ (if max b p.a < e then [(max b p.a, e)] else [])
def sp_without_outages (A : Ad) : Sp := fun vs H Q _ => ∃ x p, ∃ b e : Int, vs = [.ref x, .int b, .int e] ∧ RunAt A H x p ∧ ∀ y xs H1, H y = none → Ex H H1 → H1 y = some (.lst xs) → All2 (PairAt H1) xs (wp p b e) → Q (.ref y) H1
theorem call_without_outages {H : Hp} {x : Addr} {p : Par} {b e b' e' : Int} {Q : VK} {E : XK} (h : RunAt A H x p) (hb : b' = b) (he : e' = e) (q : ∀ y xs H1, H y = none → Ex H H1 → H1 y = some (.lst xs) → All2 (PairAt H1) xs (wp p b e) → Q (.ref y) H1) :
    sp_without_outages A ([.ref x, .int b', .int e'] ++ []) H Q E := ⟨x, p, b, e, by rw [hb, he]; rfl, h, q⟩
theorem ok_without_outages (T : Txt K mg A) : FnOk P w K mg base CX0 2 A.f_without_outages A.d_without_outages ["run", "begin", "end"] (sp_without_outages A) := by
  refine T.f_without_outages.ok sc_without_outages (fun vs H Q E h => ?_) (fun cdv AR outer s H vs Q E hr h => ?_)
  · obtain ⟨x, p, b, e, rfl, _⟩ := h; rfl
  · obtain ⟨x, p, b, e, rfl, RA, q⟩ := h
    refine ⟨_, pss_cons (ps_set (i := 3) sc_without_outages.nd (by rfl) (by first | exact Or.inl rfl | exact Or.inr rfl) (pe_lst pa_nil)) (
      pss_cons (ps_for PassesOwn.never (by rfl) (piList (K := K) (by rfl) (pe_meth0 (pe_meth0 (pv 0) T.cl_Run T.m_Run_scene (ok_Run_scene T) (hr.mono (by decide)) T.b_Run_scene .nil pass0) T.cl_Scene T.m_Scene_outages (ok_Scene_outages T) (hr.mono (by decide)) T.b_Scene_outages .nil pass0)) (pgTup (K := K) 2 (by rfl) (by rfl) (pgs_cons (pg_name (i := 4) sc_without_outages.nd (by rfl) (by first | exact Or.inl rfl | exact Or.inr rfl)) (pgs_cons (pg_name (i := 5) sc_without_outages.nd (by rfl) (by first | exact Or.inl rfl | exact Or.inr rfl)) pgs_nil))) (pss_cons (ps_if (pt_cmpR op_gt (pv 4) (pv 1) (nomark _)) (pss_one (ps_expr (peBm (K := K) (by rfl) PySem.F.plainAttrs_list PySem.F.slot_list_append PySem.F.type_list_append mt_append (pv 3) (pa_cons (pe_tup (pa_cons (pv 1) (pa_cons (pe_callB (call_min (by rfl)) (by rfl) T.z_min (by decide +kernel) (pa_cons (pv 4) (pa_cons (pv 2) pa_nil))) pa_nil))) pa_nil)))) pss_nil) (pss_one (ps_set (i := 1) sc_without_outages.nd (by rfl) (by first | exact Or.inl rfl | exact Or.inr rfl) (pe_callB (call_max (by rfl)) (by rfl) T.z_max (by decide +kernel) (pa_cons (pv 1) (pa_cons (pv 5) pa_nil))))))) (
      pss_one (ps_ret (pe_lc (own := [("part", 6)]) (by rfl) sc_without_outages.nd (piList (K := K) (by rfl) (pe_op op_cat (pv 3) (pe_lst (pa_cons (pe_tup (pa_cons (pv 1) (pa_cons (pv 2) pa_nil))) pa_nil)))) (blkOk_by (own := [("part", 6)]) (N := n_without_outages) (sc := (defScope s_without_outages)) (by decide +kernel)) (fun _ _ _ _ _ => (pg_name (i := 6) sc_without_outages.nd (by rfl) (by first | exact Or.inl rfl | exact Or.inr rfl))) (fun _ _ _ _ _ => (pts_one (pt_cmpR op_lt (pe_ix (ixT (K := K) (by rfl)) (pv 6) pe_int (fun _ _ => rfl)) (pe_ix (ixT (K := K) (by rfl)) (pv 6) pe_int (fun _ _ => rfl)) (nomark _)))) (fun _ _ _ _ _ => (pv 6)))))), ?_⟩
    walk_at "go"
    refine xNewL (by simp) (fun y1 H1 hy1 e1 h1 => ?_)
    walk_at "xs"
    refine call_Run_scene (run_ex e1 RA) (fun sc hsc => ?_)
    walk_at "xs"
    refine call_Scene_outages hsc (fun y2 t H2 hy2 e2 h2 ht => ?_)
    walk_at "xs"
    have h12 := e2 _ _ h1
    have n21 : y2 ≠ y1 := (ne_of_none h1 hy2).symm
    -- the parts so far
    let P1 : List (Int × Int) := if b < p.f then [(b, min p.f e)] else []
    refine xForList h2 (fun i σ' H' => (∃ c d f, σ' = [some (.ref x), some (.int (if i = 0 then b else max b p.a)), some (.int e), some (.ref y1), c, d, f]) ∧ Ex H H' ∧ H' y2 = some (.lst [.ref t]) ∧ H' t = some (.tup [.int p.f, .int p.a]) ∧
      ∃ xs, H' y1 = some (.lst xs) ∧ All2 (PairAt H') xs (if i = 0 then [] else P1)) ⟨⟨_, _, _, rfl⟩, e1.trans e2, h2, ht, [], h12, trivial⟩ (fun i σ' H' q => q.2.2.1) ?_ ?_
    · rintro i v σ' H3 hi ⟨⟨c, d, f, rfl⟩, e3, h3, ht3, xs, hx3, al⟩
      obtain ⟨rfl, rfl⟩ : i = 0 ∧ v = .ref t := by
        cases i with
        | zero => exact ⟨rfl, (Option.some.inj hi).symm⟩
        | succ i => cases hi
      obtain rfl : xs = [] := by
        cases xs with
        | nil => rfl
        | cons a l => exact al.elim
      walk_at "xs"
      refine itD (fun c1 => ?_) (fun c1 => ?_)
      · walk_at "xs"
        refine ⟨tyL hx3, ?_⟩
        walk_at "xs"
        refine xMin2 (c := min p.f e) rfl ?_
        walk_at "xs"
        refine xNewT (by simp) (fun t4 H4 ht4 e4 h4 => ?_)
        walk_at "xs"
        have hx4 := e4 _ _ hx3
        refine xApp1 hx4 (by simp) ?_
        walk_at "xs"
        refine xMax2 (c := max b p.a) rfl ?_
        walk_at "xs"
        have f4 : b < p.f := by
          have c2 : p.f > b := c1
          omega
        refine ⟨⟨_, _, _, rfl⟩, ex_mut (e3.trans e4) (ex_free (ex_refl _) hy1), by rw [upd_ne n21]; exact e4 _ _ h3, keeps_lst hx4 _ _ (e4 _ _ ht3), _, upd_same, ?_⟩
        show All2 _ _ (if b < p.f then [(b, min p.f e)] else [])
        rw [if_pos f4]
        exact All2.one (pair_upd hx4 _ _ ⟨t4, rfl, h4⟩)
      · walk_at "xs"
        refine xMax2 (c := max b p.a) rfl ?_
        walk_at "xs"
        have f4 : ¬ b < p.f := by
          have c2 : ¬ p.f > b := c1
          omega
        refine ⟨⟨_, _, _, rfl⟩, e3, h3, ht3, [], hx3, ?_⟩
        show All2 _ _ (if b < p.f then [(b, min p.f e)] else [])
        rw [if_neg f4]
        trivial
    · rintro σ' H3 ⟨⟨c, d, f, rfl⟩, e3, h3, ht3, xs, hx3, al⟩
      walk_at "xs"
      refine xNewT (by simp) (fun t4 H4 ht4 e4 h4 => ?_)
      walk_at "xs"
      refine xNewL (by simp) (fun y5 H5 hy5 e5 h5 => ?_)
      have al1 : xs.length ≤ 1 := by
        have := al.len
        rw [this]
        show (if b < p.f then [(b, min p.f e)] else []).length ≤ 1
        split <;> simp
      refine xCat (e5 _ _ (e4 _ _ hx3)) h5 (by simp; omega) (fun y6 H6 hy6 e6 h6 => ?_)
      walk_at "xs"
      have e36 := e4.trans (e5.trans e6)
      let WS : List (Int × Int) := P1 ++ [(max b p.a, e)]
      have al6 : All2 (PairAt H6) (xs ++ [.ref t4]) WS := All2.app (All2.mono (pair_ex e36) al) (All2.one ⟨t4, rfl, e6 _ _ (e5 _ _ h4)⟩)
      let ok : Int × Int → Bool := fun w => decide (w.1 < w.2)
      -- the comprehension keeps what is not empty
      refine ⟨y6, rfl, ⟨_, SqL.of h6⟩, cgo (walk_list (K := K) (a := y6)) (by simp; omega) (fun i l S => All2 (PairAt S) l ((WS.take i).filter ok)) (fun H' e' => SqL.of (e' _ _ h6)) trivial ?_ ?_⟩
      · intro i v l D2 S2 H7 H8 Y1 N1 hi a1 a2 a3 a4 a5 hyd hY hN
        obtain ⟨rfl, hv⟩ := hyd
        obtain ⟨ww, hww, t7, rfl, ht7⟩ := (All2.mono (pair_ex (a2.trans a3)) al6).at hv
        walk_at "xs"
        refine ⟨rfl, ?_⟩
        walk_at "xs"
        have tk : WS.take (i + 1) = WS.take i ++ [ww] := by rw [List.take_add_one, hww]; rfl
        refine itD (fun c1 => ?_) (fun c1 => ?_)
        · walk_at "xs"
          refine hY _ _ (ex_refl _) ?_
          rw [tk, List.filter_append]
          have f1 : [ww].filter ok = [ww] := by simp [ok, c1]
          rw [f1]
          refine All2.app (All2.mono (fun v w h => ?_) a5) (All2.one ⟨t7, rfl, era_at ht7 (ne_of ht7 a4 (by intro z; cases z))⟩)
          obtain ⟨t8, rfl, ht8⟩ := h
          exact ⟨t8, rfl, era_at (a3 _ _ ht8) (ne_of_none ht8 a1)⟩
        · refine hN _ (ex_refl _) ?_
          rw [tk, List.filter_append]
          have f1 : [ww].filter ok = [] := by simp [ok, c1]
          rw [f1, List.append_nil]
          refine All2.mono (fun v w h => ?_) a5
          obtain ⟨t8, rfl, ht8⟩ := h
          exact ⟨t8, rfl, era_at (a3 _ _ ht8) (ne_of_none ht8 a1)⟩
      · intro y7 H7 l S7 hy7 e7 e7' hs7 h7 hl
        have eW : (WS.take (xs ++ [V.ref t4]).length).filter ok = wp p b e := by
          have hlen : (xs ++ [V.ref t4]).length = WS.length := al6.len
          rw [hlen, List.take_length]
          show ((if b < p.f then [(b, min p.f e)] else []) ++ [(max b p.a, e)]).filter ok = _
          unfold wp
          rw [List.filter_append]
          congr 1
          · by_cases c1 : b < p.f
            · by_cases c2 : b < min p.f e
              · rw [if_pos c1, if_pos ⟨c1, c2⟩]; simp [ok]; omega
              · rw [if_pos c1, if_neg (fun z => c2 z.2)]; simp [ok]; omega
            · rw [if_neg c1, if_neg (fun z => c1 z.1)]; rfl
          · by_cases c3 : max b p.a < e
            · rw [if_pos c3]; simp [ok]; omega
            · rw [if_neg c3]; simp [ok]; omega
        rw [eW] at hl
        exact q y7 l H7 (ex_free (e3.trans e36) hy7) ((e3.trans e36).trans (e7.trans e7')) h7 (All2.mono (pair_ex e7') hl)
end RK
end

section
namespace RK
open PySem L2 RS
variable {P : Program} {w : World} {K : PySem.W.Frag} {mg : Str → Option Value} {base : Heap} {A : Ad}

noncomputable def bw (p : Par) (c : Nat) : List (Int × Int) := if c = 0 then wp p (p.t p.k3 + 1) (p.t p.k3 + p.L) else wp p 1 p.L
theorem wp_length (p : Par) (b e : Int) : (wp p b e).length ≤ 2 := by
  unfold wp
  rw [List.length_append]
  have h1 : (if b < p.f ∧ b < min p.f e then [(b, min p.f e)] else []).length ≤ 1 := by split <;> simp
  have h2 : (if max b p.a < e then [(max b p.a, e)] else []).length ≤ 1 := by split <;> simp
  omega
def sp_busy_windows (A : Ad) : Sp := fun vs H Q _ => ∃ x p, ∃ c : Nat, vs = [.ref x, .int (c : Int)] ∧ RunAt A H x p ∧ c ≤ 1 ∧ ∀ y xs H1, H y = none → Ex H H1 → H1 y = some (.lst xs) → All2 (PairAt H1) xs (bw p c) → Q (.ref y) H1
theorem call_busy_windows {H : Hp} {x : Addr} {p : Par} {c : Nat} {z : Int} {Q : VK} {E : XK} (h : RunAt A H x p) (e : z = (c : Int)) (hc : c ≤ 1) (q : ∀ y xs H1, H y = none → Ex H H1 → H1 y = some (.lst xs) → All2 (PairAt H1) xs (bw p c) → Q (.ref y) H1) :
    sp_busy_windows A ([.ref x, .int z] ++ []) H Q E := ⟨x, p, c, by rw [e]; rfl, h, hc, q⟩
theorem ok_busy_windows (T : Txt K mg A) : FnOk P w K mg base CX0 3 A.f_busy_windows A.d_busy_windows ["run", "client"] (sp_busy_windows A) := by
  refine T.f_busy_windows.ok sc_busy_windows (fun vs H Q E h => ?_) (fun cdv AR outer s H vs Q E hr h => ?_)
  · obtain ⟨x, p, c, rfl, _⟩ := h; rfl
  · obtain ⟨x, p, c, rfl, RA, hc, q⟩ := h
    have sz : sizeLine = 16777216 := sizeLine_eq
    refine ⟨_, pss_cons (ps_set (i := 2) sc_busy_windows.nd (by rfl) (by first | exact Or.inl rfl | exact Or.inr rfl) (pe_lst pa_nil)) (
      pss_cons (ps_for PassesOwn.never (by rfl) (piList (K := K) (by rfl) (pe_meth0 (pv 0) T.cl_Run T.m_Run_order (ok_Run_order T) (hr.mono (by decide)) T.b_Run_order .nil pass0)) (pgTup (K := K) 2 (by rfl) (by rfl) (pgs_cons (pg_name (i := 3) sc_busy_windows.nd (by rfl) (by first | exact Or.inl rfl | exact Or.inr rfl)) (pgs_cons (pg_name (i := 4) sc_busy_windows.nd (by rfl) (by first | exact Or.inl rfl | exact Or.inr rfl)) pgs_nil))) (pss_one (ps_if (pt_cmpR op_ne (pv 4) (pv 1) (nomark _)) (pss_one (ps_expr (peBm (K := K) (by rfl) PySem.F.plainAttrs_list PySem.F.slot_list_extend PySem.F.type_list_extend mt_extend (pv 2) (pa_cons (pe_call (ok_without_outages T) (hr.mono (by decide)) (by rfl) T.g_without_outages T.f_without_outages.kp T.b_without_outages .nil pass0 (pa_cons (pv 0) (pa_cons (pe_op op_add (pv 3) pe_int) (pa_cons (pe_op op_add (pv 3) (pe_meth0 (pe_meth0 (pv 0) T.cl_Run T.m_Run_scene (ok_Run_scene T) (hr.mono (by decide)) T.b_Run_scene .nil pass0) T.cl_Scene T.m_Scene_length (ok_Scene_length T) (hr.mono (by decide)) T.b_Scene_length .nil pass0)) pa_nil)))) pa_nil)))) pss_nil))) (
      pss_one (ps_ret (pv 2)))), ?_⟩
    walk_at "go"
    refine xNewL (by simp) (fun y1 H1 hy1 e1 h1 => ?_)
    walk_at "xs"
    refine call_Run_order (run_ex e1 RA) (fun y2 a b H2 hy2 e2 h2 ha hb => ?_)
    walk_at "xs"
    have h12 := e2 _ _ h1
    have n21 : y2 ≠ y1 := (ne_of_none h1 hy2).symm
    refine xForList h2 (fun i σ' H' => (∃ d f, σ' = [some (.ref x), some (.int (c : Int)), some (.ref y1), d, f]) ∧ Ex H H' ∧ H' y2 = some (.lst [.ref a, .ref b]) ∧ H' a = some (.tup [.int 0, .int 0]) ∧ H' b = some (.tup [.int (p.t p.k3), .int 1]) ∧
      ∃ xs, H' y1 = some (.lst xs) ∧ All2 (PairAt H') xs (if i = 0 then [] else if i = 1 then (if c = 0 then [] else bw p c) else bw p c)) ⟨⟨_, _, rfl⟩, e1.trans e2, h2, ha, hb, [], h12, trivial⟩ (fun i σ' H' q => q.2.2.1) ?_ ?_
    · rintro i v σ' H3 hi ⟨⟨d, f, rfl⟩, e3, h3, ha3, hb3, xs, hx3, al⟩
      match i, hi with
      | 0, hi =>
        obtain rfl : v = .ref a := (Option.some.inj hi).symm
        obtain rfl : xs = [] := by
          cases xs with
          | nil => rfl
          | cons a l => exact al.elim
        walk_at "xs"
        match c, hc with
        | 0, _ =>
          walk_at "t"
          exact ⟨⟨_, _, rfl⟩, e3, h3, ha3, hb3, [], hx3, trivial⟩
        | 1, _ =>
          walk_at "t"
          refine ⟨tyL hx3, ?_⟩
          walk_at "xs"
          refine call_Run_scene (run_ex e3 RA) (fun sc hsc => ?_)
          walk_at "xs"
          refine call_Scene_length hsc ?_
          walk_at "xs"
          refine call_without_outages (b := 1) (e := p.L) (run_ex e3 RA) (by omega) (by omega) (fun y4 xs4 H4 hy4 e4 h4 al4 => ?_)
          walk_at "xs"
          have hx4 := e4 _ _ hx3
          have l4 := al4.len
          have l5 := wp_length p 1 p.L
          refine ⟨y1, y4, [], xs4, rfl, rfl, hx4, h4, by simp; omega, ?_⟩
          refine ⟨⟨_, _, rfl⟩, ex_mut (e3.trans e4) hy1, by rw [upd_ne n21]; exact e4 _ _ h3, keeps_lst hx4 _ _ (e4 _ _ ha3), keeps_lst hx4 _ _ (e4 _ _ hb3), xs4, upd_same, ?_⟩
          exact All2.mono (pair_upd hx4) al4
      | 1, hi =>
        obtain rfl : v = .ref b := (Option.some.inj hi).symm
        walk_at "xs"
        match c, hc with
        | 0, _ =>
          obtain rfl : xs = [] := by
            cases xs with
            | nil => rfl
            | cons a l => exact al.elim
          walk_at "t"
          refine ⟨tyL hx3, ?_⟩
          walk_at "xs"
          refine call_Run_scene (run_ex e3 RA) (fun sc hsc => ?_)
          walk_at "xs"
          refine call_Scene_length hsc ?_
          walk_at "xs"
          refine call_without_outages (b := p.t p.k3 + 1) (e := p.t p.k3 + p.L) (run_ex e3 RA) (by omega) (by omega) (fun y4 xs4 H4 hy4 e4 h4 al4 => ?_)
          walk_at "xs"
          have hx4 := e4 _ _ hx3
          have l4 := al4.len
          have l5 := wp_length p (p.t p.k3 + 1) (p.t p.k3 + p.L)
          refine ⟨y1, y4, [], xs4, rfl, rfl, hx4, h4, by simp; omega, ?_⟩
          refine ⟨⟨_, _, rfl⟩, ex_mut (e3.trans e4) hy1, by rw [upd_ne n21]; exact e4 _ _ h3, keeps_lst hx4 _ _ (e4 _ _ ha3), keeps_lst hx4 _ _ (e4 _ _ hb3), xs4, upd_same, ?_⟩
          exact All2.mono (pair_upd hx4) al4
        | 1, _ =>
          walk_at "t"
          exact ⟨⟨_, _, rfl⟩, e3, h3, ha3, hb3, xs, hx3, al⟩
      | i + 2, hi => cases hi
    · rintro σ' H3 ⟨⟨d, f, rfl⟩, e3, h3, ha3, hb3, xs, hx3, al⟩
      walk_at "xs"
      exact q y1 xs H3 hy1 e3 hx3 al
/-- the count of the attempts in windows -/
noncomputable def cw (p : Par) (c lo hi : Nat) : List (Int × Int) → Nat
  | [] => 0
  | w :: r => cnt lo hi (p.F (w.1 - stt p c)) (p.F (w.2 - stt p c)) + cw p c lo hi r
theorem cw_snoc (p : Par) (c lo hi : Nat) (w : Int × Int) : ∀ ws : List (Int × Int), cw p c lo hi (ws ++ [w]) = cw p c lo hi ws + cnt lo hi (p.F (w.1 - stt p c)) (p.F (w.2 - stt p c))
  | [] => by simp [cw]
  | v :: ws => by
    show _ + cw p c lo hi (ws ++ [w]) = _ + cw p c lo hi ws + _
    rw [cw_snoc p c lo hi w ws]
    omega
def sp_count_within (A : Ad) : Sp := fun vs H Q _ => ∃ x p, ∃ c lo hi : Nat, ∃ wl xs ws, vs = [.ref x, .int (c : Int), .ref wl, .int (lo : Int), .int (hi : Int)] ∧ RunAt A H x p ∧ c ≤ 1 ∧ H wl = some (.lst xs) ∧ All2 (PairAt H) xs ws ∧ ∀ H1, Ex H H1 → Q (.int (cw p c lo hi ws : Int)) H1
theorem call_count_within {H : Hp} {x wl : Addr} {p : Par} {c lo hi : Nat} {xs : List V} {ws : List (Int × Int)} {z a b : Int} {Q : VK} {E : XK} (h : RunAt A H x p) (e : z = (c : Int)) (e2 : a = (lo : Int)) (e3 : b = (hi : Int)) (hc : c ≤ 1) (hw : H wl = some (.lst xs)) (al : All2 (PairAt H) xs ws)
    (q : ∀ H1, Ex H H1 → Q (.int (cw p c lo hi ws : Int)) H1) : sp_count_within A ([.ref x, .int z, .ref wl, .int a, .int b] ++ []) H Q E := ⟨x, p, c, lo, hi, wl, xs, ws, by rw [e, e2, e3]; rfl, h, hc, hw, al, q⟩
theorem ok_count_within (T : Txt K mg A) : FnOk P w K mg base CX0 5 A.f_count_within A.d_count_within ["run", "client", "windows", "first", "stop"] (sp_count_within A) := by
  refine T.f_count_within.ok sc_count_within (fun vs H Q E h => ?_) (fun cdv AR outer s H vs Q E hr h => ?_)
  · obtain ⟨x, p, c, lo, hi, wl, xs, ws, rfl, _⟩ := h; rfl
  · obtain ⟨x, p, c, lo, hi, wl, xs, ws, rfl, RA, hc, hw, al, q⟩ := h
    refine ⟨_, pss_cons (ps_set (i := 5) sc_count_within.nd (by rfl) (by first | exact Or.inl rfl | exact Or.inr rfl) pe_int) (
      pss_cons (ps_for PassesOwn.never (by rfl) (piList (K := K) (by rfl) (pv 2)) (pgTup (K := K) 2 (by rfl) (by rfl) (pgs_cons (pg_name (i := 6) sc_count_within.nd (by rfl) (by first | exact Or.inl rfl | exact Or.inr rfl)) (pgs_cons (pg_name (i := 7) sc_count_within.nd (by rfl) (by first | exact Or.inl rfl | exact Or.inr rfl)) pgs_nil))) (pss_cons (ps_par (i := 8) (j := 9) (by rfl) sc_count_within.nd (by rfl) (by rfl) (by decide) (by rfl) (by rfl) (pa_cons (pe_call (ok_first_attempt T) (hr.mono (by decide)) (by rfl) T.g_first_attempt T.f_first_attempt.kp T.b_first_attempt .nil pass0 (pa_cons (pv 0) (pa_cons (pv 1) (pa_cons (pv 6) pa_nil)))) (pa_cons (pe_call (ok_first_attempt T) (hr.mono (by decide)) (by rfl) T.g_first_attempt T.f_first_attempt.kp T.b_first_attempt .nil pass0 (pa_cons (pv 0) (pa_cons (pv 1) (pa_cons (pv 7) pa_nil)))) pa_nil)) (by rfl)) (pss_one (ps_aug (i := 5) sc_count_within.nd (by rfl) (by first | exact Or.inl rfl | exact Or.inr rfl) (pe_callB (call_max (by rfl)) (by rfl) T.z_max (by decide +kernel) (pa_cons pe_int (pa_cons (pe_op op_sub (pe_callB (call_min (by rfl)) (by rfl) T.z_min (by decide +kernel) (pa_cons (pv 9) (pa_cons (pv 4) pa_nil))) (pe_callB (call_max (by rfl)) (by rfl) T.z_max (by decide +kernel) (pa_cons (pv 8) (pa_cons (pv 3) pa_nil)))) pa_nil))) ip_add)))) (
      pss_one (ps_ret (pv 5)))), ?_⟩
    walk_at "go"
    refine xForList hw (fun i σ' H' => (∃ d f g j, σ' = [some (.ref x), some (.int (c : Int)), some (.ref wl), some (.int (lo : Int)), some (.int (hi : Int)), some (.int (cw p c lo hi (ws.take i) : Int)), d, f, g, j]) ∧ Ex H H') ⟨⟨_, _, _, _, rfl⟩, ex_refl _⟩ (fun i σ' H' q => q.2 _ _ hw) ?_ ?_
    · rintro i v σ' H1 hi1 ⟨⟨d, f, g, j, rfl⟩, e1⟩
      obtain ⟨ww, hww, t, rfl, ht⟩ := al.at hi1
      have ht1 := e1 _ _ ht
      walk_at "xs"
      refine call_first_attempt (run_ex e1 RA) rfl hc (fun H2 e2 => ?_)
      walk_at "xs"
      refine call_first_attempt (run_ex e2 (run_ex e1 RA)) rfl hc (fun H3 e3 => ?_)
      walk_at "xs"
      refine xMin2 (c := ((min (p.F (ww.2 - stt p c)) hi : Nat) : Int)) (by omega) ?_
      walk_at "xs"
      refine xMax2 (c := ((max (p.F (ww.1 - stt p c)) lo : Nat) : Int)) (by omega) ?_
      walk_at "xs"
      refine xMax2 (c := ((cnt lo hi (p.F (ww.1 - stt p c)) (p.F (ww.2 - stt p c)) : Nat) : Int)) (by unfold cnt; omega) ?_
      walk_at "xs"
      refine ⟨⟨some (.int ww.1), some (.int ww.2), some (.int (p.F (ww.1 - stt p c) : Int)), some (.int (p.F (ww.2 - stt p c) : Int)), ?_⟩, e1.trans (e2.trans e3)⟩
      rw [List.take_add_one, hww]
      show _ = [_, _, _, _, _, some (V.int (cw p c lo hi (ws.take i ++ [ww]) : Int)), _, _, _, _]
      rw [cw_snoc, Int.natCast_add]
      rfl
    · rintro σ' H1 ⟨⟨d, f, g, j, rfl⟩, e1⟩
      walk_at "xs"
      have q1 := q H1 e1
      rw [al.len, List.take_length]
      exact q1
noncomputable def fcO (p : Par) (c lo hi : Nat) : Nat := if c = 0 then 0 else wsum .out (cutE lo hi p.ents)
noncomputable def fcB (p : Par) (c lo hi : Nat) : Nat := if c = 0 then 0 else wsum .busy (cutE lo hi p.ents)
theorem cw_0 (p : Par) (lo : Nat) : ∀ ws, cw p 0 lo 0 ws = 0
  | [] => rfl
  | w :: ws => by
    show cnt lo 0 _ _ + cw p 0 lo 0 ws = 0
    rw [cw_0 p lo ws]
    unfold cnt
    omega
theorem cw_1 (p : Par) (lo hi : Nat) : ∀ ws, cw p 1 (min lo (min hi p.k3)) (min hi p.k3) ws = p.winsum lo hi ws
  | [] => rfl
  | w :: ws => by
    show cnt _ _ _ _ + cw p 1 _ _ ws = p.win lo hi w.1 w.2 + p.winsum lo hi ws
    rw [cw_1 p lo hi ws]
    rfl
theorem fc_eq {p : Par} (O : p.Ok) {c : Nat} (hc : c ≤ 1) (lo hi : Nat) : cw p c (min lo (min hi (am p c - 1))) (min hi (am p c - 1)) [(p.f, p.a)] = fcO p c lo hi ∧ cw p c (min lo (min hi (am p c - 1))) (min hi (am p c - 1)) (bw p c) = fcB p c lo hi ∧
    min hi (am p c - 1) - min lo (min hi (am p c - 1)) = fcO p c lo hi + fcB p c lo hi := by
  match c, hc with
  | 0, _ =>
    have e : min hi (am p 0 - 1) = 0 := by show min hi 0 = 0; omega
    rw [e]
    exact ⟨cw_0 _ _ _, cw_0 _ _ _, by show 0 - min lo 0 = 0 + 0; omega⟩
  | 1, _ =>
    have e : am p 1 - 1 = p.k3 := rfl
    rw [e, cw_1, cw_1]
    have o1 : fcO p 1 lo hi = wsum .out (cutE lo hi p.ents) := rfl
    have o2 : fcB p 1 lo hi = wsum .busy (cutE lo hi p.ents) := rfl
    rw [o1, o2, law_out, law_busy]
    refine ⟨?_, ?_, prog_rest O lo hi⟩
    · show p.win lo hi p.f p.a + 0 = _
      rw [prog_out O]
      omega
    · exact prog_busy O lo hi
def sp_failure_counts (A : Ad) : Sp := fun vs H Q _ => ∃ x p, ∃ c lo hi : Nat, vs = [.ref x, .int (c : Int), .int (lo : Int), .int (hi : Int)] ∧ RunAt A H x p ∧ c ≤ 1 ∧ lo ≤ hi ∧ ∀ y H1, H y = none → Ex H H1 → H1 y = some (.tup [.int (fcO p c lo hi : Int), .int (fcB p c lo hi : Int), .int 0]) → Q (.ref y) H1
theorem call_failure_counts {H : Hp} {x : Addr} {p : Par} {c lo hi : Nat} {z a b : Int} {Q : VK} {E : XK} (h : RunAt A H x p) (e : z = (c : Int)) (e2 : a = (lo : Int)) (e3 : b = (hi : Int)) (hc : c ≤ 1) (hl : lo ≤ hi)
    (q : ∀ y H1, H y = none → Ex H H1 → H1 y = some (.tup [.int (fcO p c lo hi : Int), .int (fcB p c lo hi : Int), .int 0]) → Q (.ref y) H1) : sp_failure_counts A ([.ref x, .int z, .int a, .int b] ++ []) H Q E := ⟨x, p, c, lo, hi, by rw [e, e2, e3]; rfl, h, hc, hl, q⟩
theorem ok_failure_counts (T : Txt K mg A) : FnOk P w K mg base CX0 6 A.f_failure_counts A.d_failure_counts ["run", "client", "first", "after"] (sp_failure_counts A) := by
  refine T.f_failure_counts.ok sc_failure_counts (fun vs H Q E h => ?_) (fun cdv AR outer s H vs Q E hr h => ?_)
  · obtain ⟨x, p, c, lo, hi, rfl, _⟩ := h; rfl
  · obtain ⟨x, p, c, lo, hi, rfl, RA, hc, hl, q⟩ := h
    obtain ⟨dx, sc, r, bg, ch, sv, cl, wt, s0, s1, ff, R⟩ := id RA
    have ho := R.o
    have O := R.ok
    have am1 : 1 ≤ am p c := by unfold am; split <;> omega
    obtain ⟨E1, E2, E3⟩ := fc_eq O hc lo hi
    generalize hst : min hi (am p c - 1) = st at E1 E2 E3
    refine ⟨_, pss_cons (ps_expr (pe_call (ok_check_run T) (hr.mono (by decide)) (by rfl) T.g_check_run T.f_check_run.kp T.b_check_run .nil pass0 (pa_cons (pv 0) pa_nil))) (
      pss_cons (ps_expr (pe_meth (pe_meth0 (pv 0) T.cl_Run T.m_Run_scene (ok_Run_scene T) (hr.mono (by decide)) T.b_Run_scene .nil pass0) T.cl_Scene T.m_Scene_check_client (ok_Scene_check_client T) (hr.mono (by decide)) T.b_Scene_check_client .nil pass0 (pa_cons (pv 1) pa_nil))) (
      pss_cons (ps_expr (pe_call (ok_check_bounds T) (hr.mono (by decide)) (by rfl) T.g_check_bounds T.f_check_bounds.kp T.b_check_bounds .nil pass0 (pa_cons (pv 2) (pa_cons (pv 3) pa_nil)))) (
      pss_cons (ps_set (i := 4) sc_failure_counts.nd (by rfl) (by first | exact Or.inl rfl | exact Or.inr rfl) (pe_call (ok_attempts_made T) (hr.mono (by decide)) (by rfl) T.g_attempts_made T.f_attempts_made.kp T.b_attempts_made .nil pass0 (pa_cons (pv 0) (pa_cons (pv 1) pa_nil)))) (
      pss_cons (ps_set (i := 5) sc_failure_counts.nd (by rfl) (by first | exact Or.inl rfl | exact Or.inr rfl) (pe_ifExp (pt_cmpR op_isN1 (pv 4) pe_non (nomark _)) (pv 3) (pe_callB (call_min (by rfl)) (by rfl) T.z_min (by decide +kernel) (pa_cons (pv 3) (pa_cons (pe_op op_sub (pv 4) (pe_callTy call_int (by rfl) T.z_int (by decide +kernel) (pa_cons (pe_cmp (pc_din (hu_of hr) (pv 1) (peFld (K := K) (by rfl) (pv 0) (by rfl)))) pa_nil))) pa_nil))))) (
      pss_cons (ps_set (i := 2) sc_failure_counts.nd (by rfl) (by first | exact Or.inl rfl | exact Or.inr rfl) (pe_callB (call_min (by rfl)) (by rfl) T.z_min (by decide +kernel) (pa_cons (pv 2) (pa_cons (pv 5) pa_nil)))) (
      pss_cons (ps_set (i := 6) sc_failure_counts.nd (by rfl) (by first | exact Or.inl rfl | exact Or.inr rfl) (pe_call (ok_count_within T) (hr.mono (by decide)) (by rfl) T.g_count_within T.f_count_within.kp T.b_count_within .nil pass0 (pa_cons (pv 0) (pa_cons (pv 1) (pa_cons (pe_meth0 (pe_meth0 (pv 0) T.cl_Run T.m_Run_scene (ok_Run_scene T) (hr.mono (by decide)) T.b_Run_scene .nil pass0) T.cl_Scene T.m_Scene_outages (ok_Scene_outages T) (hr.mono (by decide)) T.b_Scene_outages .nil pass0) (pa_cons (pv 2) (pa_cons (pv 5) pa_nil))))))) (
      pss_cons (ps_set (i := 7) sc_failure_counts.nd (by rfl) (by first | exact Or.inl rfl | exact Or.inr rfl) (pe_call (ok_count_within T) (hr.mono (by decide)) (by rfl) T.g_count_within T.f_count_within.kp T.b_count_within .nil pass0 (pa_cons (pv 0) (pa_cons (pv 1) (pa_cons (pe_call (ok_busy_windows T) (hr.mono (by decide)) (by rfl) T.g_busy_windows T.f_busy_windows.kp T.b_busy_windows .nil pass0 (pa_cons (pv 0) (pa_cons (pv 1) pa_nil))) (pa_cons (pv 2) (pa_cons (pv 5) pa_nil))))))) (
      pss_one (ps_ret (pe_tup (pa_cons (pv 6) (pa_cons (pv 7) (pa_cons (pe_op op_sub (pe_op op_sub (pe_op op_sub (pv 5) (pv 2)) (pv 6)) (pv 7)) pa_nil))))))))))))), ?_⟩
    walk_at "go"
    refine call_check_run RA ?_
    walk_at "xs"
    refine call_Run_scene RA (fun sc1 hsc => ?_)
    walk_at "xs"
    refine call_Scene_check_client (c := c) hsc rfl hc ?_
    walk_at "xs"
    refine call_check_bounds rfl rfl hl ?_
    walk_at "xs"
    refine call_attempts_made (c := c) RA rfl hc ?_
    walk_at "xs"
    refine xIsN (c := false) (by rfl) ?_
    walk_at "xs"
    refine xInK (.inl (c : Int)) true rfl R.sv (by
      match c, hc with
      | 0, _ => rfl
      | 1, _ => rfl) ?_
    walk_at "xs"
    refine xMin2 (c := (st : Int)) (by show (st : Int) = min (hi : Int) ((am p c : Int) - 1); omega) ?_
    walk_at "xs"
    refine xMin2 (c := ((min lo st : Nat) : Int)) (by omega) ?_
    walk_at "xs"
    refine call_Run_scene RA (fun sc2 hsc2 => ?_)
    walk_at "xs"
    refine call_Scene_outages hsc2 (fun y1 t H1 hy1 e1 h1 ht => ?_)
    walk_at "xs"
    refine call_count_within (lo := min lo st) (hi := st) (ws := [(p.f, p.a)]) (run_ex e1 RA) rfl rfl rfl hc h1 (All2.one ⟨t, rfl, ht⟩) (fun H2 e2 => ?_)
    walk_at "xs"
    refine call_busy_windows (run_ex e2 (run_ex e1 RA)) rfl hc (fun y3 xs3 H3 hy3 e3 h3 al3 => ?_)
    walk_at "xs"
    refine call_count_within (lo := min lo st) (hi := st) (run_ex e3 (run_ex e2 (run_ex e1 RA))) rfl rfl rfl hc h3 al3 (fun H4 e4 => ?_)
    walk_at "xs"
    rw [E1, E2]
    have e0 : (st : Int) - ((min lo st : Nat) : Int) - (fcO p c lo hi : Int) - (fcB p c lo hi : Int) = 0 := by omega
    rw [e0]
    have e14 := e1.trans (e2.trans (e3.trans e4))
    refine xNewT (by simp) (fun y H5 hy e5 h5 => ?_)
    exact q y H5 (ex_free e14 hy) (e14.trans e5) h5
end RK
end

section
/-! RKit5: the well of the law's draws; data of equal kind. -/
namespace RK
open PySem L2 RS
theorem ents_shaped1 : ∀ E : List Ent, PyData.canLayAll0 (E.map entD) = true ∧ PyData.depthAll (E.map entD) ≤ 10
  | [] => by simp [PyData.canLayAll0, PyData.depthAll]
  | e :: E => by
    obtain ⟨h1, h2⟩ := ents_shaped1 E
    obtain ⟨l, h, c⟩ := e
    have a : PyData.canLay0 (entD (l, h, c)) = true ∧ PyData.depth (entD (l, h, c)) ≤ 10 := by
      cases c <;> simp [entD, whyD, PyData.canLay0, PyData.canLayAll0, PyData.depth, PyData.depthAll] <;> decide +kernel
    refine ⟨?_, ?_⟩
    · rw [List.map_cons, PyData.canLayAll0, a.1, h1]; rfl
    · rw [List.map_cons, PyData.depthAll]
      have := a.2
      omega
theorem ents_shaped (E : List Ent) : SeqAt.shaped (.list (E.map entD)) = true := by
  obtain ⟨h1, h2⟩ := ents_shaped1 E
  unfold SeqAt.shaped
  rw [Bool.and_eq_true]
  refine ⟨by rw [PyData.canLay0]; exact h1, decide_eq_true ?_⟩
  rw [PyData.depth]
  omega
section
variable {K : PySem.W.Frag} {σ : St} {H : Hp} {D : Ends} {Q : VK} {x y : V} {te : TE} {tt : TT}
theorem xNeSame {d : PyData} (hx : Dp K H x d) (hy : Dp K H y d) (s : SeqAt.shaped d = true) (q : Q (.bl false) H) : rNeD K x y H Q :=
  ⟨d, d, hx, hy, s, s, by rw [SeqAt.eqv_refl d (SeqAt.canLay_of_shaped s)]; exact q⟩
theorem xEqSame {d : PyData} (hx : Dp K H x d) (hy : Dp K H y d) (s : SeqAt.shaped d = true) (q : Q (.bl true) H) : rEqD K x y H Q :=
  ⟨d, d, hx, hy, s, s, by rw [SeqAt.eqv_refl d (SeqAt.canLay_of_shaped s)]; exact q⟩
/-- the well: three integers, the last a small count of the draws -/
def Well (H : Hp) (wl : Addr) (c : Nat) : Prop := ∃ A B C : Int, H wl = some (.lst [.int A, .int B, .int C]) ∧ 0 ≤ C ∧ C ≤ (c : Int)
theorem well_le {H : Hp} {wl : Addr} {c c' : Nat} (h : Well H wl c) (e : c ≤ c') : Well H wl c' := let ⟨A, B, C, a, b, d⟩ := h; ⟨A, B, C, a, b, by omega⟩
theorem well_ex {H H' : Hp} {wl : Addr} {c : Nat} (h : Well H wl c) (e : Ex H H') : Well H' wl c := let ⟨A, B, C, a, b, d⟩ := h; ⟨A, B, C, e _ _ a, b, d⟩
theorem well_some {H : Hp} {wl p : Addr} {c : Nat} (h : Well H wl c) (hp : H p = none) : p ≠ wl := let ⟨_, _, _, a, _, _⟩ := h; (ne_of_none a hp).symm
theorem well_tup {H : Hp} {wl t : Addr} {c : Nat} {xs : List V} (h : Well H wl c) (ht : H t = some (.tup xs)) : t ≠ wl := let ⟨_, _, _, a, _, _⟩ := h; ne_of ht a (by intro z; cases z)
theorem well_upd {H : Hp} {wl d : Addr} {c : Nat} {o : HO} (h : Well H wl c) (n : d ≠ wl) : Well (upd H d o) wl c := let ⟨A, B, C, a, b, e⟩ := h; ⟨A, B, C, by rw [upd_ne n.symm]; exact a, b, e⟩
/-- a comprehension over a range whose items draw from the well -/
theorem cgoDraw {n : Nat} {g : TG} {vs : List Nat} (hn : n ≤ 1000) (wl : Addr) (c : Nat) (hw : Well H wl c) (R : V → Prop)
    (turn : ∀ (i : Nat) H1 (Y1 : V → Hp → Prop) (N1 : Hp → Prop), i < n → Nx wl H H1 → Well H1 wl (c + i) → (∀ y H5, R y → Nx wl H1 H5 → Well H5 wl (c + i + 1) → Y1 y H5) →
      g (.int (i : Int)) (wipe σ vs) H1 fun σ2 H3 => wipe σ2 vs = wipe σ vs ∧ tt σ2 H3 fun b H4 => if b = true then te σ2 H4 Y1 else N1 H4)
    (k : ∀ p H1 l, H p = none → p ≠ wl → Nx wl H H1 → H1 p = some (.lst l) → l.length = n → (∀ v, v ∈ l → R v) → Well H1 wl (c + n) → Q (.ref p) H1) : wRng [.int (n : Int)] H fun J H1 => cGo J g tt te vs σ Q H1 := by
  refine ⟨n, rfl, by omega, by omega, fun D hD => ?_⟩
  have nD := well_some hw hD
  refine lc_it (n := n) (walk_range (lo := 0)) (fun i H' => ∃ l, H' D = some (.lst l) ∧ l.length = i ∧ (∀ v, v ∈ l → R v) ∧ Nx wl H H' ∧ Well H' wl (c + i)) ⟨[], upd_same, rfl, (by simp), nx_ex (ex_new hD), well_upd hw nD⟩ (fun _ _ _ _ => trivial) ?_ ?_
  · rintro i x H1 H2 hi ⟨l, a1, a2, a3, a4, a5⟩ y
    obtain ⟨rfl, rfl⟩ := y
    show g (V.int ((0 : Int) + (i : Int))) _ _ _
    rw [show (0 : Int) + (i : Int) = (i : Int) by omega]
    refine turn i _ _ _ hi a4 a5 (fun y H5 hy f w5 => ?_)
    refine ⟨l, f _ _ nD a1, Nat.lt_of_lt_of_le (show l.length < 100000 by omega) (by rw [sizeLine_eq]; decide), l ++ [y], upd_same, by rw [List.length_append, List.length_singleton, a2], ?_, ?_, well_upd w5 nD⟩
    · intro v hv
      rcases List.mem_append.mp hv with hv | hv
      · exact a3 v hv
      · rw [List.mem_singleton.mp hv]; exact hy
    · intro b o nb hb
      have nbD : b ≠ D := ne_of_none hb hD
      rw [upd_ne nbD]
      exact f b o nb (a4 b o nb hb)
  · rintro H1 ⟨l, a1, a2, a3, a4, a5⟩
    exact k D H1 l hD nD a4 a1 a2 a3 a5
theorem cdivw2 {i j : Int} (h : 0 < j) (h2 : j < 2 ^ 200) : CDivW i j := wide_div (b := 200) h (by omega) (by decide) (by decide)
theorem xSlLq {a : Addr} {xs : List V} {lo hi : Option Int} (h : SqL K H a xs) (q : ∀ p H1, H p = none → Ex H H1 → H1 p = some (.lst (cutV xs lo hi)) → Q (.ref p) H1) : rSlL K (.ref a) lo hi H Q :=
  ⟨a, xs, rfl, h, xNew0 (P := Q) q⟩
/-- a list is set at a place -/
theorem xSetLr {p : Addr} {xs : List V} {z : Int} {j : Nat} {v : V} {P : Hp → Prop} (h : H p = some (.lst xs)) (e : z = (j : Int)) (hj : j < xs.length) (q : P (upd H p (.lst (xs.set j v)))) : rSetL (.ref p) (.int z) v H P := xSetL h e hj q
end
end RK
end

section
namespace RK
open PySem L2 RS
variable {P : Program} {w : World} {K : PySem.W.Frag} {mg : Str → Option Value} {base : Heap} {A : Ad}

def sp_law_mixed : Sp := fun vs H Q _ => ∃ a b : Int, vs = [.int a, .int b] ∧ 0 ≤ b ∧ b ≤ 100000 ∧ ∀ r, Q (.int r) H
theorem call_law_mixed {H : Hp} {a b : Int} {Q : VK} {E : XK} (h : 0 ≤ b) (h2 : b ≤ 100000) (q : ∀ r, Q (.int r) H) : sp_law_mixed ([.int a, .int b] ++ []) H Q E := ⟨a, b, rfl, h, h2, q⟩
theorem ok_law_mixed (T : Txt K mg A) : FnOk P w K mg base CX0 1 A.f_law_mixed A.d_law_mixed ["_law_cell", "_law_k"] sp_law_mixed := by
  refine T.f_law_mixed.ok sc_law_mixed (fun vs H Q E h => ?_) (fun cdv AR outer s H vs Q E hr h => ?_)
  · obtain ⟨a, b, rfl, _⟩ := h; rfl
  · obtain ⟨a, b, rfl, hb, hb2, q⟩ := h
    refine ⟨_, pss_cons (ps_set (i := 2) sc_law_mixed.nd (by rfl) (by first | exact Or.inl rfl | exact Or.inr rfl) (pe_op op_mod (pe_callTy call_int (by rfl) T.z_int (by decide +kernel) (pa_cons (pe_op op_pow (pe_op op_add (pe_op op_add (pe_op op_mod (pe_callTy call_int (by rfl) T.z_int (by decide +kernel) (pa_cons (pv 0) pa_nil)) pe_int) (pe_op op_mul pe_int (pv 1))) pe_int) pe_int) pa_nil)) pe_int)) (
      pss_cons (ps_set (i := 2) sc_law_mixed.nd (by rfl) (by first | exact Or.inl rfl | exact Or.inr rfl) (pe_op op_mod (pe_callTy call_int (by rfl) T.z_int (by decide +kernel) (pa_cons (pe_op op_add (pv 2) (pe_op op_mul (pe_op op_mod (pe_callTy call_int (by rfl) T.z_int (by decide +kernel) (pa_cons (pe_op op_fdivW (pv 0) pe_int) pa_nil)) pe_int) (pe_op op_add (pv 1) pe_int))) pa_nil)) pe_int)) (
      pss_cons (ps_set (i := 2) sc_law_mixed.nd (by rfl) (by first | exact Or.inl rfl | exact Or.inr rfl) (pe_op op_mod (pe_callTy call_int (by rfl) T.z_int (by decide +kernel) (pa_cons (pe_op op_mul (pv 2) (pe_op op_add (pe_op op_add (pe_op op_fdivW (pv 2) pe_int) pe_int) (pv 1))) pa_nil)) pe_int)) (
      pss_one (ps_ret (pe_op op_mod (pe_callTy call_int (by rfl) T.z_int (by decide +kernel) (pa_cons (pe_op op_mul (pv 2) (pe_op op_add (pe_op op_fdivW (pv 2) pe_int) pe_int)) pa_nil)) pe_int))))), ?_⟩
    walk_at "go"
    refine xI (by show (0 : Int) < 2147483629; decide) ?_
    walk_at "xs"
    refine xI (cmull (by decide) (by decide)) ?_
    walk_at "xs"
    have m1 := Int.emod_nonneg a (show (2147483629 : Int) ≠ 0 by decide)
    have m2 := Int.emod_lt_of_pos a (show (0 : Int) < 2147483629 by decide)
    refine xI ⟨by decide, by decide, by omega⟩ ?_
    walk_at "xs"
    refine xI (by show (0 : Int) < 2147483647; decide) ?_
    have n1 := Int.emod_nonneg ((a % 2147483629 + 30011 * b + 7) ^ Int.toNat 3) (show (2147483647 : Int) ≠ 0 by decide)
    have n2 := Int.emod_lt_of_pos ((a % 2147483629 + 30011 * b + 7) ^ Int.toNat 3) (show (0 : Int) < 2147483647 by decide)
    generalize (a % 2147483629 + 30011 * b + 7) ^ Int.toNat 3 % 2147483647 = x1 at n1 n2 ⊢
    walk_at "xs"
    refine xI (cdivw (by decide) (by decide)) ?_
    walk_at "xs"
    refine xI (by show (0 : Int) < 65537; decide) ?_
    walk_at "xs"
    have p1 := Int.emod_nonneg (a / 2147483629) (show (65537 : Int) ≠ 0 by decide)
    have p2 := Int.emod_lt_of_pos (a / 2147483629) (show (0 : Int) < 65537 by decide)
    refine xI (cmull (by omega) (by omega)) ?_
    walk_at "xs"
    refine xI (by show (0 : Int) < 2147483587; decide) ?_
    have q1 := Int.emod_nonneg (x1 + a / 2147483629 % 65537 * (b + 5)) (show (2147483587 : Int) ≠ 0 by decide)
    have q2 := Int.emod_lt_of_pos (x1 + a / 2147483629 % 65537 * (b + 5)) (show (0 : Int) < 2147483587 by decide)
    generalize (x1 + a / 2147483629 % 65537 * (b + 5)) % 2147483587 = x2 at q1 q2 ⊢
    walk_at "xs"
    refine xI (cdivw (by decide) (by decide)) ?_
    walk_at "xs"
    refine xI (cmull (by omega) (by omega)) ?_
    walk_at "xs"
    refine xI (by show (0 : Int) < 2147483563; decide) ?_
    have r1 := Int.emod_nonneg (x2 * (x2 / 1009 + 69621 + b)) (show (2147483563 : Int) ≠ 0 by decide)
    have r2 := Int.emod_lt_of_pos (x2 * (x2 / 1009 + 69621 + b)) (show (0 : Int) < 2147483563 by decide)
    generalize x2 * (x2 / 1009 + 69621 + b) % 2147483563 = x3 at r1 r2 ⊢
    walk_at "xs"
    refine xI (cdivw (by decide) (by decide)) ?_
    walk_at "xs"
    refine xI (cmull (by omega) (by omega)) ?_
    walk_at "xs"
    refine xI (by show (0 : Int) < 2147483399; decide) ?_
    exact q _
def sp_law_well : Sp := fun vs H Q _ => ∃ a : Int, vs = [.int a] ∧ ∀ y H1, H y = none → Ex H H1 → Well H1 y 0 → Q (.ref y) H1
theorem call_law_well {H : Hp} {a : Int} {Q : VK} {E : XK} (q : ∀ y H1, H y = none → Ex H H1 → Well H1 y 0 → Q (.ref y) H1) : sp_law_well ([.int a] ++ []) H Q E := ⟨a, rfl, q⟩
theorem ok_law_well (T : Txt K mg A) : FnOk P w K mg base CX0 1 A.f_law_well A.d_law_well ["_law_cell"] sp_law_well := by
  refine T.f_law_well.ok sc_law_well (fun vs H Q E h => ?_) (fun cdv AR outer s H vs Q E hr h => ?_)
  · obtain ⟨a, rfl, _⟩ := h; rfl
  · obtain ⟨a, rfl, q⟩ := h
    refine ⟨_, pss_one (ps_ret (pe_lst (pa_cons (pe_op op_mul (pv 0) (pe_callTy call_int (by rfl) T.z_int (by decide +kernel) (pa_cons (pe_cmpR op_ge (pv 0) (pe_op op_pow pe_int pe_int) (nomark _)) pa_nil))) (pa_cons (pv 0) (pa_cons pe_int pa_nil))))), ?_⟩
    walk_at "go"
    refine xI ⟨by decide, by decide, by decide⟩ ?_
    walk_at "xs"
    refine xI (cmulr (by split <;> decide) (by split <;> decide)) ?_
    walk_at "xs"
    exact xNewL (by simp) (fun y H1 hy e1 h1 => q y H1 hy e1 ⟨_, _, _, h1, by omega, by omega⟩)
def sp_law_draw : Sp := fun vs H Q _ => ∃ wl c, ∃ m : Int, vs = [.ref wl, .int m] ∧ Well H wl c ∧ c ≤ 1000 ∧ 1 ≤ m ∧ m < 2 ^ 200 ∧ ∀ r H', 0 ≤ r → r < m → Nx wl H H' → Well H' wl (c + 1) → Q (.int r) H'
theorem call_law_draw {H : Hp} {wl : Addr} {c : Nat} {m : Int} {Q : VK} {E : XK} (h : Well H wl c) (hc : c ≤ 1000) (h1 : 1 ≤ m) (h2 : m < 2 ^ 200) (q : ∀ r H', 0 ≤ r → r < m → Nx wl H H' → Well H' wl (c + 1) → Q (.int r) H') :
    sp_law_draw ([.ref wl, .int m] ++ []) H Q E := ⟨wl, c, m, rfl, h, hc, h1, h2, q⟩
theorem ok_law_draw (T : Txt K mg A) : FnOk P w K mg base CX0 2 A.f_law_draw A.d_law_draw ["_law_well_here", "_law_many"] sp_law_draw := by
  refine T.f_law_draw.ok sc_law_draw (fun vs H Q E h => ?_) (fun cdv AR outer s H vs Q E hr h => ?_)
  · obtain ⟨wl, c, m, rfl, _⟩ := h; rfl
  · obtain ⟨wl, c, m, rfl, ⟨a, b, e, hw, he, he2⟩, hc, h1, h2, q⟩ := h
    refine ⟨_, pss_cons (ps_if (pt_cmpR op_gt (pe_ix (ixL (K := K) (by rfl)) (pv 0) pe_int (fun _ _ => rfl)) pe_int (nomark _)) (pss_cons (ps_set (i := 2) sc_law_draw.nd (by rfl) (by first | exact Or.inl rfl | exact Or.inr rfl) (pe_op op_mod (pe_callTy call_int (by rfl) T.z_int (by decide +kernel) (pa_cons (pe_ix (ixL (K := K) (by rfl)) (pv 0) pe_int (fun _ _ => rfl)) pa_nil)) (pv 1))) (pss_cons (ps_asg (pe_op op_fdivW (pe_ix (ixL (K := K) (by rfl)) (pv 0) pe_int (fun _ _ => rfl)) (pv 1)) (pg_sub (pv 0) pe_int set_list)) (pss_one (ps_ret (pv 2))))) pss_nil) (
      pss_cons (ps_asg (pe_op op_add (pe_ix (ixL (K := K) (by rfl)) (pv 0) pe_int (fun _ _ => rfl)) pe_int) (pg_sub (pv 0) pe_int set_list)) (
      pss_one (ps_ret (pe_op op_mod (pe_callTy call_int (by rfl) T.z_int (by decide +kernel) (pa_cons (pe_call (ok_law_mixed T) (hr.mono (by decide)) (by rfl) T.g_law_mixed T.f_law_mixed.kp T.b_law_mixed .nil pass0 (pa_cons (pe_ix (ixL (K := K) (by rfl)) (pv 0) pe_int (fun _ _ => rfl)) (pa_cons (pe_ix (ixL (K := K) (by rfl)) (pv 0) pe_int (fun _ _ => rfl)) pa_nil))) pa_nil)) (pv 1))))), ?_⟩
    walk_at "go"
    refine xIxL hw (at_of (j := 0) rfl rfl) ?_
    walk_at "xs"
    refine itD (fun c1 => ?_) (fun c1 => ?_)
    · walk_at "xs"
      refine xIxL hw (at_of (j := 0) rfl rfl) ?_
      walk_at "xs"
      refine xI (by show (0 : Int) < m; omega) ?_
      walk_at "xs"
      refine xIxL hw (at_of (j := 0) rfl rfl) ?_
      walk_at "xs"
      refine xI (cdivw2 (by omega) h2) ?_
      walk_at "xs"
      refine xSetLr (j := 0) hw rfl (by simp) ?_
      walk_at "xs"
      refine q _ _ (Int.emod_nonneg _ (by omega)) (Int.emod_lt_of_pos _ (by omega)) nx_upd ⟨a / m, b, e, by rw [upd_same]; rfl, he, by omega⟩
    · walk_at "xs"
      refine xIxL hw (at_of (j := 2) rfl rfl) ?_
      walk_at "xs"
      refine xSetLr (j := 2) hw rfl (by simp) ?_
      have hw2 : upd H wl (.lst (([V.int a, V.int b, V.int e] : List V).set 2 (V.int (e + 1)))) wl = some (.lst [.int a, .int b, .int (e + 1)]) := by rw [upd_same]; rfl
      walk_at "xs"
      refine xIxL hw2 (at_of (j := 1) rfl rfl) ?_
      walk_at "xs"
      refine xIxL hw2 (at_of (j := 2) rfl rfl) ?_
      walk_at "xs"
      refine call_law_mixed (by omega) (by omega) (fun r => ?_)
      walk_at "xs"
      refine xI (by show (0 : Int) < m; omega) ?_
      walk_at "xs"
      exact q _ _ (Int.emod_nonneg _ (by omega)) (Int.emod_lt_of_pos _ (by omega)) nx_upd ⟨a, b, e + 1, hw2, by omega, by omega⟩
def sp_law_one : Sp := fun vs H Q _ => ∃ wl c sl xs, vs = [.ref wl, .ref sl] ∧ Well H wl c ∧ c ≤ 1000 ∧ H sl = some (.lst xs) ∧ sl ≠ wl ∧ 1 ≤ xs.length ∧ xs.length ≤ 1000 ∧ ∀ v H', v ∈ xs → Nx wl H H' → Well H' wl (c + 1) → Q v H'
theorem call_law_one {H : Hp} {wl sl : Addr} {c : Nat} {xs : List V} {Q : VK} {E : XK} (h : Well H wl c) (hc : c ≤ 1000) (hs : H sl = some (.lst xs)) (n : sl ≠ wl) (h1 : 1 ≤ xs.length) (h2 : xs.length ≤ 1000) (q : ∀ v H', v ∈ xs → Nx wl H H' → Well H' wl (c + 1) → Q v H') :
    sp_law_one ([.ref wl, .ref sl] ++ []) H Q E := ⟨wl, c, sl, xs, rfl, h, hc, hs, n, h1, h2, q⟩
theorem ok_law_one (T : Txt K mg A) : FnOk P w K mg base CX0 3 A.f_law_one A.d_law_one ["_law_well_here", "_law_some"] sp_law_one := by
  refine T.f_law_one.ok sc_law_one (fun vs H Q E h => ?_) (fun cdv AR outer s H vs Q E hr h => ?_)
  · obtain ⟨wl, c, sl, xs, rfl, _⟩ := h; rfl
  · obtain ⟨wl, c, sl, xs, rfl, hw, hc, hs, n, h1, h2, q⟩ := h
    refine ⟨_, pss_one (ps_ret (pe_ix (ixL (K := K) (by rfl)) (pv 1) (pe_call (ok_law_draw T) (hr.mono (by decide)) (by rfl) T.g_law_draw T.f_law_draw.kp T.b_law_draw .nil pass0 (pa_cons (pv 0) (pa_cons (pe_callB (callLen (K := K) (by rfl)) (by rfl) T.z_len (by decide +kernel) (pa_cons (pv 1) pa_nil)) pa_nil))) (fun _ _ => rfl))), ?_⟩
    walk_at "go"
    have big : ((xs.length : Nat) : Int) < 2 ^ 200 := Int.lt_of_le_of_lt (show ((xs.length : Nat) : Int) ≤ 1000 by omega) (by decide)
    refine call_law_draw hw hc (by omega) big (fun r H1 r0 r1 f w1 => ?_)
    walk_at "xs"
    obtain ⟨j, rfl⟩ : ∃ j : Nat, r = (j : Int) := ⟨r.toNat, by omega⟩
    have hj : j < xs.length := by omega
    refine xIxL (f _ _ n hs) (at_of rfl (List.getElem?_eq_getElem hj)) ?_
    exact q _ _ (List.getElem_mem hj) f w1

/-! ### first attempts and places, as the law reckons them -/
def TailAt (H : Hp) (e : Addr) (n : Nat) : Prop := H e = some (.tup [.str "repeat", .int (n : Int)])
theorem cut_last {g : List Int} {n : Nat} (h : n ≤ g.length) : cutV (g.map V.int) (some ((g.length : Int) - (n : Int))) none = (g.drop (g.length - n)).map V.int := by
  unfold cutV
  have e1 : HT.sIx (g.map V.int).length 0 (some ((g.length : Int) - (n : Int))) = g.length - n := by
    rw [List.length_map]
    unfold HT.sIx
    simp
    omega
  have e2 : HT.sIx (g.map V.int).length (g.map V.int).length none = g.length := by
    rw [List.length_map]
    rfl
  rw [e1, e2, List.map_drop]
  refine List.take_of_length_le ?_
  rw [List.length_drop, List.length_map]
  omega
theorem cut_first {g : List Int} {k : Nat} {z : Int} (e : z = (k : Int)) : cutV (g.map V.int) none (some z) = (g.take k).map V.int := by
  subst e
  unfold cutV
  have e1 : HT.sIx (g.map V.int).length 0 none = 0 := rfl
  have e2 : HT.sIx (g.map V.int).length (g.map V.int).length (some (k : Int)) = min k g.length := by
    rw [List.length_map]
    unfold HT.sIx
    simp
    omega
  rw [e1, e2, List.drop_zero, Nat.sub_zero, List.map_take]
  by_cases c : k ≤ g.length
  · rw [Nat.min_eq_left c]
  · rw [Nat.min_eq_right (by omega), List.take_of_length_le (by simp), List.take_of_length_le (by simp; omega)]
end RK
end

section
namespace RK
open PySem L2 RS
variable {P : Program} {w : World} {K : PySem.W.Frag} {mg : Str → Option Value} {base : Heap} {A : Ad}

theorem sum_split (g : List Int) (k : Nat) : g.sum = (g.take k).sum + (g.drop k).sum := by
  rw [← List.sum_append, List.take_append_drop]
theorem ps_all (g : List Int) : ps g g.length = g.sum := by unfold ps; rw [List.take_length]
theorem sum_last (g : List Int) (n : Nat) : (g.drop (g.length - n)).sum = per g n := by
  unfold per
  rw [ps_all, sum_split g (g.length - n)]
  unfold ps
  omega
theorem last_at {g : List Int} {n q j : Nat} (R : Rok g n) (h : j < n) : (g.drop (g.length - n))[j]? = some (gapF g n (g.length + q * n + j)) := by
  have h1 := R.nl
  rw [List.getElem?_drop]
  unfold gapF
  rw [if_neg (by omega), show g.length + q * n + j - g.length = q * n + j by omega, Nat.mul_add_mod_of_lt' h]
  rw [List.getD_eq_getElem?_getD, List.getElem?_eq_getElem (show g.length - n + j < g.length by omega)]
  rfl
where
  Nat.mul_add_mod_of_lt' {q n j : Nat} (h : j < n) : (q * n + j) % n = j := by
    rw [Nat.mul_comm, Nat.mul_add_mod, Nat.mod_eq_of_lt h]
def sp_law_first : Sp := fun vs H Q _ => ∃ sl e g n d, vs = [.ref sl, .ref e, .int d] ∧ Rok g n ∧ H sl = some (.lst (g.map V.int)) ∧ TailAt H e n ∧ ∀ H1, Ex H H1 → Q (.int (fst g n d : Int)) H1
theorem call_law_first {H : Hp} {sl e : Addr} {g : List Int} {n : Nat} {d : Int} {Q : VK} {E : XK} (R : Rok g n) (h : H sl = some (.lst (g.map V.int))) (he : TailAt H e n) (q : ∀ H1, Ex H H1 → Q (.int (fst g n d : Int)) H1) :
    sp_law_first ([.ref sl, .ref e, .int d] ++ []) H Q E := ⟨sl, e, g, n, d, rfl, R, h, he, q⟩
theorem ok_law_first (T : Txt K mg A) : FnOk P w K mg base CX0 1 A.f_law_first A.d_law_first ["_law_steps", "_law_ending", "_law_distance"] sp_law_first := by
  refine T.f_law_first.ok sc_law_first (fun vs H Q E h => ?_) (fun cdv AR outer s H vs Q E hr h => ?_)
  · obtain ⟨sl, e, g, n, d, rfl, _⟩ := h; rfl
  · obtain ⟨sl, e, g, n, d, rfl, R, hs, he, q⟩ := h
    have he' : H e = some (.tup [.str "repeat", .int (n : Int)]) := he
    have n1 := R.n1
    have nl := R.nl
    have l20 := R.l20
    have p1 := per_pos R
    have p2 := per_le R
    refine ⟨_, pss_cons (ps_set (i := 3) sc_law_first.nd (by rfl) (by first | exact Or.inl rfl | exact Or.inr rfl) (pe_slice (slL (K := K) (by rfl)) (pv 0) (po_some (pe_op op_sub (pe_callB (callLen (K := K) (by rfl)) (by rfl) T.z_len (by decide +kernel) (pa_cons (pv 0) pa_nil)) (pe_ix (ixT (K := K) (by rfl)) (pv 1) pe_int (fun _ _ => rfl)))) po_none)) (
      pss_cons (ps_asg (pe_tup (pa_cons pe_int (pa_cons pe_int pa_nil))) (pgTup (K := K) 2 (by rfl) (by rfl) (pgs_cons (pg_name (i := 4) sc_law_first.nd (by rfl) (by first | exact Or.inl rfl | exact Or.inr rfl)) (pgs_cons (pg_name (i := 5) sc_law_first.nd (by rfl) (by first | exact Or.inl rfl | exact Or.inr rfl)) pgs_nil)))) (
      pss_cons (ps_while PassesOwn.never (PW.pt (pw_and (pt_cmpR op_lt (pv 4) (pv 2) (nomark _)) (pw_and1 (pt_cmpR op_lt (pv 5) (pe_callB (callLen (K := K) (by rfl)) (by rfl) T.z_len (by decide +kernel) (pa_cons (pv 0) pa_nil)) (nomark _))))) (pss_cons (ps_set (i := 4) sc_law_first.nd (by rfl) (by first | exact Or.inl rfl | exact Or.inr rfl) (pe_op op_add (pv 4) (pe_ix (ixL (K := K) (by rfl)) (pv 0) (pv 5) (fun _ _ => rfl)))) (pss_one (ps_set (i := 5) sc_law_first.nd (by rfl) (by first | exact Or.inl rfl | exact Or.inr rfl) (pe_op op_add (pv 5) pe_int))))) (
      pss_cons (ps_if (pt_cmpR op_ge (pv 4) (pv 2) (nomark _)) (pss_one (ps_ret (pv 5))) pss_nil) (
      pss_cons (ps_par (i := 6) (j := 7) (by rfl) sc_law_first.nd (by rfl) (by rfl) (by decide) (by rfl) (by rfl) (pa_cons (pe_op op_fdivW (pe_op op_sub (pv 2) (pv 4)) (pe_callB (callSum (K := K) (by rfl) (by rfl)) (by rfl) T.z_sum (by decide +kernel) (pa_cons (pv 3) pa_nil))) (pa_cons pe_int pa_nil)) (by rfl)) (
      pss_cons (ps_set (i := 4) sc_law_first.nd (by rfl) (by first | exact Or.inl rfl | exact Or.inr rfl) (pe_op op_add (pv 4) (pe_op op_mul (pv 6) (pe_callB (callSum (K := K) (by rfl) (by rfl)) (by rfl) T.z_sum (by decide +kernel) (pa_cons (pv 3) pa_nil))))) (
      pss_cons (ps_while PassesOwn.never (pt_cmpR op_lt (pv 4) (pv 2) (nomark _)) (pss_cons (ps_set (i := 4) sc_law_first.nd (by rfl) (by first | exact Or.inl rfl | exact Or.inr rfl) (pe_op op_add (pv 4) (pe_ix (ixL (K := K) (by rfl)) (pv 3) (pv 7) (fun _ _ => rfl)))) (pss_one (ps_set (i := 7) sc_law_first.nd (by rfl) (by first | exact Or.inl rfl | exact Or.inr rfl) (pe_op op_add (pv 7) pe_int))))) (
      pss_one (ps_ret (pe_op op_add (pe_op op_add (pv 5) (pe_op op_mul (pv 6) (pe_callB (callLen (K := K) (by rfl)) (by rfl) T.z_len (by decide +kernel) (pa_cons (pv 3) pa_nil)))) (pv 7)))))))))), ?_⟩
    walk_at "go"
    refine xSlL hs (fun y1 H1 hy1 e1 h1 => ?_)
    rw [List.length_map, cut_last nl] at h1
    have hs1 := e1 _ _ hs
    walk_at "xs"
    refine xNewT (by simp) (fun t0 H1' ht0 e1' h0' => ?_)
    have h1 := e1' _ _ h1
    have hs1 := e1' _ _ hs1
    have e1 := e1.trans e1'
    clear e1'
    walk_at "xs"
    refine xWhile (fun m σ' H' => ∃ k : Nat, σ' = [some (.ref sl), some (.ref e), some (.int d), some (.ref y1), some (.int (ps g k)), some (.int (k : Int)), none, none] ∧ H' = H1' ∧ m = g.length - k ∧ k ≤ g.length ∧ ∀ j, j < k → off g n j < d) g.length
      ⟨0, by rw [ps_zero]; rfl, rfl, rfl, Nat.zero_le _, fun j h => by omega⟩ ?_
    rintro m σ' H2 ⟨k, rfl, rfl, rfl, hk, hj⟩
    walk_at "xs"
    refine itD (fun c1 => ?_) (fun c1 => ?_)
    · walk_at "xs"
      rw [List.length_map]
      refine itD (fun c2 => ?_) (fun c2 => ?_)
      · refine xTurn ?_
        have hkl : k < g.length := by omega
        walk_at "xs"
        refine xIxL hs1 (at_map (v := g[k]) rfl (List.getElem?_eq_getElem hkl)) ?_
        walk_at "xs"
        refine ⟨g.length - (k + 1), by omega, k + 1, ?_, rfl, rfl, by omega, fun j h => ?_⟩
        · rw [ps_succ hkl, List.getD_eq_getElem?_getD, List.getElem?_eq_getElem hkl]
          rfl
        · by_cases z : j = k
          · subst z; rw [off_le hk]; exact c1
          · exact hj j (by omega)
      · obtain rfl : k = g.length := by omega
        walk_at "xs"
        refine itN (by omega) ?_
        walk_at "xs"
        refine xSum h1 ?_
        rw [sum_last]
        refine xI (cdivw (by omega) (by omega)) ?_
        walk_at "xs"
        refine xSum h1 ?_
        rw [sum_last]
        refine xI (cmulr (by omega) (by omega)) ?_
        walk_at "xs"
        have hq0 : 0 ≤ (d - ps g g.length) / per g n := Int.ediv_nonneg (by omega) (by omega)
        obtain ⟨qn, hqn⟩ : ∃ qn : Nat, (d - ps g g.length) / per g n = (qn : Int) := ⟨((d - ps g g.length) / per g n).toNat, by omega⟩
        have ho2 : off g n (g.length + qn * n) = ps g g.length + (qn : Int) * per g n := by
          rw [off_perq R (by omega), off_le (Nat.le_refl _)]
        have ho3 : off g n (g.length + qn * n + n) = ps g g.length + (qn : Int) * per g n + per g n := by
          rw [off_per R (by omega), ho2]
        have hle : (qn : Int) * per g n ≤ d - ps g g.length := by
          rw [← hqn]
          exact Int.ediv_mul_le _ (by omega)
        have hlt : d - ps g g.length < (qn : Int) * per g n + per g n := by
          have := Int.lt_ediv_add_one_mul_self (d - ps g g.length) (show 0 < per g n by omega)
          rw [hqn, Int.add_mul] at this
          omega
        rw [hqn, ← ho2]
        refine xWhile (fun m σ' H' => ∃ j : Nat, σ' = [some (.ref sl), some (.ref e), some (.int d), some (.ref y1), some (.int (off g n (g.length + qn * n + j))), some (.int (g.length : Int)), some (.int (qn : Int)), some (.int (j : Int))] ∧ H' = H2 ∧ m = fst g n d - (g.length + qn * n + j) ∧ g.length + qn * n + j ≤ fst g n d) (fst g n d - (g.length + qn * n))
          ⟨0, rfl, rfl, rfl, ?_⟩ ?_
        · by_cases z : g.length + qn * n + 0 ≤ fst g n d
          · exact z
          · exfalso
            have a1 := (fst_spec R d).1
            have a2 := off_strict R (show fst g n d < g.length + qn * n by omega)
            omega
        · rintro m σ' H3 ⟨j, rfl, rfl, rfl, hk2⟩
          walk_at "xs"
          refine itD (fun c3 => ?_) (fun c3 => ?_)
          · refine xTurn ?_
            have hjn : j < n := by
              by_cases z : j < n
              · exact z
              · exfalso
                have a2 := off_mono R (show g.length + qn * n + n ≤ g.length + qn * n + j by omega)
                omega
            walk_at "xs"
            refine xIxL h1 (at_map (v := gapF g n (g.length + qn * n + j)) rfl (last_at R hjn)) ?_
            walk_at "xs"
            have a3 := (lt_fst_iff R).mpr c3
            exact ⟨fst g n d - (g.length + qn * n + (j + 1)), by omega, j + 1, rfl, rfl, rfl, by omega⟩
          · walk_at "xs"
            have a3 := (fst_le_iff R).mpr (show d ≤ off g n (g.length + qn * n + j) by omega)
            have el : ((g.drop (g.length - n)).map V.int).length = n := by rw [List.length_map, List.length_drop]; omega
            rw [el]
            refine xI (cmulr (by omega) (by omega)) ?_
            walk_at "xs"
            have ef : (g.length : Int) + (qn : Int) * (n : Int) + (j : Int) = ((fst g n d : Nat) : Int) := by
              rw [show fst g n d = g.length + qn * n + j by omega, Int.natCast_add, Int.natCast_add, Int.natCast_mul]
            rw [ef]
            exact q _ e1
    · walk_at "xs"
      refine itY (by omega) ?_
      walk_at "xs"
      have ef : fst g n d = k := fst_uniq R (by rw [off_le hk]; omega) (by
        by_cases z : k = 0
        · exact .inl z
        · exact .inr (hj (k - 1) (by omega)))
      rw [← ef]
      exact q _ e1
def sp_law_place : Sp := fun vs H Q _ => ∃ sl e g n, ∃ k : Nat, vs = [.ref sl, .ref e, .int (k : Int)] ∧ Rok g n ∧ H sl = some (.lst (g.map V.int)) ∧ TailAt H e n ∧ ∀ H1, Ex H H1 → Q (.int (off g n k)) H1
theorem call_law_place {H : Hp} {sl e : Addr} {g : List Int} {n k : Nat} {z : Int} {Q : VK} {E : XK} (ez : z = (k : Int)) (R : Rok g n) (h : H sl = some (.lst (g.map V.int))) (he : TailAt H e n) (q : ∀ H1, Ex H H1 → Q (.int (off g n k)) H1) :
    sp_law_place ([.ref sl, .ref e, .int z] ++ []) H Q E := ⟨sl, e, g, n, k, by rw [ez]; rfl, R, h, he, q⟩
theorem ok_law_place (T : Txt K mg A) : FnOk P w K mg base CX0 1 A.f_law_place A.d_law_place ["_law_steps", "_law_ending", "_law_attempt"] sp_law_place := by
  refine T.f_law_place.ok sc_law_place (fun vs H Q E h => ?_) (fun cdv AR outer s H vs Q E hr h => ?_)
  · obtain ⟨sl, e, g, n, k, rfl, _⟩ := h; rfl
  · obtain ⟨sl, e, g, n, k, rfl, R, hs, he, q⟩ := h
    have he' : H e = some (.tup [.str "repeat", .int (n : Int)]) := he
    have n1 := R.n1
    have nl := R.nl
    have l20 := R.l20
    have p1 := per_pos R
    have p2 := per_le R
    refine ⟨_, pss_cons (ps_set (i := 3) sc_law_place.nd (by rfl) (by first | exact Or.inl rfl | exact Or.inr rfl) (pe_slice (slL (K := K) (by rfl)) (pv 0) (po_some (pe_op op_sub (pe_callB (callLen (K := K) (by rfl)) (by rfl) T.z_len (by decide +kernel) (pa_cons (pv 0) pa_nil)) (pe_ix (ixT (K := K) (by rfl)) (pv 1) pe_int (fun _ _ => rfl)))) po_none)) (
      pss_cons (ps_if (pt_cmpR op_le (pv 2) (pe_callB (callLen (K := K) (by rfl)) (by rfl) T.z_len (by decide +kernel) (pa_cons (pv 0) pa_nil)) (nomark _)) (pss_one (ps_ret (pe_callB (callSum (K := K) (by rfl) (by rfl)) (by rfl) T.z_sum (by decide +kernel) (pa_cons (pe_slice (slL (K := K) (by rfl)) (pv 0) po_none (po_some (pv 2))) pa_nil)))) pss_nil) (
      pss_cons (ps_set (i := 4) sc_law_place.nd (by rfl) (by first | exact Or.inl rfl | exact Or.inr rfl) (pe_op op_sub (pv 2) (pe_callB (callLen (K := K) (by rfl)) (by rfl) T.z_len (by decide +kernel) (pa_cons (pv 0) pa_nil)))) (
      pss_cons (ps_set (i := 5) sc_law_place.nd (by rfl) (by first | exact Or.inl rfl | exact Or.inr rfl) (pe_slice (slL (K := K) (by rfl)) (pv 3) po_none (po_some (pe_op op_mod (pe_callTy call_int (by rfl) T.z_int (by decide +kernel) (pa_cons (pv 4) pa_nil)) (pe_callB (callLen (K := K) (by rfl)) (by rfl) T.z_len (by decide +kernel) (pa_cons (pv 3) pa_nil)))))) (
      pss_one (ps_ret (pe_op op_add (pe_op op_add (pe_callB (callSum (K := K) (by rfl) (by rfl)) (by rfl) T.z_sum (by decide +kernel) (pa_cons (pv 0) pa_nil)) (pe_op op_mul (pe_op op_fdivW (pv 4) (pe_callB (callLen (K := K) (by rfl)) (by rfl) T.z_len (by decide +kernel) (pa_cons (pv 3) pa_nil))) (pe_callB (callSum (K := K) (by rfl) (by rfl)) (by rfl) T.z_sum (by decide +kernel) (pa_cons (pv 3) pa_nil)))) (pe_callB (callSum (K := K) (by rfl) (by rfl)) (by rfl) T.z_sum (by decide +kernel) (pa_cons (pv 5) pa_nil)))))))), ?_⟩
    walk_at "go"
    refine xSlL hs (fun y1 H1 hy1 e1 h1 => ?_)
    rw [List.length_map, cut_last nl] at h1
    have hs1 := e1 _ _ hs
    walk_at "xs"
    rw [List.length_map]
    refine itD (fun c1 => ?_) (fun c1 => ?_)
    · walk_at "xs"
      refine xSlL hs1 (fun y2 H2 hy2 e2 h2 => ?_)
      rw [cut_first rfl] at h2
      walk_at "xs"
      refine xSum h2 ?_
      have q2 := q H2 (e1.trans e2)
      rw [off_le (by omega)] at q2
      exact q2
    · have el : ((g.drop (g.length - n)).map V.int).length = n := by rw [List.length_map, List.length_drop]; omega
      have ek : (k : Int) - (g.length : Int) = ((k - g.length : Nat) : Int) := by omega
      walk_at "xs"
      rw [List.length_map]
      rw [el]
      refine xI (by show (0 : Int) < n; omega) ?_
      walk_at "xs"
      rw [ek, ← Int.natCast_emod]
      refine xSlL h1 (fun y2 H2 hy2 e2 h2 => ?_)
      rw [cut_first rfl] at h2
      have hs2 := e2 _ _ hs1
      have h12 := e2 _ _ h1
      walk_at "xs"
      refine xSum hs2 ?_
      walk_at "xs"
      refine xI (cdivw (by omega) (by omega)) ?_
      walk_at "xs"
      refine xSum h12 ?_
      rw [sum_last]
      refine xI (cmulr (by omega) (by omega)) ?_
      walk_at "xs"
      refine xSum h2 ?_
      have hoff := off_closed R (k - g.length)
      rw [show g.length + (k - g.length) = k by omega] at hoff
      have hm : (k - g.length) % n < n := Nat.mod_lt _ (by omega)
      have hsum : ps g (g.length - n + (k - g.length) % n) = ps g (g.length - n) + ((g.drop (g.length - n)).take ((k - g.length) % n)).sum := by
        unfold ps
        rw [List.take_add, List.sum_append]
      have q2 := q H2 (e1.trans e2)
      have ee : g.sum + ((k - g.length : Nat) : Int) / (n : Int) * per g n + ((g.drop (g.length - n)).take ((k - g.length) % n)).sum = off g n k := by
        rw [hoff, hsum, ps_all, ← Int.natCast_ediv]
        omega
      walk_at "xs"
      rw [el, ee]
      exact q2
end RK
end

section
/-! RKit6: comprehensions over lists of things known; joins of two ways; the law's segments. -/
namespace RK
open PySem L2 RS
section
variable {K : PySem.W.Frag} {σ : St} {H : Hp} {D : Ends} {Q : VK} {te : TE} {tt : TT}
/-- two ways meet: what holds behind them is said once -/
theorem xSeqJ {t u : TS} (P : St → Hp → Prop) (h2 : ∀ σ' H', P σ' H' → u D σ' H') (h1 : ∀ N : St → Hp → Prop, (∀ σ' H', P σ' H' → N σ' H') → t { nx := N, rt := D.rt, bk := D.bk, ct := D.ct } σ H) : tSeq t u D σ H := h1 (u D) h2
theorem cgoAll2 {α β : Type} {R : Hp → V → α → Prop} {S : Hp → V → β → Prop} {a : Addr} {xs : List V} {as : List α} {g : TG} {vs : List Nat} (hR : ∀ {H H' : Hp}, Ex H H' → ∀ v x, R H v x → R H' v x) (hS : ∀ {H H' : Hp}, Ex H H' → ∀ v x, S H v x → S H' v x)
    (hE : ∀ {H : Hp} {D : Addr} {l : List V}, H D = some (.lst l) → ∀ v x, S H v x → S (era H D) v x) (h : H a = some (.lst xs)) (al : All2 (R H) xs as) (hn : xs.length ≤ 100000) (f : α → Option β)
    (turn : ∀ (i : Nat) v x H1 (Y1 : V → Hp → Prop) (N1 : Hp → Prop), as[i]? = some x → Ex H H1 → R H1 v x → (∀ y b H5, Ex H1 H5 → f x = some b → S H5 y b → Y1 y H5) → (∀ H4, Ex H1 H4 → f x = none → N1 H4) →
      g v (wipe σ vs) H1 fun σ2 H3 => wipe σ2 vs = wipe σ vs ∧ tt σ2 H3 fun b H4 => if b = true then te σ2 H4 Y1 else N1 H4)
    (k : ∀ p H1 l, H p = none → Ex H H1 → H1 p = some (.lst l) → All2 (S H1) l (as.filterMap f) → Q (.ref p) H1) : wList K (.ref a) H fun J H1 => cGo J g tt te vs σ Q H1 := by
  refine ⟨a, rfl, ⟨xs, SqL.of h⟩, cgo (walk_list (K := K) (a := a)) hn (fun i l S' => All2 (S S') l ((as.take i).filterMap f)) (fun H' e => SqL.of (e _ _ h)) trivial (fun i x l D S' H1 H2 Y1 N1 hi a1 a2 a3 a4 a5 y hy hN => ?_) (fun p H1 l S' hp e1 e2 _ hl hh => k p H1 l hp (e1.trans e2) hl ?_)⟩
  · obtain ⟨rfl, hv⟩ := y
    obtain ⟨b, hb, hr⟩ := al.at hv
    have tk : as.take (i + 1) = as.take i ++ [b] := by rw [List.take_add_one, hb]; rfl
    have mv : ∀ {H5 : Hp}, Ex H2 H5 → All2 (S (era H5 D)) l ((as.take i).filterMap f) := fun {H5} e5 => All2.mono (fun v b' h => hS (era_ex (a3.trans e5) a1) v b' h) a5
    refine turn i x b H2 Y1 N1 hb (a2.trans a3) (hR (a2.trans a3) _ _ hr) (fun y b' H5 e5 hf hs => hy y H5 e5 ?_) (fun H4 e4 hf => hN H4 e4 ?_)
    · rw [tk, List.filterMap_append]
      have e6 : [b].filterMap f = [b'] := by simp [hf]
      rw [e6]
      exact All2.app (mv e5) (All2.one (hE (e5 _ _ a4) _ _ hs))
    · rw [tk, List.filterMap_append]
      have e6 : [b].filterMap f = [] := by simp [hf]
      rw [e6, List.append_nil]
      exact mv e4
  · have e7 : as.take xs.length = as := by rw [al.len, List.take_length]
    rw [e7] at hh
    exact All2.mono (fun v b' h => hS e2 v b' h) hh
/-- over a tuple, each item's result known: f x -/
theorem cgoTup {a : Addr} {xs : List V} {g : TG} {vs : List Nat} (h : H a = some (.tup xs)) (hn : xs.length ≤ 100000) (f : V → Option V)
    (turn : ∀ (i : Nat) x H1 (Y1 : V → Hp → Prop) (N1 : Hp → Prop), xs[i]? = some x → Ex H H1 → (∀ y H5, Ex H1 H5 → f x = some y → Y1 y H5) → (∀ H4, Ex H1 H4 → f x = none → N1 H4) →
      g x (wipe σ vs) H1 fun σ2 H3 => wipe σ2 vs = wipe σ vs ∧ tt σ2 H3 fun b H4 => if b = true then te σ2 H4 Y1 else N1 H4)
    (k : ∀ p H1, H p = none → Ex H H1 → H1 p = some (.lst (xs.filterMap f)) → Q (.ref p) H1) : wTup K (.ref a) H fun J H1 => cGo J g tt te vs σ Q H1 := by
  refine ⟨a, rfl, ⟨xs, SqT.of h⟩, cgo (walk_tup (K := K) (a := a)) hn (fun i l _ => l = (xs.take i).filterMap f) (fun H' e => SqT.of (e _ _ h)) rfl (fun i x l D S H1 H2 Y1 N1 hi a1 a2 a3 a4 a5 y hy hN => ?_) (fun p H1 l S hp e1 e2 _ hl e => k p H1 hp (e1.trans e2) ?_)⟩
  · obtain ⟨rfl, e⟩ := y
    refine turn i x _ Y1 N1 e (a2.trans a3) (fun y H5 e5 q => hy y H5 e5 ?_) (fun H4 e4 q => hN H4 e4 ?_)
    · rw [List.take_add_one, e, List.filterMap_append, ← a5]
      simp [q]
    · rw [List.take_add_one, e, List.filterMap_append, ← a5]
      simp [q]
  · rw [hl, e, List.take_length]
theorem ent_era {H : Hp} {D : Addr} {l : List V} (h : H D = some (.lst l)) (v : V) (e : Ent) (q : EntAt H v e) : EntAt (era H D) v e :=
  let ⟨t, u, a, b, c⟩ := q; ⟨t, u, a, era_at b (ne_of b h (by intro z; cases z)), era_at c (ne_of c h (by intro z; cases z))⟩
end
/-! ### segments -/
section
variable {p : Par}
noncomputable def sgN (p : Par) (bs : List Int) : Nat → List Ent
  | 0 => []
  | i + 1 => sgN p bs i ++ p.segE (bs.getD i 0) (bs.getD (i + 1) 0)
theorem sgN_cons (x y : Int) (r : List Int) : ∀ i, sgN p (x :: y :: r) (i + 1) = p.segE x y ++ sgN p (y :: r) i
  | 0 => by simp [sgN]
  | i + 1 => by
    show sgN p (x :: y :: r) (i + 1) ++ p.segE ((x :: y :: r).getD (i + 1) 0) ((x :: y :: r).getD (i + 1 + 1) 0) = _
    rw [sgN_cons x y r i]
    show _ = p.segE x y ++ (sgN p (y :: r) i ++ p.segE ((y :: r).getD i 0) ((y :: r).getD (i + 1) 0))
    rw [List.append_assoc]
    rfl
theorem segs_sgN : ∀ bs : List Int, p.segs bs = sgN p bs (bs.length - 1)
  | [] => rfl
  | [x] => rfl
  | x :: y :: r => by
    show p.segE x y ++ p.segs (y :: r) = _
    rw [segs_sgN (y :: r)]
    show _ = sgN p (x :: y :: r) (r.length + 1)
    rw [sgN_cons]
    rfl
theorem sgN_len (bs : List Int) : ∀ i, (sgN p bs i).length ≤ i
  | 0 => by simp [sgN]
  | i + 1 => by
    have h := sgN_len bs i
    have h2 : (p.segE (bs.getD i 0) (bs.getD (i + 1) 0)).length ≤ 1 := by
      unfold Par.segE
      split
      · exact optE_length _ _ _
      · simp
    show (sgN p bs i ++ p.segE (bs.getD i 0) (bs.getD (i + 1) 0)).length ≤ i + 1
    rw [List.length_append]
    omega
end
end RK
end

section
namespace RK
open PySem L2 RS
variable {P : Program} {w : World} {K : PySem.W.Frag} {mg : Str → Option Value} {base : Heap} {A : Ad}

def sp_law_cut : Sp := fun vs H Q _ => ∃ el xs E, ∃ lo hi : Nat, vs = [.ref el, .int (lo : Int), .int (hi : Int)] ∧ H el = some (.lst xs) ∧ All2 (EntAt H) xs E ∧ E.length ≤ 1000 ∧ ∀ y ys H1, H y = none → Ex H H1 → H1 y = some (.lst ys) → All2 (EntAt H1) ys (cutE lo hi E) → Q (.ref y) H1
theorem call_law_cut {H : Hp} {el : Addr} {xs : List V} {E0 : List Ent} {lo hi : Nat} {a b : Int} {Q : VK} {E : XK} (e : a = (lo : Int)) (e2 : b = (hi : Int)) (h : H el = some (.lst xs)) (al : All2 (EntAt H) xs E0) (hl : E0.length ≤ 1000)
    (q : ∀ y ys H1, H y = none → Ex H H1 → H1 y = some (.lst ys) → All2 (EntAt H1) ys (cutE lo hi E0) → Q (.ref y) H1) : sp_law_cut ([.ref el, .int a, .int b] ++ []) H Q E := ⟨el, xs, E0, lo, hi, by rw [e, e2]; rfl, h, al, hl, q⟩
theorem ok_law_cut (T : Txt K mg A) : FnOk P w K mg base CX0 1 A.f_law_cut A.d_law_cut ["_law_entries_here", "_law_first_here", "_law_after"] sp_law_cut := by
  refine T.f_law_cut.ok sc_law_cut (fun vs H Q E h => ?_) (fun cdv AR outer s H vs Q E hr h => ?_)
  · obtain ⟨el, xs, E0, lo, hi, rfl, _⟩ := h; rfl
  · obtain ⟨el, xs, E0, lo, hi, rfl, hx, al, hl, q⟩ := h
    have ll := al.len
    refine ⟨_, pss_cons (ps_setLc (i := 3) (own := [("_law_low", 4), ("_law_high", 5), ("_law_why", 6)]) (by rfl) sc_law_cut.nd (by rfl) (by rfl) (sw_true (by rfl) (by rfl) (by rfl) (by decide +kernel)) (piList (K := K) (by rfl) (pv 0)) (blkOk_by (own := [("_law_low", 4), ("_law_high", 5), ("_law_why", 6)]) (N := n_law_cut) (sc := (defScope s_law_cut)) (by decide +kernel)) (fun _ _ _ _ _ => (pgTup (K := K) 3 (by rfl) (by rfl) (pgs_cons (pg_name (i := 4) sc_law_cut.nd (by rfl) (by first | exact Or.inl rfl | exact Or.inr rfl)) (pgs_cons (pg_name (i := 5) sc_law_cut.nd (by rfl) (by first | exact Or.inl rfl | exact Or.inr rfl)) (pgs_cons (pg_name (i := 6) sc_law_cut.nd (by rfl) (by first | exact Or.inl rfl | exact Or.inr rfl)) pgs_nil))))) (fun _ _ _ _ _ => pts_nil) (fun _ _ _ _ _ => (pe_tup (pa_cons (pe_callB (call_max (by rfl)) (by rfl) T.z_max (by decide +kernel) (pa_cons (pv 4) (pa_cons (pv 1) pa_nil))) (pa_cons (pe_callB (call_min (by rfl)) (by rfl) T.z_min (by decide +kernel) (pa_cons (pv 5) (pa_cons (pv 2) pa_nil))) (pa_cons (pv 6) pa_nil)))))) (
      pss_one (ps_ret (pe_lc (own := [("_law_entry", 7)]) (by rfl) sc_law_cut.nd (piList (K := K) (by rfl) (pv 3)) (blkOk_by (own := [("_law_entry", 7)]) (N := n_law_cut) (sc := (defScope s_law_cut)) (by decide +kernel)) (fun _ _ _ _ _ => (pg_name (i := 7) sc_law_cut.nd (by rfl) (by first | exact Or.inl rfl | exact Or.inr rfl))) (fun _ _ _ _ _ => (pts_one (pt_cmpR op_lt (pe_ix (ixT (K := K) (by rfl)) (pv 7) pe_int (fun _ _ => rfl)) (pe_ix (ixT (K := K) (by rfl)) (pv 7) pe_int (fun _ _ => rfl)) (nomark _)))) (fun _ _ _ _ _ => (pv 7))))), ?_⟩
    walk_at "go"
    refine cgoAll2 (R := EntAt) (S := EntAt) ent_ex ent_ex ent_era hx al (by omega) (fun e => some (max e.1 lo, min e.2.1 hi, e.2.2)) ?_ ?_
    · intro i v e H1 Y1 N1 hi1 e1 hr1 hY hN
      obtain ⟨t, u, rfl, ht, hu⟩ := hr1
      walk_at "xs"
      refine ⟨rfl, ?_⟩
      walk_at "xs"
      refine xMax2 (c := ((max e.1 lo : Nat) : Int)) (by omega) ?_
      walk_at "xs"
      refine xMin2 (c := ((min e.2.1 hi : Nat) : Int)) (by omega) ?_
      walk_at "xs"
      refine xNewT (by simp) (fun t2 H2 ht2 e2 h2 => ?_)
      exact hY _ _ _ e2 rfl ⟨t2, u, rfl, h2, e2 _ _ hu⟩
    · intro y1 H1 l hy1 e1 h1 al1
      have em : E0.filterMap (fun e => some (max e.1 lo, min e.2.1 hi, e.2.2)) = E0.map fun e => (max e.1 lo, min e.2.1 hi, e.2.2) := by rw [List.filterMap_eq_map']
      have ll1 := al1.len
      rw [em] at al1 ll1
      rw [List.length_map] at ll1
      walk_at "xs"
      refine cgoAll2 (R := EntAt) (S := EntAt) ent_ex ent_ex ent_era h1 al1 (by omega) (fun e => if e.1 < e.2.1 then some e else none) ?_ ?_
      · intro i v e H2 Y1 N1 hi1 e2 hr1 hY hN
        obtain ⟨t, u, rfl, ht, hu⟩ := hr1
        walk_at "xs"
        refine ⟨rfl, ?_⟩
        walk_at "xs"
        refine itD (fun c1 => ?_) (fun c1 => ?_)
        · walk_at "xs"
          exact hY _ _ _ (ex_refl _) (if_pos (by omega)) ⟨t, u, rfl, ht, hu⟩
        · exact hN _ (ex_refl _) (if_neg (by omega))
      · intro y2 H2 l2 hy2 e2 h2 al2
        refine q y2 l2 H2 (ex_free e1 hy2) (e1.trans e2) h2 ?_
        have ef : ∀ l : List Ent, l.filterMap (fun e => if e.1 < e.2.1 then some e else none) = l.filter fun e => decide (e.1 < e.2.1) := fun l => by
          induction l with
          | nil => rfl
          | cons a l ih =>
            rw [List.filterMap_cons, List.filter_cons]
            by_cases c : a.1 < a.2.1
            · simp only [if_pos c, decide_eq_true c]
              rw [ih]
              rfl
            · simp only [if_neg c, decide_eq_false c]
              rw [ih]
              rfl
        rw [ef] at al2
        exact al2
def sp_law_counts : Sp := fun vs H Q _ => ∃ el xs E, vs = [.ref el] ∧ H el = some (.lst xs) ∧ All2 (EntAt H) xs E ∧ E.length ≤ 1000 ∧ (∀ e ∈ E, e.1 ≤ e.2.1) ∧ ∀ y H1, H y = none → Ex H H1 → H1 y = some (.tup [.int (wsum .out E : Int), .int (wsum .busy E : Int), .int 0]) → Q (.ref y) H1
theorem call_law_counts {H : Hp} {el : Addr} {xs : List V} {E0 : List Ent} {Q : VK} {E : XK} (h : H el = some (.lst xs)) (al : All2 (EntAt H) xs E0) (hl : E0.length ≤ 1000) (hle : ∀ e ∈ E0, e.1 ≤ e.2.1)
    (q : ∀ y H1, H y = none → Ex H H1 → H1 y = some (.tup [.int (wsum .out E0 : Int), .int (wsum .busy E0 : Int), .int 0]) → Q (.ref y) H1) : sp_law_counts ([.ref el] ++ []) H Q E := ⟨el, xs, E0, rfl, h, al, hl, hle, q⟩
/-- the reason of a word -/
def wordOf (v : V) : Why := if v = .str "outage" then .out else .busy
theorem fm_sum (c : Why) : ∀ E : List Ent, (∀ e ∈ E, e.1 ≤ e.2.1) → (E.filterMap fun e => if e.2.2 = c then some ((e.2.1 : Int) - (e.1 : Int)) else none).sum = (wsum c E : Int)
  | [], _ => rfl
  | e :: E, h => by
    have ih := fm_sum c E (fun e' h' => h e' (List.mem_cons_of_mem _ h'))
    have h1 := h e (List.mem_cons_self ..)
    rw [List.filterMap_cons]
    show _ = (((if e.2.2 = c then e.2.1 - e.1 else 0) + wsum c E : Nat) : Int)
    by_cases z : e.2.2 = c
    · simp only [if_pos z, List.sum_cons]
      rw [ih]
      omega
    · simp only [if_neg z]
      rw [ih]
      omega
def IntAt (H : Hp) (v : V) (i : Int) : Prop := v = .int i
theorem int_all {H : Hp} : ∀ {l : List V} {ns : List Int}, All2 (IntAt H) l ns → l = ns.map V.int
  | [], [], _ => rfl
  | v :: l, n :: ns, q => by rw [List.map_cons, ← int_all q.2, show v = V.int n from q.1]
  | [], _ :: _, q => q.elim
  | _ :: _, [], q => q.elim
theorem ok_law_counts (T : Txt K mg A) : FnOk P w K mg base CX0 1 A.f_law_counts A.d_law_counts ["_law_entries_here"] sp_law_counts := by
  refine T.f_law_counts.ok sc_law_counts (fun vs H Q E h => ?_) (fun cdv AR outer s H vs Q E hr h => ?_)
  · obtain ⟨el, xs, E0, rfl, _⟩ := h; rfl
  · obtain ⟨el, xs, E0, rfl, hx, al, hl, hle, q⟩ := h
    have ll := al.len
    refine ⟨_, pss_cons (ps_setLc (i := 1) (own := [("_law_word", 2)]) (by rfl) sc_law_counts.nd (by rfl) (by rfl) (sw_true (by rfl) (by rfl) (by rfl) (by decide +kernel)) (piTup (K := K) (by rfl) (pe_tup (pa_cons pe_str (pa_cons pe_str pa_nil)))) (blkOk_by (own := [("_law_word", 2)]) (N := n_law_counts) (sc := (defScope s_law_counts)) (by decide +kernel)) (fun _ _ _ _ _ => (pg_name (i := 2) sc_law_counts.nd (by rfl) (by first | exact Or.inl rfl | exact Or.inr rfl))) (fun _ _ _ _ _ => pts_nil) (fun _ _ _ _ _ => (pe_callB (callSum (K := K) (by rfl) (by rfl)) (by rfl) T.z_sum (by decide +kernel) (pa_cons (pe_lc (own := [("_law_low", 3), ("_law_high", 4), ("_law_why", 5)]) (by rfl) sc_law_counts.nd (piList (K := K) (by rfl) (pv 0)) (blkOk_by (own := [("_law_low", 3), ("_law_high", 4), ("_law_why", 5)]) (N := n_law_counts) (sc := ({ kind := .function, names := [(Str.ofString ".0", .local), (Str.ofString "_law_word", .cell), (Str.ofString "sum", .globalImplicit), (Str.ofString "_law_entries_here", .cell)], isGenerator := false, isCoroutine := false } : Scope)) (by decide +kernel)) (fun _ _ _ _ _ => (pgTup (K := K) 3 (by rfl) (by rfl) (pgs_cons (pg_name (i := 3) sc_law_counts.nd (by rfl) (by first | exact Or.inl rfl | exact Or.inr rfl)) (pgs_cons (pg_name (i := 4) sc_law_counts.nd (by rfl) (by first | exact Or.inl rfl | exact Or.inr rfl)) (pgs_cons (pg_name (i := 5) sc_law_counts.nd (by rfl) (by first | exact Or.inl rfl | exact Or.inr rfl)) pgs_nil))))) (fun _ _ _ _ _ => (pts_one (pt_cmpR op_eq (pe_ix (ixT (K := K) (by rfl)) (pv 5) pe_int (fun _ _ => rfl)) (pv 2) (nomark _)))) (fun _ _ _ _ _ => (pe_op op_sub (pv 4) (pv 3)))) pa_nil)))) (
      pss_one (ps_ret (pe_tup (pa_cons (pe_ix (ixL (K := K) (by rfl)) (pv 1) pe_int (fun _ _ => rfl)) (pa_cons (pe_ix (ixL (K := K) (by rfl)) (pv 1) pe_int (fun _ _ => rfl)) (pa_cons pe_int pa_nil)))))), ?_⟩
    walk_at "go"
    refine xNewT (by simp) (fun y0 H0 hy0 e0 h0 => ?_)
    walk_at "xs"
    have hx0 := e0 _ _ hx
    have al0 := All2.mono (ent_ex e0) al
    refine cgoTup h0 (by simp) (fun v => some (.int (wsum (wordOf v) E0 : Int))) ?_ ?_
    · intro i v H1 Y1 N1 hi e1 hY hN
      have hx1 := e1 _ _ hx0
      have al1 := All2.mono (ent_ex e1) al0
      match i, hi with
      | 0, hi =>
        obtain rfl : v = .str "outage" := (Option.some.inj hi).symm
        walk_at "xs"
        refine ⟨rfl, ?_⟩
        walk_at "xs"
        refine cgoAll2 (R := EntAt) (S := IntAt) ent_ex (fun _ _ _ h => h) (fun _ _ _ h => h) hx1 al1 (by omega) (fun e => if e.2.2 = .out then some ((e.2.1 : Int) - (e.1 : Int)) else none) ?_ ?_
        · intro j v2 e H2 Y2 N2 hj e2 hr1 hY2 hN2
          obtain ⟨t, u, rfl, ht, hu⟩ := hr1
          walk_at "xs"
          refine ⟨rfl, ?_⟩
          cases hc : e.2.2 with
          | out =>
            have hu2 : H2 u = some (.tup [.str "outage", .int 0]) := by rw [hu, hc]; rfl
            walk_at "xs"
            exact hY2 _ _ _ (ex_refl _) (if_pos hc) rfl
          | busy =>
            have hu2 : H2 u = some (.tup [.str "busy", .int 0]) := by rw [hu, hc]; rfl
            walk_at "xs"
            exact hN2 _ (ex_refl _) (if_neg (by rw [hc]; decide))
          | srv =>
            have hu2 : H2 u = some (.tup [.str "served"]) := by rw [hu, hc]; rfl
            walk_at "xs"
            exact hN2 _ (ex_refl _) (if_neg (by rw [hc]; decide))
        · intro y2 H2 l2 hy2 e2 h2 al2
          rw [int_all al2] at h2
          walk_at "xs"
          refine xSum h2 ?_
          rw [fm_sum _ _ hle]
          exact hY _ _ e2 rfl
      | 1, hi =>
        obtain rfl : v = .str "busy" := (Option.some.inj hi).symm
        walk_at "xs"
        refine ⟨rfl, ?_⟩
        walk_at "xs"
        refine cgoAll2 (R := EntAt) (S := IntAt) ent_ex (fun _ _ _ h => h) (fun _ _ _ h => h) hx1 al1 (by omega) (fun e => if e.2.2 = .busy then some ((e.2.1 : Int) - (e.1 : Int)) else none) ?_ ?_
        · intro j v2 e H2 Y2 N2 hj e2 hr1 hY2 hN2
          obtain ⟨t, u, rfl, ht, hu⟩ := hr1
          walk_at "xs"
          refine ⟨rfl, ?_⟩
          cases hc : e.2.2 with
          | out =>
            have hu2 : H2 u = some (.tup [.str "outage", .int 0]) := by rw [hu, hc]; rfl
            walk_at "xs"
            exact hN2 _ (ex_refl _) (if_neg (by rw [hc]; decide))
          | busy =>
            have hu2 : H2 u = some (.tup [.str "busy", .int 0]) := by rw [hu, hc]; rfl
            walk_at "xs"
            exact hY2 _ _ _ (ex_refl _) (if_pos hc) rfl
          | srv =>
            have hu2 : H2 u = some (.tup [.str "served"]) := by rw [hu, hc]; rfl
            walk_at "xs"
            exact hN2 _ (ex_refl _) (if_neg (by rw [hc]; decide))
        · intro y2 H2 l2 hy2 e2 h2 al2
          rw [int_all al2] at h2
          walk_at "xs"
          refine xSum h2 ?_
          rw [fm_sum _ _ hle]
          exact hY _ _ e2 (by rfl)
      | i + 2, hi => cases hi
    · intro y3 H3 hy3 e3 h3
      have ew : ([.str "outage", .str "busy"] : List V).filterMap (fun v => some (V.int (wsum (wordOf v) E0 : Int))) = [.int (wsum .out E0 : Int), .int (wsum .busy E0 : Int)] := by rfl
      rw [ew] at h3
      walk_at "xs"
      refine xIxL h3 rfl ?_
      walk_at "xs"
      refine xIxL h3 rfl ?_
      walk_at "xs"
      refine xNewT (by simp) (fun y H4 hy e4 h4 => ?_)
      exact q y H4 (ex_free (e0.trans e3) hy) ((e0.trans e3).trans e4) h4
end RK
end

section
namespace RK
open PySem L2 RS
variable {P : Program} {w : World} {K : PySem.W.Frag} {mg : Str → Option Value} {base : Heap} {A : Ad}

theorem filt_eq (T : Nat) (E : List Ent) : E.filterMap (fun e => if e.1 < T then some e else none) = E.filter fun e => decide (e.1 < T) := by
  induction E with
  | nil => rfl
  | cons a l ih =>
    rw [List.filterMap_cons, List.filter_cons]
    by_cases c : a.1 < T
    · simp only [if_pos c, decide_eq_true c]
      rw [ih]
      rfl
    · simp only [if_neg c, decide_eq_false c]
      rw [ih]
      rfl
theorem map_eq (T : Nat) (E : List Ent) : E.filterMap (fun e => some (e.1, min e.2.1 T, e.2.2)) = E.map fun e => (e.1, min e.2.1 T, e.2.2) := by rw [List.filterMap_eq_map']
def sp_law_entries (A : Ad) : Sp := fun vs H Q _ => ∃ sl e wd, ∃ p : Par, vs = [.ref sl, .ref e, .int p.b, .ref wd, .int p.L] ∧ p.Ok ∧ H sl = some (.lst (p.g.map V.int)) ∧ TailAt H e p.n ∧ H wd = some (.tup [.int p.f, .int p.a]) ∧ ∀ y xs H1, H y = none → Ex H H1 → H1 y = some (.lst xs) → All2 (EntAt H1) xs p.ents → Q (.ref y) H1
theorem call_law_entries {H : Hp} {sl e wd : Addr} {p : Par} {Q : VK} {E : XK} (O : p.Ok) (h : H sl = some (.lst (p.g.map V.int))) (he : TailAt H e p.n) (hw : H wd = some (.tup [.int p.f, .int p.a])) (q : ∀ y xs H1, H y = none → Ex H H1 → H1 y = some (.lst xs) → All2 (EntAt H1) xs p.ents → Q (.ref y) H1) :
    sp_law_entries A ([.ref sl, .ref e, .int p.b, .ref wd, .int p.L] ++ []) H Q E := ⟨sl, e, wd, p, rfl, O, h, he, hw, q⟩
theorem ok_law_entries (T : Txt K mg A) : FnOk P w K mg base CX0 2 A.f_law_entries A.d_law_entries ["_law_steps", "_law_ending", "_law_begin", "_law_window", "_law_long"] (sp_law_entries A) := by
  refine T.f_law_entries.ok sc_law_entries (fun vs H Q E h => ?_) (fun cdv AR outer s H vs Q E hr h => ?_)
  · obtain ⟨sl, e, wd, p, rfl, _⟩ := h; rfl
  · obtain ⟨sl, e, wd, p, rfl, O, hs, he, hw, q⟩ := h
    have he' : H e = some (.tup [.str "repeat", .int (p.n : Int)]) := he
    refine ⟨_, pss_cons (ps_asg (pv 3) (pgTup (K := K) 2 (by rfl) (by rfl) (pgs_cons (pg_name (i := 5) sc_law_entries.nd (by rfl) (by first | exact Or.inl rfl | exact Or.inr rfl)) (pgs_cons (pg_name (i := 6) sc_law_entries.nd (by rfl) (by first | exact Or.inl rfl | exact Or.inr rfl)) pgs_nil)))) (
      pss_cons (ps_par3 (i := 7) (j := 8) (l := 9) (by rfl) sc_law_entries.nd (by rfl) (by rfl) (by rfl) (by decide) (by decide) (by decide) (by rfl) (by rfl) (by rfl) (pa_cons (pe_lst (pa_cons (pv 2) (pa_cons (pe_callB (call_max (by rfl)) (by rfl) T.z_max (by decide +kernel) (pa_cons (pv 2) (pa_cons (pv 5) pa_nil))) (pa_cons (pe_callB (call_max (by rfl)) (by rfl) T.z_max (by decide +kernel) (pa_cons (pv 2) (pa_cons (pv 6) pa_nil))) pa_nil)))) (pa_cons (pe_lst pa_nil) (pa_cons (pe_callB (call_max (by rfl)) (by rfl) T.z_max (by decide +kernel) (pa_cons (pv 2) (pa_cons (pv 4) pa_nil))) pa_nil))) (by rfl)) (
      pss_cons (ps_if (pt_chain op_le op_lt (pv 5) (pv 9) (pv 6)) (pss_one (ps_set (i := 9) sc_law_entries.nd (by rfl) (by first | exact Or.inl rfl | exact Or.inr rfl) (pv 6))) (pss_one (ps_expr (peBm (K := K) (by rfl) PySem.F.plainAttrs_list PySem.F.slot_list_append PySem.F.type_list_append mt_append (pv 7) (pa_cons (pv 9) pa_nil))))) (
      pss_cons (ps_set (i := 7) sc_law_entries.nd (by rfl) (by first | exact Or.inl rfl | exact Or.inr rfl) (pe_callB (cr_sortedSet (by rfl)) (by rfl) T.z_sorted (by decide +kernel) (pa_cons (pe_callTy (call_setL (by rfl)) (by rfl) T.z_set (by decide +kernel) (pa_cons (pv 7) pa_nil)) pa_nil))) (
      pss_cons (ps_for PassesOwn.never (by rfl) (piZip (K := K) (by rfl) (by rfl) T.z_zip (pa_cons (pv 7) (pa_cons (pe_slice (slL (K := K) (by rfl)) (pv 7) (po_some pe_int) po_none) pa_nil))) (pgTup (K := K) 2 (by rfl) (by rfl) (pgs_cons (pg_name (i := 10) sc_law_entries.nd (by rfl) (by first | exact Or.inl rfl | exact Or.inr rfl)) (pgs_cons (pg_name (i := 11) sc_law_entries.nd (by rfl) (by first | exact Or.inl rfl | exact Or.inr rfl)) pgs_nil))) (pss_cons (ps_set (i := 14) sc_law_entries.nd (by rfl) (by first | exact Or.inl rfl | exact Or.inr rfl) (pe_ifExp (pt_chain op_le op_lt (pv 5) (pv 10) (pv 6)) (pe_tup (pa_cons pe_str (pa_cons pe_int pa_nil))) (pe_tup (pa_cons pe_str (pa_cons pe_int pa_nil))))) (pss_one (ps_if (PW.pt (pw_and (pt_cmpR op_lt (pv 10) (pv 9) (nomark _)) (pw_and1 (PW.pt (pw_or (pt_cmpR op_eq (pe_ix (ixT (K := K) (by rfl)) (pv 14) pe_int (fun _ _ => rfl)) pe_str (nomark _)) (pw_or1 (pt_cmpR op_lt (pv 10) (pv 4) (nomark _)))))))) (pss_cons (ps_set (i := 15) sc_law_entries.nd (by rfl) (by first | exact Or.inl rfl | exact Or.inr rfl) (pe_tup (pa_cons (pe_call (ok_law_first T) (hr.mono (by decide)) (by rfl) T.g_law_first T.f_law_first.kp T.b_law_first .nil pass0 (pa_cons (pv 0) (pa_cons (pv 1) (pa_cons (pe_op op_sub (pv 10) (pv 2)) pa_nil)))) (pa_cons (pe_call (ok_law_first T) (hr.mono (by decide)) (by rfl) T.g_law_first T.f_law_first.kp T.b_law_first .nil pass0 (pa_cons (pv 0) (pa_cons (pv 1) (pa_cons (pe_op op_sub (pv 11) (pv 2)) pa_nil)))) (pa_cons (pv 14) pa_nil))))) (pss_one (ps_if (pt_cmpR op_lt (pe_ix (ixT (K := K) (by rfl)) (pv 15) pe_int (fun _ _ => rfl)) (pe_ix (ixT (K := K) (by rfl)) (pv 15) pe_int (fun _ _ => rfl)) (nomark _)) (pss_one (ps_expr (peBm (K := K) (by rfl) PySem.F.plainAttrs_list PySem.F.slot_list_append PySem.F.type_list_append mt_append (pv 8) (pa_cons (pv 15) pa_nil)))) pss_nil))) pss_nil)))) (
      pss_cons (ps_set (i := 12) sc_law_entries.nd (by rfl) (by first | exact Or.inl rfl | exact Or.inr rfl) (pe_call (ok_law_first T) (hr.mono (by decide)) (by rfl) T.g_law_first T.f_law_first.kp T.b_law_first .nil pass0 (pa_cons (pv 0) (pa_cons (pv 1) (pa_cons (pe_op op_sub (pv 9) (pv 2)) pa_nil))))) (
      pss_cons (ps_if (pt_chain op_le op_lt (pv 5) (pe_op op_add (pv 2) (pe_call (ok_law_place T) (hr.mono (by decide)) (by rfl) T.g_law_place T.f_law_place.kp T.b_law_place .nil pass0 (pa_cons (pv 0) (pa_cons (pv 1) (pa_cons (pv 12) pa_nil))))) (pv 6)) (pss_cons (ps_expr (peBm (K := K) (by rfl) PySem.F.plainAttrs_list PySem.F.slot_list_append PySem.F.type_list_append mt_append (pv 8) (pa_cons (pe_tup (pa_cons (pv 12) (pa_cons (pe_call (ok_law_first T) (hr.mono (by decide)) (by rfl) T.g_law_first T.f_law_first.kp T.b_law_first .nil pass0 (pa_cons (pv 0) (pa_cons (pv 1) (pa_cons (pe_op op_sub (pv 6) (pv 2)) pa_nil)))) (pa_cons (pe_tup (pa_cons pe_str (pa_cons pe_int pa_nil))) pa_nil)))) pa_nil))) (pss_one (ps_set (i := 12) sc_law_entries.nd (by rfl) (by first | exact Or.inl rfl | exact Or.inr rfl) (pe_call (ok_law_first T) (hr.mono (by decide)) (by rfl) T.g_law_first T.f_law_first.kp T.b_law_first .nil pass0 (pa_cons (pv 0) (pa_cons (pv 1) (pa_cons (pe_op op_sub (pv 6) (pv 2)) pa_nil))))))) pss_nil) (
      pss_cons (ps_setLc (i := 13) (own := [("_law_entry", 15)]) (by rfl) sc_law_entries.nd (by rfl) (by rfl) (sw_true (by rfl) (by rfl) (by rfl) (by decide +kernel)) (piList (K := K) (by rfl) (pv 8)) (blkOk_by (own := [("_law_entry", 15)]) (N := n_law_entries) (sc := (defScope s_law_entries)) (by decide +kernel)) (fun _ _ _ _ _ => (pg_name (i := 15) sc_law_entries.nd (by rfl) (by first | exact Or.inl rfl | exact Or.inr rfl))) (fun _ _ _ _ _ => (pts_one (pt_cmpR op_lt (pe_ix (ixT (K := K) (by rfl)) (pv 15) pe_int (fun _ _ => rfl)) (pv 12) (nomark _)))) (fun _ _ _ _ _ => (pv 15))) (
      pss_one (ps_ret (pe_op op_cat (pe_lc (own := [("_law_low", 10), ("_law_high", 11), ("_law_why", 14)]) (by rfl) sc_law_entries.nd (piList (K := K) (by rfl) (pv 13)) (blkOk_by (own := [("_law_low", 10), ("_law_high", 11), ("_law_why", 14)]) (N := n_law_entries) (sc := (defScope s_law_entries)) (by decide +kernel)) (fun _ _ _ _ _ => (pgTup (K := K) 3 (by rfl) (by rfl) (pgs_cons (pg_name (i := 10) sc_law_entries.nd (by rfl) (by first | exact Or.inl rfl | exact Or.inr rfl)) (pgs_cons (pg_name (i := 11) sc_law_entries.nd (by rfl) (by first | exact Or.inl rfl | exact Or.inr rfl)) (pgs_cons (pg_name (i := 14) sc_law_entries.nd (by rfl) (by first | exact Or.inl rfl | exact Or.inr rfl)) pgs_nil))))) (fun _ _ _ _ _ => pts_nil) (fun _ _ _ _ _ => (pe_tup (pa_cons (pv 10) (pa_cons (pe_callB (call_min (by rfl)) (by rfl) T.z_min (by decide +kernel) (pa_cons (pv 11) (pa_cons (pv 12) pa_nil))) (pa_cons (pv 14) pa_nil)))))) (pe_lst (pa_cons (pe_tup (pa_cons (pv 12) (pa_cons (pe_op op_add (pv 12) pe_int) (pa_cons (pe_tup (pa_cons pe_str pa_nil)) pa_nil)))) pa_nil)))))))))))), ?_⟩
    walk_at "go"
    refine xMax2 (c := max p.b p.f) rfl ?_
    walk_at "xs"
    refine xMax2 (c := max p.b p.a) rfl ?_
    walk_at "xs"
    refine xNewL (by simp) (fun y1 H1 hy1 e1 h1 => ?_)
    walk_at "xs"
    refine xNewL (by simp) (fun y2 H2 hy2 e2 h2 => ?_)
    walk_at "xs"
    refine xMax2 (c := p.B) rfl ?_
    refine xNil ?_
    refine xThree ?_
    have h12 := e2 _ _ h1
    have n21 : y2 ≠ y1 := (ne_of_none h1 hy2).symm
    have hy2H : H y2 = none := ex_free e1 hy2
    -- the borders and where the failing ends
    with_reducible refine xSeqJ (fun σ' H' => σ' = [some (.ref sl), some (.ref e), some (.int p.b), some (.ref wd), some (.int p.L), some (.int p.f), some (.int p.a), some (.ref y1), some (.ref y2), some (.int p.behind), none, none, none, none, none, none] ∧
      Ex H H' ∧ H' y1 = some (.lst (p.borders.map V.int)) ∧ H' y2 = some (.lst [])) ?_ (fun N hN => ?_)
    rotate_left
    · walk_at "xs"
      refine itD (fun c1 => ?_) (fun c1 => ?_)
      · walk_at "xs"
        refine itD (fun c2 => ?_) (fun c2 => ?_)
        · walk_at "xs"
          have c : p.in1 p.B := ⟨c1, c2⟩
          refine hN _ _ ⟨?_, e1.trans e2, ?_, h2⟩
          · unfold Par.behind; rw [if_pos c]; rfl
          · rw [h12]; unfold Par.borders; rw [if_pos c]; rfl
        · walk_at "xs"
          have c : ¬ p.in1 p.B := fun z => c2 z.2
          refine ⟨tyL h12, ?_⟩
          walk_at "xs"
          refine xApp1 h12 (by simp) ?_
          refine hN _ _ ⟨?_, ex_mut (e1.trans e2) hy1, ?_, by rw [upd_ne n21]; exact h2⟩
          · unfold Par.behind; rw [if_neg c]; rfl
          · rw [upd_same]; unfold Par.borders; rw [if_neg c]; rfl
      · walk_at "xs"
        have c : ¬ p.in1 p.B := fun z => c1 z.1
        refine ⟨tyL h12, ?_⟩
        walk_at "xs"
        refine xApp1 h12 (by simp) ?_
        refine hN _ _ ⟨?_, ex_mut (e1.trans e2) hy1, ?_, by rw [upd_ne n21]; exact h2⟩
        · unfold Par.behind; rw [if_neg c]; rfl
        · rw [upd_same]; unfold Par.borders; rw [if_neg c]; rfl
    rintro σ' H3 ⟨rfl, e3, h13, h23⟩
    clear h1 h2 h12 e1 e2
    have bl : p.borders.length ≤ 4 := by unfold Par.borders; split <;> simp
    walk_at "xs"
    refine ⟨y1, p.borders, rfl, h13, by omega, fun pz cz hpz hcz => ?_⟩
    have ez : Ex H3 (upd H3 pz (SetO w pz (fun j => decide (j ∈ p.borders)) cz)) := ex_new hpz
    walk_at "xs"
    refine ⟨pz, _, cz, rfl, upd_same, by omega, fun bs y4 hsrt hmem hlen hy4 => ?_⟩
    have e4 : Ex H3 (upd (upd H3 pz (SetO w pz (fun j => decide (j ∈ p.borders)) cz)) y4 (.lst (bs.map V.int))) := ez.trans (ex_new hy4)
    have h4 : upd (upd H3 pz (SetO w pz (fun j => decide (j ∈ p.borders)) cz)) y4 (.lst (bs.map V.int)) y4 = some (.lst (bs.map V.int)) := upd_same
    have n24 : y4 ≠ y2 := (ne_of_none (ez _ _ h23) hy4).symm
    generalize upd (upd H3 pz (SetO w pz (fun j => decide (j ∈ p.borders)) cz)) y4 (.lst (bs.map V.int)) = H4 at e4 h4 ⊢
    have hmem2 : ∀ x, x ∈ bs ↔ x ∈ p.borders := fun x => by rw [hmem x]; simp
    have hbl : bs.length ≤ 4 := by omega
    walk_at "xs"
    refine xSlL h4 (fun y5 H5 hy5 e5 h5 => ?_)
    have h25 := e5 _ _ (e4 _ _ h23)
    have h45 := e5 _ _ h4
    have n25 : y5 ≠ y2 := (ne_of_none (e4 _ _ h23) hy5).symm
    have ecut : cutV (bs.map V.int) (some 1) none = (bs.drop 1).map V.int := by
      unfold cutV
      rw [List.map_drop]
      by_cases z : bs = []
      · subst z; rfl
      · have lp := List.length_pos_iff.mpr z
        have i1 : HT.sIx (bs.map V.int).length 0 (some 1) = 1 := by
          rw [List.length_map]
          show min (1 : Int).toNat bs.length = 1
          show min 1 bs.length = 1
          omega
        have i2 : HT.sIx (bs.map V.int).length (bs.map V.int).length none = bs.length := by rw [List.length_map]; rfl
        rw [i1, i2]
        refine List.take_of_length_le ?_
        rw [List.length_drop, List.length_map]
        omega
    rw [ecut] at h5
    walk_at "xs"
    refine xForZip (n := bs.length - 1) h45 h5 (by rw [List.length_map, List.length_map, List.length_drop]; omega) (fun i σ' H' => (∃ a b c d, σ' = [some (.ref sl), some (.ref e), some (.int p.b), some (.ref wd), some (.int p.L), some (.int p.f), some (.int p.a), some (.ref y4), some (.ref y2), some (.int p.behind), a, b, none, none, c, d]) ∧
      Ex H H' ∧ H' y4 = some (.lst (bs.map V.int)) ∧ H' y5 = some (.lst ((bs.drop 1).map V.int)) ∧ ∃ xs, H' y2 = some (.lst xs) ∧ All2 (EntAt H') xs (sgN p bs i))
      ⟨⟨_, _, _, _, rfl⟩, e3.trans (e4.trans e5), h45, h5, [], h25, trivial⟩ (fun i σ' H' q => ⟨q.2.2.1, q.2.2.2.1⟩) ?_ ?_
    · rintro i x y σ' H6 hx hy ⟨⟨a, b, c, d, rfl⟩, e6, h46, h56, xs, hx6, al⟩ t6 H7 e7 ht6 h7
      obtain ⟨lo, hlo, rfl⟩ : ∃ lo, bs[i]? = some lo ∧ x = .int lo := by
        rw [List.getElem?_map] at hx
        obtain ⟨z, a1, a2⟩ := Option.map_eq_some_iff.mp hx
        exact ⟨z, a1, a2.symm⟩
      obtain ⟨hi, hhi, rfl⟩ : ∃ hi, bs[i + 1]? = some hi ∧ y = .int hi := by
        rw [List.getElem?_map, List.getElem?_drop, Nat.add_comm] at hy
        obtain ⟨z, a1, a2⟩ := Option.map_eq_some_iff.mp hy
        exact ⟨z, a1, a2.symm⟩
      have sgE : sgN p bs (i + 1) = sgN p bs i ++ p.segE lo hi := by
        show sgN p bs i ++ p.segE (bs.getD i 0) (bs.getD (i + 1) 0) = _
        rw [List.getD_eq_getElem?_getD, List.getD_eq_getElem?_getD, hlo, hhi]
        rfl
      have il : i < bs.length := (List.getElem?_eq_some_iff.mp hlo).1
      have sl4 := sgN_len (p := p) bs i
      have al7 := All2.mono (ent_ex e7) al
      have hx7 := e7 _ _ hx6
      have e67 := e6.trans e7
      have h47 := e7 _ _ h46
      have h57 := e7 _ _ h56
      have ll := al.len
      refine xGTup h7 rfl ?_
      refine xGCons ?_
      refine xName ?_
      refine xGCons ?_
      refine xName ?_
      refine xGNil ?_
      -- the word of the segment
      with_reducible refine xSeqJ (fun σ' H' => ∃ u, σ' = [some (.ref sl), some (.ref e), some (.int p.b), some (.ref wd), some (.int p.L), some (.int p.f), some (.int p.a), some (.ref y4), some (.ref y2), some (.int p.behind), some (.int lo), some (.int hi), none, none, some (.ref u), d] ∧ Ex H7 H' ∧ H' u = some (.tup (whyT (p.wy lo)))) ?_ (fun N hN => ?_)
      rotate_left
      · walk_at "xs"
        refine itD (fun c1 => ?_) (fun c1 => ?_)
        · walk_at "xs"
          refine itD (fun c2 => ?_) (fun c2 => ?_)
          · walk_at "xs"
            refine xNewT (by simp) (fun u H8 hu e8 h8 => ?_)
            exact hN _ _ ⟨u, rfl, e8, by rw [wy_out ⟨c1, c2⟩]; exact h8⟩
          · walk_at "xs"
            refine xNewT (by simp) (fun u H8 hu e8 h8 => ?_)
            exact hN _ _ ⟨u, rfl, e8, by rw [wy_busy (fun z => c2 z.2)]; exact h8⟩
        · walk_at "xs"
          refine xNewT (by simp) (fun u H8 hu e8 h8 => ?_)
          exact hN _ _ ⟨u, rfl, e8, by rw [wy_busy (fun z => c1 z.1)]; exact h8⟩
      rintro σ' H8 ⟨u, rfl, e8, hu8⟩
      have none_end : ∀ {H9 : Hp}, Ex H8 H9 → p.segE lo hi = [] → (∃ a b c d', [some (V.ref sl), some (.ref e), some (.int p.b), some (.ref wd), some (.int p.L), some (.int p.f), some (.int p.a), some (.ref y4), some (.ref y2), some (.int p.behind), some (.int lo), some (.int hi), none, none, some (.ref u), d] = [some (V.ref sl), some (.ref e), some (.int p.b), some (.ref wd), some (.int p.L), some (.int p.f), some (.int p.a), some (.ref y4), some (.ref y2), some (.int p.behind), a, b, none, none, c, d']) ∧
          Ex H H9 ∧ H9 y4 = some (.lst (bs.map V.int)) ∧ H9 y5 = some (.lst ((bs.drop 1).map V.int)) ∧ ∃ xs, H9 y2 = some (.lst xs) ∧ All2 (EntAt H9) xs (sgN p bs (i + 1)) := fun {H9} e9 z =>
        ⟨⟨_, _, _, _, rfl⟩, e67.trans (e8.trans e9), e9 _ _ (e8 _ _ h47), e9 _ _ (e8 _ _ h57), xs, e9 _ _ (e8 _ _ hx7), by rw [sgE, z, List.append_nil]; exact All2.mono (ent_ex (e8.trans e9)) al7⟩
      -- the entry made and kept
      have go : ∀ {H9 : Hp}, Ex H8 H9 → p.segE lo hi = optE (p.F (lo - p.b)) (p.F (hi - p.b)) (p.wy lo) → True := fun _ _ => trivial
      have whyc : p.wy lo = .out ∨ p.wy lo = .busy := by unfold Par.wy; split <;> simp
      walk_at "xs"
      refine itD (fun c1 => ?_) (fun c1 => ?_)
      · walk_at "xs"
        have main : (p.wy lo = .out ∨ lo < p.L) → p.segE lo hi = optE (p.F (lo - p.b)) (p.F (hi - p.b)) (p.wy lo) := fun z => by
          unfold Par.segE
          rw [if_pos ⟨c1, z⟩]
        rcases whyc with hwy | hwy
        · have hu9 : H8 u = some (.tup [.str "outage", .int 0]) := by rw [hu8, hwy]; rfl
          walk_at "xs"
          refine call_law_first O.rok (e8 _ _ (e67 _ _ hs)) (e8 _ _ (e67 _ _ he')) (fun H9 e9 => ?_)
          walk_at "xs"
          refine call_law_first O.rok (e9 _ _ (e8 _ _ (e67 _ _ hs))) (e9 _ _ (e8 _ _ (e67 _ _ he'))) (fun H10 e10 => ?_)
          walk_at "xs"
          refine xNewT (by simp) (fun t11 H11 ht11 e11 h11 => ?_)
          walk_at "xs"
          have e811 := e9.trans (e10.trans e11)
          have hx11 := e811 _ _ (e8 _ _ hx7)
          refine itD (fun c3 => ?_) (fun c3 => ?_)
          · walk_at "xs"
            refine ⟨tyL hx11, ?_⟩
            walk_at "xs"
            refine xApp1 hx11 (by omega) ?_
            refine ⟨⟨_, _, _, _, rfl⟩, ex_mut (e67.trans (e8.trans e811)) hy2H, by rw [upd_ne n24]; exact e811 _ _ (e8 _ _ h47), by rw [upd_ne n25]; exact e811 _ _ (e8 _ _ h57), _, upd_same, ?_⟩
            rw [sgE, main (.inl hwy)]
            have c4 : p.F (lo - p.b) < p.F (hi - p.b) := Int.ofNat_lt.mp c3
            unfold optE
            rw [if_pos c4]
            exact All2.app (All2.mono (fun v x h => ent_upd hx11 v x (ent_ex (e8.trans e811) v x h)) al7) (All2.one (ent_upd hx11 _ _ ⟨t11, u, rfl, h11, e811 _ _ hu8⟩))
          · have c4 : ¬ p.F (lo - p.b) < p.F (hi - p.b) := fun z => c3 (Int.ofNat_lt.mpr z)
            have z := none_end e811 (by rw [main (.inl hwy)]; unfold optE; rw [if_neg c4])
            exact ⟨⟨_, _, _, _, rfl⟩, z.2⟩
        · have hu9 : H8 u = some (.tup [.str "busy", .int 0]) := by rw [hu8, hwy]; rfl
          walk_at "xs"
          refine itD (fun c2 => ?_) (fun c2 => ?_)
          · walk_at "xs"
            refine call_law_first O.rok (e8 _ _ (e67 _ _ hs)) (e8 _ _ (e67 _ _ he')) (fun H9 e9 => ?_)
            walk_at "xs"
            refine call_law_first O.rok (e9 _ _ (e8 _ _ (e67 _ _ hs))) (e9 _ _ (e8 _ _ (e67 _ _ he'))) (fun H10 e10 => ?_)
            walk_at "xs"
            refine xNewT (by simp) (fun t11 H11 ht11 e11 h11 => ?_)
            walk_at "xs"
            have e811 := e9.trans (e10.trans e11)
            have hx11 := e811 _ _ (e8 _ _ hx7)
            refine itD (fun c3 => ?_) (fun c3 => ?_)
            · walk_at "xs"
              refine ⟨tyL hx11, ?_⟩
              walk_at "xs"
              refine xApp1 hx11 (by omega) ?_
              refine ⟨⟨_, _, _, _, rfl⟩, ex_mut (e67.trans (e8.trans e811)) hy2H, by rw [upd_ne n24]; exact e811 _ _ (e8 _ _ h47), by rw [upd_ne n25]; exact e811 _ _ (e8 _ _ h57), _, upd_same, ?_⟩
              rw [sgE, main (.inr c2)]
              have c4 : p.F (lo - p.b) < p.F (hi - p.b) := Int.ofNat_lt.mp c3
              unfold optE
              rw [if_pos c4]
              exact All2.app (All2.mono (fun v x h => ent_upd hx11 v x (ent_ex (e8.trans e811) v x h)) al7) (All2.one (ent_upd hx11 _ _ ⟨t11, u, rfl, h11, e811 _ _ hu8⟩))
            · have c4 : ¬ p.F (lo - p.b) < p.F (hi - p.b) := fun z => c3 (Int.ofNat_lt.mpr z)
              have z := none_end e811 (by rw [main (.inr c2)]; unfold optE; rw [if_neg c4])
              exact ⟨⟨_, _, _, _, rfl⟩, z.2⟩
          · exact none_end (ex_refl _) (by
              unfold Par.segE
              rw [if_neg]
              rintro ⟨_, z | z⟩
              · rw [hwy] at z; cases z
              · exact c2 z)
      · exact none_end (ex_refl _) (segE_no c1)
    · rintro σ' H6 ⟨⟨a, b, c, d, rfl⟩, e6, h46, h56, xs, hx6, al⟩
      rw [← segs_sgN] at al
      have xl : xs.length ≤ 4 := by
        have h1 := al.len
        have h2 := sgN_len (p := p) bs (bs.length - 1)
        rw [← segs_sgN] at h2
        omega
      walk_at "xs"
      refine call_law_first O.rok (e6 _ _ hs) (e6 _ _ he') (fun H7 e7 => ?_)
      have e67 := e6.trans e7
      have hx7 := e7 _ _ hx6
      refine xName ?_
      with_reducible refine xSeqJ (fun σ' H' => (∃ a b c d, σ' = [some (.ref sl), some (.ref e), some (.int p.b), some (.ref wd), some (.int p.L), some (.int p.f), some (.int p.a), some (.ref y4), some (.ref y2), some (.int p.behind), a, b, some (.int (p.last2 : Int)), none, c, d]) ∧
        Ex H H' ∧ ∃ xs, H' y2 = some (.lst xs) ∧ All2 (EntAt H') xs (p.found2 bs)) ?_ (fun N hN => ?_)
      rotate_left
      · walk_at "xs"
        refine call_law_place (k := p.last1) rfl O.rok (e67 _ _ hs) (e67 _ _ he') (fun H8 e8 => ?_)
        have e678 := e67.trans e8
        have hx8 := e8 _ _ hx7
        have al8 := All2.mono (ent_ex (e7.trans e8)) al
        have tt : p.b + off p.g p.n p.last1 = p.t p.last1 := rfl
        walk_at "xs"
        rw [tt]
        have out : ¬ p.in1 (p.t p.last1) → N [some (.ref sl), some (.ref e), some (.int p.b), some (.ref wd), some (.int p.L), some (.int p.f), some (.int p.a), some (.ref y4), some (.ref y2), some (.int p.behind), a, b, some (.int (p.last1 : Int)), none, c, d] H8 := fun z =>
          hN _ _ ⟨⟨a, b, c, d, by unfold Par.last2; rw [if_neg z]⟩, e678, xs, hx8, by unfold Par.found2; rw [if_neg z, List.append_nil]; exact al8⟩
        refine itD (fun c1 => ?_) (fun c1 => ?_)
        · walk_at "xs"
          refine itD (fun c2 => ?_) (fun c2 => ?_)
          · have cc : p.in1 (p.t p.last1) := ⟨c1, c2⟩
            walk_at "xs"
            refine ⟨tyL hx8, ?_⟩
            walk_at "xs"
            refine call_law_first O.rok (e678 _ _ hs) (e678 _ _ he') (fun H9 e9 => ?_)
            walk_at "xs"
            refine xNewT (by simp) (fun u H10 hu e10 h10 => ?_)
            walk_at "xs"
            refine xNewT (by simp) (fun t11 H11 ht11 e11 h11 => ?_)
            walk_at "xs"
            have e811 := e9.trans (e10.trans e11)
            have hx11 := e811 _ _ hx8
            refine xApp1 hx11 (by omega) ?_
            have eA : Ex H (upd H11 y2 (.lst (xs ++ [.ref t11]))) := ex_mut (e678.trans e811) hy2H
            have alA : All2 (EntAt (upd H11 y2 (.lst (xs ++ [.ref t11])))) (xs ++ [.ref t11]) (p.found2 bs) := by
              unfold Par.found2
              rw [if_pos cc]
              exact All2.app (All2.mono (fun v x h => ent_upd hx11 v x (ent_ex e811 v x h)) al8) (All2.one (ent_upd hx11 _ _ ⟨t11, u, rfl, h11, e11 _ _ h10⟩))
            have hA : upd H11 y2 (.lst (xs ++ [.ref t11])) y2 = some (.lst (xs ++ [.ref t11])) := upd_same
            generalize upd H11 y2 (.lst (xs ++ [.ref t11])) = H12 at eA alA hA ⊢
            walk_at "xs"
            refine call_law_first O.rok (eA _ _ hs) (eA _ _ he') (fun H13 e13 => ?_)
            walk_at "xs"
            refine hN _ _ ⟨⟨a, b, c, d, by unfold Par.last2; rw [if_pos cc]; rfl⟩, eA.trans e13, _, e13 _ _ hA, All2.mono (ent_ex e13) alA⟩
          · walk_at "xs"
            exact out (fun z => c2 z.2)
        · walk_at "xs"
          exact out (fun z => c1 z.1)
      rintro σ' H8 ⟨⟨a, b, c, d, rfl⟩, e8, xs2, hx8, al8⟩
      have xl2 : xs2.length ≤ 1000 := by
        rw [al8.len]
        have h2 := sgN_len (p := p) bs (bs.length - 1)
        rw [← segs_sgN] at h2
        unfold Par.found2
        rw [List.length_append]
        split <;> simp <;> omega
      walk_at "xs"
      refine cgoAll2 (R := EntAt) (S := EntAt) ent_ex ent_ex ent_era hx8 al8 (by omega) (fun e => if e.1 < p.last2 then some e else none) ?_ ?_
      · intro i v en H9 Y1 N1 hi1 e9 hr1 hY hN
        obtain ⟨t, u, rfl, ht, hu⟩ := hr1
        walk_at "xs"
        refine ⟨rfl, ?_⟩
        walk_at "xs"
        refine itD (fun c1 => ?_) (fun c1 => ?_)
        · walk_at "xs"
          exact hY _ _ _ (ex_refl _) (if_pos (by omega)) ⟨t, u, rfl, ht, hu⟩
        · exact hN _ (ex_refl _) (if_neg (by omega))
      · intro y9 H9 l9 hy9 e9 h9 al9
        rw [filt_eq] at al9
        have xl9 : l9.length ≤ 1000 := by
          rw [al9.len]
          have := List.length_filter_le (fun e : Ent => decide (e.1 < p.last2)) (p.found2 bs)
          have := al8.len
          omega
        walk_at "xs"
        refine cgoAll2 (R := EntAt) (S := EntAt) ent_ex ent_ex ent_era h9 al9 (by omega) (fun e => some (e.1, min e.2.1 p.last2, e.2.2)) ?_ ?_
        · intro i v en H10 Y1 N1 hi1 e10 hr1 hY hN
          obtain ⟨t, u, rfl, ht, hu⟩ := hr1
          walk_at "xs"
          refine ⟨rfl, ?_⟩
          walk_at "xs"
          refine xMin2 (c := ((min en.2.1 p.last2 : Nat) : Int)) (by omega) ?_
          walk_at "xs"
          refine xNewT (by simp) (fun t2 H11 ht2 e11 h11 => ?_)
          exact hY _ _ _ e11 rfl ⟨t2, u, rfl, h11, e11 _ _ hu⟩
        · intro y10 H10 l10 hy10 e10 h10 al10
          rw [map_eq] at al10
          have xl10 : l10.length ≤ 1000 := by
            rw [al10.len, List.length_map, ← al9.len]
            exact xl9
          walk_at "xs"
          refine xNewT (by simp) (fun u H11 hu e11 h11 => ?_)
          walk_at "xs"
          refine xNewT (by simp) (fun t12 H12 ht12 e12 h12 => ?_)
          walk_at "xs"
          refine xNewL (by simp) (fun y13 H13 hy13 e13 h13 => ?_)
          refine xCat (e13 _ _ (e12 _ _ (e11 _ _ h10))) h13 (by simp; omega) (fun y14 H14 hy14 e14 h14 => ?_)
          have e1014 := e11.trans (e12.trans (e13.trans e14))
          have eall := e8.trans (e9.trans (e10.trans (e11.trans (e12.trans e13))))
          refine q y14 _ H14 (ex_free eall hy14) (eall.trans e14) h14 ?_
          rw [← law_ents O hsrt hmem2]
          exact All2.app (All2.mono (ent_ex e1014) al10) (All2.one ⟨t12, u, rfl, e14 _ _ (e13 _ _ h12), e14 _ _ (e13 _ _ (e12 _ _ h11))⟩)
end RK
end

section
/-! RKit7: objects made; what stays around the well. -/
namespace RK
open PySem L2 RS
section
variable {K : PySem.W.Frag} {σ : St} {H : Hp} {D : Ends} {Q : VK} {A : Ad}
theorem mk_ex {H H' : Hp} {x dx : Addr} {o1 o2 : HO} (hx : H x = none) (hd : H dx = none) (f : ∀ b o, b ≠ x → upd (upd H dx o1) x o2 b = some o → H' b = some o) : Ex H H' := fun b o h => by
  have n1 : b ≠ x := ne_of_none h hx
  have n2 : b ≠ dx := ne_of_none h hd
  exact f b o n1 (by rw [upd_ne n1, upd_ne n2]; exact h)
theorem mk_at {H : Hp} {x dx b : Addr} {o1 o2 o : HO} (hx : H x = none) (hd : H dx = none) (h : H b = some o) : upd (upd H dx o1) x o2 b = some o := by
  rw [upd_ne (ne_of_none h hx), upd_ne (ne_of_none h hd)]
  exact h
theorem rule_mk {H : Hp} {x dx r : Addr} {o1 o2 : HO} {g : List Int} {n : Nat} (hx : H x = none) (hd : H dx = none) (h : RuleAt A H r g n) : RuleAt A (upd (upd H dx o1) x o2) r g n :=
  let ⟨d, l, e, s, ⟨a, b, c, k, m⟩⟩ := h; ⟨d, l, e, s, ⟨a, mk_at hx hd b, mk_at hx hd c, mk_at hx hd k, mk_at hx hd m⟩⟩
theorem scene_mk {H : Hp} {x dx r : Addr} {o1 o2 : HO} {p : Par} (hx : H x = none) (hd : H dx = none) (h : SceneAt A H r p) : SceneAt A (upd (upd H dx o1) x o2) r p :=
  let ⟨d, r, st, w, t, ⟨a, b, c, k, e, m⟩⟩ := h; ⟨d, r, st, w, t, ⟨a, mk_at hx hd b, rule_mk hx hd c, mk_at hx hd k, mk_at hx hd e, mk_at hx hd m⟩⟩
theorem mkRule {E : XK} {l e : Addr} {g : List Int} {n : Nat} (R : Rok g n) (hl : H l = some (.lst (g.map V.int))) (he : H e = some (.tup [.str "repeat", .int (n : Int)])) (q : ∀ x H', Ex H H' → RuleAt A H' x g n → Q (.ref x) H') :
    nMake A.c_Rule (sp_Rule_init A) [] E [.ref l, .ref e] H Q := fun x dx hx hd nd =>
  ⟨x, dx, l, e, g, n, rfl, R, upd_same, mk_at hx hd hl, mk_at hx hd he, fun H' f RA => ⟨rfl, q x H' (mk_ex hx hd f) RA⟩⟩
theorem mkScene {E : XK} {r st l t : Addr} {p : Par} {L : Int} (eL : L = p.L) (O : p.Ok) (hr : RuleAt A H r p.g p.n) (hst : H st = some (.lst [.int 0, .int p.b])) (hl : H l = some (.lst [.ref t])) (ht : H t = some (.tup [.int p.f, .int p.a])) (q : ∀ x H', Ex H H' → SceneAt A H' x p → Q (.ref x) H') :
    nMakeK A.c_Scene 2 2 (sp_Scene_init A) (fun vs zs => vs ++ zs) E [.ref r, .ref st] [.ref l, .int L] H Q := ⟨rfl, rfl, fun x dx hx hd nd =>
  ⟨x, dx, r, st, l, t, p, by rw [eL]; rfl, O, upd_same, rule_mk hx hd hr, mk_at hx hd hst, mk_at hx hd hl, mk_at hx hd ht, fun H' f SA => ⟨rfl, q x H' (mk_ex hx hd f) SA⟩⟩⟩
theorem mkRun {E : XK} {sc : Addr} {p : Par} (SA : SceneAt A H sc p) (q : ∀ x H', Ex H H' → RunAt A H' x p → Q (.ref x) H') : nMake A.c_Run (sp_Run_init A) [] E [.ref sc] H Q := fun x dx hx hd nd =>
  ⟨x, dx, sc, p, rfl, upd_same, scene_mk hx hd SA, fun H' f RA => ⟨rfl, q x H' (mk_ex hx hd f) RA⟩⟩
/-- what is not frozen -/
def NF (o : HO) : Prop := ∀ od u, o ≠ .frz od u
theorem run_nf {H H' : Hp} {x : Addr} {p : Par} (f : ∀ b o, NF o → H b = some o → H' b = some o) (h : RunAt A H x p) : RunAt A H' x p := by
  obtain ⟨dx, sc, r, bg, ch, sv, cl, wt, s0, s1, ff, ⟨a, b, c, d, e, g, i, j⟩⟩ := h
  have n1 : ∀ {C dx fs}, NF (.ins C dx fs) := fun {C dx fs} od u z => by cases z
  have n2 : ∀ {xs}, NF (.lst xs) := fun {xs} od u z => by cases z
  have n3 : ∀ {xs}, NF (.tup xs) := fun {xs} od u z => by cases z
  have n4 : ∀ {xs}, NF (.dK xs) := fun {xs} od u z => by cases z
  have fr : ∀ {r g n}, RuleAt A H r g n → RuleAt A H' r g n := fun {r g n} h => by
    obtain ⟨d, l, e, s, ⟨a, b, c, k, m⟩⟩ := h
    exact ⟨d, l, e, s, ⟨a, f _ _ n1 b, f _ _ n2 c, f _ _ n3 k, f _ _ n2 m⟩⟩
  obtain ⟨d1, r1, st1, w1, t1, ⟨a1, b1, c1, k1, e1, m1⟩⟩ := c
  exact ⟨dx, sc, r, bg, ch, sv, cl, wt, s0, s1, ff, ⟨a, f _ _ n1 b, ⟨d1, r1, st1, w1, t1, ⟨a1, f _ _ n1 b1, fr c1, f _ _ n2 k1, f _ _ n2 e1, f _ _ n3 m1⟩⟩, fr d, f _ _ n2 e, f _ _ n4 g, f _ _ n3 i, f _ _ n3 j⟩⟩
theorem ex_nx {G H H' : Hp} {wl : Addr} (e : Ex G H) (n : G wl = none) (f : Nx wl H H') : Ex G H' := fun b o h => f b o (ne_of_none h n) (e b o h)
theorem nx_era {H H' : Hp} {wl : Addr} (f : Nx wl H H') : Ex (era H wl) H' := fun b o h => by
  by_cases e : b = wl
  · subst e; rw [era_none] at h; cases h
  · unfold era at h
    rw [if_neg e] at h
    exact f b o e h
theorem era_mono {H H' : Hp} {wl : Addr} (f : Ex H H') : Ex (era H wl) (era H' wl) := fun b o h => by
  by_cases e : b = wl
  · subst e; rw [era_none] at h; cases h
  · unfold era at h
    rw [if_neg e] at h
    exact era_at (f b o h) e
end
/-! ### the entries -/
section
variable {p : Par}
theorem part_mem : ∀ {E : List Ent} {s T : Nat}, Part p s E T → ∀ e, e ∈ E → e.1 < e.2.1 ∧ e.2.1 ≤ T ∧ p.why e.1 = e.2.2 ∧ p.why (e.2.1 - 1) = e.2.2
  | [], _, _, _, e, h => by cases h
  | (l, h, w) :: r, s, T, q, e, m => by
    have h1 := q.2.1
    have h2 := Part.le q.2.2.2
    rcases List.mem_cons.mp m with rfl | m
    · exact ⟨h1, h2, (q.2.2.1 l (Nat.le_refl _) h1).1, (q.2.2.1 (h - 1) (by omega) (by show h - 1 < h; omega)).1⟩
    · exact part_mem q.2.2.2 e m
theorem ents_last : p.ents[p.ents.length - 1]? = some (p.k3, p.k3 + 1, .srv) := by
  rw [ents_head, List.length_append, List.length_singleton, Nat.add_sub_cancel, List.getElem?_append_right (Nat.le_refl _), Nat.sub_self]
  rfl
theorem cut_le (lo hi : Nat) (E : List Ent) : ∀ e ∈ cutE lo hi E, e.1 ≤ e.2.1 := fun e h => by
  have := (List.mem_filter.mp h).2
  have := of_decide_eq_true this
  omega
theorem k3_le (O : p.Ok) {M : Int} (h1 : p.L ≤ M) (h2 : p.a ≤ M) : (p.k3 : Int) ≤ M := by
  have hL := O.L1
  have hb := O.b1
  have hB : p.B = max p.b p.L := rfl
  have a1 : (p.F (p.a - p.b) : Int) ≤ max (p.a - p.b) 0 := fst_le_toNat O.rok _
  have a2 : (p.F (p.B - p.b) : Int) ≤ max (p.B - p.b) 0 := fst_le_toNat O.rok _
  unfold Par.k3
  split
  · split <;> omega
  · split <;> omega
theorem why_shaped (c : Why) : SeqAt.shaped (whyD c) = true := by
  cases c <;> decide +kernel
theorem shape1 (a b c d : Int) : SeqAt.shaped (.list [.tuple [.int a, .int b], .tuple [.int c, .int d]]) = true := by
  simp [SeqAt.shaped, PyData.canLay0, PyData.canLayAll0, PyData.depth, PyData.depthAll]
theorem shape2 (a b : Int) : SeqAt.shaped (.tuple [.str "served", .int a, .int b]) = true := by
  simp [SeqAt.shaped, PyData.canLay0, PyData.canLayAll0, PyData.depth, PyData.depthAll]
  decide +kernel
theorem shape3 (a b c : Int) : SeqAt.shaped (.tuple [.int a, .int b, .int c]) = true := by
  simp [SeqAt.shaped, PyData.canLay0, PyData.canLayAll0, PyData.depth, PyData.depthAll]
end
end RK
end

section
namespace RK
open PySem L2 RS
variable {P : Program} {w : World} {K : PySem.W.Frag} {mg : Str → Option Value} {base : Heap} {A : Ad}

theorem p25 : (10 : Int) ^ Int.toNat 25 = 10000000000000000000000000 := by decide +kernel
theorem p26 : (10 : Int) ^ Int.toNat 26 = 100000000000000000000000000 := by decide +kernel
theorem steps_of : ∀ l : List V, (∀ v, v ∈ l → ∃ z : Int, v = .int z ∧ 1 ≤ z ∧ z ≤ 6) → ∃ g : List Int, l = g.map V.int ∧ ∀ x, x ∈ g → 1 ≤ x ∧ x ≤ 6
  | [], _ => ⟨[], rfl, by simp⟩
  | v :: l, h => by
    obtain ⟨g, hg, hg2⟩ := steps_of l (fun v h' => h v (List.mem_cons_of_mem _ h'))
    obtain ⟨z, rfl, h1, h2⟩ := h v (List.mem_cons_self ..)
    refine ⟨z :: g, by rw [hg]; rfl, fun x hx => ?_⟩
    rcases List.mem_cons.mp hx with rfl | hx
    · exact ⟨h1, h2⟩
    · exact hg2 x hx
def sp_law_right : Sp := fun vs H Q _ => ∃ wl, vs = [.ref wl] ∧ Well H wl 0 ∧ ∀ H1, Nx wl H H1 → Q (.bl true) H1
theorem call_law_right {H : Hp} {wl : Addr} {Q : VK} {E : XK} (h : Well H wl 0) (q : ∀ H1, Nx wl H H1 → Q (.bl true) H1) : sp_law_right ([.ref wl] ++ []) H Q E := ⟨wl, rfl, h, q⟩
theorem ok_law_right (T : Txt K mg A) : FnOk P w K mg base CX0 10 A.f_law_right A.d_law_right ["_law_well_here"] sp_law_right := by
  refine T.f_law_right.ok sc_law_right (fun vs H Q E h => ?_) (fun cdv AR outer s H vs Q E hr h => ?_)
  · obtain ⟨wl, rfl, _⟩ := h; rfl
  · obtain ⟨wl, rfl, w0, q⟩ := h
    have big : ∀ m : Int, m ≤ 1000000000000000000000000000 → m < 2 ^ 200 := fun m h => Int.lt_of_le_of_lt h (by decide +kernel)
    refine ⟨_, pss_cons (ps_setLc (i := 1) (own := [("_law_k", 16)]) (by rfl) sc_law_right.nd (by rfl) (by rfl) (sw_true (by rfl) (by rfl) (by rfl) (by decide +kernel)) (pi_range1 (by rfl) T.z_range (pa_cons (pe_op op_add pe_int (pe_call (ok_law_draw T) (hr.mono (by decide)) (by rfl) T.g_law_draw T.f_law_draw.kp T.b_law_draw .nil pass0 (pa_cons (pv 0) (pa_cons pe_int pa_nil)))) pa_nil)) (blkOk_by (own := [("_law_k", 16)]) (N := n_law_right) (sc := (defScope s_law_right)) (by decide +kernel)) (fun _ _ _ _ _ => (pg_name (i := 16) sc_law_right.nd (by rfl) (by first | exact Or.inl rfl | exact Or.inr rfl))) (fun _ _ _ _ _ => pts_nil) (fun _ _ _ _ _ => (pe_op op_add pe_int (pe_call (ok_law_draw T) (hr.mono (by decide)) (by rfl) T.g_law_draw T.f_law_draw.kp T.b_law_draw .nil pass0 (pa_cons (pv 0) (pa_cons pe_int pa_nil)))))) (
      pss_cons (ps_set (i := 2) sc_law_right.nd (by rfl) (by first | exact Or.inl rfl | exact Or.inr rfl) (pe_tup (pa_cons pe_str (pa_cons (pe_op op_add pe_int (pe_call (ok_law_draw T) (hr.mono (by decide)) (by rfl) T.g_law_draw T.f_law_draw.kp T.b_law_draw .nil pass0 (pa_cons (pv 0) (pa_cons (pe_callB (callLen (K := K) (by rfl)) (by rfl) T.z_len (by decide +kernel) (pa_cons (pv 1) pa_nil)) pa_nil)))) pa_nil)))) (
      pss_cons (ps_set (i := 3) sc_law_right.nd (by rfl) (by first | exact Or.inl rfl | exact Or.inr rfl) (pe_op op_add pe_int (pe_call (ok_law_draw T) (hr.mono (by decide)) (by rfl) T.g_law_draw T.f_law_draw.kp T.b_law_draw .nil pass0 (pa_cons (pv 0) (pa_cons (pe_call (ok_law_one T) (hr.mono (by decide)) (by rfl) T.g_law_one T.f_law_one.kp T.b_law_one .nil pass0 (pa_cons (pv 0) (pa_cons (pe_lst (pa_cons pe_int (pa_cons pe_int (pa_cons (pe_op op_pow pe_int pe_int) pa_nil)))) pa_nil))) pa_nil))))) (
      pss_cons (ps_set (i := 4) sc_law_right.nd (by rfl) (by first | exact Or.inl rfl | exact Or.inr rfl) (pe_op op_add pe_int (pe_call (ok_law_draw T) (hr.mono (by decide)) (by rfl) T.g_law_draw T.f_law_draw.kp T.b_law_draw .nil pass0 (pa_cons (pv 0) (pa_cons pe_int pa_nil))))) (
      pss_cons (ps_set (i := 5) sc_law_right.nd (by rfl) (by first | exact Or.inl rfl | exact Or.inr rfl) (pe_op op_add (pe_call (ok_law_one T) (hr.mono (by decide)) (by rfl) T.g_law_one T.f_law_one.kp T.b_law_one .nil pass0 (pa_cons (pv 0) (pa_cons (pe_lst (pa_cons pe_int (pa_cons (pv 3) (pa_cons (pv 4) pa_nil)))) pa_nil))) (pe_call (ok_law_draw T) (hr.mono (by decide)) (by rfl) T.g_law_draw T.f_law_draw.kp T.b_law_draw .nil pass0 (pa_cons (pv 0) (pa_cons (pe_call (ok_law_one T) (hr.mono (by decide)) (by rfl) T.g_law_one T.f_law_one.kp T.b_law_one .nil pass0 (pa_cons (pv 0) (pa_cons (pe_lst (pa_cons pe_int (pa_cons pe_int (pa_cons (pe_op op_pow pe_int pe_int) pa_nil)))) pa_nil))) pa_nil))))) (
      pss_cons (ps_set (i := 6) sc_law_right.nd (by rfl) (by first | exact Or.inl rfl | exact Or.inr rfl) (pe_tup (pa_cons (pv 5) (pa_cons (pe_op op_add (pe_op op_add (pv 5) pe_int) (pe_call (ok_law_draw T) (hr.mono (by decide)) (by rfl) T.g_law_draw T.f_law_draw.kp T.b_law_draw .nil pass0 (pa_cons (pv 0) (pa_cons (pe_call (ok_law_one T) (hr.mono (by decide)) (by rfl) T.g_law_one T.f_law_one.kp T.b_law_one .nil pass0 (pa_cons (pv 0) (pa_cons (pe_lst (pa_cons pe_int (pa_cons pe_int (pa_cons (pe_op op_pow pe_int pe_int) pa_nil)))) pa_nil))) pa_nil)))) pa_nil)))) (
      pss_cons (ps_lock (ps_set (i := 7) sc_law_right.nd (by rfl) (by first | exact Or.inl rfl | exact Or.inr rfl) (pe_make T.mk_Run (ok_Run_init T) (hr.mono (by decide)) (by rfl) T.g_Run T.b_Run_init .nil pass0 (pa_cons (pe_makeK T.mk_Scene (ok_Scene_init T) (hr.mono (by decide)) (by rfl) T.g_Scene T.kb_Scene_init pass0 (pa_cons (pe_make T.mk_Rule (ok_Rule_init T) (hr.mono (by decide)) (by rfl) T.g_Rule T.b_Rule_init .nil pass0 (pa_cons (pv 1) (pa_cons (pv 2) pa_nil))) (pa_cons (pe_lst (pa_cons pe_int (pa_cons (pv 4) pa_nil))) pa_nil)) (pk_cons (pe_lst (pa_cons (pv 6) pa_nil)) (pk_cons (pv 3) pk_nil))) pa_nil)))) (
      pss_cons (ps_set (i := 8) sc_law_right.nd (by rfl) (by first | exact Or.inl rfl | exact Or.inr rfl) (pe_call (ok_law_entries T) (hr.mono (by decide)) (by rfl) T.g_law_entries T.f_law_entries.kp T.b_law_entries .nil pass0 (pa_cons (pv 1) (pa_cons (pv 2) (pa_cons (pv 4) (pa_cons (pv 6) (pa_cons (pv 3) pa_nil))))))) (
      pss_cons (ps_set (i := 9) sc_law_right.nd (by rfl) (by first | exact Or.inl rfl | exact Or.inr rfl) (pe_ix (ixT (K := K) (by rfl)) (pe_ix (ixL (K := K) (by rfl)) (pv 8) (pe_un un_neg pe_int) (fun _ _ => rfl)) pe_int (fun _ _ => rfl))) (
      pss_cons (ps_set (i := 10) sc_law_right.nd (by rfl) (by first | exact Or.inl rfl | exact Or.inr rfl) (pe_op op_add (pv 4) (pe_call (ok_law_place T) (hr.mono (by decide)) (by rfl) T.g_law_place T.f_law_place.kp T.b_law_place .nil pass0 (pa_cons (pv 1) (pa_cons (pv 2) (pa_cons (pv 9) pa_nil)))))) (
      pss_cons (ps_if (PW.pt (pw_or (pt_cmpR (opNeD (K := K) (by rfl) hr.units) (pe_meth0 (pv 7) T.cl_Run T.m_Run_order (ok_Run_order T) (hr.mono (by decide)) T.b_Run_order .nil pass0) (pe_lst (pa_cons (pe_tup (pa_cons pe_int (pa_cons pe_int pa_nil))) (pa_cons (pe_tup (pa_cons (pv 10) (pa_cons pe_int pa_nil))) pa_nil))) (nomark _)) (pw_or1 (pt_cmpR (opNeD (K := K) (by rfl) hr.units) (pe_meth (pv 7) T.cl_Run T.m_Run_outcome (ok_Run_outcome T) (hr.mono (by decide)) T.b_Run_outcome .nil pass0 (pa_cons pe_int pa_nil)) (pe_tup (pa_cons pe_str (pa_cons (pv 9) (pa_cons (pv 10) pa_nil)))) (nomark _))))) (pss_one (ps_ret pe_bl)) pss_nil) (
      pss_cons (ps_if (pt_cmpR (opNeD (K := K) (by rfl) hr.units) (pe_call (ok_history T) (hr.mono (by decide)) (by rfl) T.g_history T.f_history.kp T.b_history .nil pass0 (pa_cons (pv 7) (pa_cons pe_int (pa_cons pe_int (pa_cons (pe_op op_add (pv 9) (pe_op op_pow pe_int pe_int)) pa_nil))))) (pv 8) (nomark _)) (pss_one (ps_ret pe_bl)) pss_nil) (
      pss_cons (ps_for PassesOwn.never (by rfl) (pi_range1 (by rfl) T.z_range (pa_cons pe_int pa_nil)) (pg_name (i := 11) sc_law_right.nd (by rfl) (by first | exact Or.inl rfl | exact Or.inr rfl)) (pss_cons (ps_set (i := 12) sc_law_right.nd (by rfl) (by first | exact Or.inl rfl | exact Or.inr rfl) (pe_call (ok_law_draw T) (hr.mono (by decide)) (by rfl) T.g_law_draw T.f_law_draw.kp T.b_law_draw .nil pass0 (pa_cons (pv 0) (pa_cons (pe_op op_add (pv 9) pe_int) pa_nil)))) (pss_cons (ps_set (i := 13) sc_law_right.nd (by rfl) (by first | exact Or.inl rfl | exact Or.inr rfl) (pe_op op_add (pv 12) (pe_call (ok_law_draw T) (hr.mono (by decide)) (by rfl) T.g_law_draw T.f_law_draw.kp T.b_law_draw .nil pass0 (pa_cons (pv 0) (pa_cons (pe_op op_sub (pe_op op_add (pv 9) pe_int) (pv 12)) pa_nil))))) (pss_cons (ps_set (i := 15) sc_law_right.nd (by rfl) (by first | exact Or.inl rfl | exact Or.inr rfl) (pe_call (ok_law_cut T) (hr.mono (by decide)) (by rfl) T.g_law_cut T.f_law_cut.kp T.b_law_cut .nil pass0 (pa_cons (pv 8) (pa_cons (pv 12) (pa_cons (pv 13) pa_nil))))) (pss_one (ps_if (PW.pt (pw_or (pt_cmpR (opNeD (K := K) (by rfl) hr.units) (pe_call (ok_history T) (hr.mono (by decide)) (by rfl) T.g_history T.f_history.kp T.b_history .nil pass0 (pa_cons (pv 7) (pa_cons pe_int (pa_cons (pv 12) (pa_cons (pv 13) pa_nil))))) (pv 15) (nomark _)) (pw_or1 (pt_cmpR (opNeD (K := K) (by rfl) hr.units) (pe_call (ok_failure_counts T) (hr.mono (by decide)) (by rfl) T.g_failure_counts T.f_failure_counts.kp T.b_failure_counts .nil pass0 (pa_cons (pv 7) (pa_cons pe_int (pa_cons (pv 12) (pa_cons (pv 13) pa_nil))))) (pe_call (ok_law_counts T) (hr.mono (by decide)) (by rfl) T.g_law_counts T.f_law_counts.kp T.b_law_counts .nil pass0 (pa_cons (pv 15) pa_nil)) (nomark _))))) (pss_one (ps_ret pe_bl)) pss_nil)))))) (
      pss_cons (ps_for PassesOwn.never (by rfl) (piList (K := K) (by rfl) (pv 8)) (pgTup (K := K) 3 (by rfl) (by rfl) (pgs_cons (pg_name (i := 12) sc_law_right.nd (by rfl) (by first | exact Or.inl rfl | exact Or.inr rfl)) (pgs_cons (pg_name (i := 13) sc_law_right.nd (by rfl) (by first | exact Or.inl rfl | exact Or.inr rfl)) (pgs_cons (pg_name (i := 14) sc_law_right.nd (by rfl) (by first | exact Or.inl rfl | exact Or.inr rfl)) pgs_nil)))) (pss_one (ps_if (PW.pt (pw_or (pt_cmpR (opNeD (K := K) (by rfl) hr.units) (pe_call (ok_reason T) (hr.mono (by decide)) (by rfl) T.g_reason T.f_reason.kp T.b_reason .nil pass0 (pa_cons (pv 7) (pa_cons pe_int (pa_cons (pv 12) pa_nil)))) (pv 14) (nomark _)) (pw_or1 (pt_cmpR (opNeD (K := K) (by rfl) hr.units) (pe_call (ok_reason T) (hr.mono (by decide)) (by rfl) T.g_reason T.f_reason.kp T.b_reason .nil pass0 (pa_cons (pv 7) (pa_cons pe_int (pa_cons (pe_op op_sub (pv 13) pe_int) pa_nil)))) (pv 14) (nomark _))))) (pss_one (ps_ret pe_bl)) pss_nil))) (
      pss_one (ps_ret (pe_and (pe_cmpR op_isN1 (pe_call (ok_reason T) (hr.mono (by decide)) (by rfl) T.g_reason T.f_reason.kp T.b_reason .nil pass0 (pa_cons (pv 7) (pa_cons pe_int (pa_cons (pe_op op_add (pv 9) pe_int) pa_nil)))) pe_non (nomark _)) (pe_one (pe_cmpR (opEqD (K := K) (by rfl) hr.units) (pe_call (ok_failure_counts T) (hr.mono (by decide)) (by rfl) T.g_failure_counts T.f_failure_counts.kp T.b_failure_counts .nil pass0 (pa_cons (pv 7) (pa_cons pe_int (pa_cons pe_int (pa_cons (pe_op op_pow pe_int pe_int) pa_nil))))) (pe_tup (pa_cons pe_int (pa_cons pe_int (pa_cons pe_int pa_nil)))) (nomark _))))))))))))))))))), ?_⟩
    walk_at "go"
    -- the steps
    refine call_law_draw w0 (by omega) (by decide) (big _ (by decide)) (fun r0 H1 r00 r01 f1 w1 => ?_)
    walk_at "xs"
    obtain ⟨m, hm, hm1, hm4⟩ : ∃ m : Nat, 1 + r0 = (m : Int) ∧ 1 ≤ m ∧ m ≤ 4 := ⟨(1 + r0).toNat, by omega, by omega, by omega⟩
    rw [hm]
    refine cgoDraw (n := m) (by omega) wl 1 w1 (fun v => ∃ z : Int, v = .int z ∧ 1 ≤ z ∧ z ≤ 6) ?_ ?_
    · intro i H2 Y1 N1 hi f2 w2 hY
      walk_at "xs"
      refine ⟨rfl, ?_⟩
      walk_at "xs"
      refine call_law_draw w2 (by omega) (by decide) (big _ (by decide)) (fun r H3 r0 r1 f3 w3 => ?_)
      walk_at "xs"
      exact hY _ _ ⟨_, rfl, by omega, by omega⟩ f3 w3
    · intro st H2 l hst nst f2 h2 hlen hl w2
      obtain ⟨g, rfl, hg⟩ := steps_of l hl
      rw [List.length_map] at hlen
      have w2 := well_le w2 (show 1 + m ≤ 5 by omega)
      have f02 := f1.trans f2
      walk_at "xs"
      rw [List.length_map]
      -- the ending
      refine call_law_draw w2 (by omega) (by omega) (big _ (by omega)) (fun r1 H3 r10 r11 f3 w3 => ?_)
      obtain ⟨n, hn, hn1, hn2⟩ : ∃ n : Nat, 1 + r1 = (n : Int) ∧ 1 ≤ n ∧ n ≤ g.length := ⟨(1 + r1).toNat, by omega, by omega, by omega⟩
      have R : Rok g n := ⟨hn1, hn2, by omega, fun x hx => (hg x hx).1, fun x hx => by have := (hg x hx).2; omega⟩
      have f03 := f02.trans f3
      have h3 := f3 _ _ nst h2
      walk_at "xs"
      rw [hn]
      refine xNewT (by simp) (fun e H4 he e4 he4 => ?_)
      have f04 := f03.trans (nx_ex e4)
      have h4 := e4 _ _ h3
      have w4 := well_ex w3 e4
      have ne := well_tup w4 he4
      walk_at "xs"
      -- how long a service takes
      refine xI ⟨by decide, by decide, by decide⟩ ?_
      rw [p25]
      walk_at "xs"
      refine xNewL (by simp) (fun l5 H5 hl5 e5 h5 => ?_)
      have w5 := well_ex w4 e5
      have n5 := well_some w4 hl5
      walk_at "xs"
      refine call_law_one w5 (by omega) h5 n5 (by simp) (by simp) (fun v5 H6 hv5 f6 w6 => ?_)
      obtain ⟨m5, rfl, m51, m52⟩ : ∃ m5 : Int, v5 = .int m5 ∧ 1 ≤ m5 ∧ m5 ≤ 10000000000000000000000000 := by
        simp at hv5
        rcases hv5 with rfl | rfl | rfl
        · exact ⟨_, rfl, by decide, by decide⟩
        · exact ⟨_, rfl, by decide, by decide⟩
        · exact ⟨_, rfl, by decide, by decide⟩
      walk_at "xs"
      refine call_law_draw w6 (by omega) m51 (big _ (by omega)) (fun r7 H7 r70 r71 f7 w7 => ?_)
      have f47 : Nx wl H4 H7 := (nx_ex e5).trans (f6.trans f7)
      walk_at "xs"
      generalize hL : 1 + r7 = L
      -- the start of client 1
      refine call_law_draw w7 (by omega) (by decide) (big _ (by decide)) (fun r8 H8 r80 r81 f8 w8 => ?_)
      walk_at "xs"
      generalize hb : 1 + r8 = b
      -- the outage
      refine xNewL (by simp) (fun l9 H9 hl9 e9 h9 => ?_)
      have w9 := well_ex w8 e9
      walk_at "xs"
      refine call_law_one w9 (by omega) h9 (well_some w8 hl9) (by simp) (by simp) (fun v9 H10 hv9 f10 w10 => ?_)
      obtain ⟨m9, rfl, m91, m92⟩ : ∃ m9 : Int, v9 = .int m9 ∧ 1 ≤ m9 ∧ m9 ≤ 10000000000000000000000000 := by
        simp at hv9
        rcases hv9 with rfl | rfl | rfl
        · exact ⟨_, rfl, by decide, by decide⟩
        · exact ⟨_, rfl, by omega, by omega⟩
        · exact ⟨_, rfl, by omega, by omega⟩
      walk_at "xs"
      refine xI ⟨by decide, by decide, by decide⟩ ?_
      rw [p25]
      walk_at "xs"
      refine xNewL (by simp) (fun l11 H11 hl11 e11 h11 => ?_)
      have w11 := well_ex w10 e11
      walk_at "xs"
      refine call_law_one w11 (by omega) h11 (well_some w10 hl11) (by simp) (by simp) (fun v11 H12 hv11 f12 w12 => ?_)
      obtain ⟨m11, rfl, m111, m112⟩ : ∃ m5 : Int, v11 = .int m5 ∧ 1 ≤ m5 ∧ m5 ≤ 10000000000000000000000000 := by
        simp at hv11
        rcases hv11 with rfl | rfl | rfl
        · exact ⟨_, rfl, by decide, by decide⟩
        · exact ⟨_, rfl, by decide, by decide⟩
        · exact ⟨_, rfl, by decide, by decide⟩
      walk_at "xs"
      refine call_law_draw w12 (by omega) m111 (big _ (by omega)) (fun r13 H13 r130 r131 f13 w13 => ?_)
      have f713 : Nx wl H7 H13 := f8.trans ((nx_ex e9).trans (f10.trans ((nx_ex e11).trans (f12.trans f13))))
      walk_at "xs"
      generalize hf : m9 + r13 = f
      refine xI ⟨by decide, by decide, by decide⟩ ?_
      rw [p25]
      walk_at "xs"
      refine xNewL (by simp) (fun l14 H14 hl14 e14 h14 => ?_)
      have w14 := well_ex w13 e14
      walk_at "xs"
      refine call_law_one w14 (by omega) h14 (well_some w13 hl14) (by simp) (by simp) (fun v14 H15 hv14 f15 w15 => ?_)
      obtain ⟨m14, rfl, m141, m142⟩ : ∃ m5 : Int, v14 = .int m5 ∧ 1 ≤ m5 ∧ m5 ≤ 10000000000000000000000000 := by
        simp at hv14
        rcases hv14 with rfl | rfl | rfl
        · exact ⟨_, rfl, by decide, by decide⟩
        · exact ⟨_, rfl, by decide, by decide⟩
        · exact ⟨_, rfl, by decide, by decide⟩
      walk_at "xs"
      refine call_law_draw w15 (by omega) m141 (big _ (by omega)) (fun r16 H16 r160 r161 f16 w16 => ?_)
      walk_at "xs"
      generalize ha : f + 1 + r16 = a
      refine xNewT (by simp) (fun wd H17 hwd e17 h17 => ?_)
      have f417 : Nx wl H4 H17 := f47.trans (f713.trans ((nx_ex e14).trans (f15.trans (f16.trans (nx_ex e17)))))
      have f017 := f04.trans f417
      have w17 := well_ex w16 e17
      have nwd := well_tup w17 h17
      have hs17 := f417 _ _ nst h4
      have he17 := f417 _ _ ne he4
      let p : Par := ⟨g, n, L, b, f, a⟩
      have O : p.Ok := ⟨R, (by show 1 ≤ L; omega), (by show 1 ≤ b; omega), (by show 1 ≤ f; omega), (by show f < a; omega)⟩
      have k3b : (p.k3 : Int) ≤ 100000000000000000000000000 := k3_le O (by show L ≤ _; omega) (by show a ≤ _; omega)
      clear w0 f1 w1 f2 h2 w2 f02 f3 f03 h3 e4 h4 w4 he4 e5 h5 w5 f6 w6 f7 w7 f47 f8 w8 e9 h9 w9 f10 w10 e11 h11 w11 f12 w12 f13 w13 f713 e14 h14 w14 f15 w15 f16 w16 e17 f417 f04
      -- the run is made, the well locked
      obtain ⟨wa, wb, wc, hw17, wc0, wc1⟩ := w17
      walk_at "xs"
      refine xLock hw17 trivial (fun od H18 f18 h18 => ?_)
      have hs18 := f18 _ _ nst hs17
      have he18 := f18 _ _ ne he17
      have hwd18 := f18 _ _ nwd h17
      walk_at "xs"
      refine mkRule R hs18 he18 (fun ru H19 e19 hru => ?_)
      walk_at "xs"
      refine xNewL (by simp) (fun st2 H20 hst2 e20 h20 => ?_)
      walk_at "xs"
      refine xNewL (by simp) (fun wl2 H21 hwl2 e21 h21 => ?_)
      walk_at "xs"
      refine mkScene (p := p) rfl O (rule_ex (e20.trans e21) hru) (e21 _ _ h20) h21 ((e19.trans (e20.trans e21)) _ _ hwd18) (fun sc H22 e22 hsc => ?_)
      walk_at "xs"
      refine mkRun hsc (fun go H23 e23 hgo => ?_)
      walk_at "xs"
      have e1823 := e19.trans (e20.trans (e21.trans (e22.trans e23)))
      have h23 := e1823 _ _ h18
      refine ⟨h23, ?_⟩
      -- what stands beside the well
      have nfw : ∀ b o, NF o → H23 b = some o → b ≠ wl := fun b o nf hb z => by
        rw [z, h23] at hb
        cases hb
        exact nf _ _ rfl
      have w24 : Well (upd H23 wl (.lst [.int wa, .int wb, .int wc])) wl 20 := ⟨wa, wb, wc, upd_same, wc0, by omega⟩
      have eG : Ex (era H23 wl) (upd H23 wl (.lst [.int wa, .int wb, .int wc])) := era_upd
      have G0 : era H23 wl wl = none := era_none
      have gR : RunAt A (era H23 wl) go p := run_nf (fun b o nf hb => era_at hb (nfw b o nf hb)) hgo
      have gS : era H23 wl st = some (.lst (g.map V.int)) := era_at (e1823 _ _ hs18) nst
      have gE : era H23 wl e = some (.tup [.str "repeat", .int (n : Int)]) := era_at (e1823 _ _ he18) ne
      have gW : era H23 wl wd = some (.tup [.int f, .int a]) := era_at (e1823 _ _ hwd18) nwd
      have f24 : Nx wl H (upd H23 wl (.lst [.int wa, .int wb, .int wc])) := ((f017.trans (fun b o nb hb => f18 b o nb hb)).trans (nx_ex e1823)).trans nx_upd
      generalize upd H23 wl (.lst [.int wa, .int wb, .int wc]) = H24 at w24 eG f24 ⊢
      generalize era H23 wl = G at eG G0 gR gS gE gW
      clear hw17 hs17 he17 h17 hs18 he18 hwd18 h18 f18 f017 e19 e20 e21 e22 e23 h20 h21 hru hsc hgo e1823 h23 nfw wc0 wc1
      walk_at "xs"
      -- the law's own entries
      refine call_law_entries (p := p) O (eG _ _ gS) (eG _ _ gE) (eG _ _ gW) (fun y xs H25 hy e25 h25 al25 => ?_)
      have w25 := well_ex w24 e25
      have ny := well_some w24 hy
      have eG2 : Ex G (era H25 wl) := fun b o hb => era_at (e25 _ _ (eG b o hb)) (ne_of_none hb G0)
      have gR2 := run_ex eG2 gR
      have gS2 := eG2 _ _ gS
      have gE2 := eG2 _ _ gE
      have gY : era H25 wl y = some (.lst xs) := era_at h25 ny
      have gA : All2 (EntAt (era H25 wl)) xs p.ents := by
        obtain ⟨_, _, _, hw, _, _⟩ := w25
        exact All2.mono (fun v x h => ent_era hw v x h) al25
      have G20 : era H25 wl wl = none := era_none
      have eG25 : Ex (era H25 wl) H25 := ex_era
      have f25 : Nx wl H H25 := f24.trans (nx_ex e25)
      generalize era H25 wl = G2 at gR2 gS2 gE2 gY gA G20 eG25
      clear eG2 eG gR gS gE gW e25 h25 al25 w24 f24 G0
      obtain ⟨vl, hvl, tl, ul, rfl, htl, hul⟩ := gA.get ents_last
      have hvl2 : xs[xs.length - 1]? = some (.ref tl) := by rw [gA.len]; exact hvl
      have hY25 := eG25 _ _ gY
      have htl25 := eG25 _ _ htl
      walk_at "xs"
      refine xIxL hY25 (atI_m1 hvl2) ?_
      walk_at "xs"
      refine call_law_place (k := p.k3) rfl R (eG25 _ _ gS2) (eG25 _ _ gE2) (fun H26 e26 => ?_)
      have tt : b + off g n p.k3 = p.t p.k3 := rfl
      walk_at "xs"
      rw [tt]
      have eG26 := eG25.trans e26
      have f26 := f25.trans (nx_ex e26)
      have w26 := well_ex w25 e26
      -- order and outcome
      refine call_Run_order (run_ex eG26 gR2) (fun y27 a27 b27 H27 hy27 e27 h27 ha27 hb27 => ?_)
      walk_at "xs"
      refine xNewT (by simp) (fun t28 H28 ht28 e28 h28 => ?_)
      walk_at "xs"
      refine xNewT (by simp) (fun t29 H29 ht29 e29 h29 => ?_)
      walk_at "xs"
      refine xNewL (by simp) (fun y30 H30 hy30 e30 h30 => ?_)
      have e2730 := e28.trans (e29.trans e30)
      refine xNeSame (d := .list [.tuple [.int 0, .int 0], .tuple [.int (p.t p.k3), .int 1]])
        (.lst (SqL.of (e2730 _ _ h27)) (.cons (.tup (SqT.of (e2730 _ _ ha27)) (.cons (.int 0) (.cons (.int 0) .nil))) (.cons (.tup (SqT.of (e2730 _ _ hb27)) (.cons (.int _) (.cons (.int 1) .nil))) .nil)))
        (.lst (SqL.of h30) (.cons (.tup (SqT.of (e30 _ _ (e29 _ _ h28))) (.cons (.int 0) (.cons (.int 0) .nil))) (.cons (.tup (SqT.of (e30 _ _ h29)) (.cons (.int _) (.cons (.int 1) .nil))) .nil)))
        (shape1 _ _ _ _) ?_
      have eG30 := eG26.trans (e27.trans e2730)
      walk_at "xs"
      refine call_Run_outcome (run_ex eG30 gR2) (fun y31 H31 hy31 e31 h31 => ?_)
      walk_at "xs"
      refine xNewT (by simp) (fun t32 H32 ht32 e32 h32 => ?_)
      refine xNeSame (d := .tuple [.str "served", .int (p.k3 : Int), .int (p.t p.k3)]) (.tup (SqT.of (e32 _ _ h31)) (.cons (.str _) (.cons (.int _) (.cons (.int _) .nil)))) (.tup (SqT.of h32) (.cons (.str _) (.cons (.int _) (.cons (.int _) .nil)))) (shape2 _ _) ?_
      have eG32 := eG30.trans (e31.trans e32)
      have f32 := f26.trans (nx_ex (e27.trans (e2730.trans (e31.trans e32))))
      have w32 := well_ex w26 (e27.trans (e2730.trans (e31.trans e32)))
      clear e26 e27 e28 e29 e30 e31 e32 e2730 h27 ha27 hb27 h28 h29 h30 h31 h32 w26 w25 f26 f25 eG26 eG25 eG30 hY25 htl25
      walk_at "xs"
      -- the whole history
      refine xI ⟨by decide, by decide, by decide⟩ ?_
      rw [p26]
      walk_at "xs"
      refine call_history (lo := 0) (hi := p.k3 + 100000000000000000000000000) (run_ex eG32 gR2) rfl (by rw [Int.natCast_add]; rfl) (by omega) (fun y33 xs33 H33 hy33 e33 h33 al33 => ?_)
      rw [cutE_whole (ents_part O) (by omega) 0 (Nat.le_refl _)] at al33
      have eG33 := eG32.trans e33
      have f33 := f32.trans (nx_ex e33)
      have w33 := well_ex w32 e33
      walk_at "xs"
      refine xNeSame (.lst (SqL.of h33) (ents_dp al33)) (.lst (SqL.of (eG33 _ _ gY)) (ents_dp (All2.mono (ent_ex eG33) gA))) (ents_shaped _) ?_
      clear e33 h33 al33 w32 f32 eG32
      walk_at "xs"
      -- three ranges
      refine xForRng (n := 3) (by decide) (fun i σ' H' => (∃ c1 c2 c3 c4 c5 c6, σ' = [some (.ref wl), some (.ref st), some (.ref e), some (.int L), some (.int b), some (.int f), some (.ref wd), some (.ref go), some (.ref y), some (.int (p.k3 : Int)), some (.int (p.t p.k3)), c1, c2, c3, c4, c5, c6]) ∧
        Ex G2 H' ∧ Nx wl H H' ∧ Well H' wl (20 + 2 * i)) ⟨⟨_, _, _, _, _, _, rfl⟩, eG33, f33, w33⟩ ?_ ?_
      · rintro i σ' H34 hi ⟨⟨c1, c2, c3, c4, c5, c6, rfl⟩, eG34, f34, w34⟩
        walk_at "xs"
        refine call_law_draw w34 (by omega) (by omega) (big _ (by omega)) (fun r35 H35 r350 r351 f35 w35 => ?_)
        obtain ⟨lo, rfl⟩ : ∃ lo : Nat, r35 = (lo : Int) := ⟨r35.toNat, by omega⟩
        walk_at "xs"
        refine call_law_draw w35 (by omega) (by omega) (big _ (by omega)) (fun r36 H36 r360 r361 f36 w36 => ?_)
        obtain ⟨ex, rfl⟩ : ∃ ex : Nat, r36 = (ex : Int) := ⟨r36.toNat, by omega⟩
        walk_at "xs"
        have eG36 := ex_nx (ex_nx eG34 G20 f35) G20 f36
        have f036 := f34.trans (f35.trans f36)
        have w36 := well_le w36 (show 20 + 2 * i + 1 + 1 ≤ 20 + 2 * (i + 1) by omega)
        have elen := ents_length p
        refine call_law_cut (lo := lo) (hi := lo + ex) rfl (by rw [Int.natCast_add]) (eG36 _ _ gY) (All2.mono (ent_ex eG36) gA) (by omega) (fun y37 xs37 H37 hy37 e37 h37 al37 => ?_)
        walk_at "xs"
        refine call_history (lo := lo) (hi := lo + ex) (run_ex (eG36.trans e37) gR2) rfl (by rw [Int.natCast_add]) (by omega) (fun y38 xs38 H38 hy38 e38 h38 al38 => ?_)
        walk_at "xs"
        refine xNeSame (.lst (SqL.of h38) (ents_dp al38)) (.lst (SqL.of (e38 _ _ h37)) (ents_dp (All2.mono (ent_ex e38) al37))) (ents_shaped _) ?_
        walk_at "xs"
        refine call_failure_counts (c := 1) (lo := lo) (hi := lo + ex) (run_ex ((eG36.trans e37).trans e38) gR2) rfl rfl (by rw [Int.natCast_add]) (by omega) (by omega) (fun y39 H39 hy39 e39 h39 => ?_)
        walk_at "xs"
        have clen := cutE_length lo (lo + ex) p.ents
        have e3739 := e38.trans e39
        refine call_law_counts (e3739 _ _ h37) (All2.mono (ent_ex e3739) al37) (by omega) (cut_le _ _ _) (fun y40 H40 hy40 e40 h40 => ?_)
        refine xNeSame (d := .tuple [.int (wsum .out (cutE lo (lo + ex) p.ents) : Int), .int (wsum .busy (cutE lo (lo + ex) p.ents) : Int), .int 0]) (.tup (SqT.of (e40 _ _ h39)) (.cons (.int _) (.cons (.int _) (.cons (.int 0) .nil)))) (.tup (SqT.of h40) (.cons (.int _) (.cons (.int _) (.cons (.int 0) .nil)))) (shape3 _ _ _) ?_
        walk_at "xs"
        have e3640 := e37.trans (e3739.trans e40)
        exact ⟨⟨_, _, _, _, _, _, rfl⟩, eG36.trans e3640, f036.trans (nx_ex e3640), well_ex w36 e3640⟩
      · rintro σ' H34 ⟨⟨c1, c2, c3, c4, c5, c6, rfl⟩, eG34, f34, w34⟩
        clear eG33 f33 w33
        walk_at "xs"
        -- the reasons of each entry
        refine xForList (eG34 _ _ gY) (fun i σ' H' => (∃ c1 c2 c3 c4 c5 c6, σ' = [some (.ref wl), some (.ref st), some (.ref e), some (.int L), some (.int b), some (.int f), some (.ref wd), some (.ref go), some (.ref y), some (.int (p.k3 : Int)), some (.int (p.t p.k3)), c1, c2, c3, c4, c5, c6]) ∧
          Ex G2 H' ∧ Nx wl H H') ⟨⟨_, _, _, _, _, _, rfl⟩, eG34, f34⟩ (fun i σ' H' q => q.2.1 _ _ gY) ?_ ?_
        · rintro i v σ' H35 hi ⟨⟨c1, c2, c3, c4, c5, c6, rfl⟩, eG35, f35⟩
          obtain ⟨en, hen, te, ue, rfl, hte, hue⟩ := gA.at hi
          obtain ⟨en1, en2, en3, en4⟩ := part_mem (ents_part O) en (List.mem_of_getElem? hen)
          have hte35 := eG35 _ _ hte
          walk_at "xs"
          refine call_reason (k := en.1) (run_ex eG35 gR2) rfl (fun _ y36 H36 hy36 e36 h36 => ?_) (fun z => by omega)
          rw [en3] at h36
          walk_at "xs"
          refine xNeSame (why_dp h36) (why_dp (e36 _ _ (eG35 _ _ hue))) (why_shaped _) ?_
          walk_at "xs"
          refine call_reason (k := en.2.1 - 1) (run_ex (eG35.trans e36) gR2) (by omega) (fun _ y37 H37 hy37 e37 h37 => ?_) (fun z => by omega)
          rw [en4] at h37
          walk_at "xs"
          refine xNeSame (why_dp h37) (why_dp (e37 _ _ (e36 _ _ (eG35 _ _ hue)))) (why_shaped _) ?_
          walk_at "xs"
          exact ⟨⟨_, _, _, _, _, _, rfl⟩, eG35.trans (e36.trans e37), f35.trans (nx_ex (e36.trans e37))⟩
        · rintro σ' H35 ⟨⟨c1, c2, c3, c4, c5, c6, rfl⟩, eG35, f35⟩
          walk_at "xs"
          refine call_reason (k := p.k3 + 1) (run_ex eG35 gR2) (by rw [Int.natCast_add]; rfl) (fun z => by omega) (fun _ => ?_)
          walk_at "xs"
          refine xIsN (c := true) (by rfl) ?_
          walk_at "xs"
          refine xI ⟨by decide, by decide, by decide⟩ ?_
          rw [p26]
          walk_at "xs"
          refine call_failure_counts (c := 0) (lo := 0) (hi := 100000000000000000000000000) (run_ex eG35 gR2) rfl rfl rfl (by omega) (by omega) (fun y36 H36 hy36 e36 h36 => ?_)
          walk_at "xs"
          refine xNewT (by simp) (fun t37 H37 ht37 e37 h37 => ?_)
          refine xEqSame (d := .tuple [.int 0, .int 0, .int 0]) (.tup (SqT.of (e37 _ _ h36)) (.cons (.int 0) (.cons (.int 0) (.cons (.int 0) .nil)))) (.tup (SqT.of h37) (.cons (.int 0) (.cons (.int 0) (.cons (.int 0) .nil)))) (shape3 _ _ _) ?_
          exact q _ (f35.trans (nx_ex (e36.trans e37)))
def sp_law (K : PySem.W.Frag) : Sp := fun vs H Q _ => ∃ a, ∃ ns : List Int, vs = [.ref a] ∧ SqL K H a (ns.map V.int) ∧ ns.length ≤ 1000 ∧ ∀ H1, Q (.bl true) H1
theorem ok_law (T : Txt K mg A) : FnOk P w K mg base CX0 11 A.f_law A.d_law ["_law_script"] (sp_law K) := by
  refine T.f_law.ok sc_law (fun vs H Q E h => ?_) (fun cdv AR outer s H vs Q E hr h => ?_)
  · obtain ⟨a, ns, rfl, _⟩ := h; rfl
  · obtain ⟨a, ns, rfl, hs, hn, q⟩ := h
    refine ⟨_, pss_cons (ps_for PassesOwn.never (by rfl) (piList (K := K) (by rfl) (pe_op op_cat (pe_slice (slL (K := K) (by rfl)) (pv 0) po_none (po_some pe_int)) (pe_lst (pa_cons pe_int pa_nil)))) (pg_name (i := 1) sc_law.nd (by rfl) (by first | exact Or.inl rfl | exact Or.inr rfl)) (pss_one (ps_if (pt_not (pt_val (pe_call (ok_law_right T) (hr.mono (by decide)) (by rfl) T.g_law_right T.f_law_right.kp T.b_law_right .nil pass0 (pa_cons (pe_call (ok_law_well T) (hr.mono (by decide)) (by rfl) T.g_law_well T.f_law_well.kp T.b_law_well .nil pass0 (pa_cons (pv 1) pa_nil)) pa_nil)))) (pss_one (ps_ret pe_bl)) pss_nil))) (
      pss_one (ps_ret pe_bl)), ?_⟩
    walk_at "go"
    refine xSlLq hs (fun y1 H1 hy1 e1 h1 => ?_)
    rw [cut_first (k := 3) (z := 3) rfl] at h1
    walk_at "xs"
    refine xNewL (by simp) (fun y2 H2 hy2 e2 h2 => ?_)
    refine xCat (e2 _ _ h1) h2 (by simp; omega) (fun y3 H3 hy3 e3 h3 => ?_)
    have em : (ns.take 3).map V.int ++ [V.int 0] = (ns.take 3 ++ [0]).map V.int := by rw [List.map_append]; rfl
    rw [em] at h3
    walk_at "xs"
    refine xForList h3 (fun i σ' H' => (∃ c, σ' = [some (.ref a), c]) ∧ H' y3 = some (.lst ((ns.take 3 ++ [0]).map V.int))) ⟨⟨_, rfl⟩, h3⟩ (fun i σ' H' q => q.2) ?_ ?_
    · rintro i v σ' H4 hi ⟨⟨c, rfl⟩, h4⟩
      obtain ⟨z, hz, rfl⟩ : ∃ z, (ns.take 3 ++ [0])[i]? = some z ∧ v = .int z := by
        rw [List.getElem?_map] at hi
        obtain ⟨z, a1, a2⟩ := Option.map_eq_some_iff.mp hi
        exact ⟨z, a1, a2.symm⟩
      walk_at "xs"
      refine call_law_well (fun wl H5 hwl e5 w5 => ?_)
      walk_at "xs"
      refine call_law_right w5 (fun H6 f6 => ?_)
      walk_at "xs"
      exact ⟨⟨_, rfl⟩, f6 _ _ (ne_of_none h4 hwl) (e5 _ _ h4)⟩
    · rintro σ' H4 ⟨⟨c, rfl⟩, h4⟩
      walk_at "xs"
      exact q H4
end RK
end

section
/-! all_mk: what the top has left, gathered (printed by end.py) -/
namespace RK
open PySem L2
/-- a def as the written part holds it -/
def RF (K : PySem.W.Frag) (x qual : Str) (st : Stmt) (f : Addr) : Prop :=
  ∃ (oc : Value) (od : Option Addr) (osl : Array (Option Value)) (kV dc pm : Value) (an : Option Addr) (cd ct : Value),
    K.lookup f = some ⟨oc, od, .func (PySem.W.fnOf x qual (defArgs st) (defBody st) (defScope st) .none kV dc pm an cd ct), osl⟩ ∧ PySem.W.codeIn K cd qual = true ∧ PySem.W.keepIn K (.ref f) = true
theorem rf_mk {K : PySem.W.Frag} {x qual : Str} {st : Stmt} {f : Addr} {oc : Value} {od : Option Addr} {osl : Array (Option Value)} {kV dc pm : Value} {an : Option Addr} {cd ct : Value}
    (l : K.lookup f = some ⟨oc, od, .func (PySem.W.fnOf x qual (defArgs st) (defBody st) (defScope st) .none kV dc pm an cd ct), osl⟩) (c : PySem.W.codeIn K cd qual = true) (k : PySem.W.keepIn K (.ref f) = true) : RF K x qual st f :=
  ⟨oc, od, osl, kV, dc, pm, an, cd, ct, l, c, k⟩
theorem RF.to {K : PySem.W.Frag} {x qual : Str} {st : Stmt} {f : Addr} (r : RF K x qual st f) : ∃ fd, Fun K x qual st f fd := by
  obtain ⟨oc, od, osl, kV, dc, pm, an, cd, ct, l, c, k⟩ := r
  exact ⟨_, fun_mk l c k⟩
/-- the same of a def with keyword-only parameters, whose defaults stand in the dict at D -/
def RFK (K : PySem.W.Frag) (x qual : Str) (st : Stmt) (f D : Addr) : Prop :=
  ∃ (oc : Value) (od : Option Addr) (osl : Array (Option Value)) (dc pm : Value) (an : Option Addr) (cd ct : Value),
    K.lookup f = some ⟨oc, od, .func (PySem.W.fnOf x qual (defArgs st) (defBody st) (defScope st) .none (.ref D) dc pm an cd ct), osl⟩ ∧ PySem.W.codeIn K cd qual = true ∧ PySem.W.keepIn K (.ref f) = true
theorem rfk_mk {K : PySem.W.Frag} {x qual : Str} {st : Stmt} {f D : Addr} {oc : Value} {od : Option Addr} {osl : Array (Option Value)} {dc pm : Value} {an : Option Addr} {cd ct : Value}
    (l : K.lookup f = some ⟨oc, od, .func (PySem.W.fnOf x qual (defArgs st) (defBody st) (defScope st) .none (.ref D) dc pm an cd ct), osl⟩) (c : PySem.W.codeIn K cd qual = true) (k : PySem.W.keepIn K (.ref f) = true) : RFK K x qual st f D :=
  ⟨oc, od, osl, dc, pm, an, cd, ct, l, c, k⟩
theorem RFK.to {K : PySem.W.Frag} {x qual : Str} {st : Stmt} {f D : Addr} {t : Tok} (r : RFK K x qual st f D) (h1 : PySem.W.nsIn K D "outages" = some (some .none)) (h2 : PySem.W.nsIn K D "length" = some (some (.int 1 t))) :
    ∃ fd, FunD K x qual (defArgs st) (defBody st) (defScope st) [] [("outages", .non), ("length", .int 1)] f fd := by
  obtain ⟨oc, od, osl, dc, pm, an, cd, ct, l, c, k⟩ := r
  refine ⟨_, ⟨⟨oc, od, .none, .ref D, dc, pm, an, cd, ct, osl, rfl, l, c, .inl ⟨rfl, rfl⟩, .inr ⟨D, rfl, fun q hq => ?_⟩⟩, k⟩⟩
  rcases List.mem_cons.mp hq with e | hq
  · subst e; exact ⟨_, h1, rfl⟩
  · rcases List.mem_cons.mp hq with e | hq
    · subst e; exact ⟨_, h2, ⟨t, rfl⟩⟩
    · cases hq
set_option maxHeartbeats 8000000 in
theorem all_mk {K : PySem.W.Frag} {h : Heap} {mg : Str → Option Value} {fa : Addr} (X : K.In h) (G : h.Ns mainGlobals mg) (hfa : mg "law" = some (.ref fa))
    {c_Rule c_Run c_Scene f_is_integer f_is_between f_is_tail f_Rule_init f_Rule_gaps f_Rule_tail f_Rule_attempts f_Rule_check_attempt f_Rule_offset f_Rule_offset_of f_Rule_period f_Rule_first_from f_Rule_attempt_at f_check_starts f_is_window f_check_outages f_Scene_init f_Scene_rule f_Scene_starts f_Scene_outages f_Scene_length f_Scene_check_client f_Scene_slot_of f_Scene_attempt_in f_Scene_outage_at f_Scene_listed_slots f_Scene_moments f_Run_init f_Run_advance f_Run_failing_until f_Run_skip_to f_Run_latest_moment f_Run_is_repeated f_Run_decide f_Run_scene f_Run_outcome f_Run_order f_Run_is_active f_Run_active f_Run_attempting f_Run_busy_with f_Run_event f_check_run f_attempts_made f_reason_of f_reason f_end_of_window f_first_attempt f_behind_window f_check_bounds f_history f_without_outages f_busy_windows f_count_within f_failure_counts f_law_mixed f_law_well f_law_draw f_law_one f_law_first f_law_place f_law_entries f_law_cut f_law_counts f_law_right f_law dkw : Addr} {t_MOST_GAPS t_MOST_GAP t_MOST_FACTOR t_MOST_ATTEMPT t_MOST_CLIENTS t_MOST_OUTAGES t_MOST_ENTRIES tkw : Tok}
    (hC_Rule : PySem.W.nsIn K mainGlobals "Rule" = some (some (.ref c_Rule)))
    (h1_Rule : PySem.W.plainGet K c_Rule Str.empty = true) (h2_Rule : PySem.W.hasDictIn K c_Rule = true) (h3_Rule : PySem.W.plainOver K c_Rule = true) (h4_Rule : PySem.W.findIn K (.ref c_Rule) "__setattr__" = some (some (.builtin "object.__setattr__"))) (h5_Rule : PySem.W.makesIn K c_Rule = true) (h6_Rule : PySem.W.keepIn K (.ref c_Rule) = true) (h7_Rule : PySem.W.findIn K (.ref c_Rule) "__class__" = some (some (.builtin "object.__class__"))) (h8_Rule : PySem.W.mroIn K c_Rule (.type "object") = some true) (h9_Rule : PySem.W.kitOne K (.ref c_Rule) (.ref c_Rule) = some true)
    (n_listed : PySem.W.findIn K (.ref c_Rule) "listed" = some none)
    (n_ending : PySem.W.findIn K (.ref c_Rule) "ending" = some none)
    (n_sums : PySem.W.findIn K (.ref c_Rule) "sums" = some none)
    (hC_Run : PySem.W.nsIn K mainGlobals "Run" = some (some (.ref c_Run)))
    (h1_Run : PySem.W.plainGet K c_Run Str.empty = true) (h2_Run : PySem.W.hasDictIn K c_Run = true) (h3_Run : PySem.W.plainOver K c_Run = true) (h4_Run : PySem.W.findIn K (.ref c_Run) "__setattr__" = some (some (.builtin "object.__setattr__"))) (h5_Run : PySem.W.makesIn K c_Run = true) (h6_Run : PySem.W.keepIn K (.ref c_Run) = true) (h7_Run : PySem.W.findIn K (.ref c_Run) "__class__" = some (some (.builtin "object.__class__"))) (h8_Run : PySem.W.mroIn K c_Run (.type "object") = some true) (h9_Run : PySem.W.kitOne K (.ref c_Run) (.ref c_Run) = some true)
    (n_its_scene : PySem.W.findIn K (.ref c_Run) "its_scene" = some none)
    (n_pattern : PySem.W.findIn K (.ref c_Run) "pattern" = some none)
    (n_begins : PySem.W.findIn K (.ref c_Run) "begins" = some none)
    (n_changes : PySem.W.findIn K (.ref c_Run) "changes" = some none)
    (n_services : PySem.W.findIn K (.ref c_Run) "services" = some none)
    (n_closed : PySem.W.findIn K (.ref c_Run) "closed" = some none)
    (n_waiting : PySem.W.findIn K (.ref c_Run) "waiting" = some none)
    (n_free_from : PySem.W.findIn K (.ref c_Run) "free_from" = some none)
    (hC_Scene : PySem.W.nsIn K mainGlobals "Scene" = some (some (.ref c_Scene)))
    (h1_Scene : PySem.W.plainGet K c_Scene Str.empty = true) (h2_Scene : PySem.W.hasDictIn K c_Scene = true) (h3_Scene : PySem.W.plainOver K c_Scene = true) (h4_Scene : PySem.W.findIn K (.ref c_Scene) "__setattr__" = some (some (.builtin "object.__setattr__"))) (h5_Scene : PySem.W.makesIn K c_Scene = true) (h6_Scene : PySem.W.keepIn K (.ref c_Scene) = true) (h7_Scene : PySem.W.findIn K (.ref c_Scene) "__class__" = some (some (.builtin "object.__class__"))) (h8_Scene : PySem.W.mroIn K c_Scene (.type "object") = some true) (h9_Scene : PySem.W.kitOne K (.ref c_Scene) (.ref c_Scene) = some true)
    (n_its_rule : PySem.W.findIn K (.ref c_Scene) "its_rule" = some none)
    (n_its_starts : PySem.W.findIn K (.ref c_Scene) "its_starts" = some none)
    (n_windows : PySem.W.findIn K (.ref c_Scene) "windows" = some none)
    (n_its_length : PySem.W.findIn K (.ref c_Scene) "its_length" = some none)
    (hy3 : PySem.W.specialIn K (.builtin "object.__class__") "__get__" = some (some (.builtin "getset_descriptor.__get__"))) (hy4 : PySem.W.takesIn K (.builtin "object.__class__") = some true)
    (a_is_integer : PySem.W.nsIn K mainGlobals "is_integer" = some (some (.ref f_is_integer)))
    (r_is_integer : RF K "is_integer" "is_integer" s_is_integer f_is_integer)
    (a_is_between : PySem.W.nsIn K mainGlobals "is_between" = some (some (.ref f_is_between)))
    (r_is_between : RF K "is_between" "is_between" s_is_between f_is_between)
    (a_is_tail : PySem.W.nsIn K mainGlobals "is_tail" = some (some (.ref f_is_tail)))
    (r_is_tail : RF K "is_tail" "is_tail" s_is_tail f_is_tail)
    (a_Rule_init : PySem.W.findIn K (.ref c_Rule) "__init__" = some (some (.ref f_Rule_init))) (i_Rule_init : PySem.W.isFn K (.ref f_Rule_init) = true)
    (r_Rule_init : RF K "__init__" "Rule.__init__" s_Rule_init f_Rule_init)
    (a_Rule_gaps : PySem.W.findIn K (.ref c_Rule) "gaps" = some (some (.ref f_Rule_gaps))) (i_Rule_gaps : PySem.W.isFn K (.ref f_Rule_gaps) = true)
    (r_Rule_gaps : RF K "gaps" "Rule.gaps" s_Rule_gaps f_Rule_gaps)
    (a_Rule_tail : PySem.W.findIn K (.ref c_Rule) "tail" = some (some (.ref f_Rule_tail))) (i_Rule_tail : PySem.W.isFn K (.ref f_Rule_tail) = true)
    (r_Rule_tail : RF K "tail" "Rule.tail" s_Rule_tail f_Rule_tail)
    (a_Rule_attempts : PySem.W.findIn K (.ref c_Rule) "attempts" = some (some (.ref f_Rule_attempts))) (i_Rule_attempts : PySem.W.isFn K (.ref f_Rule_attempts) = true)
    (r_Rule_attempts : RF K "attempts" "Rule.attempts" s_Rule_attempts f_Rule_attempts)
    (a_Rule_check_attempt : PySem.W.findIn K (.ref c_Rule) "check_attempt" = some (some (.ref f_Rule_check_attempt))) (i_Rule_check_attempt : PySem.W.isFn K (.ref f_Rule_check_attempt) = true)
    (r_Rule_check_attempt : RF K "check_attempt" "Rule.check_attempt" s_Rule_check_attempt f_Rule_check_attempt)
    (a_Rule_offset : PySem.W.findIn K (.ref c_Rule) "offset" = some (some (.ref f_Rule_offset))) (i_Rule_offset : PySem.W.isFn K (.ref f_Rule_offset) = true)
    (r_Rule_offset : RF K "offset" "Rule.offset" s_Rule_offset f_Rule_offset)
    (a_Rule_offset_of : PySem.W.findIn K (.ref c_Rule) "offset_of" = some (some (.ref f_Rule_offset_of))) (i_Rule_offset_of : PySem.W.isFn K (.ref f_Rule_offset_of) = true)
    (r_Rule_offset_of : RF K "offset_of" "Rule.offset_of" s_Rule_offset_of f_Rule_offset_of)
    (a_Rule_period : PySem.W.findIn K (.ref c_Rule) "period" = some (some (.ref f_Rule_period))) (i_Rule_period : PySem.W.isFn K (.ref f_Rule_period) = true)
    (r_Rule_period : RF K "period" "Rule.period" s_Rule_period f_Rule_period)
    (a_Rule_first_from : PySem.W.findIn K (.ref c_Rule) "first_from" = some (some (.ref f_Rule_first_from))) (i_Rule_first_from : PySem.W.isFn K (.ref f_Rule_first_from) = true)
    (r_Rule_first_from : RF K "first_from" "Rule.first_from" s_Rule_first_from f_Rule_first_from)
    (a_Rule_attempt_at : PySem.W.findIn K (.ref c_Rule) "attempt_at" = some (some (.ref f_Rule_attempt_at))) (i_Rule_attempt_at : PySem.W.isFn K (.ref f_Rule_attempt_at) = true)
    (r_Rule_attempt_at : RF K "attempt_at" "Rule.attempt_at" s_Rule_attempt_at f_Rule_attempt_at)
    (a_check_starts : PySem.W.nsIn K mainGlobals "check_starts" = some (some (.ref f_check_starts)))
    (r_check_starts : RF K "check_starts" "check_starts" s_check_starts f_check_starts)
    (a_is_window : PySem.W.nsIn K mainGlobals "is_window" = some (some (.ref f_is_window)))
    (r_is_window : RF K "is_window" "is_window" s_is_window f_is_window)
    (a_check_outages : PySem.W.nsIn K mainGlobals "check_outages" = some (some (.ref f_check_outages)))
    (r_check_outages : RF K "check_outages" "check_outages" s_check_outages f_check_outages)
    (a_Scene_init : PySem.W.findIn K (.ref c_Scene) "__init__" = some (some (.ref f_Scene_init))) (i_Scene_init : PySem.W.isFn K (.ref f_Scene_init) = true)
    (r_Scene_init : RFK K "__init__" "Scene.__init__" s_Scene_init f_Scene_init dkw) (k1 : PySem.W.nsIn K dkw "outages" = some (some .none)) (k2 : PySem.W.nsIn K dkw "length" = some (some (.int 1 tkw)))
    (a_Scene_rule : PySem.W.findIn K (.ref c_Scene) "rule" = some (some (.ref f_Scene_rule))) (i_Scene_rule : PySem.W.isFn K (.ref f_Scene_rule) = true)
    (r_Scene_rule : RF K "rule" "Scene.rule" s_Scene_rule f_Scene_rule)
    (a_Scene_starts : PySem.W.findIn K (.ref c_Scene) "starts" = some (some (.ref f_Scene_starts))) (i_Scene_starts : PySem.W.isFn K (.ref f_Scene_starts) = true)
    (r_Scene_starts : RF K "starts" "Scene.starts" s_Scene_starts f_Scene_starts)
    (a_Scene_outages : PySem.W.findIn K (.ref c_Scene) "outages" = some (some (.ref f_Scene_outages))) (i_Scene_outages : PySem.W.isFn K (.ref f_Scene_outages) = true)
    (r_Scene_outages : RF K "outages" "Scene.outages" s_Scene_outages f_Scene_outages)
    (a_Scene_length : PySem.W.findIn K (.ref c_Scene) "length" = some (some (.ref f_Scene_length))) (i_Scene_length : PySem.W.isFn K (.ref f_Scene_length) = true)
    (r_Scene_length : RF K "length" "Scene.length" s_Scene_length f_Scene_length)
    (a_Scene_check_client : PySem.W.findIn K (.ref c_Scene) "check_client" = some (some (.ref f_Scene_check_client))) (i_Scene_check_client : PySem.W.isFn K (.ref f_Scene_check_client) = true)
    (r_Scene_check_client : RF K "check_client" "Scene.check_client" s_Scene_check_client f_Scene_check_client)
    (a_Scene_slot_of : PySem.W.findIn K (.ref c_Scene) "slot_of" = some (some (.ref f_Scene_slot_of))) (i_Scene_slot_of : PySem.W.isFn K (.ref f_Scene_slot_of) = true)
    (r_Scene_slot_of : RF K "slot_of" "Scene.slot_of" s_Scene_slot_of f_Scene_slot_of)
    (a_Scene_attempt_in : PySem.W.findIn K (.ref c_Scene) "attempt_in" = some (some (.ref f_Scene_attempt_in))) (i_Scene_attempt_in : PySem.W.isFn K (.ref f_Scene_attempt_in) = true)
    (r_Scene_attempt_in : RF K "attempt_in" "Scene.attempt_in" s_Scene_attempt_in f_Scene_attempt_in)
    (a_Scene_outage_at : PySem.W.findIn K (.ref c_Scene) "outage_at" = some (some (.ref f_Scene_outage_at))) (i_Scene_outage_at : PySem.W.isFn K (.ref f_Scene_outage_at) = true)
    (r_Scene_outage_at : RF K "outage_at" "Scene.outage_at" s_Scene_outage_at f_Scene_outage_at)
    (a_Scene_listed_slots : PySem.W.findIn K (.ref c_Scene) "listed_slots" = some (some (.ref f_Scene_listed_slots))) (i_Scene_listed_slots : PySem.W.isFn K (.ref f_Scene_listed_slots) = true)
    (r_Scene_listed_slots : RF K "listed_slots" "Scene.listed_slots" s_Scene_listed_slots f_Scene_listed_slots)
    (a_Scene_moments : PySem.W.findIn K (.ref c_Scene) "moments" = some (some (.ref f_Scene_moments))) (i_Scene_moments : PySem.W.isFn K (.ref f_Scene_moments) = true)
    (r_Scene_moments : RF K "moments" "Scene.moments" s_Scene_moments f_Scene_moments)
    (a_Run_init : PySem.W.findIn K (.ref c_Run) "__init__" = some (some (.ref f_Run_init))) (i_Run_init : PySem.W.isFn K (.ref f_Run_init) = true)
    (r_Run_init : RF K "__init__" "Run.__init__" s_Run_init f_Run_init)
    (a_Run_advance : PySem.W.findIn K (.ref c_Run) "advance" = some (some (.ref f_Run_advance))) (i_Run_advance : PySem.W.isFn K (.ref f_Run_advance) = true)
    (r_Run_advance : RF K "advance" "Run.advance" s_Run_advance f_Run_advance)
    (a_Run_failing_until : PySem.W.findIn K (.ref c_Run) "failing_until" = some (some (.ref f_Run_failing_until))) (i_Run_failing_until : PySem.W.isFn K (.ref f_Run_failing_until) = true)
    (r_Run_failing_until : RF K "failing_until" "Run.failing_until" s_Run_failing_until f_Run_failing_until)
    (a_Run_skip_to : PySem.W.findIn K (.ref c_Run) "skip_to" = some (some (.ref f_Run_skip_to))) (i_Run_skip_to : PySem.W.isFn K (.ref f_Run_skip_to) = true)
    (r_Run_skip_to : RF K "skip_to" "Run.skip_to" s_Run_skip_to f_Run_skip_to)
    (a_Run_latest_moment : PySem.W.findIn K (.ref c_Run) "latest_moment" = some (some (.ref f_Run_latest_moment))) (i_Run_latest_moment : PySem.W.isFn K (.ref f_Run_latest_moment) = true)
    (r_Run_latest_moment : RF K "latest_moment" "Run.latest_moment" s_Run_latest_moment f_Run_latest_moment)
    (a_Run_is_repeated : PySem.W.findIn K (.ref c_Run) "is_repeated" = some (some (.ref f_Run_is_repeated))) (i_Run_is_repeated : PySem.W.isFn K (.ref f_Run_is_repeated) = true)
    (r_Run_is_repeated : RF K "is_repeated" "Run.is_repeated" s_Run_is_repeated f_Run_is_repeated)
    (a_Run_decide : PySem.W.findIn K (.ref c_Run) "decide" = some (some (.ref f_Run_decide))) (i_Run_decide : PySem.W.isFn K (.ref f_Run_decide) = true)
    (r_Run_decide : RF K "decide" "Run.decide" s_Run_decide f_Run_decide)
    (a_Run_scene : PySem.W.findIn K (.ref c_Run) "scene" = some (some (.ref f_Run_scene))) (i_Run_scene : PySem.W.isFn K (.ref f_Run_scene) = true)
    (r_Run_scene : RF K "scene" "Run.scene" s_Run_scene f_Run_scene)
    (a_Run_outcome : PySem.W.findIn K (.ref c_Run) "outcome" = some (some (.ref f_Run_outcome))) (i_Run_outcome : PySem.W.isFn K (.ref f_Run_outcome) = true)
    (r_Run_outcome : RF K "outcome" "Run.outcome" s_Run_outcome f_Run_outcome)
    (a_Run_order : PySem.W.findIn K (.ref c_Run) "order" = some (some (.ref f_Run_order))) (i_Run_order : PySem.W.isFn K (.ref f_Run_order) = true)
    (r_Run_order : RF K "order" "Run.order" s_Run_order f_Run_order)
    (a_Run_is_active : PySem.W.findIn K (.ref c_Run) "is_active" = some (some (.ref f_Run_is_active))) (i_Run_is_active : PySem.W.isFn K (.ref f_Run_is_active) = true)
    (r_Run_is_active : RF K "is_active" "Run.is_active" s_Run_is_active f_Run_is_active)
    (a_Run_active : PySem.W.findIn K (.ref c_Run) "active" = some (some (.ref f_Run_active))) (i_Run_active : PySem.W.isFn K (.ref f_Run_active) = true)
    (r_Run_active : RF K "active" "Run.active" s_Run_active f_Run_active)
    (a_Run_attempting : PySem.W.findIn K (.ref c_Run) "attempting" = some (some (.ref f_Run_attempting))) (i_Run_attempting : PySem.W.isFn K (.ref f_Run_attempting) = true)
    (r_Run_attempting : RF K "attempting" "Run.attempting" s_Run_attempting f_Run_attempting)
    (a_Run_busy_with : PySem.W.findIn K (.ref c_Run) "busy_with" = some (some (.ref f_Run_busy_with))) (i_Run_busy_with : PySem.W.isFn K (.ref f_Run_busy_with) = true)
    (r_Run_busy_with : RF K "busy_with" "Run.busy_with" s_Run_busy_with f_Run_busy_with)
    (a_Run_event : PySem.W.findIn K (.ref c_Run) "event" = some (some (.ref f_Run_event))) (i_Run_event : PySem.W.isFn K (.ref f_Run_event) = true)
    (r_Run_event : RF K "event" "Run.event" s_Run_event f_Run_event)
    (a_check_run : PySem.W.nsIn K mainGlobals "check_run" = some (some (.ref f_check_run)))
    (r_check_run : RF K "check_run" "check_run" s_check_run f_check_run)
    (a_attempts_made : PySem.W.nsIn K mainGlobals "attempts_made" = some (some (.ref f_attempts_made)))
    (r_attempts_made : RF K "attempts_made" "attempts_made" s_attempts_made f_attempts_made)
    (a_reason_of : PySem.W.nsIn K mainGlobals "reason_of" = some (some (.ref f_reason_of)))
    (r_reason_of : RF K "reason_of" "reason_of" s_reason_of f_reason_of)
    (a_reason : PySem.W.nsIn K mainGlobals "reason" = some (some (.ref f_reason)))
    (r_reason : RF K "reason" "reason" s_reason f_reason)
    (a_end_of_window : PySem.W.nsIn K mainGlobals "end_of_window" = some (some (.ref f_end_of_window)))
    (r_end_of_window : RF K "end_of_window" "end_of_window" s_end_of_window f_end_of_window)
    (a_first_attempt : PySem.W.nsIn K mainGlobals "first_attempt" = some (some (.ref f_first_attempt)))
    (r_first_attempt : RF K "first_attempt" "first_attempt" s_first_attempt f_first_attempt)
    (a_behind_window : PySem.W.nsIn K mainGlobals "behind_window" = some (some (.ref f_behind_window)))
    (r_behind_window : RF K "behind_window" "behind_window" s_behind_window f_behind_window)
    (a_check_bounds : PySem.W.nsIn K mainGlobals "check_bounds" = some (some (.ref f_check_bounds)))
    (r_check_bounds : RF K "check_bounds" "check_bounds" s_check_bounds f_check_bounds)
    (a_history : PySem.W.nsIn K mainGlobals "history" = some (some (.ref f_history)))
    (r_history : RF K "history" "history" s_history f_history)
    (a_without_outages : PySem.W.nsIn K mainGlobals "without_outages" = some (some (.ref f_without_outages)))
    (r_without_outages : RF K "without_outages" "without_outages" s_without_outages f_without_outages)
    (a_busy_windows : PySem.W.nsIn K mainGlobals "busy_windows" = some (some (.ref f_busy_windows)))
    (r_busy_windows : RF K "busy_windows" "busy_windows" s_busy_windows f_busy_windows)
    (a_count_within : PySem.W.nsIn K mainGlobals "count_within" = some (some (.ref f_count_within)))
    (r_count_within : RF K "count_within" "count_within" s_count_within f_count_within)
    (a_failure_counts : PySem.W.nsIn K mainGlobals "failure_counts" = some (some (.ref f_failure_counts)))
    (r_failure_counts : RF K "failure_counts" "failure_counts" s_failure_counts f_failure_counts)
    (a_law_mixed : PySem.W.nsIn K mainGlobals "_law_mixed" = some (some (.ref f_law_mixed)))
    (r_law_mixed : RF K "_law_mixed" "_law_mixed" s_law_mixed f_law_mixed)
    (a_law_well : PySem.W.nsIn K mainGlobals "_law_well" = some (some (.ref f_law_well)))
    (r_law_well : RF K "_law_well" "_law_well" s_law_well f_law_well)
    (a_law_draw : PySem.W.nsIn K mainGlobals "_law_draw" = some (some (.ref f_law_draw)))
    (r_law_draw : RF K "_law_draw" "_law_draw" s_law_draw f_law_draw)
    (a_law_one : PySem.W.nsIn K mainGlobals "_law_one" = some (some (.ref f_law_one)))
    (r_law_one : RF K "_law_one" "_law_one" s_law_one f_law_one)
    (a_law_first : PySem.W.nsIn K mainGlobals "_law_first" = some (some (.ref f_law_first)))
    (r_law_first : RF K "_law_first" "_law_first" s_law_first f_law_first)
    (a_law_place : PySem.W.nsIn K mainGlobals "_law_place" = some (some (.ref f_law_place)))
    (r_law_place : RF K "_law_place" "_law_place" s_law_place f_law_place)
    (a_law_entries : PySem.W.nsIn K mainGlobals "_law_entries" = some (some (.ref f_law_entries)))
    (r_law_entries : RF K "_law_entries" "_law_entries" s_law_entries f_law_entries)
    (a_law_cut : PySem.W.nsIn K mainGlobals "_law_cut" = some (some (.ref f_law_cut)))
    (r_law_cut : RF K "_law_cut" "_law_cut" s_law_cut f_law_cut)
    (a_law_counts : PySem.W.nsIn K mainGlobals "_law_counts" = some (some (.ref f_law_counts)))
    (r_law_counts : RF K "_law_counts" "_law_counts" s_law_counts f_law_counts)
    (a_law_right : PySem.W.nsIn K mainGlobals "_law_right" = some (some (.ref f_law_right)))
    (r_law_right : RF K "_law_right" "_law_right" s_law_right f_law_right)
    (a_law : PySem.W.nsIn K mainGlobals "law" = some (some (.ref f_law)))
    (r_law : RF K "law" "law" s_law f_law)
    (v_MOST_GAPS : PySem.W.nsIn K mainGlobals "MOST_GAPS" = some (some (.int 20 t_MOST_GAPS)))
    (v_MOST_GAP : PySem.W.nsIn K mainGlobals "MOST_GAP" = some (some (.int 1000000000000 t_MOST_GAP)))
    (v_MOST_FACTOR : PySem.W.nsIn K mainGlobals "MOST_FACTOR" = some (some (.int 1000 t_MOST_FACTOR)))
    (v_MOST_ATTEMPT : PySem.W.nsIn K mainGlobals "MOST_ATTEMPT" = some (some (.int 1000 t_MOST_ATTEMPT)))
    (v_MOST_CLIENTS : PySem.W.nsIn K mainGlobals "MOST_CLIENTS" = some (some (.int 40 t_MOST_CLIENTS)))
    (v_MOST_OUTAGES : PySem.W.nsIn K mainGlobals "MOST_OUTAGES" = some (some (.int 10 t_MOST_OUTAGES)))
    (v_MOST_ENTRIES : PySem.W.nsIn K mainGlobals "MOST_ENTRIES" = some (some (.int 1000 t_MOST_ENTRIES)))
    (z_int : PySem.W.nsIn K mainGlobals "int" = some none)
    (z_bool : PySem.W.nsIn K mainGlobals "bool" = some none)
    (z_list : PySem.W.nsIn K mainGlobals "list" = some none)
    (z_tuple : PySem.W.nsIn K mainGlobals "tuple" = some none)
    (z_str : PySem.W.nsIn K mainGlobals "str" = some none)
    (z_len : PySem.W.nsIn K mainGlobals "len" = some none)
    (z_isinstance : PySem.W.nsIn K mainGlobals "isinstance" = some none)
    (z_all : PySem.W.nsIn K mainGlobals "all" = some none)
    (z_sum : PySem.W.nsIn K mainGlobals "sum" = some none)
    (z_max : PySem.W.nsIn K mainGlobals "max" = some none)
    (z_min : PySem.W.nsIn K mainGlobals "min" = some none)
    (z_sorted : PySem.W.nsIn K mainGlobals "sorted" = some none)
    (z_set : PySem.W.nsIn K mainGlobals "set" = some none)
    (z_enumerate : PySem.W.nsIn K mainGlobals "enumerate" = some none)
    (z_range : PySem.W.nsIn K mainGlobals "range" = some none)
    (z_zip : PySem.W.nsIn K mainGlobals "zip" = some none) :
    ∃ A : Ad, Txt K mg A ∧ A.f_law = fa ∧ ∀ (s : Shared) (v : Value), BindsTo s A.d_law ⟨[v], []⟩ [("_law_script", v)] := by
  have e := hfa.symm.trans (PySem.W.mg_of X G a_law)
  have e2 : f_law = fa := by
    cases e
    rfl
  subst e2
  obtain ⟨d_is_integer, F_is_integer⟩ := r_is_integer.to
  have B_is_integer := F_is_integer.binds (ps := ["value"]) fun _ _ _ _ _ _ us hl => match us, hl with | [_], _ => rfl
  obtain ⟨d_is_between, F_is_between⟩ := r_is_between.to
  have B_is_between := F_is_between.binds (ps := ["value", "low", "high"]) fun _ _ _ _ _ _ us hl => match us, hl with | [_, _, _], _ => rfl
  obtain ⟨d_is_tail, F_is_tail⟩ := r_is_tail.to
  have B_is_tail := F_is_tail.binds (ps := ["tail", "gap_count"]) fun _ _ _ _ _ _ us hl => match us, hl with | [_, _], _ => rfl
  obtain ⟨d_Rule_init, F_Rule_init⟩ := r_Rule_init.to
  have B_Rule_init := F_Rule_init.binds (ps := ["self", "gaps", "tail"]) fun _ _ _ _ _ _ us hl => match us, hl with | [_, _, _], _ => rfl
  obtain ⟨d_Rule_gaps, F_Rule_gaps⟩ := r_Rule_gaps.to
  have B_Rule_gaps := F_Rule_gaps.binds (ps := ["self"]) fun _ _ _ _ _ _ us hl => match us, hl with | [_], _ => rfl
  obtain ⟨d_Rule_tail, F_Rule_tail⟩ := r_Rule_tail.to
  have B_Rule_tail := F_Rule_tail.binds (ps := ["self"]) fun _ _ _ _ _ _ us hl => match us, hl with | [_], _ => rfl
  obtain ⟨d_Rule_attempts, F_Rule_attempts⟩ := r_Rule_attempts.to
  have B_Rule_attempts := F_Rule_attempts.binds (ps := ["self"]) fun _ _ _ _ _ _ us hl => match us, hl with | [_], _ => rfl
  obtain ⟨d_Rule_check_attempt, F_Rule_check_attempt⟩ := r_Rule_check_attempt.to
  have B_Rule_check_attempt := F_Rule_check_attempt.binds (ps := ["self", "attempt"]) fun _ _ _ _ _ _ us hl => match us, hl with | [_, _], _ => rfl
  obtain ⟨d_Rule_offset, F_Rule_offset⟩ := r_Rule_offset.to
  have B_Rule_offset := F_Rule_offset.binds (ps := ["self", "attempt"]) fun _ _ _ _ _ _ us hl => match us, hl with | [_, _], _ => rfl
  obtain ⟨d_Rule_offset_of, F_Rule_offset_of⟩ := r_Rule_offset_of.to
  have B_Rule_offset_of := F_Rule_offset_of.binds (ps := ["self", "attempt"]) fun _ _ _ _ _ _ us hl => match us, hl with | [_, _], _ => rfl
  obtain ⟨d_Rule_period, F_Rule_period⟩ := r_Rule_period.to
  have B_Rule_period := F_Rule_period.binds (ps := ["self"]) fun _ _ _ _ _ _ us hl => match us, hl with | [_], _ => rfl
  obtain ⟨d_Rule_first_from, F_Rule_first_from⟩ := r_Rule_first_from.to
  have B_Rule_first_from := F_Rule_first_from.binds (ps := ["self", "distance"]) fun _ _ _ _ _ _ us hl => match us, hl with | [_, _], _ => rfl
  obtain ⟨d_Rule_attempt_at, F_Rule_attempt_at⟩ := r_Rule_attempt_at.to
  have B_Rule_attempt_at := F_Rule_attempt_at.binds (ps := ["self", "distance"]) fun _ _ _ _ _ _ us hl => match us, hl with | [_, _], _ => rfl
  obtain ⟨d_check_starts, F_check_starts⟩ := r_check_starts.to
  have B_check_starts := F_check_starts.binds (ps := ["starts"]) fun _ _ _ _ _ _ us hl => match us, hl with | [_], _ => rfl
  obtain ⟨d_is_window, F_is_window⟩ := r_is_window.to
  have B_is_window := F_is_window.binds (ps := ["value"]) fun _ _ _ _ _ _ us hl => match us, hl with | [_], _ => rfl
  obtain ⟨d_check_outages, F_check_outages⟩ := r_check_outages.to
  have B_check_outages := F_check_outages.binds (ps := ["outages"]) fun _ _ _ _ _ _ us hl => match us, hl with | [_], _ => rfl
  obtain ⟨d_Scene_init, F_Scene_init⟩ := r_Scene_init.to k1 k2
  obtain ⟨mv, B_Scene_init⟩ := FunD.kbinds0 (ps := ["self", "rule", "starts", "outages", "length"]) F_Scene_init 3 ["outages", "length"] [] (fun vs _ zs => vs ++ zs) (by decide +kernel) (fun _ h => nomatch h) (fun r _ z => r.append z) (fun _ _ _ _ _ _ us mv ws h1 h2 h3 => match us, mv, ws, h1, h2, h3 with | [_, _, _], [], [_, _], _, _, _ => rfl)
  obtain ⟨d_Scene_rule, F_Scene_rule⟩ := r_Scene_rule.to
  have B_Scene_rule := F_Scene_rule.binds (ps := ["self"]) fun _ _ _ _ _ _ us hl => match us, hl with | [_], _ => rfl
  obtain ⟨d_Scene_starts, F_Scene_starts⟩ := r_Scene_starts.to
  have B_Scene_starts := F_Scene_starts.binds (ps := ["self"]) fun _ _ _ _ _ _ us hl => match us, hl with | [_], _ => rfl
  obtain ⟨d_Scene_outages, F_Scene_outages⟩ := r_Scene_outages.to
  have B_Scene_outages := F_Scene_outages.binds (ps := ["self"]) fun _ _ _ _ _ _ us hl => match us, hl with | [_], _ => rfl
  obtain ⟨d_Scene_length, F_Scene_length⟩ := r_Scene_length.to
  have B_Scene_length := F_Scene_length.binds (ps := ["self"]) fun _ _ _ _ _ _ us hl => match us, hl with | [_], _ => rfl
  obtain ⟨d_Scene_check_client, F_Scene_check_client⟩ := r_Scene_check_client.to
  have B_Scene_check_client := F_Scene_check_client.binds (ps := ["self", "client"]) fun _ _ _ _ _ _ us hl => match us, hl with | [_, _], _ => rfl
  obtain ⟨d_Scene_slot_of, F_Scene_slot_of⟩ := r_Scene_slot_of.to
  have B_Scene_slot_of := F_Scene_slot_of.binds (ps := ["self", "client", "attempt"]) fun _ _ _ _ _ _ us hl => match us, hl with | [_, _, _], _ => rfl
  obtain ⟨d_Scene_attempt_in, F_Scene_attempt_in⟩ := r_Scene_attempt_in.to
  have B_Scene_attempt_in := F_Scene_attempt_in.binds (ps := ["self", "client", "slot"]) fun _ _ _ _ _ _ us hl => match us, hl with | [_, _, _], _ => rfl
  obtain ⟨d_Scene_outage_at, F_Scene_outage_at⟩ := r_Scene_outage_at.to
  have B_Scene_outage_at := F_Scene_outage_at.binds (ps := ["self", "slot"]) fun _ _ _ _ _ _ us hl => match us, hl with | [_, _], _ => rfl
  obtain ⟨d_Scene_listed_slots, F_Scene_listed_slots⟩ := r_Scene_listed_slots.to
  have B_Scene_listed_slots := F_Scene_listed_slots.binds (ps := ["self", "client"]) fun _ _ _ _ _ _ us hl => match us, hl with | [_, _], _ => rfl
  obtain ⟨d_Scene_moments, F_Scene_moments⟩ := r_Scene_moments.to
  have B_Scene_moments := F_Scene_moments.binds (ps := ["self"]) fun _ _ _ _ _ _ us hl => match us, hl with | [_], _ => rfl
  obtain ⟨d_Run_init, F_Run_init⟩ := r_Run_init.to
  have B_Run_init := F_Run_init.binds (ps := ["self", "scene"]) fun _ _ _ _ _ _ us hl => match us, hl with | [_, _], _ => rfl
  obtain ⟨d_Run_advance, F_Run_advance⟩ := r_Run_advance.to
  have B_Run_advance := F_Run_advance.binds (ps := ["self"]) fun _ _ _ _ _ _ us hl => match us, hl with | [_], _ => rfl
  obtain ⟨d_Run_failing_until, F_Run_failing_until⟩ := r_Run_failing_until.to
  have B_Run_failing_until := F_Run_failing_until.binds (ps := ["self", "slot"]) fun _ _ _ _ _ _ us hl => match us, hl with | [_, _], _ => rfl
  obtain ⟨d_Run_skip_to, F_Run_skip_to⟩ := r_Run_skip_to.to
  have B_Run_skip_to := F_Run_skip_to.binds (ps := ["self", "slot"]) fun _ _ _ _ _ _ us hl => match us, hl with | [_, _], _ => rfl
  obtain ⟨d_Run_latest_moment, F_Run_latest_moment⟩ := r_Run_latest_moment.to
  have B_Run_latest_moment := F_Run_latest_moment.binds (ps := ["self", "slot"]) fun _ _ _ _ _ _ us hl => match us, hl with | [_, _], _ => rfl
  obtain ⟨d_Run_is_repeated, F_Run_is_repeated⟩ := r_Run_is_repeated.to
  have B_Run_is_repeated := F_Run_is_repeated.binds (ps := ["self", "slot"]) fun _ _ _ _ _ _ us hl => match us, hl with | [_, _], _ => rfl
  obtain ⟨d_Run_decide, F_Run_decide⟩ := r_Run_decide.to
  have B_Run_decide := F_Run_decide.binds (ps := ["self", "slot", "clients"]) fun _ _ _ _ _ _ us hl => match us, hl with | [_, _, _], _ => rfl
  obtain ⟨d_Run_scene, F_Run_scene⟩ := r_Run_scene.to
  have B_Run_scene := F_Run_scene.binds (ps := ["self"]) fun _ _ _ _ _ _ us hl => match us, hl with | [_], _ => rfl
  obtain ⟨d_Run_outcome, F_Run_outcome⟩ := r_Run_outcome.to
  have B_Run_outcome := F_Run_outcome.binds (ps := ["self", "client"]) fun _ _ _ _ _ _ us hl => match us, hl with | [_, _], _ => rfl
  obtain ⟨d_Run_order, F_Run_order⟩ := r_Run_order.to
  have B_Run_order := F_Run_order.binds (ps := ["self"]) fun _ _ _ _ _ _ us hl => match us, hl with | [_], _ => rfl
  obtain ⟨d_Run_is_active, F_Run_is_active⟩ := r_Run_is_active.to
  have B_Run_is_active := F_Run_is_active.binds (ps := ["self", "client", "slot"]) fun _ _ _ _ _ _ us hl => match us, hl with | [_, _, _], _ => rfl
  obtain ⟨d_Run_active, F_Run_active⟩ := r_Run_active.to
  have B_Run_active := F_Run_active.binds (ps := ["self", "slot"]) fun _ _ _ _ _ _ us hl => match us, hl with | [_, _], _ => rfl
  obtain ⟨d_Run_attempting, F_Run_attempting⟩ := r_Run_attempting.to
  have B_Run_attempting := F_Run_attempting.binds (ps := ["self", "slot"]) fun _ _ _ _ _ _ us hl => match us, hl with | [_, _], _ => rfl
  obtain ⟨d_Run_busy_with, F_Run_busy_with⟩ := r_Run_busy_with.to
  have B_Run_busy_with := F_Run_busy_with.binds (ps := ["self", "slot"]) fun _ _ _ _ _ _ us hl => match us, hl with | [_, _], _ => rfl
  obtain ⟨d_Run_event, F_Run_event⟩ := r_Run_event.to
  have B_Run_event := F_Run_event.binds (ps := ["self", "slot"]) fun _ _ _ _ _ _ us hl => match us, hl with | [_, _], _ => rfl
  obtain ⟨d_check_run, F_check_run⟩ := r_check_run.to
  have B_check_run := F_check_run.binds (ps := ["run"]) fun _ _ _ _ _ _ us hl => match us, hl with | [_], _ => rfl
  obtain ⟨d_attempts_made, F_attempts_made⟩ := r_attempts_made.to
  have B_attempts_made := F_attempts_made.binds (ps := ["run", "client"]) fun _ _ _ _ _ _ us hl => match us, hl with | [_, _], _ => rfl
  obtain ⟨d_reason_of, F_reason_of⟩ := r_reason_of.to
  have B_reason_of := F_reason_of.binds (ps := ["run", "client", "attempt"]) fun _ _ _ _ _ _ us hl => match us, hl with | [_, _, _], _ => rfl
  obtain ⟨d_reason, F_reason⟩ := r_reason.to
  have B_reason := F_reason.binds (ps := ["run", "client", "attempt"]) fun _ _ _ _ _ _ us hl => match us, hl with | [_, _, _], _ => rfl
  obtain ⟨d_end_of_window, F_end_of_window⟩ := r_end_of_window.to
  have B_end_of_window := F_end_of_window.binds (ps := ["run", "slot", "found"]) fun _ _ _ _ _ _ us hl => match us, hl with | [_, _, _], _ => rfl
  obtain ⟨d_first_attempt, F_first_attempt⟩ := r_first_attempt.to
  have B_first_attempt := F_first_attempt.binds (ps := ["run", "client", "slot"]) fun _ _ _ _ _ _ us hl => match us, hl with | [_, _, _], _ => rfl
  obtain ⟨d_behind_window, F_behind_window⟩ := r_behind_window.to
  have B_behind_window := F_behind_window.binds (ps := ["run", "client", "attempt", "found"]) fun _ _ _ _ _ _ us hl => match us, hl with | [_, _, _, _], _ => rfl
  obtain ⟨d_check_bounds, F_check_bounds⟩ := r_check_bounds.to
  have B_check_bounds := F_check_bounds.binds (ps := ["first", "after"]) fun _ _ _ _ _ _ us hl => match us, hl with | [_, _], _ => rfl
  obtain ⟨d_history, F_history⟩ := r_history.to
  have B_history := F_history.binds (ps := ["run", "client", "first", "after"]) fun _ _ _ _ _ _ us hl => match us, hl with | [_, _, _, _], _ => rfl
  obtain ⟨d_without_outages, F_without_outages⟩ := r_without_outages.to
  have B_without_outages := F_without_outages.binds (ps := ["run", "begin", "end"]) fun _ _ _ _ _ _ us hl => match us, hl with | [_, _, _], _ => rfl
  obtain ⟨d_busy_windows, F_busy_windows⟩ := r_busy_windows.to
  have B_busy_windows := F_busy_windows.binds (ps := ["run", "client"]) fun _ _ _ _ _ _ us hl => match us, hl with | [_, _], _ => rfl
  obtain ⟨d_count_within, F_count_within⟩ := r_count_within.to
  have B_count_within := F_count_within.binds (ps := ["run", "client", "windows", "first", "stop"]) fun _ _ _ _ _ _ us hl => match us, hl with | [_, _, _, _, _], _ => rfl
  obtain ⟨d_failure_counts, F_failure_counts⟩ := r_failure_counts.to
  have B_failure_counts := F_failure_counts.binds (ps := ["run", "client", "first", "after"]) fun _ _ _ _ _ _ us hl => match us, hl with | [_, _, _, _], _ => rfl
  obtain ⟨d_law_mixed, F_law_mixed⟩ := r_law_mixed.to
  have B_law_mixed := F_law_mixed.binds (ps := ["_law_cell", "_law_k"]) fun _ _ _ _ _ _ us hl => match us, hl with | [_, _], _ => rfl
  obtain ⟨d_law_well, F_law_well⟩ := r_law_well.to
  have B_law_well := F_law_well.binds (ps := ["_law_cell"]) fun _ _ _ _ _ _ us hl => match us, hl with | [_], _ => rfl
  obtain ⟨d_law_draw, F_law_draw⟩ := r_law_draw.to
  have B_law_draw := F_law_draw.binds (ps := ["_law_well_here", "_law_many"]) fun _ _ _ _ _ _ us hl => match us, hl with | [_, _], _ => rfl
  obtain ⟨d_law_one, F_law_one⟩ := r_law_one.to
  have B_law_one := F_law_one.binds (ps := ["_law_well_here", "_law_some"]) fun _ _ _ _ _ _ us hl => match us, hl with | [_, _], _ => rfl
  obtain ⟨d_law_first, F_law_first⟩ := r_law_first.to
  have B_law_first := F_law_first.binds (ps := ["_law_steps", "_law_ending", "_law_distance"]) fun _ _ _ _ _ _ us hl => match us, hl with | [_, _, _], _ => rfl
  obtain ⟨d_law_place, F_law_place⟩ := r_law_place.to
  have B_law_place := F_law_place.binds (ps := ["_law_steps", "_law_ending", "_law_attempt"]) fun _ _ _ _ _ _ us hl => match us, hl with | [_, _, _], _ => rfl
  obtain ⟨d_law_entries, F_law_entries⟩ := r_law_entries.to
  have B_law_entries := F_law_entries.binds (ps := ["_law_steps", "_law_ending", "_law_begin", "_law_window", "_law_long"]) fun _ _ _ _ _ _ us hl => match us, hl with | [_, _, _, _, _], _ => rfl
  obtain ⟨d_law_cut, F_law_cut⟩ := r_law_cut.to
  have B_law_cut := F_law_cut.binds (ps := ["_law_entries_here", "_law_first_here", "_law_after"]) fun _ _ _ _ _ _ us hl => match us, hl with | [_, _, _], _ => rfl
  obtain ⟨d_law_counts, F_law_counts⟩ := r_law_counts.to
  have B_law_counts := F_law_counts.binds (ps := ["_law_entries_here"]) fun _ _ _ _ _ _ us hl => match us, hl with | [_], _ => rfl
  obtain ⟨d_law_right, F_law_right⟩ := r_law_right.to
  have B_law_right := F_law_right.binds (ps := ["_law_well_here"]) fun _ _ _ _ _ _ us hl => match us, hl with | [_], _ => rfl
  obtain ⟨d_law, F_law, Z_law⟩ : ∃ fd, Fun K "law" "law" s_law f_law fd ∧ ∀ (s : Shared) (v : Value), BindsTo s fd ⟨[v], []⟩ [("_law_script", v)] := by
    obtain ⟨oc, od, osl, kV, dc, pm, an, cd, ct, l, c, k⟩ := r_law
    exact ⟨_, fun_mk l c k, fun s v => .of_eq rfl⟩
  have B_law := F_law.binds (ps := ["_law_script"]) fun _ _ _ _ _ _ us hl => match us, hl with | [_], _ => rfl
  refine ⟨{ c_Rule := c_Rule, c_Run := c_Run, c_Scene := c_Scene, f_is_integer := f_is_integer, d_is_integer := d_is_integer, f_is_between := f_is_between, d_is_between := d_is_between, f_is_tail := f_is_tail, d_is_tail := d_is_tail, f_Rule_init := f_Rule_init, d_Rule_init := d_Rule_init, f_Rule_gaps := f_Rule_gaps, d_Rule_gaps := d_Rule_gaps, f_Rule_tail := f_Rule_tail, d_Rule_tail := d_Rule_tail, f_Rule_attempts := f_Rule_attempts, d_Rule_attempts := d_Rule_attempts, f_Rule_check_attempt := f_Rule_check_attempt, d_Rule_check_attempt := d_Rule_check_attempt, f_Rule_offset := f_Rule_offset, d_Rule_offset := d_Rule_offset, f_Rule_offset_of := f_Rule_offset_of, d_Rule_offset_of := d_Rule_offset_of, f_Rule_period := f_Rule_period, d_Rule_period := d_Rule_period, f_Rule_first_from := f_Rule_first_from, d_Rule_first_from := d_Rule_first_from, f_Rule_attempt_at := f_Rule_attempt_at, d_Rule_attempt_at := d_Rule_attempt_at, f_check_starts := f_check_starts, d_check_starts := d_check_starts, f_is_window := f_is_window, d_is_window := d_is_window, f_check_outages := f_check_outages, d_check_outages := d_check_outages, f_Scene_init := f_Scene_init, d_Scene_init := d_Scene_init, f_Scene_rule := f_Scene_rule, d_Scene_rule := d_Scene_rule, f_Scene_starts := f_Scene_starts, d_Scene_starts := d_Scene_starts, f_Scene_outages := f_Scene_outages, d_Scene_outages := d_Scene_outages, f_Scene_length := f_Scene_length, d_Scene_length := d_Scene_length, f_Scene_check_client := f_Scene_check_client, d_Scene_check_client := d_Scene_check_client, f_Scene_slot_of := f_Scene_slot_of, d_Scene_slot_of := d_Scene_slot_of, f_Scene_attempt_in := f_Scene_attempt_in, d_Scene_attempt_in := d_Scene_attempt_in, f_Scene_outage_at := f_Scene_outage_at, d_Scene_outage_at := d_Scene_outage_at, f_Scene_listed_slots := f_Scene_listed_slots, d_Scene_listed_slots := d_Scene_listed_slots, f_Scene_moments := f_Scene_moments, d_Scene_moments := d_Scene_moments, f_Run_init := f_Run_init, d_Run_init := d_Run_init, f_Run_advance := f_Run_advance, d_Run_advance := d_Run_advance, f_Run_failing_until := f_Run_failing_until, d_Run_failing_until := d_Run_failing_until, f_Run_skip_to := f_Run_skip_to, d_Run_skip_to := d_Run_skip_to, f_Run_latest_moment := f_Run_latest_moment, d_Run_latest_moment := d_Run_latest_moment, f_Run_is_repeated := f_Run_is_repeated, d_Run_is_repeated := d_Run_is_repeated, f_Run_decide := f_Run_decide, d_Run_decide := d_Run_decide, f_Run_scene := f_Run_scene, d_Run_scene := d_Run_scene, f_Run_outcome := f_Run_outcome, d_Run_outcome := d_Run_outcome, f_Run_order := f_Run_order, d_Run_order := d_Run_order, f_Run_is_active := f_Run_is_active, d_Run_is_active := d_Run_is_active, f_Run_active := f_Run_active, d_Run_active := d_Run_active, f_Run_attempting := f_Run_attempting, d_Run_attempting := d_Run_attempting, f_Run_busy_with := f_Run_busy_with, d_Run_busy_with := d_Run_busy_with, f_Run_event := f_Run_event, d_Run_event := d_Run_event, f_check_run := f_check_run, d_check_run := d_check_run, f_attempts_made := f_attempts_made, d_attempts_made := d_attempts_made, f_reason_of := f_reason_of, d_reason_of := d_reason_of, f_reason := f_reason, d_reason := d_reason, f_end_of_window := f_end_of_window, d_end_of_window := d_end_of_window, f_first_attempt := f_first_attempt, d_first_attempt := d_first_attempt, f_behind_window := f_behind_window, d_behind_window := d_behind_window, f_check_bounds := f_check_bounds, d_check_bounds := d_check_bounds, f_history := f_history, d_history := d_history, f_without_outages := f_without_outages, d_without_outages := d_without_outages, f_busy_windows := f_busy_windows, d_busy_windows := d_busy_windows, f_count_within := f_count_within, d_count_within := d_count_within, f_failure_counts := f_failure_counts, d_failure_counts := d_failure_counts, f_law_mixed := f_law_mixed, d_law_mixed := d_law_mixed, f_law_well := f_law_well, d_law_well := d_law_well, f_law_draw := f_law_draw, d_law_draw := d_law_draw, f_law_one := f_law_one, d_law_one := d_law_one, f_law_first := f_law_first, d_law_first := d_law_first, f_law_place := f_law_place, d_law_place := d_law_place, f_law_entries := f_law_entries, d_law_entries := d_law_entries, f_law_cut := f_law_cut, d_law_cut := d_law_cut, f_law_counts := f_law_counts, d_law_counts := d_law_counts, f_law_right := f_law_right, d_law_right := d_law_right, f_law := f_law, d_law := d_law, t_MOST_GAPS := t_MOST_GAPS, t_MOST_GAP := t_MOST_GAP, t_MOST_FACTOR := t_MOST_FACTOR, t_MOST_ATTEMPT := t_MOST_ATTEMPT, t_MOST_CLIENTS := t_MOST_CLIENTS, t_MOST_OUTAGES := t_MOST_OUTAGES, t_MOST_ENTRIES := t_MOST_ENTRIES, gS := fun vs zs => vs ++ zs }, ?_, rfl, Z_law⟩
  exact ⟨⟨h1_Rule, h2_Rule, h3_Rule, h4_Rule⟩,
    PySem.W.mg_of X G hC_Rule,
    ⟨h5_Rule, a_Rule_init, i_Rule_init, h6_Rule⟩,
    h7_Rule,
    h8_Rule,
    h9_Rule,
    n_listed,
    n_ending,
    n_sums,
    ⟨h1_Run, h2_Run, h3_Run, h4_Run⟩,
    PySem.W.mg_of X G hC_Run,
    ⟨h5_Run, a_Run_init, i_Run_init, h6_Run⟩,
    h7_Run,
    h8_Run,
    h9_Run,
    n_its_scene,
    n_pattern,
    n_begins,
    n_changes,
    n_services,
    n_closed,
    n_waiting,
    n_free_from,
    ⟨h1_Scene, h2_Scene, h3_Scene, h4_Scene⟩,
    PySem.W.mg_of X G hC_Scene,
    ⟨h5_Scene, a_Scene_init, i_Scene_init, h6_Scene⟩,
    h7_Scene,
    h8_Scene,
    h9_Scene,
    n_its_rule,
    n_its_starts,
    n_windows,
    n_its_length,
    hy3,
    hy4,
    F_is_integer,
    B_is_integer,
    PySem.W.mg_of X G a_is_integer,
    F_is_between,
    B_is_between,
    PySem.W.mg_of X G a_is_between,
    F_is_tail,
    B_is_tail,
    PySem.W.mg_of X G a_is_tail,
    F_Rule_init,
    B_Rule_init,
    F_Rule_gaps,
    B_Rule_gaps,
    ⟨a_Rule_gaps, i_Rule_gaps, F_Rule_gaps.kp⟩,
    F_Rule_tail,
    B_Rule_tail,
    ⟨a_Rule_tail, i_Rule_tail, F_Rule_tail.kp⟩,
    F_Rule_attempts,
    B_Rule_attempts,
    ⟨a_Rule_attempts, i_Rule_attempts, F_Rule_attempts.kp⟩,
    F_Rule_check_attempt,
    B_Rule_check_attempt,
    ⟨a_Rule_check_attempt, i_Rule_check_attempt, F_Rule_check_attempt.kp⟩,
    F_Rule_offset,
    B_Rule_offset,
    ⟨a_Rule_offset, i_Rule_offset, F_Rule_offset.kp⟩,
    F_Rule_offset_of,
    B_Rule_offset_of,
    ⟨a_Rule_offset_of, i_Rule_offset_of, F_Rule_offset_of.kp⟩,
    F_Rule_period,
    B_Rule_period,
    ⟨a_Rule_period, i_Rule_period, F_Rule_period.kp⟩,
    F_Rule_first_from,
    B_Rule_first_from,
    ⟨a_Rule_first_from, i_Rule_first_from, F_Rule_first_from.kp⟩,
    F_Rule_attempt_at,
    B_Rule_attempt_at,
    ⟨a_Rule_attempt_at, i_Rule_attempt_at, F_Rule_attempt_at.kp⟩,
    F_check_starts,
    B_check_starts,
    PySem.W.mg_of X G a_check_starts,
    F_is_window,
    B_is_window,
    PySem.W.mg_of X G a_is_window,
    F_check_outages,
    B_check_outages,
    PySem.W.mg_of X G a_check_outages,
    F_Scene_init,
    B_Scene_init,
    F_Scene_rule,
    B_Scene_rule,
    ⟨a_Scene_rule, i_Scene_rule, F_Scene_rule.kp⟩,
    F_Scene_starts,
    B_Scene_starts,
    ⟨a_Scene_starts, i_Scene_starts, F_Scene_starts.kp⟩,
    F_Scene_outages,
    B_Scene_outages,
    ⟨a_Scene_outages, i_Scene_outages, F_Scene_outages.kp⟩,
    F_Scene_length,
    B_Scene_length,
    ⟨a_Scene_length, i_Scene_length, F_Scene_length.kp⟩,
    F_Scene_check_client,
    B_Scene_check_client,
    ⟨a_Scene_check_client, i_Scene_check_client, F_Scene_check_client.kp⟩,
    F_Scene_slot_of,
    B_Scene_slot_of,
    ⟨a_Scene_slot_of, i_Scene_slot_of, F_Scene_slot_of.kp⟩,
    F_Scene_attempt_in,
    B_Scene_attempt_in,
    ⟨a_Scene_attempt_in, i_Scene_attempt_in, F_Scene_attempt_in.kp⟩,
    F_Scene_outage_at,
    B_Scene_outage_at,
    ⟨a_Scene_outage_at, i_Scene_outage_at, F_Scene_outage_at.kp⟩,
    F_Scene_listed_slots,
    B_Scene_listed_slots,
    ⟨a_Scene_listed_slots, i_Scene_listed_slots, F_Scene_listed_slots.kp⟩,
    F_Scene_moments,
    B_Scene_moments,
    ⟨a_Scene_moments, i_Scene_moments, F_Scene_moments.kp⟩,
    F_Run_init,
    B_Run_init,
    F_Run_advance,
    B_Run_advance,
    ⟨a_Run_advance, i_Run_advance, F_Run_advance.kp⟩,
    F_Run_failing_until,
    B_Run_failing_until,
    ⟨a_Run_failing_until, i_Run_failing_until, F_Run_failing_until.kp⟩,
    F_Run_skip_to,
    B_Run_skip_to,
    ⟨a_Run_skip_to, i_Run_skip_to, F_Run_skip_to.kp⟩,
    F_Run_latest_moment,
    B_Run_latest_moment,
    ⟨a_Run_latest_moment, i_Run_latest_moment, F_Run_latest_moment.kp⟩,
    F_Run_is_repeated,
    B_Run_is_repeated,
    ⟨a_Run_is_repeated, i_Run_is_repeated, F_Run_is_repeated.kp⟩,
    F_Run_decide,
    B_Run_decide,
    ⟨a_Run_decide, i_Run_decide, F_Run_decide.kp⟩,
    F_Run_scene,
    B_Run_scene,
    ⟨a_Run_scene, i_Run_scene, F_Run_scene.kp⟩,
    F_Run_outcome,
    B_Run_outcome,
    ⟨a_Run_outcome, i_Run_outcome, F_Run_outcome.kp⟩,
    F_Run_order,
    B_Run_order,
    ⟨a_Run_order, i_Run_order, F_Run_order.kp⟩,
    F_Run_is_active,
    B_Run_is_active,
    ⟨a_Run_is_active, i_Run_is_active, F_Run_is_active.kp⟩,
    F_Run_active,
    B_Run_active,
    ⟨a_Run_active, i_Run_active, F_Run_active.kp⟩,
    F_Run_attempting,
    B_Run_attempting,
    ⟨a_Run_attempting, i_Run_attempting, F_Run_attempting.kp⟩,
    F_Run_busy_with,
    B_Run_busy_with,
    ⟨a_Run_busy_with, i_Run_busy_with, F_Run_busy_with.kp⟩,
    F_Run_event,
    B_Run_event,
    ⟨a_Run_event, i_Run_event, F_Run_event.kp⟩,
    F_check_run,
    B_check_run,
    PySem.W.mg_of X G a_check_run,
    F_attempts_made,
    B_attempts_made,
    PySem.W.mg_of X G a_attempts_made,
    F_reason_of,
    B_reason_of,
    PySem.W.mg_of X G a_reason_of,
    F_reason,
    B_reason,
    PySem.W.mg_of X G a_reason,
    F_end_of_window,
    B_end_of_window,
    PySem.W.mg_of X G a_end_of_window,
    F_first_attempt,
    B_first_attempt,
    PySem.W.mg_of X G a_first_attempt,
    F_behind_window,
    B_behind_window,
    PySem.W.mg_of X G a_behind_window,
    F_check_bounds,
    B_check_bounds,
    PySem.W.mg_of X G a_check_bounds,
    F_history,
    B_history,
    PySem.W.mg_of X G a_history,
    F_without_outages,
    B_without_outages,
    PySem.W.mg_of X G a_without_outages,
    F_busy_windows,
    B_busy_windows,
    PySem.W.mg_of X G a_busy_windows,
    F_count_within,
    B_count_within,
    PySem.W.mg_of X G a_count_within,
    F_failure_counts,
    B_failure_counts,
    PySem.W.mg_of X G a_failure_counts,
    F_law_mixed,
    B_law_mixed,
    PySem.W.mg_of X G a_law_mixed,
    F_law_well,
    B_law_well,
    PySem.W.mg_of X G a_law_well,
    F_law_draw,
    B_law_draw,
    PySem.W.mg_of X G a_law_draw,
    F_law_one,
    B_law_one,
    PySem.W.mg_of X G a_law_one,
    F_law_first,
    B_law_first,
    PySem.W.mg_of X G a_law_first,
    F_law_place,
    B_law_place,
    PySem.W.mg_of X G a_law_place,
    F_law_entries,
    B_law_entries,
    PySem.W.mg_of X G a_law_entries,
    F_law_cut,
    B_law_cut,
    PySem.W.mg_of X G a_law_cut,
    F_law_counts,
    B_law_counts,
    PySem.W.mg_of X G a_law_counts,
    F_law_right,
    B_law_right,
    PySem.W.mg_of X G a_law_right,
    F_law,
    B_law,
    PySem.W.mg_of X G a_law,
    PySem.W.mg_of X G v_MOST_GAPS,
    PySem.W.mg_of X G v_MOST_GAP,
    PySem.W.mg_of X G v_MOST_FACTOR,
    PySem.W.mg_of X G v_MOST_ATTEMPT,
    PySem.W.mg_of X G v_MOST_CLIENTS,
    PySem.W.mg_of X G v_MOST_OUTAGES,
    PySem.W.mg_of X G v_MOST_ENTRIES,
    PySem.W.mg_none_of X G z_int,
    PySem.W.mg_none_of X G z_bool,
    PySem.W.mg_none_of X G z_list,
    PySem.W.mg_none_of X G z_tuple,
    PySem.W.mg_none_of X G z_str,
    PySem.W.mg_none_of X G z_len,
    PySem.W.mg_none_of X G z_isinstance,
    PySem.W.mg_none_of X G z_all,
    PySem.W.mg_none_of X G z_sum,
    PySem.W.mg_none_of X G z_max,
    PySem.W.mg_none_of X G z_min,
    PySem.W.mg_none_of X G z_sorted,
    PySem.W.mg_none_of X G z_set,
    PySem.W.mg_none_of X G z_enumerate,
    PySem.W.mg_none_of X G z_range,
    PySem.W.mg_none_of X G z_zip⟩
end RK
end

open PySem PySem.W PyProof.Rows
set_option maxHeartbeats 0
open_top head for PySem.Challenge.rw_retryslots_k51_whole_long_outages_and_se
theorem RK.use {P : Program} {w : World} {K : PySem.W.Frag} {mg : Str → Option Value} {fa : Addr}
    (h : ∃ A : RK.Ad, RK.Txt K mg A ∧ A.f_law = fa ∧ ∀ (s : Shared) (v : Value), BindsTo s A.d_law ⟨[v], []⟩ [("_law_script", v)]) :
    ∃ fd : FuncData, (∀ (s : Shared) (u : Value), BindsTo s fd ⟨[u], []⟩ [("_law_script", u)]) ∧ ∀ base : Heap, K.In base → base.Ns mainGlobals mg → L2.FnOk P w K mg base L2.CX0 11 fa fd ["_law_script"] (RK.sp_law K) := by
  obtain ⟨A, T, e, b⟩ := h
  refine ⟨A.d_law, b, fun base _ _ => ?_⟩
  rw [← e]
  exact RK.ok_law T
theorem PySem.Challenge.cw_retryslots_k51_whole_long_outages_and_se_holds : PySem.Challenge.rw_retryslots_k51_whole_long_outages_and_se.Holds := by
  refine head ?_
  k_fill
  refine L2.walk_ofK (l := PySem.Challenge.rw_retryslots_k51_whole_long_outages_and_se) (n := 63) (k := 11) (x := "_law_script") (CX := L2.CX0) (sp := RK.sp_law) rfl (by decide) rfl ⟨rfl, by decide, by decide⟩ (fun w h Y => PySem.W.kIn_of Y) ?F (fun K H a ns hl _ hS => ⟨a, ns, rfl, hS, Nat.le_trans hl (by decide), fun _ => rfl⟩) fun _ _ _ _ z => z
  case F =>
    intro w mg fa h KX G hmg
    refine RK.use ?_
    refine' RK.all_mk KX G hmg ?hC_Rule ?h1_Rule ?h2_Rule ?h3_Rule ?h4_Rule ?h5_Rule ?h6_Rule ?h7_Rule ?h8_Rule ?h9_Rule ?n_listed ?n_ending ?n_sums ?hC_Run ?h1_Run ?h2_Run ?h3_Run ?h4_Run ?h5_Run ?h6_Run ?h7_Run ?h8_Run ?h9_Run ?n_its_scene ?n_pattern ?n_begins ?n_changes ?n_services ?n_closed ?n_waiting ?n_free_from ?hC_Scene ?h1_Scene ?h2_Scene ?h3_Scene ?h4_Scene ?h5_Scene ?h6_Scene ?h7_Scene ?h8_Scene ?h9_Scene ?n_its_rule ?n_its_starts ?n_windows ?n_its_length ?hy3 ?hy4 ?a_is_integer ?r_is_integer ?a_is_between ?r_is_between ?a_is_tail ?r_is_tail ?a_Rule_init ?i_Rule_init ?r_Rule_init ?a_Rule_gaps ?i_Rule_gaps ?r_Rule_gaps ?a_Rule_tail ?i_Rule_tail ?r_Rule_tail ?a_Rule_attempts ?i_Rule_attempts ?r_Rule_attempts ?a_Rule_check_attempt ?i_Rule_check_attempt ?r_Rule_check_attempt ?a_Rule_offset ?i_Rule_offset ?r_Rule_offset ?a_Rule_offset_of ?i_Rule_offset_of ?r_Rule_offset_of ?a_Rule_period ?i_Rule_period ?r_Rule_period ?a_Rule_first_from ?i_Rule_first_from ?r_Rule_first_from ?a_Rule_attempt_at ?i_Rule_attempt_at ?r_Rule_attempt_at ?a_check_starts ?r_check_starts ?a_is_window ?r_is_window ?a_check_outages ?r_check_outages ?a_Scene_init ?i_Scene_init ?r_Scene_init ?k1 ?k2 ?a_Scene_rule ?i_Scene_rule ?r_Scene_rule ?a_Scene_starts ?i_Scene_starts ?r_Scene_starts ?a_Scene_outages ?i_Scene_outages ?r_Scene_outages ?a_Scene_length ?i_Scene_length ?r_Scene_length ?a_Scene_check_client ?i_Scene_check_client ?r_Scene_check_client ?a_Scene_slot_of ?i_Scene_slot_of ?r_Scene_slot_of ?a_Scene_attempt_in ?i_Scene_attempt_in ?r_Scene_attempt_in ?a_Scene_outage_at ?i_Scene_outage_at ?r_Scene_outage_at ?a_Scene_listed_slots ?i_Scene_listed_slots ?r_Scene_listed_slots ?a_Scene_moments ?i_Scene_moments ?r_Scene_moments ?a_Run_init ?i_Run_init ?r_Run_init ?a_Run_advance ?i_Run_advance ?r_Run_advance ?a_Run_failing_until ?i_Run_failing_until ?r_Run_failing_until ?a_Run_skip_to ?i_Run_skip_to ?r_Run_skip_to ?a_Run_latest_moment ?i_Run_latest_moment ?r_Run_latest_moment ?a_Run_is_repeated ?i_Run_is_repeated ?r_Run_is_repeated ?a_Run_decide ?i_Run_decide ?r_Run_decide ?a_Run_scene ?i_Run_scene ?r_Run_scene ?a_Run_outcome ?i_Run_outcome ?r_Run_outcome ?a_Run_order ?i_Run_order ?r_Run_order ?a_Run_is_active ?i_Run_is_active ?r_Run_is_active ?a_Run_active ?i_Run_active ?r_Run_active ?a_Run_attempting ?i_Run_attempting ?r_Run_attempting ?a_Run_busy_with ?i_Run_busy_with ?r_Run_busy_with ?a_Run_event ?i_Run_event ?r_Run_event ?a_check_run ?r_check_run ?a_attempts_made ?r_attempts_made ?a_reason_of ?r_reason_of ?a_reason ?r_reason ?a_end_of_window ?r_end_of_window ?a_first_attempt ?r_first_attempt ?a_behind_window ?r_behind_window ?a_check_bounds ?r_check_bounds ?a_history ?r_history ?a_without_outages ?r_without_outages ?a_busy_windows ?r_busy_windows ?a_count_within ?r_count_within ?a_failure_counts ?r_failure_counts ?a_law_mixed ?r_law_mixed ?a_law_well ?r_law_well ?a_law_draw ?r_law_draw ?a_law_one ?r_law_one ?a_law_first ?r_law_first ?a_law_place ?r_law_place ?a_law_entries ?r_law_entries ?a_law_cut ?r_law_cut ?a_law_counts ?r_law_counts ?a_law_right ?r_law_right ?a_law ?r_law ?v_MOST_GAPS ?v_MOST_GAP ?v_MOST_FACTOR ?v_MOST_ATTEMPT ?v_MOST_CLIENTS ?v_MOST_OUTAGES ?v_MOST_ENTRIES ?z_int ?z_bool ?z_list ?z_tuple ?z_str ?z_len ?z_isinstance ?z_all ?z_sum ?z_max ?z_min ?z_sorted ?z_set ?z_enumerate ?z_range ?z_zip
    (case hC_Rule => k_is)
    (case h1_Rule => k_is)
    (case h2_Rule => k_is)
    (case h3_Rule => k_is)
    (case h4_Rule => k_is)
    (case h5_Rule => k_is)
    (case h6_Rule => k_is)
    (case h7_Rule => k_is)
    (case h8_Rule => k_is)
    (case h9_Rule => first | k_is | decide +kernel | kernel_rfl)
    (case n_listed => k_is)
    (case n_ending => k_is)
    (case n_sums => k_is)
    (case hC_Run => k_is)
    (case h1_Run => k_is)
    (case h2_Run => k_is)
    (case h3_Run => k_is)
    (case h4_Run => k_is)
    (case h5_Run => k_is)
    (case h6_Run => k_is)
    (case h7_Run => k_is)
    (case h8_Run => k_is)
    (case h9_Run => first | k_is | decide +kernel | kernel_rfl)
    (case n_its_scene => k_is)
    (case n_pattern => k_is)
    (case n_begins => k_is)
    (case n_changes => k_is)
    (case n_services => k_is)
    (case n_closed => k_is)
    (case n_waiting => k_is)
    (case n_free_from => k_is)
    (case hC_Scene => k_is)
    (case h1_Scene => k_is)
    (case h2_Scene => k_is)
    (case h3_Scene => k_is)
    (case h4_Scene => k_is)
    (case h5_Scene => k_is)
    (case h6_Scene => k_is)
    (case h7_Scene => k_is)
    (case h8_Scene => k_is)
    (case h9_Scene => first | k_is | decide +kernel | kernel_rfl)
    (case n_its_rule => k_is)
    (case n_its_starts => k_is)
    (case n_windows => k_is)
    (case n_its_length => k_is)
    (case hy3 => k_is)
    (case hy4 => k_is)
    (case a_is_integer => k_is)
    (case r_is_integer => refine' RK.rf_mk ?l ?c ?k; (case l => k_is); (case c => k_is); (case k => k_is))
    (case a_is_between => k_is)
    (case r_is_between => refine' RK.rf_mk ?l ?c ?k; (case l => k_is); (case c => k_is); (case k => k_is))
    (case a_is_tail => k_is)
    (case r_is_tail => refine' RK.rf_mk ?l ?c ?k; (case l => k_is); (case c => k_is); (case k => k_is))
    (case a_Rule_init => k_is)
    (case i_Rule_init => k_is)
    (case r_Rule_init => refine' RK.rf_mk ?l ?c ?k; (case l => k_is); (case c => k_is); (case k => k_is))
    (case a_Rule_gaps => k_is)
    (case i_Rule_gaps => k_is)
    (case r_Rule_gaps => refine' RK.rf_mk ?l ?c ?k; (case l => k_is); (case c => k_is); (case k => k_is))
    (case a_Rule_tail => k_is)
    (case i_Rule_tail => k_is)
    (case r_Rule_tail => refine' RK.rf_mk ?l ?c ?k; (case l => k_is); (case c => k_is); (case k => k_is))
    (case a_Rule_attempts => k_is)
    (case i_Rule_attempts => k_is)
    (case r_Rule_attempts => refine' RK.rf_mk ?l ?c ?k; (case l => k_is); (case c => k_is); (case k => k_is))
    (case a_Rule_check_attempt => k_is)
    (case i_Rule_check_attempt => k_is)
    (case r_Rule_check_attempt => refine' RK.rf_mk ?l ?c ?k; (case l => k_is); (case c => k_is); (case k => k_is))
    (case a_Rule_offset => k_is)
    (case i_Rule_offset => k_is)
    (case r_Rule_offset => refine' RK.rf_mk ?l ?c ?k; (case l => k_is); (case c => k_is); (case k => k_is))
    (case a_Rule_offset_of => k_is)
    (case i_Rule_offset_of => k_is)
    (case r_Rule_offset_of => refine' RK.rf_mk ?l ?c ?k; (case l => k_is); (case c => k_is); (case k => k_is))
    (case a_Rule_period => k_is)
    (case i_Rule_period => k_is)
    (case r_Rule_period => refine' RK.rf_mk ?l ?c ?k; (case l => k_is); (case c => k_is); (case k => k_is))
    (case a_Rule_first_from => k_is)
    (case i_Rule_first_from => k_is)
    (case r_Rule_first_from => refine' RK.rf_mk ?l ?c ?k; (case l => k_is); (case c => k_is); (case k => k_is))
    (case a_Rule_attempt_at => k_is)
    (case i_Rule_attempt_at => k_is)
    (case r_Rule_attempt_at => refine' RK.rf_mk ?l ?c ?k; (case l => k_is); (case c => k_is); (case k => k_is))
    (case a_check_starts => k_is)
    (case r_check_starts => refine' RK.rf_mk ?l ?c ?k; (case l => k_is); (case c => k_is); (case k => k_is))
    (case a_is_window => k_is)
    (case r_is_window => refine' RK.rf_mk ?l ?c ?k; (case l => k_is); (case c => k_is); (case k => k_is))
    (case a_check_outages => k_is)
    (case r_check_outages => refine' RK.rf_mk ?l ?c ?k; (case l => k_is); (case c => k_is); (case k => k_is))
    (case a_Scene_init => k_is)
    (case i_Scene_init => k_is)
    (case r_Scene_init => refine' RK.rfk_mk ?l ?c ?k; (case l => k_is); (case c => k_is); (case k => k_is))
    (case k1 => k_is)
    (case k2 => k_is)
    (case a_Scene_rule => k_is)
    (case i_Scene_rule => k_is)
    (case r_Scene_rule => refine' RK.rf_mk ?l ?c ?k; (case l => k_is); (case c => k_is); (case k => k_is))
    (case a_Scene_starts => k_is)
    (case i_Scene_starts => k_is)
    (case r_Scene_starts => refine' RK.rf_mk ?l ?c ?k; (case l => k_is); (case c => k_is); (case k => k_is))
    (case a_Scene_outages => k_is)
    (case i_Scene_outages => k_is)
    (case r_Scene_outages => refine' RK.rf_mk ?l ?c ?k; (case l => k_is); (case c => k_is); (case k => k_is))
    (case a_Scene_length => k_is)
    (case i_Scene_length => k_is)
    (case r_Scene_length => refine' RK.rf_mk ?l ?c ?k; (case l => k_is); (case c => k_is); (case k => k_is))
    (case a_Scene_check_client => k_is)
    (case i_Scene_check_client => k_is)
    (case r_Scene_check_client => refine' RK.rf_mk ?l ?c ?k; (case l => k_is); (case c => k_is); (case k => k_is))
    (case a_Scene_slot_of => k_is)
    (case i_Scene_slot_of => k_is)
    (case r_Scene_slot_of => refine' RK.rf_mk ?l ?c ?k; (case l => k_is); (case c => k_is); (case k => k_is))
    (case a_Scene_attempt_in => k_is)
    (case i_Scene_attempt_in => k_is)
    (case r_Scene_attempt_in => refine' RK.rf_mk ?l ?c ?k; (case l => k_is); (case c => k_is); (case k => k_is))
    (case a_Scene_outage_at => k_is)
    (case i_Scene_outage_at => k_is)
    (case r_Scene_outage_at => refine' RK.rf_mk ?l ?c ?k; (case l => k_is); (case c => k_is); (case k => k_is))
    (case a_Scene_listed_slots => k_is)
    (case i_Scene_listed_slots => k_is)
    (case r_Scene_listed_slots => refine' RK.rf_mk ?l ?c ?k; (case l => k_is); (case c => k_is); (case k => k_is))
    (case a_Scene_moments => k_is)
    (case i_Scene_moments => k_is)
    (case r_Scene_moments => refine' RK.rf_mk ?l ?c ?k; (case l => k_is); (case c => k_is); (case k => k_is))
    (case a_Run_init => k_is)
    (case i_Run_init => k_is)
    (case r_Run_init => refine' RK.rf_mk ?l ?c ?k; (case l => k_is); (case c => k_is); (case k => k_is))
    (case a_Run_advance => k_is)
    (case i_Run_advance => k_is)
    (case r_Run_advance => refine' RK.rf_mk ?l ?c ?k; (case l => k_is); (case c => k_is); (case k => k_is))
    (case a_Run_failing_until => k_is)
    (case i_Run_failing_until => k_is)
    (case r_Run_failing_until => refine' RK.rf_mk ?l ?c ?k; (case l => k_is); (case c => k_is); (case k => k_is))
    (case a_Run_skip_to => k_is)
    (case i_Run_skip_to => k_is)
    (case r_Run_skip_to => refine' RK.rf_mk ?l ?c ?k; (case l => k_is); (case c => k_is); (case k => k_is))
    (case a_Run_latest_moment => k_is)
    (case i_Run_latest_moment => k_is)
    (case r_Run_latest_moment => refine' RK.rf_mk ?l ?c ?k; (case l => k_is); (case c => k_is); (case k => k_is))
    (case a_Run_is_repeated => k_is)
    (case i_Run_is_repeated => k_is)
    (case r_Run_is_repeated => refine' RK.rf_mk ?l ?c ?k; (case l => k_is); (case c => k_is); (case k => k_is))
    (case a_Run_decide => k_is)
    (case i_Run_decide => k_is)
    (case r_Run_decide => refine' RK.rf_mk ?l ?c ?k; (case l => k_is); (case c => k_is); (case k => k_is))
    (case a_Run_scene => k_is)
    (case i_Run_scene => k_is)
    (case r_Run_scene => refine' RK.rf_mk ?l ?c ?k; (case l => k_is); (case c => k_is); (case k => k_is))
    (case a_Run_outcome => k_is)
    (case i_Run_outcome => k_is)
    (case r_Run_outcome => refine' RK.rf_mk ?l ?c ?k; (case l => k_is); (case c => k_is); (case k => k_is))
    (case a_Run_order => k_is)
    (case i_Run_order => k_is)
    (case r_Run_order => refine' RK.rf_mk ?l ?c ?k; (case l => k_is); (case c => k_is); (case k => k_is))
    (case a_Run_is_active => k_is)
    (case i_Run_is_active => k_is)
    (case r_Run_is_active => refine' RK.rf_mk ?l ?c ?k; (case l => k_is); (case c => k_is); (case k => k_is))
    (case a_Run_active => k_is)
    (case i_Run_active => k_is)
    (case r_Run_active => refine' RK.rf_mk ?l ?c ?k; (case l => k_is); (case c => k_is); (case k => k_is))
    (case a_Run_attempting => k_is)
    (case i_Run_attempting => k_is)
    (case r_Run_attempting => refine' RK.rf_mk ?l ?c ?k; (case l => k_is); (case c => k_is); (case k => k_is))
    (case a_Run_busy_with => k_is)
    (case i_Run_busy_with => k_is)
    (case r_Run_busy_with => refine' RK.rf_mk ?l ?c ?k; (case l => k_is); (case c => k_is); (case k => k_is))
    (case a_Run_event => k_is)
    (case i_Run_event => k_is)
    (case r_Run_event => refine' RK.rf_mk ?l ?c ?k; (case l => k_is); (case c => k_is); (case k => k_is))
    (case a_check_run => k_is)
    (case r_check_run => refine' RK.rf_mk ?l ?c ?k; (case l => k_is); (case c => k_is); (case k => k_is))
    (case a_attempts_made => k_is)
    (case r_attempts_made => refine' RK.rf_mk ?l ?c ?k; (case l => k_is); (case c => k_is); (case k => k_is))
    (case a_reason_of => k_is)
    (case r_reason_of => refine' RK.rf_mk ?l ?c ?k; (case l => k_is); (case c => k_is); (case k => k_is))
    (case a_reason => k_is)
    (case r_reason => refine' RK.rf_mk ?l ?c ?k; (case l => k_is); (case c => k_is); (case k => k_is))
    (case a_end_of_window => k_is)
    (case r_end_of_window => refine' RK.rf_mk ?l ?c ?k; (case l => k_is); (case c => k_is); (case k => k_is))
    (case a_first_attempt => k_is)
    (case r_first_attempt => refine' RK.rf_mk ?l ?c ?k; (case l => k_is); (case c => k_is); (case k => k_is))
    (case a_behind_window => k_is)
    (case r_behind_window => refine' RK.rf_mk ?l ?c ?k; (case l => k_is); (case c => k_is); (case k => k_is))
    (case a_check_bounds => k_is)
    (case r_check_bounds => refine' RK.rf_mk ?l ?c ?k; (case l => k_is); (case c => k_is); (case k => k_is))
    (case a_history => k_is)
    (case r_history => refine' RK.rf_mk ?l ?c ?k; (case l => k_is); (case c => k_is); (case k => k_is))
    (case a_without_outages => k_is)
    (case r_without_outages => refine' RK.rf_mk ?l ?c ?k; (case l => k_is); (case c => k_is); (case k => k_is))
    (case a_busy_windows => k_is)
    (case r_busy_windows => refine' RK.rf_mk ?l ?c ?k; (case l => k_is); (case c => k_is); (case k => k_is))
    (case a_count_within => k_is)
    (case r_count_within => refine' RK.rf_mk ?l ?c ?k; (case l => k_is); (case c => k_is); (case k => k_is))
    (case a_failure_counts => k_is)
    (case r_failure_counts => refine' RK.rf_mk ?l ?c ?k; (case l => k_is); (case c => k_is); (case k => k_is))
    (case a_law_mixed => k_is)
    (case r_law_mixed => refine' RK.rf_mk ?l ?c ?k; (case l => k_is); (case c => k_is); (case k => k_is))
    (case a_law_well => k_is)
    (case r_law_well => refine' RK.rf_mk ?l ?c ?k; (case l => k_is); (case c => k_is); (case k => k_is))
    (case a_law_draw => k_is)
    (case r_law_draw => refine' RK.rf_mk ?l ?c ?k; (case l => k_is); (case c => k_is); (case k => k_is))
    (case a_law_one => k_is)
    (case r_law_one => refine' RK.rf_mk ?l ?c ?k; (case l => k_is); (case c => k_is); (case k => k_is))
    (case a_law_first => k_is)
    (case r_law_first => refine' RK.rf_mk ?l ?c ?k; (case l => k_is); (case c => k_is); (case k => k_is))
    (case a_law_place => k_is)
    (case r_law_place => refine' RK.rf_mk ?l ?c ?k; (case l => k_is); (case c => k_is); (case k => k_is))
    (case a_law_entries => k_is)
    (case r_law_entries => refine' RK.rf_mk ?l ?c ?k; (case l => k_is); (case c => k_is); (case k => k_is))
    (case a_law_cut => k_is)
    (case r_law_cut => refine' RK.rf_mk ?l ?c ?k; (case l => k_is); (case c => k_is); (case k => k_is))
    (case a_law_counts => k_is)
    (case r_law_counts => refine' RK.rf_mk ?l ?c ?k; (case l => k_is); (case c => k_is); (case k => k_is))
    (case a_law_right => k_is)
    (case r_law_right => refine' RK.rf_mk ?l ?c ?k; (case l => k_is); (case c => k_is); (case k => k_is))
    (case a_law => k_is)
    (case r_law => refine' RK.rf_mk ?l ?c ?k; (case l => k_is); (case c => k_is); (case k => k_is))
    (case v_MOST_GAPS => k_is)
    (case v_MOST_GAP => k_is)
    (case v_MOST_FACTOR => k_is)
    (case v_MOST_ATTEMPT => k_is)
    (case v_MOST_CLIENTS => k_is)
    (case v_MOST_OUTAGES => k_is)
    (case v_MOST_ENTRIES => k_is)
    (case z_int => k_is)
    (case z_bool => k_is)
    (case z_list => k_is)
    (case z_tuple => k_is)
    (case z_str => k_is)
    (case z_len => k_is)
    (case z_isinstance => k_is)
    (case z_all => k_is)
    (case z_sum => k_is)
    (case z_max => k_is)
    (case z_min => k_is)
    (case z_sorted => k_is)
    (case z_set => k_is)
    (case z_enumerate => k_is)
    (case z_range => k_is)
    (case z_zip => k_is)
